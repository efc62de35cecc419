import PyProof.Rows.All
import Wide.All
import OpenK.AllK
import Wide.FinOn
import PySem.Challenge.RW_soleway_k83_whole_rows_of_parts
import PySem.Str
import PyProof.EqLayable
import PyProof.P3Statements
import KE.KeyNested
import HandS.ForMost
import HandS.ForExc
import HandS.Deep
import HandS.TupAny
import HandS.Dict
import KE.KDictPairs
import HandS.Wide
import HandS.TupLe
import HandS.IsInst
import HandS.SortInts
import HandS.Zip
import HandS.Conv
import PyProof.DictRoadsH
import PyProof.DictMoreH
import HandS.TupLen
import PyProof.Rows.TupTab
import HandS.SetFor
import HandS.SetKeys
import PyProof.Rows.SetFrom
import KE.GoesEnum
import HandS.EndBits
set_option Elab.async false
set_option linter.all false
set_option maxRecDepth 100000
/-! Mid0: a plain model of what the program's defs do: values as data, one list of things that change. -/
namespace Mid
open PySem Classical
noncomputable section

/-- a value: tuples by what they hold (ptup: a pair that zip, enumerate yield, to be taken apart); a thing that changes by its number; fix: a def or a class by its number -/
inductive Dv where
  | non | bl (b : Bool) | int (i : Int) | str (x : Str) | tup (l : List Dv) | ptup (l : List Dv) | clst (l : List Dv) | loc (n : Nat) | fix (n : Nat) | ty (n : String)

/-- a thing that changes -/
inductive MO where
  | lst (l : List Dv) | dK (kvs : List (Sum Int Str × Dv)) | dN (kvs : List (NestedKey × Dv)) | ins (C : Nat) (fs : List (Str × Dv))
abbrev Mst := List MO
abbrev Men := List (Option Dv)

/-- an exception: its class by number, its fields -/
structure Xv where
  cls : Nat
  fs : Option (List (Str × Dv))

inductive Rm (α : Type) where
  | ok (a : α) (s : Mst) | er (e : Xv) (s : Mst) | bad
def Rm.bind {α β : Type} (r : Rm α) (f : α → Mst → Rm β) : Rm β := match r with
  | .ok a s => f a s
  | .er e s => .er e s
  | .bad => .bad
@[simp] theorem Rm.bind_ok {α β : Type} (a : α) (s : Mst) (f : α → Mst → Rm β) : (Rm.ok a s).bind f = f a s := rfl
@[simp] theorem Rm.bind_bad {α β : Type} (f : α → Mst → Rm β) : (Rm.bad : Rm α).bind f = .bad := rfl
@[simp] theorem Rm.bind_er {α β : Type} (e : Xv) (s : Mst) (f : α → Mst → Rm β) : (Rm.er e s : Rm α).bind f = .er e s := rfl

/-- where an exception may not leave -/
def Rm.noEr {α : Type} (r : Rm α) : Rm α := match r with
  | .er _ _ => .bad
  | r => r
@[simp] theorem Rm.noEr_ok {α : Type} (a : α) (s : Mst) : (Rm.ok a s).noEr = .ok a s := rfl
@[simp] theorem Rm.noEr_bad {α : Type} : (Rm.bad : Rm α).noEr = .bad := rfl
abbrev ME := Men → Mst → Rm Dv
abbrev MT := Men → Mst → Rm Bool
abbrev MA := Men → Mst → Rm (List Dv)
/-- a def: from its arguments -/
abbrev MF := List Dv → Mst → Rm Dv
inductive Sm where
  | nx (σ : Men) (s : Mst) | rt (d : Dv) (s : Mst) | bk (σ : Men) (s : Mst) | ct (σ : Men) (s : Mst) | er (e : Xv) (σ : Men) (s : Mst) | bad
abbrev MS := Men → Mst → Sm
abbrev MG := Dv → Men → Mst → Rm Men

/-! ### expressions -/
def mVar (i : Nat) : ME := fun σ s => match σ[i]? with
  | some (some d) => .ok d s
  | _ => .bad
def mC (d : Dv) : ME := fun _ s => .ok d s
def mUn (f : Dv → Mst → Rm Dv) (a : ME) : ME := fun σ s => (a σ s).bind f
def mOp (f : Dv → Dv → Mst → Rm Dv) (a b : ME) : ME := fun σ s => (a σ s).bind fun x s1 => (b σ s1).bind fun y s2 => f x y s2
def mArgs : List ME → MA
  | [] => fun _ s => .ok [] s
  | m :: ms => fun σ s => (m σ s).bind fun d s1 => (mArgs ms σ s1).bind fun ds s2 => .ok (d :: ds) s2
def mTup (ms : List ME) : ME := fun σ s => (mArgs ms σ s).bind fun ds s1 => .ok (.tup ds) s1
def mLst (ms : List ME) : ME := fun σ s => (mArgs ms σ s).bind fun ds s1 => .ok (.loc s1.length) (s1 ++ [.lst ds])
/-- f(..): a def, a built-in, a method (its object first) -/
def mCall (F : MF) (ms : List ME) : ME := fun σ s => (mArgs ms σ s).bind F
/-- a new instance of the class C, then its __init__ -/
def mMake (C : Nat) (F : MF) : MF := fun ds s => (F (.loc s.length :: ds) (s ++ [.ins C []])).bind fun d s1 => match d with
  | .non => .ok (.loc s.length) s1
  | _ => .bad
def mTestV (b : MT) : ME := fun σ s => (b σ s).bind fun c s1 => .ok (.bl c) s1
def mtVal (m : ME) : MT := fun σ s => (m σ s).bind fun d s1 => match d with
  | .bl c => .ok c s1
  | _ => .bad
def mtAnd (a b : MT) : MT := fun σ s => (a σ s).bind fun c s1 => if c then b σ s1 else .ok false s1
def mtOr (a b : MT) : MT := fun σ s => (a σ s).bind fun c s1 => if c then .ok true s1 else b σ s1
def mtNot (a : MT) : MT := fun σ s => (a σ s).bind fun c s1 => .ok (!c) s1
def mAnd (a b : ME) : ME := fun σ s => (mtVal a σ s).bind fun c s1 => if c then b σ s1 else .ok (.bl false) s1
def mOr (a b : ME) : ME := fun σ s => (mtVal a σ s).bind fun c s1 => if c then .ok (.bl true) s1 else b σ s1
def mNot (a : ME) : ME := fun σ s => (mtVal a σ s).bind fun c s1 => .ok (.bl (!c)) s1
def mIf (t : MT) (a b : ME) : ME := fun σ s => (t σ s).bind fun c s1 => if c then a σ s1 else b σ s1
/-- a < b < c: two comparisons -/
def mChain (f g : Dv → Dv → Mst → Rm Dv) (a b c : ME) : ME := fun σ s => (a σ s).bind fun x s1 => (b σ s1).bind fun y s2 => (f x y s2).bind fun z s3 => match z with
  | .bl true => (c σ s3).bind fun w s4 => g y w s4
  | .bl false => .ok (.bl false) s3
  | _ => .bad

/-! ### what is walked -/
/-- the items, and the list that has to stay as it is meanwhile -/
structure Mit where
  xs : List Dv
  src : List (Nat × List Dv)
abbrev MI := Men → Mst → Rm Mit
def Mit.stays : List (Nat × List Dv) → Mst → Prop
  | [], _ => True
  | (n, l) :: r, s => s[n]? = some (.lst l) ∧ Mit.stays r s
/-- what a list, a tuple yields -/
def itSeq (d : Dv) (s : Mst) : Rm Mit := match d with
  | .tup l => .ok ⟨l, []⟩ s
  | .clst l => .ok ⟨l, []⟩ s
  | .str x => .ok ⟨x.cps.toList.map fun c => .str ⟨#[c]⟩, []⟩ s
  | .loc n => match s[n]? with
    | some (.lst l) => .ok ⟨l, [(n, l)]⟩ s
    | _ => .bad
  | _ => .bad
def miSeq (m : ME) : MI := fun σ s => (m σ s).bind itSeq
def rngI (lo : Int) (n : Nat) : List Dv := (List.range n).map fun (k : Nat) => Dv.int (lo + (k : Int))
def miRng1 (m : ME) : MI := fun σ s => (m σ s).bind fun d s1 => match d with
  | .int j => @ite _ (-(2 ^ 62) ≤ j ∧ j < 2 ^ 62) (Classical.propDecidable _) (.ok ⟨rngI 0 j.toNat, []⟩ s1) (.bad)
  | _ => .bad
def miRng2 (m1 m2 : ME) : MI := fun σ s => (m1 σ s).bind fun d s1 => (m2 σ s1).bind fun e s2 => match d, e with
  | .int i, .int j => @ite _ (-(2 ^ 62) ≤ i ∧ i < 2 ^ 62 ∧ -(2 ^ 62) ≤ j ∧ j < 2 ^ 62) (Classical.propDecidable _) (.ok ⟨rngI i (j - i).toNat, []⟩ s2) (.bad)
  | _, _ => .bad

/-- the items of a list, a tuple; the list that has to stay -/
def zipQ (d : Dv) (s : Mst) : Option (Bool × List Dv × List (Nat × List Dv)) := match d with
  | .tup l => some (true, l, [])
  | .clst l => some (false, l, [])
  | .loc n => match s[n]? with
    | some (.lst l) => some (false, l, [(n, l)])
    | _ => none
  | _ => none
def miZip (m1 m2 : ME) : MI := fun σ s => (m1 σ s).bind fun d s1 => (m2 σ s1).bind fun e s2 => match zipQ d s2, zipQ e s2 with
  | some (b, l, r), some (c, m, q) => if b = c then .ok ⟨List.zipWith (fun x y => .ptup [x, y]) l m, r ++ q⟩ s2 else .bad
  | _, _ => .bad
/-- enumerate of a list, of a tuple -/
def miEnum (m : ME) : MI := fun σ s => (m σ s).bind fun d s1 => match zipQ d s1 with
  | some (_, l, r) => .ok ⟨(l.zipIdx).map fun p => .ptup [.int p.2, p.1], r⟩ s1
  | _ => .bad

/-! ### targets -/
def gN (i : Nat) : MG := fun d σ s => .ok (σ.set i (some d)) s
def gEach : List MG → List Dv → Men → Mst → Rm Men
  | [], [], σ, s => .ok σ s
  | g :: gs, d :: ds, σ, s => (g d σ s).bind fun σ1 s1 => gEach gs ds σ1 s1
  | _, _, _, _ => .bad
def gT (gs : List MG) : MG := fun d σ s => match d with
  | .tup l => if l.length = gs.length then (gEach gs l σ s).noEr else .bad
  | .ptup l => if l.length = gs.length then (gEach gs l σ s).noEr else .bad
  | _ => .bad

/-! ### comprehensions -/
def mWipe (σ : Men) : List Nat → Men
  | [] => σ
  | i :: r => (mWipe σ r).set i none
def lcF (src : List (Nat × List Dv)) (g : MG) (t : MT) (e : ME) (σ : Men) : List Dv → Mst → Rm (List Dv)
  | [], s => if Mit.stays src s then .ok [] s else .bad
  | x :: xs, s => if Mit.stays src s then (g x σ s).bind fun σ1 s1 => (t σ1 s1).bind fun c s2 =>
      if c then (e σ1 s2).bind fun d s3 => (lcF src g t e σ xs s3).bind fun ds s4 => .ok (d :: ds) s4 else lcF src g t e σ xs s2 else .bad
def mLc (it : MI) (g : MG) (t : MT) (e : ME) (vs : List Nat) : ME := fun σ s => (it σ s).bind fun i s1 => (lcF i.src g t e (mWipe σ vs) i.xs s1).noEr.bind fun ds s2 =>
  @ite _ (i.xs.length < 2 ^ 24) (Classical.propDecidable _) (.ok (.loc s2.length) (s2 ++ [.lst ds])) (.bad)
def mtYes : MT := fun _ s => .ok true s

/-! ### statements -/
def Sm.andThen (r : Sm) (f : MS) : Sm := match r with
  | .nx σ s => f σ s
  | r => r
@[simp] theorem Sm.andThen_nx (σ : Men) (s : Mst) (f : MS) : (Sm.nx σ s).andThen f = f σ s := rfl
@[simp] theorem Sm.andThen_rt (d : Dv) (s : Mst) (f : MS) : (Sm.rt d s).andThen f = .rt d s := rfl
@[simp] theorem Sm.andThen_bad (f : MS) : Sm.bad.andThen f = .bad := rfl
@[simp] theorem Sm.andThen_er (e : Xv) (σ : Men) (s : Mst) (f : MS) : (Sm.er e σ s).andThen f = .er e σ s := rfl
@[simp] theorem Sm.andThen_bk (σ : Men) (s : Mst) (f : MS) : (Sm.bk σ s).andThen f = .bk σ s := rfl
@[simp] theorem Sm.andThen_ct (σ : Men) (s : Mst) (f : MS) : (Sm.ct σ s).andThen f = .ct σ s := rfl
/-- from an expression's end -/
def Rm.st {α : Type} (r : Rm α) (σ : Men) (f : α → Mst → Sm) : Sm := match r with
  | .ok a s => f a s
  | .er e s => .er e σ s
  | .bad => .bad
@[simp] theorem Rm.st_ok {α : Type} (a : α) (s : Mst) (σ : Men) (f : α → Mst → Sm) : (Rm.ok a s).st σ f = f a s := rfl
@[simp] theorem Rm.st_bad {α : Type} (σ : Men) (f : α → Mst → Sm) : (Rm.bad : Rm α).st σ f = .bad := rfl
@[simp] theorem Rm.st_er {α : Type} (e : Xv) (s : Mst) (σ : Men) (f : α → Mst → Sm) : (Rm.er e s : Rm α).st σ f = .er e σ s := rfl
def msNx : MS := fun σ s => .nx σ s
def msBad : MS := fun _ _ => .bad
def msSeq (a b : MS) : MS := fun σ s => (a σ s).andThen b
def msSet (i : Nat) (e : ME) : MS := fun σ s => (e σ s).st σ fun d s1 => .nx (σ.set i (some d)) s1
def msAsg (g : MG) (e : ME) : MS := fun σ s => (e σ s).st σ fun d s1 => (g d σ s1).st σ fun σ1 s2 => .nx σ1 s2
def msExp (e : ME) : MS := fun σ s => (e σ s).st σ fun _ s1 => .nx σ s1
def msRet (e : ME) : MS := fun σ s => (e σ s).st σ fun d s1 => .rt d s1
def msRetN : MS := fun _ s => .rt .non s
def msBrk : MS := fun σ s => .bk σ s
def msCnt : MS := fun σ s => .ct σ s
def msIf (t : MT) (a b : MS) : MS := fun σ s => (t σ s).st σ fun c s1 => if c then a σ s1 else b σ s1
/-- o[i] = e by what is done at the values (o, i, e) -/
def msPut (f : Dv → Dv → Dv → Mst → Rm Unit) (o i e : ME) : MS := fun σ s => (e σ s).st σ fun v s1 => (o σ s1).st σ fun x s2 => (i σ s2).st σ fun y s3 => (f x y v s3).st σ fun _ s4 => .nx σ s4
/-- o.f = e -/
def msFld (C : Nat) (f : Str) (o e : ME) : MS := fun σ s => (e σ s).st σ fun v s1 => (o σ s1).st σ fun x s2 => match x with
  | .loc n => match s2[n]? with
    | some (.ins C' fs) => if C' = C ∧ fs.length < 1000 then .nx σ (s2.set n (.ins C (match fs.lookup f with
        | some _ => fs.map fun p => if p.1 = f then (f, v) else p
        | none => fs ++ [(f, v)]))) else .bad
    | _ => .bad
  | _ => .bad
/-- one more turn of a loop -/
def Sm.turn (r : Sm) (f : MS) : Sm := match r with
  | .nx σ s => f σ s
  | .ct σ s => f σ s
  | .bk σ s => .nx σ s
  | r => r
@[simp] theorem Sm.turn_nx (σ : Men) (s : Mst) (f : MS) : (Sm.nx σ s).turn f = f σ s := rfl
@[simp] theorem Sm.turn_ct (σ : Men) (s : Mst) (f : MS) : (Sm.ct σ s).turn f = f σ s := rfl
@[simp] theorem Sm.turn_bk (σ : Men) (s : Mst) (f : MS) : (Sm.bk σ s).turn f = .nx σ s := rfl
@[simp] theorem Sm.turn_rt (d : Dv) (s : Mst) (f : MS) : (Sm.rt d s).turn f = .rt d s := rfl
@[simp] theorem Sm.turn_bad (f : MS) : Sm.bad.turn f = .bad := rfl
@[simp] theorem Sm.turn_er (e : Xv) (σ : Men) (s : Mst) (f : MS) : (Sm.er e σ s).turn f = .er e σ s := rfl
def forF (src : List (Nat × List Dv)) (g : MG) (b : MS) : List Dv → MS
  | [], σ, s => if Mit.stays src s then .nx σ s else .bad
  | x :: xs, σ, s => if Mit.stays src s then (g x σ s).st σ fun σ1 s1 => (b σ1 s1).turn (forF src g b xs) else .bad
def msFor (it : MI) (g : MG) (b : MS) : MS := fun σ s => (it σ s).st σ fun i s1 => forF i.src g b i.xs σ s1
def whileF (t : MT) (b : MS) : Nat → MS
  | 0, _, _ => .bad
  | n + 1, σ, s => (t σ s).st σ fun c s1 => if c then (b σ s1).turn (whileF t b n) else .nx σ s1
def msWhile (t : MT) (b : MS) : MS := fun σ s => if h : ∃ n, whileF t b n σ s ≠ .bad then whileF t b (Classical.choose h) σ s else .bad

theorem whileF_succ {t : MT} {b : MS} : ∀ {n : Nat} {σ : Men} {s : Mst}, whileF t b n σ s ≠ .bad → whileF t b (n + 1) σ s = whileF t b n σ s
  | 0, _, _, h => absurd rfl h
  | n + 1, σ, s, h => by
    show (t σ s).st σ (fun c s1 => if c then (b σ s1).turn (whileF t b (n + 1)) else .nx σ s1) = (t σ s).st σ (fun c s1 => if c then (b σ s1).turn (whileF t b n) else .nx σ s1)
    have h' : (t σ s).st σ (fun c s1 => if c then (b σ s1).turn (whileF t b n) else .nx σ s1) ≠ .bad := h
    cases e : t σ s with
    | bad => rfl
    | er x s1 => rfl
    | ok c s1 =>
      rw [e] at h'
      cases c with
      | false => rfl
      | true =>
        simp only [Rm.st_ok, if_true] at h' ⊢
        cases e2 : b σ s1 with
        | nx σ2 s2 => rw [e2] at h'; exact whileF_succ h'
        | ct σ2 s2 => rw [e2] at h'; exact whileF_succ h'
        | bk σ2 s2 => rfl
        | rt d s2 => rfl
        | er x σ2 s2 => rfl
        | bad => rfl
theorem whileF_mono {t : MT} {b : MS} {n m : Nat} {σ : Men} {s : Mst} (h : whileF t b n σ s ≠ .bad) (hm : n ≤ m) : whileF t b m σ s = whileF t b n σ s := by
  induction m with
  | zero => rw [Nat.le_zero.mp hm]
  | succ m ih =>
    by_cases e : n = m + 1
    · rw [e]
    · have hi := ih (by omega)
      rw [whileF_succ (by rw [hi]; exact h), hi]
theorem msWhile_of {t : MT} {b : MS} {n : Nat} {σ : Men} {s : Mst} (h : whileF t b n σ s ≠ .bad) : msWhile t b σ s = whileF t b n σ s := by
  have hx : ∃ n, whileF t b n σ s ≠ .bad := ⟨n, h⟩
  unfold msWhile
  rw [dif_pos hx]
  have h2 := Classical.choose_spec hx
  by_cases hle : n ≤ Classical.choose hx
  · exact whileF_mono h hle
  · exact (whileF_mono h2 (by omega)).symm
theorem msWhile_ex {t : MT} {b : MS} {σ : Men} {s : Mst} (h : msWhile t b σ s ≠ .bad) : ∃ n, msWhile t b σ s = whileF t b n σ s := by
  by_cases hx : ∃ n, whileF t b n σ s ≠ .bad
  · exact ⟨_, by unfold msWhile; rw [dif_pos hx]⟩
  · exact absurd (by unfold msWhile; rw [dif_neg hx]) h

/-! ### a def by its body -/
def mStart (n : Nat) (ds : List Dv) : Men := ds.map some ++ List.replicate (n - ds.length) none
/-- a def of k parameters and n names -/
def mFun (k n : Nat) (b : MS) : MF := fun ds s => @ite _ (ds.length = k) (Classical.propDecidable _) (match b (mStart n ds) s with
  | .nx _ s1 => .ok .non s1
  | .rt d s1 => .ok d s1
  | .er e _ s1 => .er e s1
  | _ => .bad) .bad

/-- a def that lets no exception out, called -/
def noE (F : MF) : MF := fun ds s => (F ds s).noEr
theorem noE_ok {F : MF} {ds : List Dv} {s s' : Mst} {d : Dv} (h : F ds s = .ok d s') : noE F ds s = .ok d s' := by unfold noE; rw [h]; rfl

/-! ### keys that are tuples -/
mutual
def nkP : PyData → Option NestedKey
  | .none => some .none
  | .bool b => some (.num (if b = true then 1 else 0))
  | .int i => some (.num i)
  | .str x => some (.text x)
  | .tuple l => (nkPs l).map .tup
  | .list _ => none
  | .dict _ => none
def nkPs : List PyData → Option (List NestedKey)
  | [] => some []
  | d :: r => match nkP d, nkPs r with
    | some k, some ks => some (k :: ks)
    | _, _ => none
end
/-! ### data as a whole -/
/-- what a value is, all within it read -/
def datA (f : Dv → Option PyData) : List Dv → Option (List PyData)
  | [] => some []
  | d :: ds => match f d, datA f ds with
    | some x, some xs => some (x :: xs)
    | _, _ => none
def dat (s : Mst) : Nat → Dv → Option PyData
  | 0, _ => none
  | n + 1, d => match d with
    | .non => some .none
    | .bl b => some (.bool b)
    | .int i => some (.int i)
    | .str x => some (.str x)
    | .tup l => (datA (dat s n) l).map .tuple
    | .clst l => (datA (dat s n) l).map .list
    | .loc k => match s[k]? with
      | some (.lst l) => (datA (dat s n) l).map .list
      | _ => none
    | _ => none
/-- a tuple as a key: what is in it does not change -/
def keyN : Dv → Option NestedKey
  | .tup l => match (dat [] 66 (.tup l)).bind nkP with
    | some k => if k.depth ≤ 8 then some k else none
    | none => none
  | _ => none
end
end Mid
/-! Mid1: the plain model over the hand layer: what it tells is what the model of Python does. -/
namespace Mid
open PySem PySem.Spec L2 Classical

/-- where the classes lie; the world -/
structure Kap where
  at' : Nat → Addr
  w : World
instance : CoeFun Kap fun _ => Nat → Addr := ⟨Kap.at'⟩
/-- the entries of a dict of tuples, as they lie -/
abbrev PN (es : List (NestedKey × Addr × V)) (xs : List (NestedKey × Addr × Value)) : Prop := Paired (fun (p : NestedKey × Addr × V) (q : NestedKey × Addr × Value) => p.1 = q.1 ∧ p.2.1 = q.2.1 ∧ RelV p.2.2 q.2.2) es xs
/-- a dict of tuples: its one object -/
def dNO (w : World) (a : Addr) (es : List (NestedKey × Addr × V)) : HO := .ext fun h => (a == sysModules) = false ∧ es.length ≤ sizeLine ∧ (es.map (·.1)).Nodup ∧
  ∃ xs o ds ep, PN es xs ∧ h.get? a = some o ∧ o.ExactDict ∧ o.data = .dict ds ep ∧ ds.toList = xs.map fun x => ⟨x.1.hash w, .ref x.2.1, x.2.2⟩
/-! ### values -/
section
variable (K : PySem.W.Frag) (κ : Kap)
/-- a list that never changes: locked, or of the module's own top -/
def SqI (H : Hp) (a : Addr) (xs : List V) : Prop := (∃ o, H a = some (.frz o (.lst xs))) ∨
  ∃ (o : Obj) (its : Array Value) (n : Nat), K.lookup a = some o ∧ o.cls = .type "list" ∧ o.dict = none ∧ o.data = .seq its n ∧ its.size ≤ sizeLine ∧ Vals xs its.toList
/-- a tuple that has no dict of its own -/
def tupO (its : List Value) : Obj := { cls := .type "tuple", data := .seq its.toArray }
def SqD (H : Hp) (a : Addr) (xs : List V) : Prop := (∃ its, H a = some (.frz (tupO its) (.tup xs))) ∨
  ∃ (o : Obj) (its : Array Value) (n : Nat), K.lookup a = some o ∧ o.cls = .type "tuple" ∧ o.dict = none ∧ o.data = .seq its n ∧ its.size ≤ sizeLine ∧ Vals xs its.toList
theorem SqD.tup {K : PySem.W.Frag} {H : Hp} {a : Addr} {xs : List V} (h : SqD K H a xs) : SqT K H a xs := by
  rcases h with ⟨its, h⟩ | ⟨o, its, n, h1, h2, _, h3⟩
  · exact .inl (.inr ⟨_, h⟩)
  · exact .inr ⟨o, its, n, h1, h2, h3⟩
mutual
def VR (ρ : List Addr) (H : Hp) : Dv → V → Prop
  | .non, v => v = .non
  | .bl b, v => v = .bl b
  | .int i, v => v = .int i
  | .str x, v => v = .str x
  | .tup l, v => ∃ a vs, v = .ref a ∧ SqD K H a vs ∧ VRs ρ H l vs
  | .ptup l, v => ∃ a vs, v = .ref a ∧ SqT K H a vs ∧ VRs ρ H l vs
  | .clst l, v => ∃ a vs, v = .ref a ∧ SqI K H a vs ∧ VRs ρ H l vs
  | .loc n, v => ∃ a, ρ[n]? = some a ∧ v = .ref a
  | .fix n, v => v = .ref (κ n)
  | .ty n, v => v = .ty n
def VRs (ρ : List Addr) (H : Hp) : List Dv → List V → Prop
  | [], vs => vs = []
  | d :: ds, vs => ∃ v r, vs = v :: r ∧ VR ρ H d v ∧ VRs ρ H ds r
end
def OR (ρ : List Addr) (H : Hp) (a : Addr) : MO → Prop
  | .lst l => ∃ vs, H a = some (.lst vs) ∧ VRs K κ ρ H l vs
  | .dK kvs => ∃ vs : List (Key × V), H a = some (.dK vs) ∧ vs.map (·.1) = kvs.map (·.1) ∧ VRs K κ ρ H (kvs.map (·.2)) (vs.map (·.2))
  | .dN kvs => ∃ es : List (NestedKey × Addr × V), H a = some (dNO κ.w a es) ∧ es.map (·.1) = kvs.map (·.1) ∧ VRs K κ ρ H (kvs.map (·.2)) (es.map (·.2.2)) ∧ ∀ e ∈ es, ∃ kd, VR K κ ρ H kd (.ref e.2.1) ∧ keyN kd = some e.1
  | .ins C fs => ∃ dx vs, H a = some (.ins (κ C) dx vs) ∧ vs.map (·.1) = fs.map (·.1) ∧ VRs K κ ρ H (fs.map (·.2)) (vs.map (·.2))
structure Rel (ρ : List Addr) (H : Hp) (s : Mst) : Prop where
  len : ρ.length = s.length
  nd : ρ.Nodup
  obj : ∀ (n : Nat) (a : Addr) (o : MO), ρ[n]? = some a → s[n]? = some o → OR K κ ρ H a o
def ERo (ρ : List Addr) (H : Hp) : Option Dv → Option V → Prop
  | some d, o => ∃ v, o = some v ∧ VR K κ ρ H d v
  | none, _ => True
/-- the names' values -/
structure ER (ρ : List Addr) (H : Hp) (σd : Men) (σ : St) : Prop where
  len : σ.length = σd.length
  at_ : ∀ (i : Nat) (d : Dv), σd[i]? = some (some d) → ∃ v, σ[i]? = some (some v) ∧ VR K κ ρ H d v
end

/-- from one moment to a later one -/
structure Step (ρ : List Addr) (H : Hp) (ρ' : List Addr) (H' : Hp) : Prop where
  pre : ∃ l, ρ' = ρ ++ l ∧ ∀ p ∈ l, H p = none
  keep : ∀ b o, H b = some o → b ∉ ρ → H' b = some o
  live : ∀ b, H b ≠ none → H' b ≠ none

section
variable {K : PySem.W.Frag} {κ : Kap} {ρ ρ' ρ1 ρ2 : List Addr} {H H' H1 H2 : Hp} {s st st' : Mst} {a b : Addr}

theorem Step.refl : Step ρ H ρ H := ⟨⟨[], by simp, by simp⟩, fun _ _ h _ => h, fun _ h => h⟩
theorem Step.trans (x : Step ρ H ρ1 H1) (y : Step ρ1 H1 ρ2 H2) : Step ρ H ρ2 H2 := by
  obtain ⟨l, rfl, hl⟩ := x.pre
  obtain ⟨m, rfl, hm⟩ := y.pre
  refine ⟨⟨l ++ m, by rw [List.append_assoc], fun p hp => ?_⟩, fun b o e hb => ?_, fun b e => y.live b (x.live b e)⟩
  · rcases List.mem_append.mp hp with h | h
    · exact hl p h
    · cases q : H p with
      | none => rfl
      | some o => exact absurd (hm p h) (x.live p (by rw [q]; simp))
  · refine y.keep b o (x.keep b o e hb) fun hm' => ?_
    rcases List.mem_append.mp hm' with h | h
    · exact hb h
    · rw [hl b h] at e; cases e
theorem Step.get (x : Step ρ H ρ' H') {n : Nat} (h : ρ[n]? = some a) : ρ'[n]? = some a := by
  obtain ⟨l, rfl, _⟩ := x.pre
  rw [List.getElem?_append_left (List.getElem?_eq_some_iff.mp h).1]
  exact h
theorem Step.free (x : Step ρ H ρ' H') (h : H' a = Option.none) : H a = Option.none := by
  cases q : H a with
  | none => rfl
  | some o => exact absurd h (x.live a (by rw [q]; simp))

/-- what stands at a place of the list of changing things is no tuple and nothing locked -/
def Chg (a : Addr) : HO → Prop
  | .lst _ => True
  | .dK _ => True
  | .ext φ => ∃ w es, HO.ext φ = dNO w a es
  | .ins _ _ _ => True
  | _ => False
theorem OR.chg {o : MO} (h : OR K κ ρ H a o) : ∃ u, H a = some u ∧ Chg a u := by
  cases o with
  | lst l => obtain ⟨vs, e, _⟩ := h; exact ⟨_, e, trivial⟩
  | dK l => obtain ⟨vs, e, _⟩ := h; exact ⟨_, e, trivial⟩
  | dN l => obtain ⟨es, e, _⟩ := h; exact ⟨_, e, κ.w, es, rfl⟩
  | ins C l => obtain ⟨dx, vs, e, _⟩ := h; exact ⟨_, e, trivial⟩
theorem Rel.chg (R : Rel K κ ρ H s) (h : a ∈ ρ) : ∃ u, H a = some u ∧ Chg a u := by
  obtain ⟨n, hn⟩ := List.mem_iff_getElem?.mp h
  have hl := (List.getElem?_eq_some_iff.mp hn).1
  have hs : n < s.length := by rw [← R.len]; exact hl
  exact (R.obj n a s[n] hn (List.getElem?_eq_getElem hs)).chg
theorem Rel.out (R : Rel K κ ρ H s) {u : HO} (e : H a = some u) (hu : ¬ Chg a u) : a ∉ ρ := fun h => by
  obtain ⟨u', e', c⟩ := R.chg h
  rw [e] at e'; cases e'
  exact hu c
theorem Rel.fresh (R : Rel K κ ρ H s) (e : H a = none) : a ∉ ρ := fun h => by
  obtain ⟨u', e', c⟩ := R.chg h
  rw [e] at e'; cases e'
/-- what values lean on is kept -/
structure Kp (ρ : List Addr) (H : Hp) (ρ' : List Addr) (H' : Hp) : Prop where
  ix : ∀ (n : Nat) (a : Addr), ρ[n]? = some a → ρ'[n]? = some a
  tup : ∀ a xs, H a = some (.tup xs) → H' a = some (.tup xs)
  frz : ∀ a o u, H a = some (.frz o u) → H' a = some (.frz o u)
theorem Step.kp (R : Rel K κ ρ H s) (x : Step ρ H ρ' H') : Kp ρ H ρ' H' :=
  ⟨fun _ _ h => x.get h, fun _ _ h => x.keep _ _ h (R.out h fun z => z), fun _ _ _ h => x.keep _ _ h (R.out h fun z => z)⟩
theorem SqT.kp (x : Kp ρ H ρ' H') {vs : List V} (h : SqT K H a vs) : SqT K H' a vs := by
  rcases h with (h | ⟨o, h⟩) | h
  · exact .inl (.inl (x.tup _ _ h))
  · exact .inl (.inr ⟨o, x.frz _ _ _ h⟩)
  · exact .inr h
theorem SqD.kp (x : Kp ρ H ρ' H') {vs : List V} (h : SqD K H a vs) : SqD K H' a vs := by
  rcases h with ⟨its, h⟩ | h
  · exact .inl ⟨its, x.frz _ _ _ h⟩
  · exact .inr h
theorem SqI.kp (x : Kp ρ H ρ' H') {vs : List V} (h : SqI K H a vs) : SqI K H' a vs := by
  rcases h with ⟨o, h⟩ | h
  · exact .inl ⟨o, x.frz _ _ _ h⟩
  · exact .inr h
mutual
theorem VR.kp (x : Kp ρ H ρ' H') : ∀ (d : Dv) (v : V), VR K κ ρ H d v → VR K κ ρ' H' d v
  | .non, _, h => by simp only [VR] at h ⊢; exact h
  | .bl _, _, h => by simp only [VR] at h ⊢; exact h
  | .int _, _, h => by simp only [VR] at h ⊢; exact h
  | .str _, _, h => by simp only [VR] at h ⊢; exact h
  | .tup l, v, h => by
    simp only [VR] at h ⊢
    obtain ⟨a, vs, e, q, r⟩ := h
    exact ⟨a, vs, e, SqD.kp x q, VRs.kp x l vs r⟩
  | .ptup l, v, h => by
    simp only [VR] at h ⊢
    obtain ⟨a, vs, e, q, r⟩ := h
    exact ⟨a, vs, e, SqT.kp x q, VRs.kp x l vs r⟩
  | .clst l, v, h => by
    simp only [VR] at h ⊢
    obtain ⟨a, vs, e, q, r⟩ := h
    exact ⟨a, vs, e, SqI.kp x q, VRs.kp x l vs r⟩
  | .loc n, v, h => by
    simp only [VR] at h ⊢
    obtain ⟨a, e, q⟩ := h
    exact ⟨a, x.ix _ _ e, q⟩
  | .fix _, _, h => by simp only [VR] at h ⊢; exact h
  | .ty _, _, h => by simp only [VR] at h ⊢; exact h
theorem VRs.kp (x : Kp ρ H ρ' H') : ∀ (ds : List Dv) (vs : List V), VRs K κ ρ H ds vs → VRs K κ ρ' H' ds vs
  | [], _, h => by simp only [VRs] at h ⊢; exact h
  | d :: ds, vs, h => by
    simp only [VRs] at h ⊢
    obtain ⟨v, r, e, h1, h2⟩ := h
    exact ⟨v, r, e, VR.kp x d v h1, VRs.kp x ds r h2⟩
end
theorem SqT.later (R : Rel K κ ρ H s) (x : Step ρ H ρ' H') {vs : List V} (h : SqT K H a vs) : SqT K H' a vs := SqT.kp (x.kp R) h
theorem SqI.later (R : Rel K κ ρ H s) (x : Step ρ H ρ' H') {vs : List V} (h : SqI K H a vs) : SqI K H' a vs := SqI.kp (x.kp R) h
theorem VR.later (R : Rel K κ ρ H s) (x : Step ρ H ρ' H') (d : Dv) (v : V) (h : VR K κ ρ H d v) : VR K κ ρ' H' d v := VR.kp (x.kp R) d v h
theorem VRs.later (R : Rel K κ ρ H s) (x : Step ρ H ρ' H') (ds : List Dv) (vs : List V) (h : VRs K κ ρ H ds vs) : VRs K κ ρ' H' ds vs := VRs.kp (x.kp R) ds vs h
theorem ER.kp (x : Kp ρ H ρ' H') {σd : Men} {σ : L2.St} (h : ER K κ ρ H σd σ) : ER K κ ρ' H' σd σ :=
  ⟨h.len, fun i d e => let ⟨v, e', r⟩ := h.at_ i d e; ⟨v, e', VR.kp x d v r⟩⟩
theorem OR.kp {o : MO} (x : Kp ρ H ρ' H') (h : OR K κ ρ H a o) (e : H' a = H a) : OR K κ ρ' H' a o := by
  cases o with
  | lst l => obtain ⟨vs, q, r⟩ := h; exact ⟨vs, e.trans q, VRs.kp x _ _ r⟩
  | dK l => obtain ⟨vs, q, k, r⟩ := h; exact ⟨vs, e.trans q, k, VRs.kp x _ _ r⟩
  | dN l => obtain ⟨vs, q, k, r, t⟩ := h; exact ⟨vs, e.trans q, k, VRs.kp x _ _ r, fun p hp => let ⟨kd, h1, h2⟩ := t p hp; ⟨kd, VR.kp x _ _ h1, h2⟩⟩
  | ins C l => obtain ⟨dx, vs, q, k, r⟩ := h; exact ⟨dx, vs, e.trans q, k, VRs.kp x _ _ r⟩
theorem ER.later (R : Rel K κ ρ H s) (x : Step ρ H ρ' H') {σd : Men} {σ : St} (h : ER K κ ρ H σd σ) : ER K κ ρ' H' σd σ :=
  ⟨h.len, fun i d e => let ⟨v, e', r⟩ := h.at_ i d e; ⟨v, e', VR.later R x d v r⟩⟩
theorem VR.tupD {l : List Dv} {v : V} (h : VR K κ ρ H (.tup l) v) : ∃ a vs, v = .ref a ∧ SqD K H a vs ∧ VRs K κ ρ H l vs := by simpa only [VR] using h
theorem VR.tupE {l : List Dv} {v : V} (h : VR K κ ρ H (.tup l) v) : ∃ a vs, v = .ref a ∧ SqT K H a vs ∧ VRs K κ ρ H l vs :=
  let ⟨a, vs, e, q, r⟩ := h.tupD; ⟨a, vs, e, q.tup, r⟩
theorem VR.ptupE {l : List Dv} {v : V} (h : VR K κ ρ H (.ptup l) v) : ∃ a vs, v = .ref a ∧ SqT K H a vs ∧ VRs K κ ρ H l vs := by simpa only [VR] using h
theorem VRs.nil : VRs K κ ρ H [] [] := by simp only [VRs]
theorem VRs.cons {d : Dv} {v : V} {ds : List Dv} {vs : List V} (h : VR K κ ρ H d v) (r : VRs K κ ρ H ds vs) : VRs K κ ρ H (d :: ds) (v :: vs) := by
  simp only [VRs]; exact ⟨v, vs, rfl, h, r⟩
theorem VRs.length : ∀ {ds : List Dv} {vs : List V}, VRs K κ ρ H ds vs → vs.length = ds.length
  | [], _, h => by simp only [VRs] at h; subst h; rfl
  | d :: ds, vs, h => by
    simp only [VRs] at h
    obtain ⟨v, r, rfl, _, h2⟩ := h
    simp [VRs.length h2]
theorem VRs.append : ∀ {ds es : List Dv} {vs us : List V}, VRs K κ ρ H ds vs → VRs K κ ρ H es us → VRs K κ ρ H (ds ++ es) (vs ++ us)
  | [], _, _, _, h, g => by simp only [VRs] at h; subst h; exact g
  | d :: ds, es, vs, us, h, g => by
    simp only [VRs] at h
    obtain ⟨v, r, rfl, h1, h2⟩ := h
    exact .cons h1 (VRs.append h2 g)
theorem VRs.get : ∀ {ds : List Dv} {vs : List V} {i : Nat} {d : Dv}, VRs K κ ρ H ds vs → ds[i]? = some d → ∃ v, vs[i]? = some v ∧ VR K κ ρ H d v
  | [], _, _, _, _, e => by simp at e
  | d :: ds, vs, 0, d', h, e => by
    simp only [VRs] at h
    obtain ⟨v, r, rfl, h1, h2⟩ := h
    simp at e; subst e
    exact ⟨v, rfl, h1⟩
  | d :: ds, vs, i + 1, d', h, e => by
    simp only [VRs] at h
    obtain ⟨v, r, rfl, h1, h2⟩ := h
    obtain ⟨u, e1, e2⟩ := VRs.get (i := i) h2 (by simpa using e)
    exact ⟨u, by simpa using e1, e2⟩
theorem VRs.drop : ∀ {ds : List Dv} {vs : List V} (n : Nat), VRs K κ ρ H ds vs → VRs K κ ρ H (ds.drop n) (vs.drop n)
  | ds, vs, 0, h => by simpa using h
  | [], vs, n + 1, h => by simp only [VRs] at h; subst h; exact .nil
  | d :: ds, vs, n + 1, h => by
    simp only [VRs] at h
    obtain ⟨v, r, rfl, h1, h2⟩ := h
    simpa using VRs.drop n h2
theorem VRs.take : ∀ {ds : List Dv} {vs : List V} (n : Nat), VRs K κ ρ H ds vs → VRs K κ ρ H (ds.take n) (vs.take n)
  | ds, vs, 0, h => by simpa using VRs.nil
  | [], vs, n + 1, h => by simp only [VRs] at h; subst h; exact .nil
  | d :: ds, vs, n + 1, h => by
    simp only [VRs] at h
    obtain ⟨v, r, rfl, h1, h2⟩ := h
    simpa using VRs.cons h1 (VRs.take n h2)
theorem VRs.set {d : Dv} {v : V} (h1 : VR K κ ρ H d v) : ∀ {ds : List Dv} {vs : List V} (n : Nat), VRs K κ ρ H ds vs → VRs K κ ρ H (ds.set n d) (vs.set n v)
  | [], vs, n, h => by simp only [VRs] at h; subst h; simpa using VRs.nil
  | e :: ds, vs, 0, h => by
    simp only [VRs] at h
    obtain ⟨u, r, rfl, h3, h2⟩ := h
    simpa using VRs.cons h1 h2
  | e :: ds, vs, n + 1, h => by
    simp only [VRs] at h
    obtain ⟨u, r, rfl, h3, h2⟩ := h
    simpa using VRs.cons h3 (VRs.set h1 n h2)
theorem VRs.cut {ds : List Dv} {vs : List V} {es : List Dv} : ∀ {fs : List Dv}, VRs K κ ρ H (es ++ fs) vs → ∃ us ws, vs = us ++ ws ∧ VRs K κ ρ H es us ∧ VRs K κ ρ H fs ws := by
  intro fs h
  refine ⟨vs.take es.length, vs.drop es.length, (List.take_append_drop _ _).symm, ?_, ?_⟩
  · have := VRs.take es.length h; simpa using this
  · have := VRs.drop es.length h; simpa using this

/-! ### how the list of changing things goes on -/
/-- something new that is no changing thing (a tuple), or that isn't told of -/
theorem Step.lay (n : H a = none) {o : HO} : Step ρ H ρ (upd H a o) :=
  ⟨⟨[], by simp, by simp⟩, fun b u e _ => by rw [upd_ne (ne_of_none e n)]; exact e, fun b e => by
    by_cases h : b = a
    · subst h; rw [upd_same]; simp
    · rw [upd_ne h]; exact e⟩
theorem OR.keep {o : MO} (R : Rel K κ ρ H s) (x : Step ρ H ρ' H') (h : OR K κ ρ H a o) (e : H' a = H a) : OR K κ ρ' H' a o := OR.kp (x.kp R) h e
theorem Rel.lay (R : Rel K κ ρ H s) (n : H a = none) {o : HO} : Rel K κ ρ (upd H a o) s :=
  ⟨R.len, R.nd, fun k b u e1 e2 => (R.obj k b u e1 e2).keep R (Step.lay n) (upd_ne fun z => R.fresh n (z ▸ List.mem_of_getElem? e1))⟩
/-- a new changing thing -/
theorem Step.new (n : H a = none) {o : HO} : Step ρ H (ρ ++ [a]) (upd H a o) :=
  ⟨⟨[a], rfl, fun p hp => by rw [List.mem_singleton.mp hp]; exact n⟩, (Step.lay (ρ := ρ) n).keep, (Step.lay (ρ := ρ) n).live⟩
theorem Rel.new (R : Rel K κ ρ H s) (n : H a = none) {o : HO} {m : MO} (h : OR K κ (ρ ++ [a]) (upd H a o) a m) : Rel K κ (ρ ++ [a]) (upd H a o) (s ++ [m]) := by
  refine ⟨by simp [R.len], ?_, fun k b u e1 e2 => ?_⟩
  · rw [List.nodup_append]
    exact ⟨R.nd, by simp, fun x hx y hy e => R.fresh n (by rw [List.mem_singleton.mp hy] at e; exact e ▸ hx)⟩
  · by_cases hk : k < ρ.length
    · rw [List.getElem?_append_left hk] at e1
      rw [List.getElem?_append_left (by rw [← R.len]; exact hk)] at e2
      exact (R.obj k b u e1 e2).keep R (Step.new n) (upd_ne fun z => R.fresh n (z ▸ List.mem_of_getElem? e1))
    · rw [List.getElem?_append_right (Nat.le_of_not_lt hk)] at e1
      rw [List.getElem?_append_right (by rw [← R.len]; exact Nat.le_of_not_lt hk), ← R.len] at e2
      cases hz : k - ρ.length with
      | zero =>
        rw [hz] at e1 e2
        simp at e1 e2
        subst e1; subst e2
        exact h
      | succ z => rw [hz] at e1; simp at e1
/-- a changing thing is changed -/
theorem Step.put {n : Nat} (e : ρ[n]? = some a) {o : HO} : Step ρ H ρ (upd H a o) :=
  ⟨⟨[], by simp, by simp⟩, fun b u q hb => by rw [upd_ne fun z => hb (by rw [z]; exact List.mem_of_getElem? e)]; exact q, fun b q => by
    by_cases h : b = a
    · subst h; rw [upd_same]; simp
    · rw [upd_ne h]; exact q⟩
theorem Rel.put (R : Rel K κ ρ H s) {n : Nat} (e : ρ[n]? = some a) {o : HO} {m : MO} (h : OR K κ ρ (upd H a o) a m) : Rel K κ ρ (upd H a o) (s.set n m) := by
  refine ⟨by simp [R.len], R.nd, fun k b u e1 e2 => ?_⟩
  by_cases hk : k = n
  · subst hk
    rw [e] at e1; cases e1
    rw [List.getElem?_set_self (by rw [← R.len]; exact (List.getElem?_eq_some_iff.mp e).1)] at e2
    cases e2
    exact h
  · rw [List.getElem?_set_ne (Ne.symm hk)] at e2
    refine (R.obj k b u e1 e2).keep R (Step.put e) (upd_ne fun z => hk ?_)
    subst z
    have l1 := (List.getElem?_eq_some_iff.mp e1)
    have l2 := (List.getElem?_eq_some_iff.mp e)
    exact (List.getElem_inj R.nd).mp (l1.2.trans l2.2.symm)
/-- a list that stands apart is changed -/
theorem Kp.apart {xs ys : List V} (e : H a = some (.lst xs)) : Kp ρ H ρ (upd H a (.lst ys)) :=
  ⟨fun _ _ h => h, fun b zs h => by rw [upd_ne (ne_of h e (by intro z; cases z))]; exact h, fun b o u h => by rw [upd_ne (ne_of h e (by intro z; cases z))]; exact h⟩
theorem Rel.apart (R : Rel K κ ρ H s) {xs ys : List V} (e : H a = some (.lst xs)) (n : a ∉ ρ) : Rel K κ ρ (upd H a (.lst ys)) s :=
  ⟨R.len, R.nd, fun k b u e1 e2 => (R.obj k b u e1 e2).kp (Kp.apart e) (upd_ne fun z => n (z ▸ List.mem_of_getElem? e1))⟩
theorem Kp.add : Kp ρ H (ρ ++ [a]) H := ⟨fun n b h => by rw [List.getElem?_append_left (List.getElem?_eq_some_iff.mp h).1]; exact h, fun _ _ h => h, fun _ _ _ h => h⟩
/-- .. and told of -/
theorem Rel.add (R : Rel K κ ρ H s) {m : MO} (h : OR K κ ρ H a m) (n : a ∉ ρ) : Rel K κ (ρ ++ [a]) H (s ++ [m]) := by
  refine ⟨by simp [R.len], ?_, fun k b u e1 e2 => ?_⟩
  · rw [List.nodup_append]
    exact ⟨R.nd, by simp, fun x hx y hy e => n (by rw [List.mem_singleton.mp hy] at e; exact e ▸ hx)⟩
  · by_cases hk : k < ρ.length
    · rw [List.getElem?_append_left hk] at e1
      rw [List.getElem?_append_left (by rw [← R.len]; exact hk)] at e2
      exact (R.obj k b u e1 e2).kp Kp.add rfl
    · rw [List.getElem?_append_right (Nat.le_of_not_lt hk)] at e1
      rw [List.getElem?_append_right (by rw [← R.len]; exact Nat.le_of_not_lt hk), ← R.len] at e2
      cases hz : k - ρ.length with
      | zero =>
        rw [hz] at e1 e2
        simp at e1 e2
        subst e1; subst e2
        exact h.kp Kp.add rfl
      | succ z => rw [hz] at e1; simp at e1
theorem Rel.loc (R : Rel K κ ρ H s) {n : Nat} {v : V} {o : MO} (h : VR K κ ρ H (.loc n) v) (e : s[n]? = some o) : ∃ a, ρ[n]? = some a ∧ v = .ref a ∧ OR K κ ρ H a o := by
  simp only [VR] at h
  obtain ⟨a, e1, e2⟩ := h
  exact ⟨a, e1, e2, R.obj n a o e1 e⟩
theorem VR.last : VR K κ (ρ ++ [a]) H (.loc ρ.length) (.ref a) := by
  simp only [VR]
  exact ⟨a, by simp, rfl⟩
end
end Mid
/-! MidT: tuples, made: each has no dict of its own. -/
namespace Mid
open PySem PySem.Spec L2
open PyProof.Rows (IsTup)
section
variable {X : Cx} {pins : List (Addr × Obj)} {σ : L2.St} {H : Hp} {s : Shared} {es : List Expr} {pos : Pos} {t : TA}
/-- a new tuple, kept locked -/
theorem lay_tup {xs : List V} {its : List Value} {h' : Heap} {a : Addr} {tk : Nat} (I : Inv X pins σ H s) (k : ∀ b u, s.heap.get? b = some u → h'.get? b = some u) (hp : s.heap.objs.size ≤ a) (ha : h'.get? a = some (tupO its)) (hz : xs.length ≤ sizeLine) (r : Vals xs its) :
    Inv X pins σ (upd H a (.frz (tupO its) (.tup xs))) { s with heap := h', toks := tk } :=
  I.laid (t' := tk) k hp (show ObjOk X.prog X.w _ _ _ (.frz (tupO its) (.tup xs)) from ⟨ha, hz, its, r, ⟨_, ha, rfl, _, rfl⟩⟩)
def tTupD (t : TA) : TE := fun σ H Q => t σ H fun xs H1 => xs.length ≤ sizeLine ∧ ∀ p its, H1 p = none → Q (.ref p) (upd H1 p (.frz (tupO its) (.tup xs)))
theorem pe_tupD {x1} (h : PA X es t) : PE X (.Tuple es x1 pos) (tTupD t) :=
  ⟨fun pins s σ H Q I hq => wpAny_Tuple_spliced (thn (h.run pos pins s σ H _ I hq) fun us s1 ⟨xs, H1, I1, r, z, q⟩ => ⟨by rw [← r.length]; exact z,
    ⟨.ref s1.heap.objs.size, _, lay_tup (tk := s1.toks) (its := us) I1 (fun b u e => Heap.get?_push_of_some _ e) (Nat.le_refl _) (Heap.get?_push_size _ rfl) z r, rfl, q _ us (I1.hok.fresh (Nat.le_refl _))⟩⟩)⟩
/-- tuple(xs) -/
theorem call_tupleD : CallR X (.type "tuple") (fun xs H Q => ∃ p ys, xs = [.ref p] ∧ ((SqL X.K H p ys ∧ ∀ l its, H l = none → Q (.ref l) (upd H l (.frz (tupO its) (.tup ys)))) ∨ (SqT X.K H p ys ∧ Q (.ref p) H))) := by
  intro pins s σ H xs us Q I r h
  obtain ⟨p, ys, rfl, h⟩ := h; obtain ⟨u, rfl, rx⟩ := vals1 r; cases rx
  rcases h with ⟨hq, q⟩ | ⟨hq, q⟩
  · obtain ⟨its, r', pl, hz⟩ := I.list hq; have hlen := r'.length
    refine call_tuple_list pl.isList (fun h' kp => ?_) (by simp only [List.size_toArray]; omega)
    have I1 : Inv X pins σ H { s with heap := h' } := I.kept (t' := s.toks) kp
    exact ⟨.ref h'.objs.size, _, lay_tup (s := { s with heap := h' }) (tk := s.toks) (its := its) I1 (fun b o e => Heap.get?_push_of_some _ e) (Nat.le_refl _) (Heap.get?_push_size _ rfl) hz r', rfl, q _ its (I1.hok.fresh (Nat.le_refl _))⟩
  · obtain ⟨its, r', pl, hz⟩ := I.tuple hq; exact call_tuple_same pl ⟨.ref p, H, I, rfl, q⟩
/-- t[lo:hi] -/
def rSlD (K : PySem.W.Frag) : V → Option Int → Option Int → Hp → VK → Prop := fun x lo hi H Q => ∃ a xs, x = .ref a ∧ SqT K H a xs ∧
  (HT.sIx xs.length 0 lo = 0 ∧ HT.sIx xs.length xs.length hi = xs.length → Q (.ref a) H) ∧ (¬ (HT.sIx xs.length 0 lo = 0 ∧ HT.sIx xs.length xs.length hi = xs.length) → ∀ p its, H p = none → Q (.ref p) (upd H p (.frz (tupO its) (.tup (cutV xs lo hi)))))
theorem sl_tupD : SlR X (rSlD X.K) := by
  intro pins s σ H x v vl vu lo hi sl Q I rx hs pl pu h
  obtain ⟨a, xs, rfl, hx, q1, q2⟩ := h; cases rx; obtain ⟨its, r, ht, hz⟩ := I.tuple hx
  have hlen : its.toArray.size = xs.length := by rw [List.size_toArray]; exact r.length.symm
  refine ⟨"tuple", _, PyProof.Rows.slot_tuple_getitem.lookup, ht.typeIs, ?_⟩
  by_cases hw : HT.sIx xs.length 0 lo = 0 ∧ HT.sIx xs.length xs.length hi = xs.length
  · exact getItem_tuple_whole ht hs pl pu (by rw [hlen]; exact hw) ⟨.ref a, H, I, rfl, q1 hw⟩
  · refine HT.getItem_tuple_cut ht hs pl pu (by rw [hlen]; exact hw) ?_ (by rw [hlen]; exact hz); rw [hlen]
    exact ⟨.ref s.heap.objs.size, _, lay_tup (tk := s.toks) (xs := cutV xs lo hi) I (fun b ob q => Heap.get?_push_of_some _ q) (Nat.le_refl _) (Heap.get?_push_size _ rfl) (Nat.le_trans (cutV_length xs lo hi) hz) ((r.drop (HT.sIx xs.length 0 lo)).take (HT.sIx xs.length xs.length hi - HT.sIx xs.length 0 lo)), rfl, q2 hw _ _ (I.hok.fresh (Nat.le_refl _))⟩
/-- t + u -/
def rCatD (K : PySem.W.Frag) : R2 := fun x y H Q => ∃ a b xs ys, x = .ref a ∧ y = .ref b ∧ SqT K H a xs ∧ SqT K H b ys ∧ xs.length + ys.length ≤ sizeLine ∧
  (xs = [] → Q (.ref b) H) ∧ (xs ≠ [] → ys = [] → Q (.ref a) H) ∧ (xs ≠ [] → ys ≠ [] → ∀ p its, H p = none → Q (.ref p) (upd H p (.frz (tupO its) (.tup (xs ++ ys)))))
theorem op_catD : OpR X (binaryOp .Add) (rCatD X.K) := by
  intro pins s σ H x y v u Q I rx ry h
  obtain ⟨a, b, xs, ys, rfl, rfl, ha, hb, hz, q0, q1, q2⟩ := h; cases rx; cases ry
  obtain ⟨its, r1, p1, _⟩ := I.tuple ha; obtain ⟨its2, r2, p2, _⟩ := I.tuple hb
  by_cases hx : xs = []
  · subst hx; cases r1; exact cat_tup0 p1 p2 ⟨.ref b, H, I, rfl, q0 rfl⟩
  · refine HT.cat_tup p1 p2 (fun z => hx (r1.nil_iff.mp z)) (fun z => ⟨.ref a, H, I, rfl, q1 hx (r2.nil_iff.mp z)⟩) (fun z => ?_) (by rw [← r1.length, ← r2.length]; exact hz)
    exact ⟨.ref s.heap.objs.size, _, lay_tup (tk := s.toks) (xs := xs ++ ys) I (fun b ob q => Heap.get?_push_of_some _ q) (Nat.le_refl _) (Heap.get?_push_size _ rfl) (by rw [List.length_append]; exact hz) (r1.append r2), rfl, q2 hx (fun w => z (r2.nil_iff.mpr w)) _ _ (I.hok.fresh (Nat.le_refl _))⟩
/-- a tuple's own object -/
theorem SqD.plain {a : Addr} {xs : List V} (I : Inv X pins σ H s) (h : SqD X.K H a xs) : ∃ its : List Value, Vals xs its ∧ PySem.PlainSeq "tuple" s.heap a its.toArray ∧ xs.length ≤ sizeLine := by
  rcases h with ⟨its0, h⟩ | ⟨o, its, n, hk, hc, hd, hs, hz, r⟩
  · obtain ⟨g, z, its, r, o, ho, _, n, hd⟩ := I.hok a _ h
    rw [g] at ho; cases ho
    have e : its0.toArray = its.toArray := by injection hd
    exact ⟨its, r, ⟨_, _, g, rfl, rfl, by rw [← e]; rfl⟩, z⟩
  · exact ⟨its.toList, r, ⟨o, n, I.kIn a o hk, hc, hd, by simpa using hs⟩, by rw [r.length, Array.length_toList]; exact hz⟩
/-- dict(t) of a tuple of pairs -/
theorem call_dictT (hcalm : X.calm = true) : CallR X (.type "dict") (fun xs H Q => ∃ (a : Addr) (ps : List Addr) (kvs : List (Key × V)), xs = [.ref a] ∧ SqD X.K H a (ps.map V.ref) ∧ Paired (fun p kv => SqT X.K H p [kV kv.1, kv.2]) ps kvs ∧
    ∀ p, H p = none → Q (.ref p) (upd H p (.dK (mergeK [] kvs)))) := by
  intro pins s σ H xs us Q I r q
  obtain ⟨a, ps, kvs, rfl, hq, hp, q⟩ := q; obtain ⟨u, rfl, rx⟩ := vals1 r; cases rx
  obtain ⟨its, rv, pl, hz⟩ := SqD.plain I hq
  obtain rfl := refs_at rv
  rw [List.length_map] at hz
  obtain ⟨prs, rel, hl, hpr⟩ := pairs_of I hp
  have ex : ∀ j : Nat, ∃ u : Value, ∀ q : Key × Value, prs[j]? = some q → ∃ b, ps[j]? = some b ∧ IsTup s.heap b #[u, q.2] ∧ keyIs q.1 u = true := fun j => by
    cases e : prs[j]? with
    | none => exact ⟨.none, fun q h => nomatch h⟩
    | some q0 => obtain ⟨b, u, h1, h2, h3⟩ := hpr j q0 e; exact ⟨u, fun q h => by cases h; exact ⟨b, h1, h2, h3⟩⟩
  obtain ⟨f, hf⟩ := Classical.axiomOfChoice ex
  have pat : ∀ j : Nat, (prs.zipIdx.map fun z => (f z.2, z.1.2))[j]? = (prs[j]?).map fun q => (f j, q.2) := fun j => by rw [List.getElem?_map, List.getElem?_zipIdx]; cases prs[j]? <;> simp
  have plen : (prs.zipIdx.map fun z => (f z.2, z.1.2)).length = ps.length := by rw [List.length_map, List.length_zipIdx, hl]
  generalize prs.zipIdx.map (fun z => (f z.2, z.1.2)) = pv at pat plen
  have P := PySem.PairArg.tuple (prog := X.prog) (w := X.w) a (ps.map Value.ref).toArray (fun j => ps.getD j 0) pv
  have ok : PySem.PlainSeq "tuple" s.heap a (ps.map Value.ref).toArray ∧ PySem.PairItems s.heap (ps.map Value.ref).toArray (fun j => ps.getD j 0) pv := ⟨pl, by rw [plen]; simp, fun j k v e => by
    rw [pat] at e
    cases e1 : prs[j]? with
    | none => rw [e1] at e; cases e
    | some q0 =>
      rw [e1] at e; obtain ⟨rfl, rfl⟩ := Prod.mk.inj (Option.some.inj e)
      obtain ⟨b, h1, h2, h3⟩ := hf j q0 e1
      have hb : ps.getD j 0 = b := by rw [List.getD_eq_getElem?_getD, h1]; rfl
      exact ⟨by show _ = some (Value.ref (ps.getD j 0)); rw [hb]; simp [h1], .inl (by show s.heap.IsTuple (ps.getD j 0) _; rw [hb]; exact h2)⟩⟩
  have hv : PySem.PairsHave (mixKind X.prog X.w) pv.length (PySem.PairRel pv) prs := ⟨hl.trans plen.symm, fun i key v e => by
    rw [show PySem.PairRel pv i key v = (pv[i]? = some (key, v)) from rfl, pat] at e
    cases e1 : prs[i]? with
    | none => rw [e1] at e; cases e
    | some q0 =>
      rw [e1] at e; obtain ⟨rfl, rfl⟩ := Prod.mk.inj (Option.some.inj e)
      obtain ⟨b, _, _, h3⟩ := hf i q0 e1
      exact ⟨q0.1, rfl, h3⟩⟩
  refine PySem.call_dict_pairs (knd := mixKind X.prog X.w) P (I.ok.hd hcalm) ok hv (by rw [plen]; exact hz) fun h' tk hd' k => ?_
  have hm : (s.heap.objs.size == sysModules) = false := beq_eq_false_iff_ne.mpr (Nat.ne_of_gt I.big)
  have hlen : (mergeK [] kvs).length ≤ sizeLine := Nat.le_trans (length_mergeK kvs []) (by rw [List.length_nil, Nat.zero_add, rel.length, hl]; exact hz)
  exact ⟨.ref s.heap.objs.size, upd H s.heap.objs.size (.dK (mergeK [] kvs)), I.laid (t' := tk) (fun b o e => k b o (fun h => nomatch h) e) (Nat.le_refl _) (show ObjOk X.prog X.w _ _ _ (.dK (mergeK [] kvs)) from ⟨hlen, hm, merged [] prs, KV.merge rel .nil, hd'⟩), rfl, q _ (I.hok.fresh (Nat.le_refl _))⟩
end
end Mid
/-! Mid2: readings by the plain model; expressions, statements, loops, comprehensions, defs. -/
namespace Mid
open PySem PySem.Spec L2 Classical

section
variable (K : PySem.W.Frag) (κ : Kap)
/-- how an exception lies -/
def XR (ρ : List Addr) (H : Hp) (e : Xv) (cls : Value) (dx : Option Addr) : Prop :=
  cls = .ref (κ e.cls) ∧ match e.fs with
    | none => dx = none
    | some fs => ∃ d vs, dx = some d ∧ H d = some (.xd vs) ∧ vs.map (·.1) = fs.map (·.1) ∧ VRs K κ ρ H (fs.map (·.2)) (vs.map (·.2))
/-- what an end leaves -/
def Fin {α : Type} (W : WX) (ρ : List Addr) (σ : L2.St) (H : Hp) (r : Rm α) (Q : α → List Addr → Mst → Hp → Prop) : Prop := match r with
  | .ok a s => ∀ ρ' H', Step ρ H ρ' H' → Rel K κ ρ' H' s → Q a ρ' s H'
  | .er e s => ∀ ρ' H' cls dx, Step ρ H ρ' H' → Rel K κ ρ' H' s → XR K κ ρ' H' e cls dx → W cls dx σ H'
  | .bad => False
def rd (W : WX) (m : ME) : TE := fun σ H Q => ∃ ρ σd s, Rel K κ ρ H s ∧ ER K κ ρ H σd σ ∧ Fin K κ W ρ σ H (m σd s) fun d ρ' _ H' => ∀ v, VR K κ ρ' H' d v → Q v H'
def rdT (W : WX) (m : MT) : TT := fun σ H Q => ∃ ρ σd s, Rel K κ ρ H s ∧ ER K κ ρ H σd σ ∧ Fin K κ W ρ σ H (m σd s) fun c _ _ H' => Q c H'
def rdA (W : WX) (m : MA) : TA := fun σ H Q => ∃ ρ σd s, Rel K κ ρ H s ∧ ER K κ ρ H σd σ ∧ Fin K κ W ρ σ H (m σd s) fun ds ρ' _ H' => ∀ vs, VRs K κ ρ' H' ds vs → Q vs H'
def FinS (W : WX) (D : Ends) (ρ : List Addr) (H : Hp) (r : Sm) : Prop := match r with
  | .nx σd s => ∀ ρ' H' σ', Step ρ H ρ' H' → Rel K κ ρ' H' s → ER K κ ρ' H' σd σ' → D.nx σ' H'
  | .ct σd s => ∀ ρ' H' σ', Step ρ H ρ' H' → Rel K κ ρ' H' s → ER K κ ρ' H' σd σ' → D.ct σ' H'
  | .bk σd s => ∀ ρ' H' σ', Step ρ H ρ' H' → Rel K κ ρ' H' s → ER K κ ρ' H' σd σ' → D.bk σ' H'
  | .rt d s => ∀ ρ' H' v, Step ρ H ρ' H' → Rel K κ ρ' H' s → VR K κ ρ' H' d v → D.rt v H'
  | .er e σd s => ∀ ρ' H' σ' cls dx, Step ρ H ρ' H' → Rel K κ ρ' H' s → ER K κ ρ' H' σd σ' → XR K κ ρ' H' e cls dx → W cls dx σ' H'
  | .bad => False
def rdS (W : WX) (m : MS) : TS := fun D σ H => ∃ ρ σd s, Rel K κ ρ H s ∧ ER K κ ρ H σd σ ∧ FinS K κ W D ρ H (m σd s)
/-- a def's promise: it does what F does -/
def spF (n : Nat) (F : MF) : Sp := fun vs H Q E => vs.length = n ∧ ∃ ρ ds s, Rel K κ ρ H s ∧ VRs K κ ρ H ds vs ∧ Fin K κ (fun c d _ H' => E c d H') ρ [] H (F ds s) fun d ρ' _ H' => ∀ v, VR K κ ρ' H' d v → Q v H'
end

section
variable {K : PySem.W.Frag} {κ : Kap} {W : WX} {ρ ρ1 : List Addr} {σ : L2.St} {H H1 : Hp} {s : Mst} {α β : Type}
theorem Fin.mono {r : Rm α} {Q Q' : α → List Addr → Mst → Hp → Prop} (h : Fin K κ W ρ σ H r Q) (f : ∀ a ρ' s' H', Step ρ H ρ' H' → Rel K κ ρ' H' s' → Q a ρ' s' H' → Q' a ρ' s' H') : Fin K κ W ρ σ H r Q' := by
  cases r with
  | ok a s => exact fun ρ' H' x R => f a ρ' s H' x R (h ρ' H' x R)
  | er e s => exact h
  | bad => exact h
theorem Fin.step {r : Rm α} {Q : α → List Addr → Mst → Hp → Prop} (h : Fin K κ W ρ σ H r Q) (x : Step ρ H ρ1 H1) : Fin K κ W ρ1 σ H1 r Q := by
  cases r with
  | ok a s => exact fun ρ' H' y R => h ρ' H' (x.trans y) R
  | er e s => exact fun ρ' H' cls dx y R => h ρ' H' cls dx (x.trans y) R
  | bad => exact h
theorem Fin.bind {r : Rm α} {f : α → Mst → Rm β} {Q : β → List Addr → Mst → Hp → Prop} (h : Fin K κ W ρ σ H (r.bind f) Q) : Fin K κ W ρ σ H r fun a ρ' s' H' => Fin K κ W ρ' σ H' (f a s') Q := by
  cases r with
  | ok a s => exact fun ρ' H' x R => Fin.step h x
  | er e s => exact h
  | bad => exact h
theorem FinS.step {D : Ends} {r : Sm} (h : FinS K κ W D ρ H r) (x : Step ρ H ρ1 H1) : FinS K κ W D ρ1 H1 r := by
  cases r with
  | nx σd s => exact fun ρ' H' σ' y R => h ρ' H' σ' (x.trans y) R
  | ct σd s => exact fun ρ' H' σ' y R => h ρ' H' σ' (x.trans y) R
  | bk σd s => exact fun ρ' H' σ' y R => h ρ' H' σ' (x.trans y) R
  | rt d s => exact fun ρ' H' σ' y R => h ρ' H' σ' (x.trans y) R
  | er e σd s => exact fun ρ' H' σ' c d y R => h ρ' H' σ' c d (x.trans y) R
  | bad => exact h
/-- a statement that begins with an expression -/
theorem FinS.st {D : Ends} {r : Rm α} {σd : Men} {f : α → Mst → Sm} (h : FinS K κ W D ρ H (r.st σd f)) (R : Rel K κ ρ H s) (hE : ER K κ ρ H σd σ) : Fin K κ W ρ σ H r fun a ρ' s' H' => FinS K κ W D ρ' H' (f a s') := by
  cases r with
  | ok a s => exact fun ρ' H' x R => FinS.step h x
  | er e s => exact fun ρ' H' cls dx x R' q => h ρ' H' σ cls dx x R' (hE.later R x) q
  | bad => exact h
end

/-! ### the rules -/
section
variable {X : Cx} {κ : Kap} {W : WX}
abbrev LE (X : Cx) (κ : Kap) (W : WX) (e : Expr) (m : ME) : Prop := PE X e (rd X.K κ W m)
abbrev LT (X : Cx) (κ : Kap) (W : WX) (e : Expr) (m : MT) : Prop := PT X e (rdT X.K κ W m)
abbrev LA (X : Cx) (κ : Kap) (W : WX) (es : List Expr) (ms : List ME) : Prop := PA X es (rdA X.K κ W (mArgs ms))
abbrev LS (X : Cx) (κ : Kap) (W : WX) (st : Stmt) (m : MS) : Prop := PS X st (rdS X.K κ W m)
abbrev LSs (X : Cx) (κ : Kap) (W : WX) (st : List Stmt) (m : MS) : Prop := PSs X st (rdS X.K κ W m)
theorem PE.by {e : Expr} {t t' : TE} (h : PE X e t) (f : ∀ σ H Q, t' σ H Q → t σ H Q) : PE X e t' := ⟨fun pins s σ H Q I q => h.run pins s σ H Q I (f σ H Q q)⟩
theorem PT.by {e : Expr} {t t' : TT} (h : PT X e t) (f : ∀ σ H Q, t' σ H Q → t σ H Q) : PT X e t' := ⟨fun pins s σ H Q I q => h.run pins s σ H Q I (f σ H Q q)⟩
theorem PA.by {e : List Expr} {t t' : TA} (h : PA X e t) (f : ∀ σ H Q, t' σ H Q → t σ H Q) : PA X e t' := ⟨fun ps pins s σ H Q I q => h.run ps pins s σ H Q I (f σ H Q q)⟩
theorem PS.by {e : Stmt} {t t' : TS} (h : PS X e t) (f : ∀ D σ H, t' D σ H → t D σ H) : PS X e t' := ⟨fun pins s σ H D I q => h.run pins s σ H D I (f D σ H q)⟩
theorem PSs.by {e : List Stmt} {t t' : TS} (h : PSs X e t) (f : ∀ D σ H, t' D σ H → t D σ H) : PSs X e t' := ⟨fun pins s σ H D I q => h.run pins s σ H D I (f D σ H q)⟩

variable {pos : Pos} {a b c e : Expr} {ma mb mc me : ME} {ta tb : MT} {es : List Expr} {ms : List ME}
/-! names and constants -/
theorem le_var (i : Nat) {x : Str} (hN : X.N[i]? = some x := by rfl) (hv : Vis X.env.scope x := by first | exact Or.inl rfl | exact Or.inr (Or.inl rfl) | exact Or.inr (Or.inr rfl)) (hd : (x == ("__debug__" : Str)) = false := by decide)
    (hcd : (x == ("__classdict__" : Str)) = false := by decide) : LE X κ W (.Name x pos) (mVar i) := by
  refine PE.by (pe_var hN hv hd hcd) fun σ H Q ⟨ρ, σd, s, R, hE, h⟩ => ?_
  unfold mVar at h
  cases q : σd[i]? with
  | none => rw [q] at h; exact h.elim
  | some o =>
    cases o with
    | none => rw [q] at h; exact h.elim
    | some d =>
      rw [q] at h
      obtain ⟨v, e, r⟩ := hE.at_ i d q
      exact ⟨v, e, h ρ H Step.refl R v r⟩
theorem le_c {d : Dv} {v : V} (h : PE X e (tC v)) (hd : ∀ (ρ : List Addr) (H : Hp), VR X.K κ ρ H d v) : LE X κ W e (mC d) :=
  PE.by h fun σ H Q ⟨ρ, σd, s, R, hE, h⟩ => h ρ H Step.refl R v (hd ρ H)
theorem le_int {i : Int} {j} : LE X κ W (.Constant (.int i) j pos) (mC (.int i)) := le_c pe_int fun _ _ => by simp only [VR]
theorem le_bl {b : Bool} {j} : LE X κ W (.Constant (.bool b) j pos) (mC (.bl b)) := le_c pe_bl fun _ _ => by simp only [VR]
theorem le_non {j} : LE X κ W (.Constant .none j pos) (mC .non) := le_c pe_non fun _ _ => by simp only [VR]
theorem le_str {x : Str} {j} : LE X κ W (.Constant (.str x) j pos) (mC (.str x)) := le_c pe_str fun _ _ => by simp only [VR]

/-! operators by values -/
def OpL (X : Cx) (κ : Kap) (r : R2) (f : Dv → Dv → Mst → Rm Dv) : Prop := ∀ W ρ σ H s x y dx dy Q, Rel X.K κ ρ H s → VR X.K κ ρ H dx x → VR X.K κ ρ H dy y → Fin X.K κ W ρ σ H (f dx dy s) (fun d ρ' _ H' => ∀ v, VR X.K κ ρ' H' d v → Q v H') → r x y H Q
def UnL (X : Cx) (κ : Kap) (r : V → Hp → VK → Prop) (f : Dv → Mst → Rm Dv) : Prop := ∀ W ρ σ H s x dx Q, Rel X.K κ ρ H s → VR X.K κ ρ H dx x → Fin X.K κ W ρ σ H (f dx s) (fun d ρ' _ H' => ∀ v, VR X.K κ ρ' H' d v → Q v H') → r x H Q
theorem rd_op {r : R2} {f : Dv → Dv → Mst → Rm Dv} (L : OpL X κ r f) {σ : L2.St} {H : Hp} {Q : VK} (h : rd X.K κ W (mOp f ma mb) σ H Q) : tOp r (rd X.K κ W ma) (rd X.K κ W mb) σ H Q := by
  obtain ⟨ρ, σd, s, R, hE, h⟩ := h
  exact ⟨ρ, σd, s, R, hE, (Fin.bind h).mono fun dx ρ1 s1 H1 x1 R1 h1 vx hx => ⟨ρ1, σd, s1, R1, hE.later R x1, (Fin.bind h1).mono fun dy ρ2 s2 H2 x2 R2 h2 vy hy => L W ρ2 σ H2 s2 vx vy dx dy Q R2 (VR.later R1 x2 _ _ hx) hy h2⟩⟩
theorem le_op {op : Operator} {r : R2} {f : Dv → Dv → Mst → Rm Dv} (ho : OpR X (binaryOp op) r) (L : OpL X κ r f) (ha : LE X κ W a ma) (hb : LE X κ W b mb) : LE X κ W (.BinOp a op b pos) (mOp f ma mb) :=
  PE.by (pe_op ho ha hb) fun σ H Q h => rd_op L h
theorem le_cmp {op : CmpOp} {r : R2} {f : Dv → Dv → Mst → Rm Dv} (ho : OpR X (compareOp op) r) (L : OpL X κ r f) (ha : LE X κ W a ma) (hb : LE X κ W b mb) (hm : behindInMarks op b = false := by first | exact nomark _ | rfl) : LE X κ W (.Compare a [op] [b] pos) (mOp f ma mb) :=
  PE.by (pe_cmpR ho ha hb hm) fun σ H Q h => rd_op L h
theorem rd_chain {r r' : R2} {f g : Dv → Dv → Mst → Rm Dv} (L : OpL X κ r f) (L' : OpL X κ r' g) {mc : ME} {σ : L2.St} {H : Hp} {Q : VK} (h : rd X.K κ W (mChain f g ma mb mc) σ H Q) : tChain r r' (rd X.K κ W ma) (rd X.K κ W mb) (rd X.K κ W mc) σ H Q := by
  obtain ⟨ρ, σd, s, R, hE, h⟩ := h
  exact ⟨ρ, σd, s, R, hE, (Fin.bind h).mono fun dx ρ1 s1 H1 x1 R1 h1 vx hx => ⟨ρ1, σd, s1, R1, hE.later R x1, (Fin.bind h1).mono fun dy ρ2 s2 H2 x2 R2 h2 vy hy => L W ρ2 σ H2 s2 vx vy dx dy _ R2 (VR.later R1 x2 _ _ hx) hy ((Fin.bind h2).mono fun z ρ3 s3 H3 x3 R3 h3 v hv => by
    cases z with
    | bl c =>
      refine ⟨c, by simpa only [VR] using hv, ?_⟩
      cases c with
      | false => exact h3 ρ3 H3 Step.refl R3 _ (by simp only [VR])
      | true => exact ⟨ρ3, σd, s3, R3, ((hE.later R x1).later R1 x2).later R2 x3, (Fin.bind h3).mono fun dw ρ4 s4 H4 x4 R4 h4 vw hw => L' W ρ4 σ H4 s4 vy vw dy dw Q R4 (VR.later R3 x4 _ _ (VR.later R2 x3 _ _ hy)) hw h4⟩
    | _ => exact h3.elim)⟩⟩
theorem le_chain {op op' : CmpOp} {r r' : R2} {f g : Dv → Dv → Mst → Rm Dv} {c : Expr} {mc : ME} (ho : OpR X (compareOp op) r) (L : OpL X κ r f) (ho' : OpR X (compareOp op') r') (L' : OpL X κ r' g) (ha : LE X κ W a ma) (hb : LE X κ W b mb) (hc : LE X κ W c mc) (hm : lastMarks [op, op'] [b, c] = false := by with_unfolding_all rfl) : LE X κ W (.Compare a [op, op'] [b, c] pos) (mChain f g ma mb mc) :=
  PE.by (pe_chain ho ho' ha hb hc hm) fun σ H Q h => rd_chain L L' h
theorem le_un {op : UnaryOp} {r : V → Hp → VK → Prop} {f : Dv → Mst → Rm Dv} (ho : UnR X (unaryOp op) r) (L : UnL X κ r f) (ha : LE X κ W a ma) : LE X κ W (.UnaryOp op a pos) (mUn f ma) :=
  PE.by (pe_un ho ha) fun σ H Q ⟨ρ, σd, s, R, hE, h⟩ => ⟨ρ, σd, s, R, hE, (Fin.bind h).mono fun dx ρ1 s1 H1 x1 R1 h1 vx hx => L W ρ1 σ H1 s1 vx dx Q R1 hx h1⟩
theorem le_ix {r : R2} {f : Dv → Dv → Mst → Rm Dv} (ho : IxR X r) (L : OpL X κ r f) (ha : LE X κ W a ma) (hb : LE X κ W b mb) (hs : PlainIx b) : LE X κ W (.Subscript a b pos) (mOp f ma mb) :=
  PE.by (pe_ix ho ha hb hs) fun σ H Q h => rd_op L h

/-! arguments, displays -/
theorem la_nil : LA X κ W [] [] := PA.by pa_nil fun σ H Q ⟨ρ, σd, s, R, hE, h⟩ => h ρ H Step.refl R [] .nil
theorem la_cons (ha : LE X κ W e me) (hr : LA X κ W es ms) (hs : starEach (e :: es) X.env = (false, eval e X.env) :: starEach es X.env := by rfl) : LA X κ W (e :: es) (me :: ms) :=
  PA.by (pa_cons ha hr hs) fun σ H Q ⟨ρ, σd, s, R, hE, h⟩ => ⟨ρ, σd, s, R, hE, (Fin.bind h).mono fun dx ρ1 s1 H1 x1 R1 h1 vx hx => ⟨ρ1, σd, s1, R1, hE.later R x1, (Fin.bind h1).mono fun ds ρ2 s2 H2 x2 R2 h2 vs hvs =>
    h2 ρ2 H2 Step.refl R2 _ (.cons (VR.later R1 x2 _ _ hx) hvs)⟩⟩
theorem mArgs_len : ∀ {ms : List ME} {σ : Men} {s s1 : Mst} {ds : List Dv}, mArgs ms σ s = .ok ds s1 → ds.length = ms.length
  | [], σ, s, s1, ds, h => by cases h; rfl
  | m :: ms, σ, s, s1, ds, h => by
    have h' : ((m σ s).bind fun d s1 => (mArgs ms σ s1).bind fun ds s2 => .ok (d :: ds) s2) = .ok ds s1 := h
    cases e : m σ s with
    | bad => rw [e] at h'; cases h'
    | er x s2 => rw [e] at h'; cases h'
    | ok d s2 =>
      rw [e] at h'
      simp only [Rm.bind_ok] at h'
      cases e2 : mArgs ms σ s2 with
      | bad => rw [e2] at h'; cases h'
      | er x s3 => rw [e2] at h'; cases h'
      | ok r s3 =>
        rw [e2] at h'
        simp only [Rm.bind_ok] at h'
        cases h'
        simp [mArgs_len e2]
/-- what args give has their number -/
theorem Fin.args {K : PySem.W.Frag} {ρ : List Addr} {σ : L2.St} {H : Hp} {σd : Men} {s : Mst} {Q : List Dv → List Addr → Mst → Hp → Prop} (h : Fin K κ W ρ σ H (mArgs ms σd s) Q) : Fin K κ W ρ σ H (mArgs ms σd s) fun ds ρ' s' H' => ds.length = ms.length ∧ Q ds ρ' s' H' := by
  cases e : mArgs ms σd s with
  | ok ds s1 => rw [e] at h; exact fun ρ' H' x R => ⟨mArgs_len e, h ρ' H' x R⟩
  | er x s1 => rw [e] at h; exact h
  | bad => rw [e] at h; exact h
theorem le_tup {x1} (h : LA X κ W es ms) (hl : ms.length ≤ 1000 := by decide) : LE X κ W (.Tuple es x1 pos) (mTup ms) :=
  PE.by (pe_tupD h) fun σ H Q ⟨ρ, σd, s, R, hE, q⟩ => ⟨ρ, σd, s, R, hE, (Fin.args (Fin.bind q)).mono fun ds ρ1 s1 H1 x1 R1 ⟨hn, h1⟩ vs hvs => ⟨by
      have := hvs.length
      have := small1000 hl
      omega, fun p its np => h1 ρ1 _ (Step.lay np) (R1.lay np) _ (by simp only [VR]; exact ⟨p, vs, rfl, .inl ⟨its, upd_same⟩, VRs.later R1 (Step.lay np) _ _ hvs⟩)⟩⟩
theorem le_lst (h : LA X κ W es ms) (hl : ms.length ≤ 1000 := by decide) : LE X κ W (.List es pos) (mLst ms) :=
  PE.by (pe_lst h) fun σ H Q ⟨ρ, σd, s, R, hE, q⟩ => ⟨ρ, σd, s, R, hE, (Fin.args (Fin.bind q)).mono fun ds ρ1 s1 H1 x1 R1 ⟨hn, h1⟩ vs hvs => ⟨by
      have := hvs.length
      have := small1000 hl
      omega, fun p np => h1 _ _ (Step.new np) (R1.new np ⟨vs, upd_same, VRs.later R1 (Step.new np) _ _ hvs⟩) _ (by rw [← R1.len]; exact VR.last)⟩⟩

/-! calls -/
theorem le_call {CX : CXT} {k : Nat} {f : Addr} {fd : FuncData} {ps : List Str} {n : Nat} {F : MF} {x : Str} {p : Pos} {E : XK} (G : FnOk X.prog X.w X.K X.mg X.base CX k f fd ps (spF X.K κ n F)) (hr : Room k X.A) (hg : Gl X x) (hm : X.mg x = some (.ref f))
    (hk : PySem.W.keepIn X.K (.ref f) = true) (hb : Binds X.K fd ps []) (hx : Passes CX X E) (hE : ∀ c d σ H, W c d σ H → E c d H) (ha : LA X κ W (e :: es) ms) (hn : ms.length = n := by rfl) (hdb : (x == ("__debug__" : Str)) = false := by decide) (he : starEach (e :: es) X.env = (false, eval e X.env) :: starEach es X.env := by rfl)
    (hpl : (backTo pos (starEach es X.env)).any (·.1) = false := by rfl) : LE X κ W (.Call (.Name x p) (e :: es) [] pos) (mCall F ms) :=
  PE.by (pe_call (E := E) G hr hg hm hk hb .nil hx ha hdb he hpl) fun σ H Q ⟨ρ, σd, s, R, hEr, q⟩ => ⟨ρ, σd, s, R, hEr, (Fin.args (Fin.bind q)).mono fun ds ρ1 s1 H1 x1 R1 ⟨hnn, h1⟩ vs hvs => by
    show spF X.K κ n F (vs ++ []) H1 Q E
    rw [List.append_nil]
    refine ⟨by rw [hvs.length, hnn, hn], ρ1, ds, s1, R1, hvs, ?_⟩
    cases e2 : F ds s1 with
    | ok d s2 => rw [e2] at h1; exact h1
    | er z s2 => rw [e2] at h1; exact fun ρ' H' c d x R q => hE _ _ σ _ (h1 ρ' H' c d x R q)
    | bad => rw [e2] at h1; exact h1.elim⟩

/-! tests -/
theorem Fin.tval {K : PySem.W.Frag} {ρ : List Addr} {σ : L2.St} {H : Hp} {m : ME} {σd : Men} {s : Mst} {Q : Bool → List Addr → Mst → Hp → Prop} (h : Fin K κ W ρ σ H (mtVal m σd s) Q) :
    Fin K κ W ρ σ H (m σd s) fun d ρ' s' H' => ∃ c, d = .bl c ∧ Fin K κ W ρ' σ H' (.ok c s') Q :=
  (Fin.bind h).mono fun d ρ' s' H' x R q => by
    cases d with
    | bl c => exact ⟨c, rfl, q⟩
    | non => exact q.elim
    | int i => exact q.elim
    | str x => exact q.elim
    | tup l => exact q.elim
    | ptup l => exact q.elim
    | clst l => exact q.elim
    | loc n => exact q.elim
    | fix n => exact q.elim
    | ty n => exact q.elim
theorem VR.bl {K : PySem.W.Frag} {ρ : List Addr} {H : Hp} {c : Bool} {v : V} (h : VR K κ ρ H (.bl c) v) : v = .bl c := by simpa only [VR] using h
theorem VR.int {K : PySem.W.Frag} {ρ : List Addr} {H : Hp} {c : Int} {v : V} (h : VR K κ ρ H (.int c) v) : v = .int c := by simpa only [VR] using h
theorem VR.str {K : PySem.W.Frag} {ρ : List Addr} {H : Hp} {c : Str} {v : V} (h : VR K κ ρ H (.str c) v) : v = .str c := by simpa only [VR] using h
theorem VR.non {K : PySem.W.Frag} {ρ : List Addr} {H : Hp} {v : V} (h : VR K κ ρ H .non v) : v = .non := by simpa only [VR] using h
theorem lt_val (h : LE X κ W e me) (he : ∀ whole, isTrue e X.env whole = (do let v ← whole; standAt e.pos; holding [v] (truthy v)) := by intro _; rfl) : LT X κ W e (mtVal me) :=
  PT.by (pt_val h he) fun σ H Q ⟨ρ, σd, s, R, hE, q⟩ => ⟨ρ, σd, s, R, hE, (Fin.tval q).mono fun d ρ1 s1 H1 x1 R1 ⟨c, e, h1⟩ v hv => by
    subst e
    exact ⟨c, hv.bl, h1 ρ1 H1 Step.refl R1⟩⟩
theorem lt_cmp {op : CmpOp} {r : R2} {f : Dv → Dv → Mst → Rm Dv} (ho : OpR X (compareOp op) r) (L : OpL X κ r f) (ha : LE X κ W a ma) (hb : LE X κ W b mb) (hm : behindInMarks op b = false := by first | exact nomark _ | rfl) : LT X κ W (.Compare a [op] [b] pos) (mtVal (mOp f ma mb)) :=
  PT.by (pt_cmpR ho ha hb hm) fun σ H Q ⟨ρ, σd, s, R, hE, q⟩ => rd_op L ⟨ρ, σd, s, R, hE, (Fin.tval q).mono fun d ρ1 s1 H1 x1 R1 ⟨c, e, h1⟩ v hv => by
    subst e
    exact ⟨c, hv.bl, h1 ρ1 H1 Step.refl R1⟩⟩
theorem lt_chain {op op' : CmpOp} {r r' : R2} {f g : Dv → Dv → Mst → Rm Dv} {c : Expr} {mc : ME} (ho : OpR X (compareOp op) r) (L : OpL X κ r f) (ho' : OpR X (compareOp op') r') (L' : OpL X κ r' g) (ha : LE X κ W a ma) (hb : LE X κ W b mb) (hc : LE X κ W c mc) (hm : lastMarks [op, op'] [b, c] = false := by with_unfolding_all rfl) : LT X κ W (.Compare a [op, op'] [b, c] pos) (mtVal (mChain f g ma mb mc)) :=
  PT.by (pt_chain ho ho' ha hb hc hm) fun σ H Q ⟨ρ, σd, s, R, hE, q⟩ => rd_chain L L' ⟨ρ, σd, s, R, hE, (Fin.tval q).mono fun d ρ1 s1 H1 x1 R1 ⟨c, e, h1⟩ v hv => by
    subst e
    exact ⟨c, hv.bl, h1 ρ1 H1 Step.refl R1⟩⟩
abbrev LW (X : Cx) (κ : Kap) (W : WX) (e : Expr) (m : MT) : Prop := PW X e (rdT X.K κ W m)
theorem PW.by {e : Expr} {t t' : TT} (h : PW X e t) (f : ∀ σ H Q, t' σ H Q → t σ H Q) : PW X e t' := ⟨fun wh pins s σ H Q I q => h.run wh pins s σ H Q I (f σ H Q q)⟩
theorem lw_and1 (h : LT X κ W a ta) : LW X κ W (.BoolOp .And [a] pos) ta := pw_and1 h
theorem lw_or1 (h : LT X κ W a ta) : LW X κ W (.BoolOp .Or [a] pos) ta := pw_or1 h
theorem lw_and (ha : LT X κ W a ta) (hb : LW X κ W (.BoolOp .And (b :: es) pos) tb) : LW X κ W (.BoolOp .And (a :: b :: es) pos) (mtAnd ta tb) :=
  PW.by (pw_and ha hb) fun σ H Q ⟨ρ, σd, s, R, hE, q⟩ => ⟨ρ, σd, s, R, hE, (Fin.bind q).mono fun c ρ1 s1 H1 x1 R1 h1 => by
    cases c with
    | true => exact ⟨ρ1, σd, s1, R1, hE.later R x1, h1⟩
    | false => exact h1 ρ1 H1 Step.refl R1⟩
theorem lw_or (ha : LT X κ W a ta) (hb : LW X κ W (.BoolOp .Or (b :: es) pos) tb) : LW X κ W (.BoolOp .Or (a :: b :: es) pos) (mtOr ta tb) :=
  PW.by (pw_or ha hb) fun σ H Q ⟨ρ, σd, s, R, hE, q⟩ => ⟨ρ, σd, s, R, hE, (Fin.bind q).mono fun c ρ1 s1 H1 x1 R1 h1 => by
    cases c with
    | false => exact ⟨ρ1, σd, s1, R1, hE.later R x1, h1⟩
    | true => exact h1 ρ1 H1 Step.refl R1⟩
theorem lt_w (h : LW X κ W e ta) : LT X κ W e ta := PW.pt h
theorem lt_not (ha : LT X κ W a ta) : LT X κ W (.UnaryOp .Not a pos) (mtNot ta) :=
  PT.by (pt_not ha) fun σ H Q ⟨ρ, σd, s, R, hE, q⟩ => ⟨ρ, σd, s, R, hE, (Fin.bind q).mono fun c ρ1 s1 H1 x1 R1 h1 => h1 ρ1 H1 Step.refl R1⟩
/-! and, or, not, if as values -/
theorem le_one {op} (h : LE X κ W a ma) : LE X κ W (.BoolOp op [a] pos) ma := pe_one h
theorem le_and (ha : LE X κ W a ma) (hb : LE X κ W (.BoolOp .And (b :: es) pos) mb) : LE X κ W (.BoolOp .And (a :: b :: es) pos) (mAnd ma mb) :=
  PE.by (pe_and ha hb) fun σ H Q ⟨ρ, σd, s, R, hE, q⟩ => ⟨ρ, σd, s, R, hE, (Fin.tval (Fin.bind q)).mono fun d ρ1 s1 H1 x1 R1 ⟨c, e, h1⟩ v hv => by
    subst e
    have h2 := h1 ρ1 H1 Step.refl R1
    refine ⟨c, hv.bl, ?_⟩
    cases c with
    | true => exact ⟨ρ1, σd, s1, R1, hE.later R x1, h2⟩
    | false => exact h2 ρ1 H1 Step.refl R1 _ (by simp only [VR])⟩
theorem le_or (ha : LE X κ W a ma) (hb : LE X κ W (.BoolOp .Or (b :: es) pos) mb) : LE X κ W (.BoolOp .Or (a :: b :: es) pos) (mOr ma mb) :=
  PE.by (pe_or ha hb) fun σ H Q ⟨ρ, σd, s, R, hE, q⟩ => ⟨ρ, σd, s, R, hE, (Fin.tval (Fin.bind q)).mono fun d ρ1 s1 H1 x1 R1 ⟨c, e, h1⟩ v hv => by
    subst e
    have h2 := h1 ρ1 H1 Step.refl R1
    refine ⟨c, hv.bl, ?_⟩
    cases c with
    | false => exact ⟨ρ1, σd, s1, R1, hE.later R x1, h2⟩
    | true => exact h2 ρ1 H1 Step.refl R1 _ (by simp only [VR])⟩
theorem le_not (ha : LE X κ W a ma) : LE X κ W (.UnaryOp .Not a pos) (mNot ma) :=
  PE.by (pe_not ha) fun σ H Q ⟨ρ, σd, s, R, hE, q⟩ => ⟨ρ, σd, s, R, hE, (Fin.tval (Fin.bind q)).mono fun d ρ1 s1 H1 x1 R1 ⟨c, e, h1⟩ v hv => by
    subst e
    have h2 := h1 ρ1 H1 Step.refl R1
    exact ⟨c, hv.bl, h2 ρ1 H1 Step.refl R1 _ (by simp only [VR])⟩⟩
theorem le_if (hc : LT X κ W c ta) (ha : LE X κ W a ma) (hb : LE X κ W b mb) : LE X κ W (.IfExp c a b pos) (mIf ta ma mb) :=
  PE.by (pe_ifExp hc ha hb) fun σ H Q ⟨ρ, σd, s, R, hE, q⟩ => ⟨ρ, σd, s, R, hE, (Fin.bind q).mono fun c ρ1 s1 H1 x1 R1 h1 => by
    cases c with
    | true => exact ⟨ρ1, σd, s1, R1, hE.later R x1, h1⟩
    | false => exact ⟨ρ1, σd, s1, R1, hE.later R x1, h1⟩⟩
end
end Mid
/-! Mid3: statements, targets, loops, comprehensions, defs. -/
namespace Mid
open PySem PySem.Spec L2 Classical

/-- the slots outside ws are as they were -/
def Off (ws : List Nat) (σ σ' : L2.St) : Prop := σ'.length = σ.length ∧ ∀ j, j ∉ ws → σ'[j]? = σ[j]?
theorem Off.refl {ws : List Nat} {σ : L2.St} : Off ws σ σ := ⟨rfl, fun _ _ => rfl⟩
theorem Off.trans {ws us : List Nat} {σ σ1 σ2 : L2.St} (a : Off ws σ σ1) (b : Off us σ1 σ2) : Off (ws ++ us) σ σ2 :=
  ⟨b.1.trans a.1, fun j h => (b.2 j fun z => h (List.mem_append_right _ z)).trans (a.2 j fun z => h (List.mem_append_left _ z))⟩
theorem wipe_get (σ : L2.St) (j : Nat) : ∀ vs : List Nat, (wipe σ vs)[j]? = if j ∈ vs ∧ j < σ.length then some none else σ[j]?
  | [] => by simp [wipe]
  | v :: vs => by
    unfold wipe
    rw [List.getElem?_set]
    rw [wipe_get σ j vs, wipe_length]
    by_cases e : v = j
    · subst e
      by_cases hl : v < σ.length
      · simp [hl]
      · simp [hl, List.getElem?_eq_none (Nat.le_of_not_lt hl)]
    · have e' : ¬ j = v := fun z => e z.symm
      simp [e, e']
theorem wipe_off {ws vs : List Nat} {σ σ' : L2.St} (h : Off ws σ σ') (hs : ∀ w ∈ ws, w ∈ vs) : wipe σ' vs = wipe σ vs := by
  apply List.ext_getElem?
  intro j
  rw [wipe_get, wipe_get, h.1]
  by_cases hj : j ∈ vs ∧ j < σ.length
  · rw [if_pos hj, if_pos hj]
  · rw [if_neg hj, if_neg hj]
    by_cases hv : j ∈ vs
    · have hl : σ.length ≤ j := Nat.le_of_not_lt fun z => hj ⟨hv, z⟩
      rw [List.getElem?_eq_none hl, List.getElem?_eq_none (by rw [h.1]; exact hl)]
    · exact h.2 j fun z => hv (hs j z)
theorem wipe_wipe (σ : L2.St) (vs : List Nat) : wipe (wipe σ vs) vs = wipe σ vs := by
  apply List.ext_getElem?
  intro j
  rw [wipe_get, wipe_length, wipe_get]
  split <;> rfl

section
variable {K : PySem.W.Frag} {κ : Kap} {W : WX} {ρ ρ1 : List Addr} {σ : L2.St} {H H1 : Hp} {s : Mst}
theorem mWipe_length (σ : Men) : ∀ vs : List Nat, (mWipe σ vs).length = σ.length
  | [] => rfl
  | v :: vs => by unfold mWipe; rw [List.length_set, mWipe_length σ vs]
theorem mWipe_some {σ : Men} {i : Nat} {d : Dv} : ∀ {vs : List Nat}, (mWipe σ vs)[i]? = some (some d) → σ[i]? = some (some d) ∧ i ∉ vs
  | [], h => ⟨h, by simp⟩
  | v :: vs, h => by
    unfold mWipe at h
    by_cases e : v = i
    · subst e
      by_cases hl : v < (mWipe σ vs).length
      · rw [List.getElem?_set_self hl] at h; cases h
      · rw [List.getElem?_eq_none (by simpa using hl)] at h; cases h
    · rw [List.getElem?_set_ne e] at h
      obtain ⟨h1, h2⟩ := mWipe_some h
      exact ⟨h1, by simp only [List.mem_cons, not_or]; exact ⟨fun z => e z.symm, h2⟩⟩
theorem ER.wipe {σd : Men} (h : ER K κ ρ H σd σ) (vs : List Nat) : ER K κ ρ H (mWipe σd vs) (L2.wipe σ vs) := by
  refine ⟨by rw [wipe_length, mWipe_length, h.len], fun i d e => ?_⟩
  obtain ⟨e1, e2⟩ := mWipe_some e
  obtain ⟨v, e3, r⟩ := h.at_ i d e1
  exact ⟨v, by rw [wipe_get, if_neg fun z => e2 z.1]; exact e3, r⟩
theorem ER.set {σd : Men} (h : ER K κ ρ H σd σ) {d : Dv} {v : V} (r : VR K κ ρ H d v) (i : Nat) : ER K κ ρ H (σd.set i (some d)) (σ.set i (some v)) := by
  refine ⟨by simp [h.len], fun j e q => ?_⟩
  by_cases hj : i = j
  · subst hj
    by_cases hl : i < σd.length
    · rw [List.getElem?_set_self hl] at q
      cases q
      exact ⟨v, List.getElem?_set_self (by rw [h.len]; exact hl), r⟩
    · rw [List.getElem?_eq_none (by simpa using hl)] at q; cases q
  · rw [List.getElem?_set_ne hj] at q
    obtain ⟨u, e1, e2⟩ := h.at_ j e q
    exact ⟨u, by rw [List.getElem?_set_ne hj]; exact e1, e2⟩
end

/-! ### targets -/
/-- a target's reading: ws the names that it stores -/
def rdG (K : PySem.W.Frag) (κ : Kap) (W : WX) (g : MG) (ws : List Nat) : TG := fun v σ H Q => ∃ ρ σd s d, Rel K κ ρ H s ∧ ER K κ ρ H σd σ ∧ VR K κ ρ H d v ∧
  Fin K κ W ρ σ H (g d σd s) fun σd' ρ' _ H' => ∀ σ', ER K κ ρ' H' σd' σ' → Off ws σ σ' → Q σ' H'
def rdGs (K : PySem.W.Frag) (κ : Kap) (W : WX) (gs : List MG) (ws : List Nat) : TGs := fun vs σ H Q => ∃ ρ σd s ds, Rel K κ ρ H s ∧ ER K κ ρ H σd σ ∧ VRs K κ ρ H ds vs ∧
  Fin K κ W ρ σ H (gEach gs ds σd s) fun σd' ρ' _ H' => ∀ σ', ER K κ ρ' H' σd' σ' → Off ws σ σ' → Q σ' H'
section
variable {X : Cx} {κ : Kap} {W : WX} {pos : Pos}
abbrev LG (X : Cx) (κ : Kap) (W : WX) (e : Expr) (g : MG) (ws : List Nat) : Prop := PG X e (rdG X.K κ W g ws)
abbrev LGs (X : Cx) (κ : Kap) (W : WX) (es : List Expr) (gs : List MG) (ws : List Nat) : Prop := PGs X es (rdGs X.K κ W gs ws)
theorem PG.by {e : Expr} {t t' : TG} (h : PG X e t) (f : ∀ v σ H Q, t' v σ H Q → t v σ H Q) : PG X e t' := ⟨fun pins s σ H v u Q I r q => h.run pins s σ H v u Q I r (f v σ H Q q)⟩
theorem PGs.by {e : List Expr} {t t' : TGs} (h : PGs X e t) (f : ∀ v σ H Q, t' v σ H Q → t v σ H Q) : PGs X e t' := ⟨fun pins s σ H v u Q I r q => h.run pins s σ H v u Q I r (f v σ H Q q)⟩
theorem lg_name (i : Nat) {x : Str} (hN : X.N.Nodup) (hi : X.N[i]? = some x := by rfl) (hx : Loc X.env.scope x := by first | exact Or.inl rfl | exact Or.inr rfl) (hf : X.fn x = true ∨ X.env.scope.names.lookup x = some .local := by first | exact .inl rfl | exact .inr rfl | assumption) : LG X κ W (.Name x pos) (gN i) [i] :=
  PG.by (pg_name hN hi hx hf) fun v σ H Q ⟨ρ, σd, s, d, R, hE, r, h⟩ => h ρ H Step.refl R _ (hE.set r i) ⟨by simp, fun j hj => by rw [List.getElem?_set_ne fun z => hj (by rw [z]; simp)]⟩
theorem lgs_nil : LGs X κ W [] [] [] :=
  PGs.by pgs_nil fun vs σ H Q ⟨ρ, σd, s, ds, R, hE, r, h⟩ => by
    cases ds with
    | cons d ds => exact h.elim
    | nil =>
      simp only [VRs] at r
      exact ⟨r, h ρ H Step.refl R σ hE Off.refl⟩
theorem Fin.noEr {K : PySem.W.Frag} {α : Type} {W' : WX} {ρ : List Addr} {σ σ' : L2.St} {H : Hp} {r : Rm α} {Q : α → List Addr → Mst → Hp → Prop} (h : Fin K κ W ρ σ H r.noEr Q) : Fin K κ W' ρ σ' H r Q := by
  cases r with
  | ok a s => exact h
  | er e s => exact h.elim
  | bad => exact h
theorem Fin.off {K : PySem.W.Frag} {α : Type} {ρ : List Addr} {σ σ' : L2.St} {H : Hp} {r : Rm α} {Q : α → List Addr → Mst → Hp → Prop} (h : Fin K κ (fun _ _ _ _ => False) ρ σ H r Q) : Fin K κ W ρ σ' H r Q := by
  cases r with
  | ok a s => exact h
  | er e s =>
    exact fun ρ' H' c d x R q => (h ρ' H' c d x R q).elim
  | bad => exact h
end
/-- no exception -/
abbrev W0 : WX := fun _ _ _ _ => False
section
variable {X : Cx} {κ : Kap} {W : WX} {pos : Pos}
/-- the targets' parts raise nothing here -/
theorem lgs_cons {e : Expr} {es : List Expr} {g : MG} {gs : List MG} {ws us : List Nat} (h1 : LG X κ W0 e g ws) (h2 : LGs X κ W0 es gs us) (hs : (assignEach (e :: es) X.env).map (·.2) = assign e X.env :: (assignEach es X.env).map (·.2) := by rfl) :
    LGs X κ W0 (e :: es) (g :: gs) (ws ++ us) :=
  PGs.by (pgs_cons h1 h2 hs) fun vs σ H Q ⟨ρ, σd, s, ds, R, hE, r, h⟩ => by
    cases ds with
    | nil => exact h.elim
    | cons d ds =>
      simp only [VRs] at r
      obtain ⟨v, vr, e, r1, r2⟩ := r
      exact ⟨v, vr, e, ρ, σd, s, d, R, hE, r1, (Fin.bind h).mono fun σ1 ρ1 s1 H1 x1 R1 q σ' hE' ho => ⟨ρ1, σ1, s1, ds, R1, hE', VRs.later R x1 _ _ r2, (Fin.off q).mono fun σ2 ρ2 s2 H2 x2 R2 q2 σ'' hE'' ho2 => q2 σ'' hE'' (ho.trans ho2)⟩⟩
theorem lg_tup {es : List Expr} {k : Nat} {gs : List MG} {ws : List Nat} (hc : X.calm = true) (h : LGs X κ W0 es gs ws) (hl : gs.length = es.length := by rfl)
    (hn : (assignEach es X.env).length = es.length := by rfl) (hst : (assignEach es X.env).findIdx? (·.1) = none := by rfl) : LG X κ W (.Tuple es k pos) (gT gs) ws :=
  PG.by (pg_tup hc h hn hst) fun v σ H Q ⟨ρ, σd, s, d, R, hE, r, h⟩ => by
    cases d with
    | tup l =>
      unfold gT at h
      simp only at h
      by_cases e : l.length = gs.length
      · rw [if_pos e] at h
        obtain ⟨a, vs, e1, e2, e3⟩ := VR.tupE r
        refine ⟨a, vs, e1, e2, by rw [e3.length, e, hl], ρ, σd, s, l, R, hE, e3, ?_⟩
        exact Fin.noEr h
      · rw [if_neg e] at h; exact h.elim
    | ptup l =>
      unfold gT at h
      simp only at h
      by_cases e : l.length = gs.length
      · rw [if_pos e] at h
        obtain ⟨a, vs, e1, e2, e3⟩ := VR.ptupE r
        refine ⟨a, vs, e1, e2, by rw [e3.length, e, hl], ρ, σd, s, l, R, hE, e3, ?_⟩
        exact Fin.noEr h
      · rw [if_neg e] at h; exact h.elim
    | _ => exact h.elim

/-! ### statements -/
variable {a b c e tg iter o i : Expr} {ma mb me mo mi : ME} {tc : MT} {st : Stmt} {rest body sb sc : List Stmt} {m m1 m2 : MS} {g : MG} {ws : List Nat}
theorem ls_nil : LSs X κ W [] msNx := PSs.by pss_nil fun D σ H ⟨ρ, σd, s, R, hE, h⟩ => h ρ H σ Step.refl R hE
theorem FinS.then {K : PySem.W.Frag} {D : Ends} {ρ : List Addr} {H : Hp} {r : Sm} (h : FinS K κ W D ρ H (r.andThen m)) : FinS K κ W { D with nx := rdS K κ W m D } ρ H r := by
  cases r with
  | nx σ s => exact fun ρ' H' σ' x R hE => ⟨ρ', σ, s, R, hE, h.step x⟩
  | ct σ s => exact h
  | bk σ s => exact h
  | rt d s => exact h
  | er e σ s => exact h
  | bad => exact h
theorem ls_cons (h1 : LS X κ W st m1) (h2 : LSs X κ W rest m2) : LSs X κ W (st :: rest) (msSeq m1 m2) :=
  PSs.by (pss_cons h1 h2) fun D σ H ⟨ρ, σd, s, R, hE, h⟩ => ⟨ρ, σd, s, R, hE, FinS.then h⟩
theorem ls_one (h1 : LS X κ W st m1) : LSs X κ W [st] m1 := pss_one h1
theorem ls_pass : LS X κ W (.Pass pos) msNx := PS.by ps_pass fun D σ H ⟨ρ, σd, s, R, hE, h⟩ => h ρ H σ Step.refl R hE
theorem ls_break : LS X κ W (.Break pos) msBrk := PS.by ps_break fun D σ H ⟨ρ, σd, s, R, hE, h⟩ => h ρ H σ Step.refl R hE
theorem ls_continue : LS X κ W (.Continue pos) msCnt := PS.by ps_continue fun D σ H ⟨ρ, σd, s, R, hE, h⟩ => h ρ H σ Step.refl R hE
theorem ls_never : LS X κ W st msBad := PS.by ps_never fun D σ H ⟨ρ, σd, s, R, hE, h⟩ => h
theorem lss_never : LSs X κ W rest msBad := PSs.by pss_never fun D σ H ⟨ρ, σd, s, R, hE, h⟩ => h
theorem ls_expr (he : LE X κ W e me) (hs : swapsWith e none pos.line X.env = pure false := by rfl) : LS X κ W (.Expr e pos) (msExp me) :=
  PS.by (ps_expr he hs) fun D σ H ⟨ρ, σd, s, R, hE, h⟩ => ⟨ρ, σd, s, R, hE, (FinS.st h R hE).mono fun d ρ1 s1 H1 x1 R1 q v hv => q ρ1 H1 σ Step.refl R1 (hE.later R x1)⟩
theorem ls_ret (he : LE X κ W e me) : LS X κ W (.Return (some e) pos) (msRet me) :=
  PS.by (ps_ret he) fun D σ H ⟨ρ, σd, s, R, hE, h⟩ => ⟨ρ, σd, s, R, hE, (FinS.st h R hE).mono fun d ρ1 s1 H1 x1 R1 q v hv => q ρ1 H1 v Step.refl R1 hv⟩
theorem ls_retN : LS X κ W (.Return none pos) msRetN := PS.by ps_retN fun D σ H ⟨ρ, σd, s, R, hE, h⟩ => h ρ H .non Step.refl R (by simp only [VR])
theorem ls_if (hc : LT X κ W c tc) (ha : LSs X κ W sb m1) (hb : LSs X κ W sc m2) : LS X κ W (.If c sb sc pos) (msIf tc m1 m2) :=
  PS.by (ps_if hc ha hb) fun D σ H ⟨ρ, σd, s, R, hE, h⟩ => ⟨ρ, σd, s, R, hE, (FinS.st h R hE).mono fun d ρ1 s1 H1 x1 R1 q => by
    cases d with
    | true => exact ⟨ρ1, σd, s1, R1, hE.later R x1, q⟩
    | false => exact ⟨ρ1, σd, s1, R1, hE.later R x1, q⟩⟩
theorem ls_set (j : Nat) {x : Str} {pos' : Pos} (hN : X.N.Nodup) (he : LE X κ W e me) (hi : X.N[j]? = some x := by rfl) (hx : Loc X.env.scope x := by first | exact Or.inl rfl | exact Or.inr rfl) (hs : swapsWith e (some (.Name x pos')) pos.line X.env = pure false := by rfl)
    (hf : X.fn x = true ∨ X.env.scope.names.lookup x = some .local := by first | exact .inl rfl | exact .inr rfl | assumption) : LS X κ W (.Assign [.Name x pos'] e pos) (msSet j me) :=
  PS.by (ps_set hN hi hx he hs hf) fun D σ H ⟨ρ, σd, s, R, hE, h⟩ => ⟨ρ, σd, s, R, hE, (FinS.st h R hE).mono fun d ρ1 s1 H1 x1 R1 q v hv => q ρ1 H1 _ Step.refl R1 ((hE.later R x1).set hv j)⟩
theorem ls_asg (he : LE X κ W e me) (hg : LG X κ W tg g ws) (hs : swapsWithSole [tg] e pos.line X.env = pure false := by rfl) (hw : swappedStores [tg] e X.env = pure none := by rfl) (h1 : (assignEach [tg] X.env).map (·.2) = [assign tg X.env] := by rfl) :
    LS X κ W (.Assign [tg] e pos) (msAsg g me) :=
  PS.by (ps_asg he hg hs hw h1) fun D σ H ⟨ρ, σd, s, R, hE, h⟩ => ⟨ρ, σd, s, R, hE, (FinS.st h R hE).mono fun d ρ1 s1 H1 x1 R1 q v hv => ⟨ρ1, σd, s1, d, R1, hE.later R x1, hv, (FinS.st q R1 (hE.later R x1)).mono fun σ2 ρ2 s2 H2 x2 R2 q2 σ' hE' ho => q2 ρ2 H2 σ' Step.refl R2 hE'⟩⟩
/-- a, b = e1, e2: two local names -/
def msPar (i j : Nat) (ea eb : ME) : MS := fun σ s => (ea σ s).st σ fun d s1 => (eb σ s1).st σ fun d' s2 => .nx ((σ.set i (some d)).set j (some d')) s2
theorem ls_par (j k : Nat) {x y : Str} {px py pt : Pos} {kt k2 pt2} (hc : X.calm = true) (hN : X.N.Nodup) (he : LE X κ W a ma) (he2 : LE X κ W b mb) (hi : X.N[j]? = some x := by rfl) (hj : X.N[k]? = some y := by rfl) (hij : j ≠ k := by decide) (hx : X.env.scope.names.lookup x = some .local := by rfl) (hy : X.env.scope.names.lookup y = some .local := by rfl)
    (hw : swappedStores [.Tuple [.Name x px, .Name y py] kt pt] (.Tuple [a, b] k2 pt2) X.env = pure (some [x, y]) := by rfl) (hs : swapsWithSole [.Tuple [.Name x px, .Name y py] kt pt] (.Tuple [a, b] k2 pt2) pos.line X.env = pure false := by rfl)
    (hs1 : starEach [a, b] X.env = (false, eval a X.env) :: starEach [b] X.env := by rfl) (hs2 : starEach [b] X.env = (false, eval b X.env) :: starEach [] X.env := by rfl) : LS X κ W (.Assign [.Tuple [.Name x px, .Name y py] kt pt] (.Tuple [a, b] k2 pt2) pos) (msPar j k ma mb) :=
  PS.by (ps_par hc hN hi hj hij hx hy (pa_cons he (pa_cons he2 pa_nil hs2) hs1) hw hs) fun D σ H ⟨ρ, σd, s, R, hE, h⟩ => ⟨ρ, σd, s, R, hE, (FinS.st h R hE).mono fun d ρ1 s1 H1 x1 R1 q v hv => ⟨ρ1, σd, s1, R1, hE.later R x1, (FinS.st q R1 (hE.later R x1)).mono fun d2 ρ2 s2 H2 x2 R2 q2 v2 hv2 =>
    ⟨v, v2, rfl, q2 ρ2 H2 _ Step.refl R2 ((((hE.later R x1).later R1 x2).set (VR.later R1 x2 _ _ hv) j).set hv2 k)⟩⟩⟩
/-- o[i] = e by values -/
def SetL (X : Cx) (κ : Kap) (t : TSet) (f : Dv → Dv → Dv → Mst → Rm Unit) : Prop := ∀ W ρ σ H s x y z dx dy dz Q, Rel X.K κ ρ H s → VR X.K κ ρ H dx x → VR X.K κ ρ H dy y → VR X.K κ ρ H dz z → Fin X.K κ W ρ σ H (f dx dy dz s) (fun _ _ _ H' => Q H') → t x y z H Q
theorem ls_put {t : TSet} {f : Dv → Dv → Dv → Mst → Rm Unit} {pos' : Pos} (hp : PSet X t) (L : SetL X κ t f) (he : LE X κ W e me) (ho : LE X κ W o mo) (hi : LE X κ W i mi)
    (ha : ∀ v, assign (.Subscript o i pos') X.env v = (do
      let ov ← holding [v] (eval o X.env)
      let iv ← holding [v, ov] (eval i X.env)
      standAt pos'
      holding [v, ov, iv] (setItem ov iv v)
      release [v, ov, iv] []) := by intro _; rfl)
    (hs : swapsWithSole [.Subscript o i pos'] e pos.line X.env = pure false := by rfl) (hw : swappedStores [.Subscript o i pos'] e X.env = pure none := by rfl) (h1 : (assignEach [.Subscript o i pos'] X.env).map (·.2) = [assign (.Subscript o i pos') X.env] := by rfl) :
    LS X κ W (.Assign [.Subscript o i pos'] e pos) (msPut f mo mi me) :=
  PS.by (ps_asg he (pg_sub ho hi hp ha) hs hw h1) fun D σ H ⟨ρ, σd, s, R, hE, h⟩ => ⟨ρ, σd, s, R, hE, (FinS.st h R hE).mono fun d ρ1 s1 H1 x1 R1 q v hv => ⟨ρ1, σd, s1, R1, hE.later R x1, (FinS.st q R1 (hE.later R x1)).mono fun d2 ρ2 s2 H2 x2 R2 q2 v2 hv2 =>
    ⟨ρ2, σd, s2, R2, (hE.later R x1).later R1 x2, (FinS.st q2 R2 ((hE.later R x1).later R1 x2)).mono fun d3 ρ3 s3 H3 x3 R3 q3 v3 hv3 =>
      L W ρ3 σ H3 s3 v2 v3 v d2 d3 d _ R3 (VR.later R2 x3 _ _ hv2) hv3 (VR.later R2 x3 _ _ (VR.later R1 x2 _ _ hv))
        ((FinS.st q3 R3 (((hE.later R x1).later R1 x2).later R2 x3)).mono fun _ ρ4 s4 H4 x4 R4 q4 => q4 ρ4 H4 σ Step.refl R4 ((((hE.later R x1).later R1 x2).later R2 x3).later R3 x4))⟩⟩⟩

/-! ### while -/
theorem FinS.turn {K : PySem.W.Frag} {D : Ends} {ρ : List Addr} {H : Hp} {r : Sm} {f : MS} {N : L2.St → Hp → Prop} (h : FinS K κ W D ρ H (r.turn f)) (hN : ∀ ρ' σd σ' s' H', Step ρ H ρ' H' → Rel K κ ρ' H' s' → ER K κ ρ' H' σd σ' → FinS K κ W D ρ' H' (f σd s') → N σ' H') :
    FinS K κ W { D with nx := N, ct := N, bk := D.nx } ρ H r := by
  cases r with
  | nx σ s => exact fun ρ' H' σ' x R hE => hN ρ' σ σ' s H' x R hE (h.step x)
  | ct σ s => exact fun ρ' H' σ' x R hE => hN ρ' σ σ' s H' x R hE (h.step x)
  | bk σ s => exact h
  | rt d s => exact h
  | er e σ s => exact h
  | bad => exact h
theorem ls_while (hp : PassesOwn (model X.prog X.w) X.A X.env X.xe) (hc : LT X κ W c tc) (hb : LSs X κ W body m) : LS X κ W (.While c body [] pos) (msWhile tc m) :=
  PS.by (ps_while hp hc hb) fun D σ H ⟨ρ, σd, s, R, hE, h⟩ => by
    have hne : msWhile tc m σd s ≠ .bad := fun z => by rw [z] at h; exact h
    obtain ⟨n, hn⟩ := msWhile_ex hne
    rw [hn] at h
    refine ⟨fun n σ H => ∃ ρ σd s, Rel X.K κ ρ H s ∧ ER X.K κ ρ H σd σ ∧ FinS X.K κ W D ρ H (whileF tc m n σd s), ⟨n, ρ, σd, s, R, hE, h⟩, ?_⟩
    rintro n σ H ⟨ρ, σd, s, R, hE, h⟩
    cases n with
    | zero => exact h.elim
    | succ n =>
      refine ⟨ρ, σd, s, R, hE, (FinS.st h R hE).mono fun d ρ1 s1 H1 x1 R1 q => ?_⟩
      cases d with
      | false => exact q ρ1 H1 σ Step.refl R1 (hE.later R x1)
      | true =>
        refine ⟨fun σ' H' => ∃ ρ σd s, Rel X.K κ ρ H' s ∧ ER X.K κ ρ H' σd σ' ∧ FinS X.K κ W D ρ H' (whileF tc m n σd s), fun σ' H' w => ⟨n, Nat.lt_succ_self n, w⟩, ρ1, σd, s1, R1, hE.later R x1, FinS.turn q fun ρ' σd' σ' s' H' x R hE q => ⟨ρ', σd', s', R, hE, q⟩⟩

/-! ### what is walked -/
/-- J yields what it says -/
def ItOk (K : PySem.W.Frag) (κ : Kap) (ρ0 : List Addr) (H0 : Hp) (it : Mit) (J : It) : Prop := ∀ ρ H s, Kp ρ0 H0 ρ H → Rel K κ ρ H s → Mit.stays it.src s →
  (∀ i x, it.xs[i]? = some x → J.go i H ∧ ∀ v H', J.yld i H v H' → Step ρ H ρ H' ∧ Rel K κ ρ H' s ∧ VR K κ ρ H' x v) ∧ (∀ i, it.xs.length ≤ i → J.stop i H)
def rdI (K : PySem.W.Frag) (κ : Kap) (W : WX) (m : MI) : TI := fun σ H R => ∃ ρ σd s, Rel K κ ρ H s ∧ ER K κ ρ H σd σ ∧ Fin K κ W ρ σ H (m σd s) fun it ρ' _ H' => ∀ J, ItOk K κ ρ' H' it J → R J H'
abbrev LI (X : Cx) (κ : Kap) (W : WX) (tg iter : Expr) (m : MI) : Prop := PI X tg iter (rdI X.K κ W m)
theorem PI.by {tg e : Expr} {t t' : TI} (h : PI X tg e t) (f : ∀ σ H R, t' σ H R → t σ H R) : PI X tg e t' := ⟨fun pins s σ H R I q => h.run pins s σ H R I (f σ H R q)⟩
theorem getElem?_of_drop {α : Type} {l r : List α} {x : α} {i : Nat} (h : l.drop i = x :: r) : l[i]? = some x ∧ l.drop (i + 1) = r := by
  have h1 : l[i]? = (l.drop i)[0]? := by simp
  constructor
  · rw [h1, h]; rfl
  · have : l.drop (i + 1) = (l.drop i).drop 1 := by rw [List.drop_drop]
    rw [this, h]; rfl
theorem length_of_drop {α : Type} {l : List α} {i : Nat} (h : l.drop i = []) : l.length ≤ i := List.drop_eq_nil_iff.mp h
theorem Kp.refl {ρ : List Addr} {H : Hp} : Kp ρ H ρ H := ⟨fun _ _ h => h, fun _ _ h => h, fun _ _ _ h => h⟩
theorem Kp.trans {ρ ρ1 ρ2 : List Addr} {H H1 H2 : Hp} (a : Kp ρ H ρ1 H1) (b : Kp ρ1 H1 ρ2 H2) : Kp ρ H ρ2 H2 :=
  ⟨fun n p h => b.ix n p (a.ix n p h), fun p x h => b.tup p x (a.tup p x h), fun p o u h => b.frz p o u (a.frz p o u h)⟩
theorem ls_for {mit : MI} (hp : PassesOwn (model X.prog X.w) X.A X.env X.xe) (hc : X.calm = true) (hi : LI X κ W tg iter mit) (hg : LG X κ W tg g ws) (hb : LSs X κ W body m) (hs : ∀ x, foldedSetIterable iter X.env x = pure x := by intro _; rfl) :
    LS X κ W (.For tg iter body [] pos) (msFor mit g m) :=
  PS.by (ps_for hp hc hi hg hb hs) fun D σ H ⟨ρ, σd, s, R, hE, h⟩ => ⟨ρ, σd, s, R, hE, (FinS.st h R hE).mono fun it ρ0 s0 H0 x0 R0 q J hJ => by
    refine ⟨fun i n σ H => n = it.xs.length - i ∧ i ≤ it.xs.length ∧ ∃ ρ σd s, Kp ρ0 H0 ρ H ∧ Rel X.K κ ρ H s ∧ ER X.K κ ρ H σd σ ∧ FinS X.K κ W D ρ H (forF it.src g m (it.xs.drop i) σd s),
      ⟨it.xs.length, by simp, Nat.zero_le _, ρ0, σd, s0, Kp.refl, R0, hE.later R x0, by simpa using q⟩, ?_⟩
    rintro i n σ H ⟨rfl, hil, ρ, σd, s, kp, R, hE, h⟩
    by_cases hst : Mit.stays it.src s
    · obtain ⟨hgo, hstop⟩ := hJ ρ H s kp R hst
      cases hd : it.xs.drop i with
      | nil =>
        rw [hd] at h
        unfold forF at h
        rw [if_pos hst] at h
        exact .inl ⟨hstop i (length_of_drop hd), h ρ H σ Step.refl R hE⟩
      | cons x r =>
        rw [hd] at h
        unfold forF at h
        rw [if_pos hst] at h
        obtain ⟨e1, e2⟩ := getElem?_of_drop hd
        obtain ⟨go, yl⟩ := hgo i x e1
        have hlt : i < it.xs.length := (List.getElem?_eq_some_iff.mp e1).1
        refine .inr ⟨go, fun σ' H' => i + 1 ≤ it.xs.length ∧ ∃ ρ σd s, Kp ρ0 H0 ρ H' ∧ Rel X.K κ ρ H' s ∧ ER X.K κ ρ H' σd σ' ∧ FinS X.K κ W D ρ H' (forF it.src g m (it.xs.drop (i + 1)) σd s),
          fun σ' H' ⟨l, w⟩ => ⟨it.xs.length - (i + 1), by omega, rfl, l, w⟩, fun v H1 y => ?_⟩
        obtain ⟨st1, R1, r1⟩ := yl v H1 y
        have kp1 := kp.trans (st1.kp R)
        refine ⟨ρ, σd, s, x, R1, hE.later R st1, r1, ((FinS.st h R hE).step st1).mono fun σ2 ρ2 s2 H2 x2 R2 q2 σ' hE' ho => ⟨ρ2, σ2, s2, R2, hE', FinS.turn q2 fun ρ' σd' σ'' s' H' x3 R3 hE3 q3 => ⟨hlt, ρ', σd', s', (kp1.trans (x2.kp R1)).trans (x3.kp R2), R3, hE3, by rw [e2]; exact q3⟩⟩⟩
    · exfalso
      cases hd : it.xs.drop i with
      | nil => rw [hd] at h; unfold forF at h; rw [if_neg hst] at h; exact h
      | cons x r => rw [hd] at h; unfold forF at h; rw [if_neg hst] at h; exact h⟩
end
end Mid
/-! Mid4: comprehensions, what is walked, defs. -/
namespace Mid
open PySem PySem.Spec L2 Classical
open PyProof.Rows (envOfC)
section
variable {K : PySem.W.Frag} {κ : Kap} {ρ ρ' ρ0 : List Addr} {H H' H0 : Hp} {s : Mst} {a : Addr}
theorem Step.out (x : Step ρ H ρ' H') {o : HO} (e : H a = some o) (n : a ∉ ρ) : a ∉ ρ' := by
  obtain ⟨l, rfl, hl⟩ := x.pre
  intro h
  rcases List.mem_append.mp h with h | h
  · exact n h
  · rw [hl a h] at e; cases e
theorem Step.apart (x : Step ρ0 H0 ρ H) (n : H0 a = none) {o : HO} : Step ρ0 H0 ρ (upd H a o) :=
  ⟨x.pre, fun b u e hb => by rw [upd_ne (ne_of_none e n)]; exact x.keep b u e hb, fun b e => by
    by_cases h : b = a
    · subst h; rw [upd_same]; simp
    · rw [upd_ne h]; exact x.live b e⟩
theorem Step.add (x : Step ρ0 H0 ρ H) (n : H0 a = none) : Step ρ0 H0 (ρ ++ [a]) H := by
  refine ⟨?_, x.keep, x.live⟩
  obtain ⟨l, rfl, hl⟩ := x.pre
  refine ⟨l ++ [a], by simp, fun p hp => ?_⟩
  rcases List.mem_append.mp hp with h | h
  · exact hl p h
  · rw [List.mem_singleton.mp h]; exact n
end

section
variable {X : Cx} {κ : Kap} {W : WX} {pos : Pos} {elt tg iter : Expr} {ifs : List Expr} {scope : Scope} {own : List (Str × Nat)} {mit : MI} {g : MG} {tt : MT} {me : ME} {ws : List Nat}
abbrev LTs (X : Cx) (κ : Kap) (W : WX) (ifs : List Expr) (t : MT) : Prop := PTs X ifs (rdT X.K κ W t)
theorem PTs.by {e : List Expr} {t t' : TT} (h : PTs X e t) (f : ∀ σ H Q, t' σ H Q → t σ H Q) : PTs X e t' := ⟨fun pins s σ H Q I q => h.run pins s σ H Q I (f σ H Q q)⟩
theorem lts_nil : LTs X κ W [] mtYes := PTs.by pts_nil fun σ H Q ⟨ρ, σd, s, R, hE, h⟩ => h ρ H Step.refl R
theorem lts_one {c : Expr} (h : LT X κ W c tt) : LTs X κ W [c] tt := pts_one h

theorem Rm.bind_eq_ok {α β : Type} {r : Rm α} {f : α → Mst → Rm β} {b : β} {s' : Mst} (h : r.bind f = .ok b s') : ∃ a s, r = .ok a s ∧ f a s = .ok b s' := by
  cases r with
  | ok a s => exact ⟨a, s, rfl, h⟩
  | er e s => cases h
  | bad => cases h
theorem Rm.noEr_eq_ok {α : Type} {r : Rm α} {b : α} {s' : Mst} (h : r.noEr = .ok b s') : r = .ok b s' := by
  cases r with
  | ok a s => exact h
  | er e s => cases h
  | bad => cases h
theorem rd_lc (hws : ∀ w ∈ ws, w ∈ own.map (·.2)) {σ : L2.St} {H : Hp} {Q : VK} (h : rd X.K κ W (mLc mit g tt me (own.map (·.2))) σ H Q) :
    tLc (rdI X.K κ W mit) (rdG X.K κ W0 g ws) (rdT X.K κ W0 tt) (rd X.K κ W0 me) (own.map (·.2)) σ H Q := by
  obtain ⟨ρ, σd, s, R, hE, h⟩ := h
  refine ⟨ρ, σd, s, R, hE, (Fin.bind h).mono fun it ρ0 s0 H0 x0 R0 q J hJ D hD => ?_⟩
  generalize hvs : own.map (·.2) = vs at hws q ⊢
  cases e1 : (lcF it.src g tt me (mWipe σd vs) it.xs s0).noEr with
  | bad => rw [e1] at q; exact q.elim
  | er z s1 =>
    cases e2 : lcF it.src g tt me (mWipe σd vs) it.xs s0 with
    | ok a b => rw [e2] at e1; cases e1
    | er a b => rw [e2] at e1; cases e1
    | bad => rw [e2] at e1; cases e1
  | ok ds s2 =>
  rw [e1] at q
  simp only [Rm.bind_ok] at q
  by_cases hlen : it.xs.length < 2 ^ 24
  case neg => rw [if_neg hlen] at q; exact q.elim
  rw [if_pos hlen] at q
  replace e1 := Rm.noEr_eq_ok e1
  have hE0 := hE.later R x0
  refine ⟨fun i n H => n = it.xs.length - i ∧ i ≤ it.xs.length ∧ ∃ ρ s acc da rest, Step ρ0 H0 ρ H ∧ Rel X.K κ ρ H s ∧ H D = some (.lst acc) ∧ D ∉ ρ ∧ acc.length ≤ i ∧ VRs X.K κ ρ H da acc ∧ lcF it.src g tt me (mWipe σd vs) (it.xs.drop i) s = .ok rest s2 ∧ ds = da ++ rest,
    ⟨it.xs.length, by simp, Nat.zero_le _, ρ0, s0, [], [], ds, Step.lay hD, R0.lay hD, upd_same, R0.fresh hD, Nat.le_refl _, .nil, by simpa using e1, rfl⟩, ?_⟩
  rintro i n H1 ⟨rfl, hil, ρ1, s1, acc, da, rest, x1, R1, eD, nD, hacc, hda, hl, hds⟩
  have hst : Mit.stays it.src s1 := by
    by_cases z : Mit.stays it.src s1
    · exact z
    · exfalso
      cases hd : it.xs.drop i with
      | nil => rw [hd] at hl; unfold lcF at hl; rw [if_neg z] at hl; cases hl
      | cons x r => rw [hd] at hl; unfold lcF at hl; rw [if_neg z] at hl; cases hl
  obtain ⟨hgo, hstop⟩ := hJ ρ1 H1 s1 (x1.kp R0) R1 hst
  cases hd : it.xs.drop i with
  | nil =>
    rw [hd] at hl
    unfold lcF at hl
    rw [if_pos hst] at hl
    cases hl
    rw [List.append_nil] at hds
    subst hds
    refine .inl ⟨hstop i (length_of_drop hd), q (ρ1 ++ [D]) H1 (x1.add hD) (R1.add ⟨acc, eD, hda⟩ nD) (.ref D) ?_⟩
    rw [← R1.len]
    exact VR.last
  | cons x r =>
    rw [hd] at hl
    unfold lcF at hl
    rw [if_pos hst] at hl
    obtain ⟨i1, i2⟩ := getElem?_of_drop hd
    obtain ⟨go, yl⟩ := hgo i x i1
    have hlt : i < it.xs.length := (List.getElem?_eq_some_iff.mp i1).1
    obtain ⟨σ2, s3, e3, hl⟩ := Rm.bind_eq_ok hl
    obtain ⟨c, s4, e4, hl⟩ := Rm.bind_eq_ok hl
    refine .inr ⟨go, fun H => i + 1 ≤ it.xs.length ∧ ∃ ρ s acc da rest', Step ρ0 H0 ρ H ∧ Rel X.K κ ρ H s ∧ H D = some (.lst acc) ∧ D ∉ ρ ∧ acc.length ≤ i + 1 ∧ VRs X.K κ ρ H da acc ∧ lcF it.src g tt me (mWipe σd vs) (it.xs.drop (i + 1)) s = .ok rest' s2 ∧ ds = da ++ rest',
      fun H' ⟨l, w⟩ => ⟨it.xs.length - (i + 1), by omega, rfl, l, w⟩, fun v H2 y => ?_⟩
    obtain ⟨st2, R2, r2⟩ := yl v H2 y
    have hE2 := ((hE0.kp (x1.kp R0)).later R1 st2).wipe vs
    refine ⟨ρ1, mWipe σd vs, s1, x, R2, hE2, r2, ?_⟩
    rw [e3]
    intro ρ3 H3 x3 R3 σ3 hE3 ho
    refine ⟨(wipe_off ho hws).trans (wipe_wipe σ vs), ρ3, σ2, s3, R3, hE3, ?_⟩
    rw [e4]
    intro ρ4 H4 x4 R4
    have X4 : Step ρ1 H1 ρ4 H4 := (st2.trans x3).trans x4
    cases c with
    | false =>
      rw [if_neg Bool.false_ne_true] at hl
      exact iteF ⟨hlt, ρ4, s4, acc, da, rest, x1.trans X4, R4, X4.keep _ _ eD nD, X4.out eD nD, Nat.le_succ_of_le hacc, VRs.later R1 X4 _ _ hda, by rw [i2]; exact hl, hds⟩
    | true =>
      rw [if_pos rfl] at hl
      apply iteT
      obtain ⟨d, s5, e5, hl⟩ := Rm.bind_eq_ok hl
      obtain ⟨dr, s6, e6, hl⟩ := Rm.bind_eq_ok hl
      cases hl
      refine ⟨ρ4, σ2, s4, R4, hE3.later R3 x4, ?_⟩
      rw [e5]
      intro ρ5 H5 x5 R5 vy hy
      have X5 := X4.trans x5
      have eD5 : H5 D = some (.lst acc) := X5.keep _ _ eD nD
      have nD5 := X5.out eD nD
      refine ⟨acc, eD5, ?_, hlt, ρ5, s5, acc ++ [vy], da ++ [d], dr, (x1.trans X5).apart hD, R5.apart eD5 nD5, upd_same, nD5, by simpa using hacc, ?_, by rw [i2]; exact e6, by rw [hds]; simp⟩
      · have : (2 : Nat) ^ 24 = sizeLine := rfl
        omega
      · exact (VRs.later R1 X5 _ _ hda).append (.cons hy .nil) |> fun z => VRs.kp (Kp.apart eD5) _ _ z
theorem le_lc {vs : List Nat} (hc : X.calm = true) (hN : X.N.Nodup) (hi : LI X κ W tg iter mit) (ok : BlkOk X.N X.env.scope scope own) (hv : own.map (·.2) = vs) (hws : ∀ w ∈ ws, w ∈ vs)
    (hg : ∀ (s : Shared) (H : Hp) (C : Addr) (cl : List (Str × Addr)) (fp : List Addr), LG (X.blk s H scope (compEnvC scope cl C X.env) fp) κ W0 tg g ws) (ht : ∀ (s : Shared) (H : Hp) (C : Addr) (cl : List (Str × Addr)) (fp : List Addr), LTs (X.blk s H scope (compEnvC scope cl C X.env) fp) κ W0 ifs tt)
    (he : ∀ (s : Shared) (H : Hp) (C : Addr) (cl : List (Str × Addr)) (fp : List Addr), LE (X.blk s H scope (compEnvC scope cl C X.env) fp) κ W0 elt me) (hs : ∀ x, foldedSetIterable iter X.env x = pure x := by intro _; rfl) :
    LE X κ W (.ListComp elt [⟨tg, iter, ifs, 0⟩] scope pos) (mLc mit g tt me vs) :=
  PE.by (pe_lc hc hN hi ok hg ht he hs) fun σ H Q h => by
    subst hv
    exact rd_lc hws h
theorem relabel_cf {env : Env} {x : Str} : ∀ {names : List (Str × NameKind)}, (names.lookup x = some .cell ∨ names.lookup x = some .free) →
    let l := (names.map fun (n, k) => if (k == NameKind.free && env.scope.kind == .function && env.kindOf n == some .cell) then (n, NameKind.cell) else (n, k)).lookup x
    l = some .cell ∨ l = some .free
  | [], h => by simp at h
  | (n, k) :: r, h => by
    intro l
    have ih := @relabel_cf env x r
    have hl : l = List.lookup x ((if (k == NameKind.free && env.scope.kind == .function && env.kindOf n == some .cell) = true then (n, NameKind.cell) else (n, k)) :: (r.map fun (n, k) => if (k == NameKind.free && env.scope.kind == .function && env.kindOf n == some .cell) then (n, NameKind.cell) else (n, k))) := rfl
    rw [hl]
    cases hx : x == n with
    | true =>
      simp only [List.lookup_cons, hx] at h
      by_cases hc : (k == NameKind.free && env.scope.kind == .function && env.kindOf n == some .cell) = true
      · rw [if_pos hc]; simp only [List.lookup_cons, hx]; exact .inl trivial
      · rw [if_neg hc]; simp only [List.lookup_cons, hx]; exact h
    | false =>
      simp only [List.lookup_cons, hx] at h
      by_cases hc : (k == NameKind.free && env.scope.kind == .function && env.kindOf n == some .cell) = true
      · rw [if_pos hc]; simp only [List.lookup_cons, hx]; exact ih h
      · rw [if_neg hc]; simp only [List.lookup_cons, hx]; exact ih h
/-- a block within a block -/
theorem blkOk_in {scope' : Scope} {own' : List (Str × Nat)} {s : Shared} {H : Hp} {C : Addr} {cl : List (Str × Addr)} {fp : List Addr} (ok : BlkOk X.N scope scope' own') : BlkOk (X.blk s H scope (compEnvC scope cl C X.env) fp).N (X.blk s H scope (compEnvC scope cl C X.env) fp).env.scope scope' own' :=
  ⟨ok.kind, ok.uniq, ok.ix, fun y hy e => relabel_cf (ok.free y hy e), ok.own⟩
theorem ls_setLc (j : Nat) {vs : List Nat} {y : Str} {py spos : Pos} (hc : X.calm = true) (hN : X.N.Nodup) (hi : LI X κ W tg iter mit) (ok : BlkOk X.N X.env.scope scope own) (hv : own.map (·.2) = vs) (hws : ∀ w ∈ ws, w ∈ vs)
    (hg : ∀ (s : Shared) (H : Hp) (C : Addr) (cl : List (Str × Addr)) (fp : List Addr), LG (X.blk s H scope (compEnvC scope cl C X.env) fp) κ W0 tg g ws) (ht : ∀ (s : Shared) (H : Hp) (C : Addr) (cl : List (Str × Addr)) (fp : List Addr), LTs (X.blk s H scope (compEnvC scope cl C X.env) fp) κ W0 ifs tt)
    (he : ∀ (s : Shared) (H : Hp) (C : Addr) (cl : List (Str × Addr)) (fp : List Addr), LE (X.blk s H scope (compEnvC scope cl C X.env) fp) κ W0 elt me) (hy : X.N[j]? = some y := by rfl) (hyl : X.env.scope.names.lookup y = some .local := by rfl)
    (hsw : swapsWith (.ListComp elt [⟨tg, iter, ifs, 0⟩] scope pos) (some (.Name y py)) spos.line X.env = pure true := by exact sw_true rfl rfl rfl (by decide +kernel)) (hs : ∀ x, foldedSetIterable iter X.env x = pure x := by intro _; rfl) :
    LS X κ W (.Assign [.Name y py] (.ListComp elt [⟨tg, iter, ifs, 0⟩] scope pos) spos) (msSet j (mLc mit g tt me vs)) :=
  PS.by (L2.ps_setLc hc hN hy hyl hsw hi ok hg ht he hs) fun D σ H ⟨ρ, σd, s, R, hE, h⟩ => by
    subst hv
    exact rd_lc (X := X) (Q := fun x H1 => gName j x σ H1 D.nx) hws ⟨ρ, σd, s, R, hE, (FinS.st h R hE).mono fun d ρ1 s1 H1 x1 R1 q v hv => q ρ1 H1 _ Step.refl R1 ((hE.later R x1).set hv j)⟩
end

/-! ### what is walked -/
section
variable {X : Cx} {κ : Kap} {W : WX} {pos : Pos} {tg e a b : Expr} {me ma mb : ME}
theorem it_tup {ρ : List Addr} {H : Hp} {l : List Dv} {vs : List V} {p : Addr} (h : SqT X.K H p vs) (r : VRs X.K κ ρ H l vs) : ItOk X.K κ ρ H ⟨l, []⟩ (Itt X.K p) := fun ρ1 H1 s kp R _ => by
  have h1 := SqT.kp kp h
  have r1 := VRs.kp kp _ _ r
  refine ⟨fun i x e => ?_, fun i hi => ⟨vs, h1, by rw [r1.length]; exact hi⟩⟩
  obtain ⟨v, e1, e2⟩ := r1.get e
  refine ⟨⟨vs, v, h1, e1⟩, fun v' H' y => ?_⟩
  obtain ⟨rfl, y⟩ := y
  have := y vs h1
  rw [e1] at this; cases this
  exact ⟨Step.refl, R, e2⟩
theorem SqI.list {K : PySem.W.Frag} {H : Hp} {p : Addr} {vs : List V} (h : SqI K H p vs) : SqL K H p vs := by
  rcases h with ⟨o, h⟩ | h
  · exact .inl (.inr ⟨o, h⟩)
  · exact .inr h
theorem it_clst {ρ : List Addr} {H : Hp} {l : List Dv} {vs : List V} {p : Addr} (h : SqI X.K H p vs) (r : VRs X.K κ ρ H l vs) : ItOk X.K κ ρ H ⟨l, []⟩ (Itl X.K p) := fun ρ1 H1 s kp R _ => by
  have h1 : SqL X.K H1 p vs := SqI.list (SqI.kp kp h)
  have r1 := VRs.kp kp _ _ r
  refine ⟨fun i x e => ?_, fun i hi => ⟨vs, h1, by rw [r1.length]; exact hi⟩⟩
  obtain ⟨v, e1, e2⟩ := r1.get e
  refine ⟨⟨vs, v, h1, e1⟩, fun v' H' y => ?_⟩
  obtain ⟨rfl, y⟩ := y
  have := y vs h1
  rw [e1] at this; cases this
  exact ⟨Step.refl, R, e2⟩
theorem it_loc {ρ : List Addr} {H : Hp} {l : List Dv} {n : Nat} {p : Addr} (hp : ρ[n]? = some p) : ItOk X.K κ ρ H ⟨l, [(n, l)]⟩ (Itl X.K p) := fun ρ1 H1 s kp R st => by
  obtain ⟨vs, e, r1⟩ := R.obj n p _ (kp.ix n p hp) st.1
  have h1 : SqL X.K H1 p vs := .of e
  refine ⟨fun i x e => ?_, fun i hi => ⟨vs, h1, by rw [r1.length]; exact hi⟩⟩
  obtain ⟨v, e1, e2⟩ := r1.get e
  refine ⟨⟨vs, v, h1, e1⟩, fun v' H' y => ?_⟩
  obtain ⟨rfl, y⟩ := y
  have := y vs h1
  rw [e1] at this; cases this
  exact ⟨Step.refl, R, e2⟩
theorem it_str {ρ : List Addr} {H : Hp} {x : Str} : ItOk X.K κ ρ H ⟨x.cps.toList.map fun c => .str ⟨#[c]⟩, []⟩ (Its x) := fun ρ1 H1 s kp R st => by
  refine ⟨fun i d e => ?_, fun i hi => by show x.cps.size ≤ i; simpa using hi⟩
  rw [List.getElem?_map] at e
  cases q : x.cps.toList[i]? with
  | none => rw [q] at e; cases e
  | some c =>
    rw [q] at e
    have hl := (List.getElem?_eq_some_iff.mp q).1
    refine ⟨by show i < x.cps.size; simpa using hl, fun v H' y => ?_⟩
    obtain ⟨rfl, c', h1, rfl⟩ := y
    have h2 : x.cps[i]? = some c := by simpa using q
    rw [h1] at h2; cases h2
    cases e
    exact ⟨Step.refl, R, by simp only [VR]⟩
theorem it_rng {ρ : List Addr} {H : Hp} {lo : Int} {n : Nat} : ItOk X.K κ ρ H ⟨rngI lo n, []⟩ (Itr lo n) := fun ρ1 H1 s kp R st => by
  have len : (rngI lo n).length = n := by simp [rngI]
  refine ⟨fun i d e => ?_, fun i hi => by rw [← len]; exact hi⟩
  have hl := (List.getElem?_eq_some_iff.mp e).1
  rw [len] at hl
  have e' : d = .int (lo + i) := by
    unfold rngI at e
    rw [List.getElem?_map, List.getElem?_range hl] at e
    exact (Option.some.inj e).symm
  subst e'
  refine ⟨hl, fun v H' y => ?_⟩
  obtain ⟨rfl, rfl⟩ := y
  exact ⟨Step.refl, R, by simp only [VR]⟩
/-- a list, a tuple or a text -/
def iAny (K : PySem.W.Frag) (tl : TE) : TI := fun σ H R => tl σ H fun x H1 => (∃ a, x = .ref a ∧ (∃ xs, SqL K H1 a xs) ∧ R (Itl K a) H1) ∨ (∃ a, x = .ref a ∧ (∃ xs, SqT K H1 a xs) ∧ R (Itt K a) H1) ∨ (∃ z, x = .str z ∧ R (Its z) H1)
theorem pi_any {l : Expr} {tl : TE} (hl : PE X l tl) : PI X tg l (iAny X.K tl) := by
  refine ⟨fun pins s σ H R I h => ?_⟩
  refine thn (hl.run pins s σ H _ I h) fun v s1 ⟨x, H1, I1, r1, q1⟩ => ?_
  rcases q1 with ⟨a, e, ⟨xs, hq⟩, q⟩ | ⟨a, e, ⟨xs, hq⟩, q⟩ | ⟨y, e, q⟩
  · subst e
    cases r1
    obtain ⟨its, rv, p, hz⟩ := I1.list hq
    refine wpAny_pyIter_list p.isList ?_
    refine ⟨s1.heap.objs.size, [s1.heap.objs.size], _, _, H1, rfl, I1.kept (t' := s1.toks) fun b o e => Heap.get?_push_of_some _ e, turn_list a _, ⟨_, Heap.get?_push_size _ rfl, rfl, rfl⟩, fun b hb => ?_, q⟩
    have e : b = s1.heap.objs.size := by simpa using hb
    subst e
    exact I1.fpOk (Nat.le_refl _) (I1.hok.fresh (Nat.le_refl _))
  · subst e
    cases r1
    obtain ⟨its, rv, p, hz⟩ := I1.tuple hq
    refine wpAny_pyIter_tuple (show s1.heap.IsTuple a its.toArray from p) ?_
    refine ⟨s1.heap.objs.size, [s1.heap.objs.size], _, _, H1, rfl, I1.kept (t' := s1.toks) fun b o e => Heap.get?_push_of_some _ e, turn_tuple a _, ⟨_, Heap.get?_push_size _ rfl, rfl, rfl⟩, fun b hb => ?_, q⟩
    have e : b = s1.heap.objs.size := by simpa using hb
    subst e
    exact I1.fpOk (Nat.le_refl _) (I1.hok.fresh (Nat.le_refl _))
  · subst e
    obtain ⟨t, rfl⟩ := r1
    cases ha : y.cps.all (· < 128)
    · exact wpAny_pyIter_wide ha (pi_one (tk := s1.toks) I1 _ (turn_str _ y t "str_iterator" (.inr rfl)) ⟨_, Heap.get?_push_size _ rfl, rfl, rfl⟩ q)
    · exact wpAny_pyIter_ascii ha (pi_one (tk := s1.toks) I1 _ (turn_str _ y t "str_ascii_iterator" (.inl rfl)) ⟨_, Heap.get?_push_size _ rfl, rfl, rfl⟩ q)
theorem li_any (he : LE X κ W e me) : LI X κ W tg e (miSeq me) :=
  PI.by (pi_any he) fun σ H Q ⟨ρ, σd, s, R, hE, h⟩ => ⟨ρ, σd, s, R, hE, (Fin.bind h).mono fun d ρ1 s1 H1 x1 R1 q v hv => by
    cases d with
    | tup l =>
      obtain ⟨p, vs, e1, e2, e3⟩ := VR.tupE hv
      exact .inr (.inl ⟨p, e1, ⟨vs, e2⟩, q ρ1 H1 Step.refl R1 _ (it_tup e2 e3)⟩)
    | clst l =>
      simp only [VR] at hv
      obtain ⟨p, vs, e1, e2, e3⟩ := hv
      exact .inl ⟨p, e1, ⟨vs, SqI.list e2⟩, q ρ1 H1 Step.refl R1 _ (it_clst e2 e3)⟩
    | str x => exact .inr (.inr ⟨x, hv.str, q ρ1 H1 Step.refl R1 _ it_str⟩)
    | loc n =>
      unfold itSeq at q
      simp only at q
      cases e : s1[n]? with
      | none => rw [e] at q; exact q.elim
      | some o =>
        rw [e] at q
        cases o with
        | lst l =>
          obtain ⟨p, e1, e2, vs, e3, _⟩ := R1.loc hv e
          exact .inl ⟨p, e2, ⟨vs, .of e3⟩, q ρ1 H1 Step.refl R1 _ (it_loc e1)⟩
        | _ => exact q.elim
    | _ => exact q.elim⟩
theorem li_rng1 {p : Pos} (hg : Gl X "range") (hm : X.mg "range" = none) (ha : LE X κ W a ma) (hs : starEach [a] X.env = [(false, eval a X.env)] := by rfl) (hs' : starEach [a] X.env = (false, eval a X.env) :: starEach [] X.env := by rfl) : LI X κ W tg (.Call (.Name "range" p) [a] [] pos) (miRng1 ma) :=
  PI.by (pi_range1 hg hm (pa_cons ha pa_nil hs') hs) fun σ H Q ⟨ρ, σd, s, R, hE, h⟩ => ⟨ρ, σd, s, R, hE, (Fin.bind h).mono fun d ρ1 s1 H1 x1 R1 q v hv => by
    cases d with
    | int j =>
      simp only at q
      by_cases hj : -(2 ^ 62) ≤ j ∧ j < 2 ^ 62
      · rw [if_pos hj] at q
        exact ⟨j, by rw [hv.int], hj.1, hj.2, q ρ1 H1 Step.refl R1 _ it_rng⟩
      · rw [if_neg hj] at q; exact q.elim
    | _ => exact q.elim⟩
theorem li_rng2 {p : Pos} (hg : Gl X "range") (hm : X.mg "range" = none) (ha : LE X κ W a ma) (hb : LE X κ W b mb) (hs : starEach [a, b] X.env = [(false, eval a X.env), (false, eval b X.env)] := by rfl) (hs2 : starEach [b] X.env = [(false, eval b X.env)] := by rfl) (hs' : starEach [a, b] X.env = (false, eval a X.env) :: starEach [b] X.env := by rfl) (hs2' : starEach [b] X.env = (false, eval b X.env) :: starEach [] X.env := by rfl) :
    LI X κ W tg (.Call (.Name "range" p) [a, b] [] pos) (miRng2 ma mb) :=
  PI.by (pi_range2 hg hm (pa_cons ha (pa_cons hb pa_nil hs2') hs') hs hs2) fun σ H Q ⟨ρ, σd, s, R, hE, h⟩ => ⟨ρ, σd, s, R, hE, (Fin.bind h).mono fun d ρ1 s1 H1 x1 R1 q v hv => ⟨ρ1, σd, s1, R1, hE.later R x1, (Fin.bind q).mono fun d2 ρ2 s2 H2 x2 R2 q2 v2 hv2 => by
    cases d with
    | int i =>
      cases d2 with
      | int j =>
        simp only at q2
        by_cases hj : -(2 ^ 62) ≤ i ∧ i < 2 ^ 62 ∧ -(2 ^ 62) ≤ j ∧ j < 2 ^ 62
        · rw [if_pos hj] at q2
          exact ⟨i, j, by rw [hv.int, hv2.int], hj, q2 ρ2 H2 Step.refl R2 _ it_rng⟩
        · rw [if_neg hj] at q2; exact q2.elim
      | _ => exact q2.elim
    | _ => cases d2 <;> exact q2.elim⟩⟩
end

/-! ### a def -/
section
variable {P : Program} {w : World} {K : PySem.W.Frag} {mg : Str → Option Value} {base : Heap} {κ : Kap}
/-- a def's promise where nothing is raised -/
def spF0 (K : PySem.W.Frag) (κ : Kap) (n : Nat) (F : MF) : Sp := fun vs H Q _ => vs.length = n ∧ ∃ ρ ds s, Rel K κ ρ H s ∧ VRs K κ ρ H ds vs ∧ Fin K κ W0 ρ [] H (F ds s) fun d ρ' _ H' => ∀ v, VR K κ ρ' H' d v → Q v H'
theorem er_start {ρ : List Addr} {H : Hp} {ds : List Dv} {vs : List V} {N : List Str} (h : VRs K κ ρ H ds vs) : ER K κ ρ H (mStart N.length ds) (L2.start N vs) := by
  have hl := h.length
  refine ⟨by unfold mStart L2.start; simp [hl], fun i d e => ?_⟩
  unfold mStart at e
  by_cases hi : i < ds.length
  · rw [List.getElem?_append_left (by simpa using hi), List.getElem?_map] at e
    cases q : ds[i]? with
    | none => rw [q] at e; cases e
    | some d' =>
      rw [q] at e; cases e
      obtain ⟨v, e1, e2⟩ := h.get q
      exact ⟨v, by unfold L2.start; rw [List.getElem?_append_left (by simp [hl]; exact hi), List.getElem?_map, e1]; rfl, e2⟩
  · rw [List.getElem?_append_right (by simpa using hi), List.getElem?_replicate] at e
    split at e <;> cases e
theorem fn_ok {x qual : Str} {st : Stmt} {f : Addr} {fd : FuncData} {N ps : List Str} {k : Nat} {m : MS} (F : Fun K x qual st f fd) (S : FnScope N ps (defScope st))
    (hb : ∀ (cdv : Value) (A : Around) (outer : List Env) (s : Shared) (H : Hp) (E : XK), Room k (A.deeper (envOfC qual (defScope st) s.heap.objs.size f cdv)) → LSs (cxOf CX0 P w K mg base N qual (defScope st) f cdv A outer s H E).nox κ W0 (defBody st) m) :
    FnOk P w K mg base CX0 (k + 1) f fd ps (spF0 K κ ps.length (mFun ps.length N.length m)) := by
  refine F.ok S (fun vs H Q E h => h.1) fun cdv A outer s H vs Q E hr h => ?_
  obtain ⟨hl, ρ, ds, st', R, hv, h⟩ := h
  refine ⟨_, hb cdv A outer s H E hr, ρ, mStart N.length ds, st', R, er_start hv, ?_⟩
  unfold mFun at h
  rw [if_pos (by rw [← hv.length]; exact hl)] at h
  cases e : m (mStart N.length ds) st' with
  | nx σ1 s1 => rw [e] at h; exact fun ρ' H' σ' x R hE => h ρ' H' x R _ (by simp only [VR])
  | rt d s1 => rw [e] at h; exact fun ρ' H' v x R hv => h ρ' H' x R v hv
  | er z σ1 s1 => rw [e] at h; exact fun ρ' H' σ' c d x R hE q => h ρ' H' c d x R q
  | ct σ1 s1 => rw [e] at h; exact h.elim
  | bk σ1 s1 => rw [e] at h; exact h.elim
  | bad => rw [e] at h; exact h.elim
section
variable {X : Cx} {W : WX} {e : Expr} {es : List Expr} {ms : List ME} {pos : Pos}
theorem le_call0 {k : Nat} {f : Addr} {fd : FuncData} {ps : List Str} {n : Nat} {F : MF} {x : Str} {p : Pos} (G : FnOk X.prog X.w X.K X.mg X.base CX0 k f fd ps (spF0 X.K κ n F)) (hr : Room k X.A) (hg : Gl X x) (hm : X.mg x = some (.ref f))
    (hk : PySem.W.keepIn X.K (.ref f) = true) (hb : Binds X.K fd ps []) (ha : LA X κ W (e :: es) ms) (hn : ms.length = n := by rfl) (hdb : (x == ("__debug__" : Str)) = false := by decide) (he : starEach (e :: es) X.env = (false, eval e X.env) :: starEach es X.env := by rfl)
    (hpl : (backTo pos (starEach es X.env)).any (·.1) = false := by rfl) : LE X κ W (.Call (.Name x p) (e :: es) [] pos) (mCall (noE F) ms) :=
  PE.by (pe_call (E := E0) G hr hg hm hk hb .nil pass0 ha hdb he hpl) fun σ H Q ⟨ρ, σd, s, R, hEr, q⟩ => ⟨ρ, σd, s, R, hEr, (Fin.args (Fin.bind q)).mono fun ds ρ1 s1 H1 x1 R1 ⟨hnn, h1⟩ vs hvs => by
    show spF0 X.K κ n F (vs ++ []) H1 Q E0
    rw [List.append_nil]
    exact ⟨by rw [hvs.length, hnn, hn], ρ1, ds, s1, R1, hvs, Fin.noEr h1⟩⟩
end
end
end Mid
/-! MidOp: operators, built-ins, methods of the plain model. -/
namespace Mid
open PySem Classical
noncomputable section
def line : Nat := 2 ^ 24
def seqOf (d : Dv) (s : Mst) : Option (List Dv) := match d with
  | .tup l => some l
  | .clst l => some l
  | .loc n => match s[n]? with
    | some (.lst l) => some l
    | _ => none
  | _ => none
def mNew (o : MO) (s : Mst) : Rm Dv := .ok (.loc s.length) (s ++ [o])
def ofO {α : Type} (o : Option α) (s : Mst) : Rm α := match o with
  | some d => .ok d s
  | none => .bad
@[simp] theorem ofO_some {α : Type} (d : α) (s : Mst) : ofO (some d) s = .ok d s := rfl
@[simp] theorem ofO_none {α : Type} (s : Mst) : (ofO none s : Rm α) = .bad := rfl
/-! ### arithmetic -/
def oII (f : Int → Int → Option Dv) : Dv → Dv → Mst → Rm Dv := fun x y s => match x, y with
  | .int i, .int j => ofO (f i j) s
  | _, _ => .bad
def oSub := oII fun i j => some (.int (i - j))
def oMod := oII fun i j => @ite _ (0 < j) (Classical.propDecidable _) (some (.int (i % j))) (none)
def oFdiv := oII fun i j => @ite _ (0 < j ∧ j.natAbs.log2 < 9000) (Classical.propDecidable _) (some (.int (i / j))) (none)
def oPow := oII fun i j => @ite _ (0 ≤ j ∧ j ≤ 1000000 ∧ i.natAbs < 2 ^ 64) (Classical.propDecidable _) (some (.int (i ^ j.toNat))) (none)
def oLt := oII fun i j => some (.bl (decide (i < j)))
def oLe := oII fun i j => some (.bl (decide (i ≤ j)))
def oGt := oII fun i j => some (.bl (decide (j < i)))
def oGe := oII fun i j => some (.bl (decide (j ≤ i)))
def uNeg : Dv → Mst → Rm Dv := fun x s => match x with
  | .int i => .ok (.int (-i)) s
  | _ => .bad
def oAdd : Dv → Dv → Mst → Rm Dv := fun x y s => match x, y with
  | .int i, .int j => .ok (.int (i + j)) s
  | .str a, .str b => @ite _ (a.length + b.length ≤ 2 ^ 24) (Classical.propDecidable _) (.ok (.str (a ++ b)) s) (.bad)
  | .tup l, .tup m => @ite _ (l.length + m.length ≤ 2 ^ 24) (Classical.propDecidable _) (.ok (.tup (l ++ m)) s) (.bad)
  | .loc a, .loc b => match s[a]?, s[b]? with
    | some (.lst l), some (.lst m) => @ite _ (l.length + m.length ≤ 2 ^ 24) (Classical.propDecidable _) (mNew (.lst (l ++ m)) s) (.bad)
    | _, _ => .bad
  | _, _ => .bad
def oMul : Dv → Dv → Mst → Rm Dv := fun x y s => match x, y with
  | .int i, .int j => @ite _ (i.natAbs.log2 + j.natAbs.log2 < 1000000) (Classical.propDecidable _) (.ok (.int (i * j)) s) (.bad)
  | .loc a, .int k => match s[a]? with
    | some (.lst l) => @ite _ (-(2 ^ 63) ≤ k ∧ k < 2 ^ 63 ∧ l.length * k.toNat ≤ 2 ^ 24) (Classical.propDecidable _) (mNew (.lst (List.replicate k.toNat l).flatten) s) (.bad)
    | _ => .bad
  | _, _ => .bad
/-! ### comparisons -/
def oCmpD (f : PyData → PyData → Bool) : Dv → Dv → Mst → Rm Dv := fun x y s => match dat s 66 x, dat s 66 y with
  | some a, some b => if SeqAt.shaped a = true ∧ SeqAt.shaped b = true then .ok (.bl (f a b)) s else .bad
  | _, _ => .bad
def oEq := oCmpD PyData.eqv
def oNe := oCmpD fun a b => !PyData.eqv a b
def isNonQ : Dv → Bool
  | .non => true
  | _ => false
def oIsN : Dv → Dv → Mst → Rm Dv := fun x y s => match y with
  | .non => .ok (.bl (isNonQ x)) s
  | .bl b => match x with
    | .bl a => .ok (.bl (decide (a = b))) s
    | _ => .bad
  | _ => .bad
def oNotN : Dv → Dv → Mst → Rm Dv := fun x y s => match y with
  | .non => .ok (.bl (!isNonQ x)) s
  | .bl b => match x with
    | .bl a => .ok (.bl (!decide (a = b))) s
    | _ => .bad
  | _ => .bad
/-! ### keys -/
abbrev KeyQ := Sum Int Str
def keyQ : Dv → Option KeyQ
  | .int i => some (.inl i)
  | .str x => some (.inr x)
  | _ => none
def kval {α : Type} [DecidableEq α] (kvs : List (α × Dv)) (k : α) : Option Dv := (kvs.find? fun kv => decide (kv.1 = k)).map (·.2)
def kput {α : Type} [DecidableEq α] (kvs : List (α × Dv)) (k : α) (v : Dv) : List (α × Dv) :=
  if (kvs.any fun kv => decide (kv.1 = k)) = true then kvs.map (fun kv => if kv.1 = k then (kv.1, v) else kv) else kvs ++ [(k, v)]
def kputs {α : Type} [DecidableEq α] (kvs more : List (α × Dv)) : List (α × Dv) := more.foldl (fun acc kv => kput acc kv.1 kv.2) kvs
/-- in: x in y -/
def inQ (x y : Dv) (s : Mst) : Option Bool := match y with
  | .loc n => match s[n]? with
    | some (.lst l) => match dat s 66 x, datA (dat s 65) l with
      | some a, some bs => if SeqAt.shaped a = true ∧ SeqAt.shaped (.list bs) = true then some (bs.any fun z => PyData.eqv z a) else none
      | _, _ => none
    | some (.dK kvs) => match keyQ x with
      | some k => some (kval kvs k).isSome
      | none => if kvs.isEmpty then (keyN x).map fun _ => false else none
    | some (.dN kvs) => (keyN x).map fun k => (kval kvs k).isSome
    | _ => none
  | .clst l => match dat s 66 x, datA (dat s 65) l with
      | some a, some bs => if SeqAt.shaped a = true ∧ SeqAt.shaped (.list bs) = true then some (bs.any fun z => PyData.eqv z a) else none
      | _, _ => none
  | .tup l => match dat s 66 x, datA (dat s 65) l with
      | some a, some bs => if SeqAt.shaped a = true ∧ SeqAt.shaped (.tuple bs) = true then some (bs.any fun z => PyData.eqv z a) else none
      | _, _ => none
  | .str z => match x with
    | .str ⟨⟨[c]⟩⟩ => some (decide (c ∈ z.cps.toList))
    | _ => none
  | _ => none
def oIn : Dv → Dv → Mst → Rm Dv := fun x y s => ofO ((inQ x y s).map fun b => .bl b) s
def oNotIn : Dv → Dv → Mst → Rm Dv := fun x y s => ofO ((inQ x y s).map fun b => .bl (!b)) s
/-! ### places -/
def ixQ (n : Nat) (i : Int) : Option Nat := if 0 ≤ i then (if i < n then some i.toNat else none) else if -(n : Int) ≤ i then some (i + n).toNat else none
def atQ {α : Type} (xs : List α) (i : Int) : Option α := (ixQ xs.length i).bind fun j => xs[j]?
def getQ (x i : Dv) (s : Mst) : Option Dv := match x with
  | .str z => match i with
    | .int j => @ite _ (z.length ≤ 2 ^ 24) (Classical.propDecidable _) ((atQ z.cps.toList j).map fun c => .str ⟨#[c]⟩) (none)
    | _ => none
  | .tup l => match i with
    | .int j => atQ l j
    | _ => none
  | .clst l => match i with
    | .int j => atQ l j
    | _ => none
  | .loc n => match s[n]? with
    | some (.lst l) => match i with
      | .int j => atQ l j
      | _ => none
    | some (.dK kvs) => match keyQ i with
      | some k => kval kvs k
      | none => none
    | some (.dN kvs) => (keyN i).bind fun k => kval kvs k
    | _ => none
  | _ => none
def oGet : Dv → Dv → Mst → Rm Dv := fun x i s => ofO (getQ x i s) s
def putQ (x i v : Dv) (s : Mst) : Option Mst := match x with
  | .loc n => match s[n]? with
    | some (.lst l) => match i with
      | .int j => (ixQ l.length j).map fun k => s.set n (.lst (l.set k v))
      | _ => none
    | some (.dK kvs) => match keyQ i with
      | some k => @ite _ (kvs.length < 2 ^ 24) (Classical.propDecidable _) (some (s.set n (.dK (kput kvs k v)))) (none)
      | none => if kvs.isEmpty then (keyN i).map fun k => s.set n (.dN [(k, v)]) else none
    | some (.dN kvs) => (keyN i).bind fun k => @ite _ (kvs.length < 2 ^ 24) (Classical.propDecidable _) (some (s.set n (.dN (kput kvs k v)))) (none)
    | _ => none
  | _ => none
def oPut : Dv → Dv → Dv → Mst → Rm Unit := fun x i v s => match putQ x i v s with
  | some s' => .ok () s'
  | none => .bad
/-- how a slice's bound counts -/
def sIxQ (n d : Nat) : Option Int → Nat
  | none => d
  | some v => if v < 0 then (v + (n : Int)).toNat else min v.toNat n
def cutQ {α : Type} (xs : List α) (lo hi : Option Int) : List α := (xs.drop (sIxQ xs.length 0 lo)).take (sIxQ xs.length xs.length hi - sIxQ xs.length 0 lo)
def slQ (x : Dv) (lo hi : Option Int) (s : Mst) : Rm Dv := match x with
  | .tup l => .ok (.tup (cutQ l lo hi)) s
  | .clst l => mNew (.lst (cutQ l lo hi)) s
  | .loc n => match s[n]? with
    | some (.lst l) => mNew (.lst (cutQ l lo hi)) s
    | _ => .bad
  | _ => .bad
abbrev MO' := Men → Mst → Rm (Option Int)
def poN : MO' := fun _ s => .ok none s
def poS (m : ME) : MO' := fun σ s => (m σ s).bind fun d s1 => match d with
  | .int i => .ok (some i) s1
  | _ => .bad
def mSlice (m : ME) (lo hi : MO') : ME := fun σ s => (m σ s).bind fun x s1 => (lo σ s1).bind fun l s2 => (hi σ s2).bind fun h s3 => slQ x l h s3
/-! ### dicts written -/
def dispQ : List (Dv × Dv) → Option (List (KeyQ × Dv))
  | [] => some []
  | (k, v) :: r => match keyQ k, dispQ r with
    | some q, some l => some ((q, v) :: l)
    | _, _ => none
def mPairs : List (ME × ME) → Men → Mst → Rm (List (Dv × Dv))
  | [], _, s => .ok [] s
  | (k, v) :: r, σ, s => (k σ s).bind fun a s1 => (v σ s1).bind fun b s2 => (mPairs r σ s2).bind fun l s3 => .ok ((a, b) :: l) s3
/-- {k: v, ..}, at most fifteen; {} too -/
def mDisp (ps : List (ME × ME)) : ME := fun σ s => (mPairs ps σ s).bind fun l s1 => match dispQ l with
  | some kvs => mNew (.dK (kputs [] kvs)) s1
  | none => .bad
/-! ### built-ins -/
def f1 (f : Dv → Mst → Rm Dv) : MF := fun ds s => match ds with
  | [x] => f x s
  | _ => .bad
def f2 (f : Dv → Dv → Mst → Rm Dv) : MF := fun ds s => match ds with
  | [x, y] => f x y s
  | _ => .bad
def lenQ (x : Dv) (s : Mst) : Option Nat := match x with
  | .str z => @ite _ (z.length ≤ 2 ^ 24) (Classical.propDecidable _) (some z.length) (none)
  | .tup l => some l.length
  | .clst l => some l.length
  | .loc n => match s[n]? with
    | some (.lst l) => some l.length
    | some (.dK kvs) => some kvs.length
    | some (.dN kvs) => some kvs.length
    | _ => none
  | _ => none
def bLen : MF := f1 fun x s => ofO ((lenQ x s).map fun n => .int n) s
def bTuple : MF := f1 fun x s => ofO ((seqOf x s).map .tup) s
def bList : MF := f1 fun x s => match seqOf x s with
  | some l => mNew (.lst l) s
  | none => .bad
def intsQ : List Dv → Option (List Int)
  | [] => some []
  | .int i :: r => (intsQ r).map (i :: ·)
  | _ => none
def strsQ : List Dv → Option (List Str)
  | [] => some []
  | .str i :: r => (strsQ r).map (i :: ·)
  | _ => none
def blsQ : List Dv → Option (List Bool)
  | [] => some []
  | .bl i :: r => (blsQ r).map (i :: ·)
  | _ => none
def bAny : MF := f1 fun x s => ofO (((lstQ x s).bind blsQ).map fun bs => .bl (bs.any id)) s
where lstQ (d : Dv) (s : Mst) : Option (List Dv) := match d with
  | .clst l => some l
  | .loc n => match s[n]? with
    | some (.lst l) => some l
    | _ => none
  | _ => none
def bAll : MF := f1 fun x s => ofO (((bAny.lstQ x s).bind blsQ).map fun bs => .bl (bs.all id)) s
/-- ints put in their order -/
def insI (i : Int) : List Int → List Int
  | [] => [i]
  | j :: r => if i ≤ j then i :: j :: r else j :: insI i r
def srtI : List Int → List Int
  | [] => []
  | i :: r => insI i (srtI r)
def insS (x : Str) : List Str → List Str
  | [] => [x]
  | y :: r => if y.cps.toList < x.cps.toList then y :: insS x r else x :: y :: r
def srtS : List Str → List Str
  | [] => []
  | x :: r => insS x (srtS r)
def srtQ (l : List Dv) : Option (List Dv) := match intsQ l with
  | some ns => some ((srtI ns).map .int)
  | none => match strsQ l with
    | some xs => if xs.length < 64 then some ((srtS xs).map .str) else none
    | none => none
def keyD : KeyQ → Dv
  | .inl i => .int i
  | .inr x => .str x
def bSorted : MF := f1 fun x s => match bAny.lstQ x s with
  | some l => match srtQ l with
    | some r => mNew (.lst r) s
    | none => .bad
  | none => match x with
    | .loc n => match s[n]? with
      | some (.dK kvs) => match srtQ (kvs.map fun kv => keyD kv.1) with
        | some r => mNew (.lst r) s
        | none => .bad
      | _ => .bad
    | _ => .bad
def pairQ : Dv → Option (KeyQ × Dv)
  | .tup [k, v] => match keyQ k with
    | some q => some (q, v)
    | none => none
  | _ => none
def pairsQ : List Dv → Option (List (KeyQ × Dv))
  | [] => some []
  | d :: r => match pairQ d, pairsQ r with
    | some p, some l => some (p :: l)
    | _, _ => none
/-- dict of a list, of a tuple, of pairs -/
def bDict : MF := f1 fun x s => match (seqOf x s).bind pairsQ with
  | some kvs => mNew (.dK (kputs [] kvs)) s
  | none => .bad
def bInt : MF := f1 fun x s => match x with
  | .int i => .ok (.int i) s
  | .bl b => .ok (.int (if b then 1 else 0)) s
  | _ => .bad
def tyQ (x : Dv) (s : Mst) : String := match x with
  | .non => "NoneType"
  | .bl _ => "bool"
  | .int _ => "int"
  | .str _ => "str"
  | .tup _ => "tuple"
  | .clst _ => "list"
  | .loc n => match s[n]? with
    | some (.lst _) => "list"
    | some (.dK _) => "dict"
    | some (.dN _) => "dict"
    | _ => "?"
  | _ => "?"
def kinds : List String := ["NoneType", "bool", "int", "str", "tuple", "list", "dict"]
def asked : List String := ["bool", "int", "str", "tuple", "list", "dict"]
/-- no dict of tuples -/
def noN (x : Dv) (s : Mst) : Bool := match x with
  | .loc n => match s[n]? with
    | some (.dN _) => false
    | _ => true
  | _ => true
def isiQ (t c : String) : Bool := t == c || (t == "bool" && c == "int")
def bIsi : MF := f2 fun x c s => match c with
  | .ty n => if tyQ x s ∈ kinds ∧ n ∈ asked ∧ noN x s = true then .ok (.bl (isiQ (tyQ x s) n)) s else .bad
  | _ => .bad
/-! ### methods -/
def mMeth (T : String) (F : MF) (m : ME) (ms : List ME) : ME := fun σ s => (m σ s).bind fun x s1 => if tyQ x s1 = T then (mArgs ms σ s1).bind fun ds s2 => F (x :: ds) s2 else .bad
def onLst (f : List Dv → List Dv → Option (List Dv × Dv)) : MF := fun ds s => match ds with
  | .loc n :: r => match s[n]? with
    | some (.lst l) => match f l r with
      | some (l', d) => .ok d (s.set n (.lst l'))
      | none => .bad
    | _ => .bad
  | _ => .bad
def tAppend : MF := onLst fun l r => match r with
  | [d] => @ite _ (l.length < 2 ^ 24) (Classical.propDecidable _) (some (l ++ [d], .non)) (none)
  | _ => none
def tPop : MF := onLst fun l r => match r with
  | [] => match l[l.length - 1]? with
    | some d => some (l.dropLast, d)
    | none => none
  | [.int i] => match ixQ l.length i with
    | some k => match l[k]? with
      | some d => @ite _ (-(2 ^ 63) ≤ i ∧ i < 2 ^ 63) (Classical.propDecidable _) (some (l.eraseIdx k, d)) (none)
      | none => none
    | none => none
  | _ => none
def tClear : MF := onLst fun _ r => match r with
  | [] => some ([], .non)
  | _ => none
/-- the place of the first equal one -/
def findE (a : PyData) : List PyData → Option Nat
  | [] => none
  | b :: r => if PyData.eqv b a then some 0 else (findE a r).map (· + 1)
def tIndex : MF := f2 fun x y s => match bAny.lstQ x s with
  | some l => match dat s 66 y, datA (dat s 65) l with
    | some a, some bs => if SeqAt.shaped a = true ∧ SeqAt.shaped (.list bs) = true then ofO ((findE a bs).map fun n => .int n) s else .bad
    | _, _ => .bad
  | none => .bad
def tCount : MF := f2 fun x y s => match bAny.lstQ x s with
  | some l => match dat s 66 y, datA (dat s 65) l with
    | some a, some bs => if SeqAt.shaped a = true ∧ SeqAt.shaped (.list bs) = true then .ok (.int (bs.countP fun z => PyData.eqv z a : Nat)) s else .bad
    | _, _ => .bad
  | none => .bad
def tUpdate : MF := f2 fun x y s => match x, y with
  | .loc n, .loc m => match s[n]?, s[m]? with
    | some (.dK kvs), some (.dK more) => @ite _ (n ≠ m ∧ kvs.length + more.length < 2 ^ 24) (Classical.propDecidable _) (.ok .non (s.set n (.dK (kputs kvs more)))) (.bad)
    | _, _ => .bad
  | _, _ => .bad
def tJoin : MF := f2 fun x y s => match x, (seqOf y s).bind strsQ with
  | .str z, some ys => @ite _ ((ys.map (·.length)).sum + ys.length * z.length ≤ 16777216) (Classical.propDecidable _) (.ok (.str (Str.join z ys)) s) (.bad)
  | _, _ => .bad
/-- what a dict holds at a key -/
def dgQ (x i : Dv) (s : Mst) : Option (Option Dv) := match x with
  | .loc n => match s[n]? with
    | some (.dK kvs) => match keyQ i with
      | some k => some (kval kvs k)
      | none => if kvs.isEmpty then (keyN i).map fun _ => none else none
    | some (.dN kvs) => (keyN i).map fun k => kval kvs k
    | _ => none
  | _ => none
/-- d.get(k), d.get(k, x) -/
def tGet : MF := fun ds s => match ds with
  | [x, i] => ofO ((dgQ x i s).map fun o => o.getD .non) s
  | [x, i, e] => ofO ((dgQ x i s).map fun o => o.getD e) s
  | _ => .bad
/-- d.setdefault(k, x) -/
def setdQ (x i e : Dv) (s : Mst) : Rm Dv := match x with
  | .loc n => match s[n]? with
    | some (.dK kvs) => @ite _ (kvs.length < 2 ^ 24) (Classical.propDecidable _) (match keyQ i with
      | some k => (match kval kvs k with
        | some d => .ok d s
        | none => .ok e (s.set n (.dK (kput kvs k e))))
      | none => if kvs.isEmpty then (match keyN i with
        | some k => .ok e (s.set n (.dN [(k, e)]))
        | none => .bad) else .bad) .bad
    | some (.dN kvs) => @ite _ (kvs.length < 2 ^ 24) (Classical.propDecidable _) (match keyN i with
      | some k => (match kval kvs k with
        | some d => .ok d s
        | none => .ok e (s.set n (.dN (kput kvs k e))))
      | none => .bad) .bad
    | _ => .bad
  | _ => .bad
def tSetd : MF := fun ds s => match ds with
  | [x, i, e] => setdQ x i e s
  | _ => .bad
/-- each of them once, as they are met -/
def metI : List Int → List Int → List Int
  | acc, [] => acc
  | acc, i :: r => if i ∈ acc then metI acc r else metI (acc ++ [i]) r
/-- len(set(..)), of whole numbers -/
def bLenSet : MF := f1 fun x s => match (bAny.lstQ x s).bind intsQ with
  | some ns => @ite _ (ns.length < 4000) (Classical.propDecidable _) (.ok (.int (metI [] ns).length) s) .bad
  | none => .bad
/-- each of them once, as they are met -/
def metG {α : Type} [DecidableEq α] : List α → List α → List α
  | acc, [] => acc
  | acc, i :: r => if i ∈ acc then metG acc r else metG (acc ++ [i]) r
/-- sorted(set(..)), of whole numbers, of texts -/
def bSortSet : MF := f1 fun x s => match bAny.lstQ x s with
  | some l => match intsQ l with
    | some ns => @ite _ (ns.length < 4000) (Classical.propDecidable _) (mNew (.lst ((srtI (metG [] ns)).map .int)) s) .bad
    | none => match strsQ l with
      | some xs => @ite _ (xs.length < 64) (Classical.propDecidable _) (mNew (.lst ((srtS (metG [] xs)).map .str)) s) .bad
      | none => .bad
  | none => .bad
/-- list(range(..)) -/
def bListRg (a b : ME) : ME := fun σ s => (a σ s).bind fun x s1 => (b σ s1).bind fun y s2 => match x, y with
  | .int i, .int j => @ite _ (-(2 ^ 62) ≤ i ∧ i < 2 ^ 62 ∧ -(2 ^ 62) ≤ j ∧ j < 2 ^ 62 ∧ (j - i).toNat ≤ 2 ^ 24) (Classical.propDecidable _) (mNew (.lst (rngI i (j - i).toNat)) s2) (.bad)
  | _, _ => .bad
/-! ### instances -/
/-- x.f, where x is of one of some classes -/
def oFld (cs : List Nat) (f : Str) : Dv → Mst → Rm Dv := fun x s => match x with
  | .loc n => match s[n]? with
    | some (.ins C fs) => @ite _ (C ∈ cs) (Classical.propDecidable _) (ofO (fs.lookup f) s) (.bad)
    | _ => .bad
  | _ => .bad
/-- attributes put -/
def putA (f : Str) (v : Dv) : List (Str × Dv) → List (Str × Dv)
  | [] => [(f, v)]
  | (g, u) :: r => if g = f then (g, v) :: r else (g, u) :: putA f v r
def msFldC (cs : List Nat) (f : Str) (mo me : ME) : MS := fun σ s => (me σ s).st σ fun v s1 => (mo σ s1).st σ fun x s2 => match x with
  | .loc n => match s2[n]? with
    | some (.ins C fs) => @ite _ (C ∈ cs ∧ fs.length < 1000) (Classical.propDecidable _) (.nx σ (s2.set n (.ins C (putA f v fs)))) .bad
    | _ => .bad
  | _ => .bad
/-- o.m(..), a def of the class C -/
def mMethC (C : Nat) (m : Str) (F : MF) (o : ME) (ms : List ME) : ME := fun σ s => (o σ s).bind fun x s1 => match x with
  | .loc n => match s1[n]? with
    | some (.ins C' fs) => @ite _ (C' = C ∧ fs.lookup m = none) (Classical.propDecidable _) ((mArgs ms σ s1).bind fun ds s2 => (F (.loc n :: ds) s2).noEr) .bad
    | _ => .bad
  | _ => .bad
end
end Mid
/-! MidOrd: the order that sorted makes. -/
namespace Mid
open PySem Classical
/-! ### orders -/
theorem perm_one {α : Type} {r : α → α → Prop} (anti : ∀ a b, r a b → r b a → a = b) : ∀ {l m : List α}, l.Perm m → l.Pairwise r → m.Pairwise r → l = m
  | [], m, hp, _, _ => (List.nil_perm.mp hp).symm
  | a :: l, [], hp, _, _ => absurd hp.length_eq (by simp)
  | a :: l, b :: m, hp, h1, h2 => by
    have e : a = b := by
      have ha : a ∈ b :: m := hp.mem_iff.mp List.mem_cons_self
      have hb : b ∈ a :: l := hp.mem_iff.mpr List.mem_cons_self
      rcases List.mem_cons.mp ha with e | ha
      · exact e
      · rcases List.mem_cons.mp hb with e | hb
        · exact e.symm
        · exact anti a b (List.rel_of_pairwise_cons h1 hb) (List.rel_of_pairwise_cons h2 ha)
    subst e
    rw [perm_one anti (List.perm_cons _ |>.mp hp) (List.pairwise_cons.mp h1).2 (List.pairwise_cons.mp h2).2]
theorem insI_perm (i : Int) : ∀ l : List Int, (insI i l).Perm (i :: l)
  | [] => .refl _
  | j :: r => by
    unfold insI
    split
    · exact .refl _
    · exact ((insI_perm i r).cons j).trans (.swap i j r)
theorem srtI_perm : ∀ l : List Int, (srtI l).Perm l
  | [] => .refl _
  | i :: r => (insI_perm i (srtI r)).trans ((srtI_perm r).cons i)
theorem insI_rising (i : Int) : ∀ l : List Int, l.Pairwise (· ≤ ·) → (insI i l).Pairwise (· ≤ ·)
  | [], _ => by simp [insI]
  | j :: r, h => by
    unfold insI
    have h' := List.pairwise_cons.mp h
    split
    · rename_i hij
      refine List.pairwise_cons.mpr ⟨fun x hx => ?_, h⟩
      rcases List.mem_cons.mp hx with rfl | hx
      · exact hij
      · exact Int.le_trans hij (h'.1 x hx)
    · rename_i hij
      refine List.pairwise_cons.mpr ⟨fun x hx => ?_, insI_rising i r h'.2⟩
      rcases List.mem_cons.mp ((insI_perm i r).mem_iff.mp hx) with rfl | hx
      · omega
      · exact h'.1 x hx
theorem srtI_rising : ∀ l : List Int, (srtI l).Pairwise (· ≤ ·)
  | [] => .nil
  | i :: r => insI_rising i _ (srtI_rising r)
theorem srtI_one {l m : List Int} (hp : m.Perm l) (h : m.Pairwise (· ≤ ·)) : m = srtI l :=
  perm_one (fun _ _ => Int.le_antisymm) (hp.trans (srtI_perm l).symm) h (srtI_rising l)
/-- texts: not behind -/
def leS (x y : Str) : Prop := ¬ y.cps.toList < x.cps.toList
theorem leS_anti (x y : Str) (h : leS x y) (g : leS y x) : x = y := by
  have e : x.cps.toList = y.cps.toList := List.le_antisymm h g
  cases x; cases y
  simp only [Str.mk.injEq]
  exact Array.toList_inj.mp e
theorem leS_trans {x y z : Str} (h : leS x y) (g : leS y z) : leS x z := List.le_trans (α := Nat) h g
theorem leS_total {x y : Str} (h : ¬ leS x y) : leS y x := fun g => absurd (List.lt_trans (Classical.not_not.mp h) g) (List.lt_irrefl _)
theorem insS_perm (i : Str) : ∀ l : List Str, (insS i l).Perm (i :: l)
  | [] => .refl _
  | j :: r => by
    unfold insS
    split
    · exact ((insS_perm i r).cons j).trans (.swap i j r)
    · exact .refl _
theorem srtS_perm : ∀ l : List Str, (srtS l).Perm l
  | [] => .refl _
  | i :: r => (insS_perm i (srtS r)).trans ((srtS_perm r).cons i)
theorem insS_rising (i : Str) : ∀ l : List Str, l.Pairwise leS → (insS i l).Pairwise leS
  | [], _ => by simp [insS]
  | j :: r, h => by
    unfold insS
    have h' := List.pairwise_cons.mp h
    split
    · rename_i hij
      refine List.pairwise_cons.mpr ⟨fun x hx => ?_, insS_rising i r h'.2⟩
      rcases List.mem_cons.mp ((insS_perm i r).mem_iff.mp hx) with rfl | hx
      · exact leS_total (x := x) (y := j) (fun z => z hij)
      · exact h'.1 x hx
    · rename_i hij
      refine List.pairwise_cons.mpr ⟨fun x hx => ?_, h⟩
      rcases List.mem_cons.mp hx with rfl | hx
      · exact hij
      · exact leS_trans hij (h'.1 x hx)
theorem srtS_rising : ∀ l : List Str, (srtS l).Pairwise leS
  | [] => .nil
  | i :: r => insS_rising i _ (srtS_rising r)
end Mid
/-! Mid5: operators, built-ins, methods: lifted. -/
namespace Mid
open PySem PySem.Spec L2 Classical
section
variable {K : PySem.W.Frag} {κ : Kap} {W : WX} {ρ : List Addr} {σ : L2.St} {H : Hp} {s : Mst} {Q : VK} {p : Addr}
/-- what an operator's end has to give -/
abbrev EndV (K : PySem.W.Frag) (κ : Kap) (W : WX) (ρ : List Addr) (σ : L2.St) (H : Hp) (r : Rm Dv) (Q : VK) : Prop := Fin K κ W ρ σ H r fun d ρ' _ H' => ∀ v, VR K κ ρ' H' d v → Q v H'
theorem EndV.ok {d : Dv} (h : EndV K κ W ρ σ H (.ok d s) Q) (R : Rel K κ ρ H s) {v : V} (hv : VR K κ ρ H d v) : Q v H := h ρ H Step.refl R v hv
theorem EndV.new {o : MO} {ho : HO} (h : EndV K κ W ρ σ H (mNew o s) Q) (R : Rel K κ ρ H s) (np : H p = none) (hO : OR K κ (ρ ++ [p]) (upd H p ho) p o) : Q (.ref p) (upd H p ho) :=
  h _ _ (Step.new np) (R.new np hO) _ (by rw [← R.len]; exact VR.last)
theorem EndV.newL {l : List Dv} {vs : List V} (h : EndV K κ W ρ σ H (mNew (.lst l) s) Q) (R : Rel K κ ρ H s) (np : H p = none) (hv : VRs K κ ρ H l vs) : Q (.ref p) (upd H p (.lst vs)) :=
  h.new R np ⟨vs, upd_same, VRs.later R (Step.new np) _ _ hv⟩
theorem EndV.tup {l : List Dv} {vs : List V} (h : EndV K κ W ρ σ H (.ok (.tup l) s) Q) (R : Rel K κ ρ H s) (np : H p = none) {its : List Value} (hv : VRs K κ ρ H l vs) : Q (.ref p) (upd H p (.frz (tupO its) (.tup vs))) :=
  h ρ _ (Step.lay np) (R.lay np) _ (by simp only [VR]; exact ⟨p, vs, rfl, .inl ⟨its, upd_same⟩, VRs.later R (Step.lay np) _ _ hv⟩)
theorem EndV.put {n : Nat} {o : MO} {ho : HO} {d : Dv} (h : EndV K κ W ρ σ H (.ok d (s.set n o)) Q) (R : Rel K κ ρ H s) (e : ρ[n]? = some p) (hO : OR K κ ρ (upd H p ho) p o) {v : V} (hv : VR K κ ρ (upd H p ho) d v) : Q v (upd H p ho) :=
  h ρ _ (Step.put e) (R.put e hO) v hv
theorem VR.clstE {l : List Dv} {v : V} (h : VR K κ ρ H (.clst l) v) : ∃ a vs, v = .ref a ∧ SqI K H a vs ∧ VRs K κ ρ H l vs := by simpa only [VR] using h
theorem VR.tyE {n : String} {v : V} (h : VR K κ ρ H (.ty n) v) : v = .ty n := by simpa only [VR] using h
/-- a list as it is read -/
theorem Rel.lstE (R : Rel K κ ρ H s) {d : Dv} {v : V} (h : VR K κ ρ H d v) {l : List Dv} (e : bAny.lstQ d s = some l) : ∃ a vs, v = .ref a ∧ SqL K H a vs ∧ VRs K κ ρ H l vs := by
  cases d with
  | clst m =>
    cases e
    obtain ⟨a, vs, e1, e2, e3⟩ := h.clstE
    exact ⟨a, vs, e1, SqI.list e2, e3⟩
  | loc n =>
    unfold bAny.lstQ at e
    simp only at e
    cases q : s[n]? with
    | none => rw [q] at e; cases e
    | some o =>
      rw [q] at e
      cases o with
      | lst m =>
        cases e
        obtain ⟨a, _, e2, vs, e3, e4⟩ := R.loc h q
        exact ⟨a, vs, e2, .of e3, e4⟩
      | _ => cases e
  | _ => cases e
theorem seqOf_eq {d : Dv} {l : List Dv} (e : seqOf d s = some l) : d = .tup l ∨ bAny.lstQ d s = some l := by
  cases d with
  | tup m => cases e; exact .inl rfl
  | clst m => cases e; exact .inr rfl
  | loc n => exact .inr e
  | _ => cases e

/-! ### data as a whole -/
mutual
theorem dat_ok (R : Rel K κ ρ H s) : ∀ (n : Nat) (d : Dv) (v : V) (a : PyData), VR K κ ρ H d v → dat s n d = some a → Dp K H v a
  | 0, _, _, _, _, e => by cases e
  | n + 1, d, v, a, h, e => by
    unfold dat at e
    cases d with
    | non => cases e; rw [h.non]; exact .non
    | bl b => cases e; rw [h.bl]; exact .bl b
    | int b => cases e; rw [h.int]; exact .int b
    | str b => cases e; rw [h.str]; exact .str b
    | tup l =>
      simp only at e
      cases q : datA (dat s n) l with
      | none => rw [q] at e; cases e
      | some as =>
        rw [q] at e; cases e
        obtain ⟨p, vs, rfl, e2, e3⟩ := h.tupE
        exact .tup e2 (datA_ok R n l vs as e3 q)
    | clst l =>
      simp only at e
      cases q : datA (dat s n) l with
      | none => rw [q] at e; cases e
      | some as =>
        rw [q] at e; cases e
        obtain ⟨p, vs, rfl, e2, e3⟩ := h.clstE
        exact .lst (SqI.list e2) (datA_ok R n l vs as e3 q)
    | loc k =>
      simp only at e
      cases q0 : s[k]? with
      | none => rw [q0] at e; cases e
      | some o =>
        rw [q0] at e
        cases o with
        | lst l =>
          simp only at e
          cases q : datA (dat s n) l with
          | none => rw [q] at e; cases e
          | some as =>
            rw [q] at e; cases e
            obtain ⟨p, _, rfl, vs, e2, e3⟩ := R.loc h q0
            exact .lst (.of e2) (datA_ok R n l vs as e3 q)
        | _ => cases e
    | ptup _ => cases e
    | fix _ => cases e
    | ty _ => cases e
theorem datA_ok (R : Rel K κ ρ H s) : ∀ (n : Nat) (ds : List Dv) (vs : List V) (as : List PyData), VRs K κ ρ H ds vs → datA (dat s n) ds = some as → DpAll K H vs as
  | n, [], vs, as, h, e => by
    simp only [VRs] at h
    subst h
    cases e
    exact .nil
  | n, d :: ds, vs, as, h, e => by
    simp only [VRs] at h
    obtain ⟨v, r, rfl, h1, h2⟩ := h
    unfold datA at e
    cases q1 : dat s n d with
    | none => rw [q1] at e; cases e
    | some a =>
      rw [q1] at e
      cases q2 : datA (dat s n) ds with
      | none => rw [q2] at e; cases e
      | some r =>
        rw [q2] at e
        cases e
        exact .cons (dat_ok R n d v a h1 q1) (datA_ok R n ds _ r h2 q2)
end
/-- a list's data -/
theorem lst_dat (R : Rel K κ ρ H s) {d : Dv} {v : V} (h : VR K κ ρ H d v) {l : List Dv} {as : List PyData} {n : Nat} (e : bAny.lstQ d s = some l) (q : datA (dat s n) l = some as) : Dp K H v (.list as) := by
  obtain ⟨a, vs, rfl, h1, h2⟩ := R.lstE h e
  exact .lst h1 (datA_ok R n l vs as h2 q)
end

section
variable {X : Cx} {κ : Kap}
/-! ### ints -/
theorem L_ii {C : Int → Int → Prop} {g : Int → Int → V} {f : Int → Int → Option Dv} (hf : ∀ i j d, f i j = some d → C i j ∧ ∀ (ρ : List Addr) (H : Hp), VR X.K κ ρ H d (g i j)) : OpL X κ (rI C g) (oII f) := by
  intro W ρ σ H s x y dx dy Q R hx hy h
  cases dx with
  | int i =>
    cases dy with
    | int j =>
      unfold oII at h
      simp only at h
      cases e : f i j with
      | none => rw [e] at h; exact h.elim
      | some d =>
        rw [e] at h
        exact ⟨i, j, hx.int, hy.int, (hf i j d e).1, EndV.ok h R ((hf i j d e).2 ρ H)⟩
    | _ => exact h.elim
  | _ => cases dy <;> exact h.elim
theorem L_ii0 {g : Int → Int → V} {f : Int → Int → Option Dv} (hf : ∀ i j d, f i j = some d → ∀ (ρ : List Addr) (H : Hp), VR X.K κ ρ H d (g i j)) : OpL X κ (rI0 g) (oII f) := by
  intro W ρ σ H s x y dx dy Q R hx hy h
  obtain ⟨i, j, a, b, _, q⟩ := L_ii (X := X) (κ := κ) (C := fun _ _ => True) (g := g) (f := f) (fun i j d e => ⟨trivial, hf i j d e⟩) W ρ σ H s x y dx dy Q R hx hy h
  exact ⟨i, j, a, b, q⟩
theorem L_sub : OpL X κ (rI0 fun i j => .int (i - j)) oSub := L_ii0 fun i j d e ρ H => by cases e; simp only [VR]
theorem L_lt : OpL X κ (rI0 fun i j => .bl (decide (i < j))) oLt := L_ii0 fun i j d e ρ H => by cases e; simp only [VR]
theorem L_le : OpL X κ (rI0 fun i j => .bl (decide (i ≤ j))) oLe := L_ii0 fun i j d e ρ H => by cases e; simp only [VR]
theorem L_gt : OpL X κ (rI0 fun i j => .bl (decide (j < i))) oGt := L_ii0 fun i j d e ρ H => by cases e; simp only [VR]
theorem L_ge : OpL X κ (rI0 fun i j => .bl (decide (j ≤ i))) oGe := L_ii0 fun i j d e ρ H => by cases e; simp only [VR]
theorem L_mod : OpL X κ (rI (fun _ j => 0 < j) fun i j => .int (i % j)) oMod := L_ii fun i j d e => by
  by_cases h : 0 < j
  · rw [if_pos h] at e; cases e; exact ⟨h, fun ρ H => by simp only [VR]⟩
  · rw [if_neg h] at e; cases e
theorem L_fdiv : OpL X κ (rI CDivW fun i j => .int (i / j)) oFdiv := L_ii fun i j d e => by
  by_cases h : 0 < j ∧ j.natAbs.log2 < 9000
  · rw [if_pos h] at e; cases e; exact ⟨h, fun ρ H => by simp only [VR]⟩
  · rw [if_neg h] at e; cases e
theorem L_pow : OpL X κ (rI CPow fun i j => .int (i ^ j.toNat)) oPow := L_ii fun i j d e => by
  by_cases h : 0 ≤ j ∧ j ≤ 1000000 ∧ i.natAbs < 2 ^ 64
  · rw [if_pos h] at e; cases e; exact ⟨h, fun ρ H => by simp only [VR]⟩
  · rw [if_neg h] at e; cases e
theorem L_neg : UnL X κ (rU fun i => .int (-i)) uNeg := by
  intro W ρ σ H s x dx Q R hx h
  cases dx with
  | int i => exact ⟨i, hx.int, EndV.ok h R (by simp only [VR])⟩
  | _ => exact h.elim
/-! ### + and * -/
def rAddA (K : PySem.W.Frag) : R2 := fun x y H Q => (((rI0 fun i j => .int (i + j)) x y H Q ∨ (∃ i j, x = .str i ∧ y = .str j ∧ i.length + j.length ≤ sizeLine ∧ Q (.str (i ++ j)) H)) ∨ rCatD K x y H Q) ∨ rCat x y H Q
theorem or_add : OpR X (binaryOp .Add) (rAddA X.K) := OpR.or (OpR.or (OpR.or op_add op_add_str) op_catD) op_cat
theorem L_add : OpL X κ (rAddA X.K) oAdd := by
  intro W ρ σ H s x y dx dy Q R hx hy h
  unfold oAdd at h
  cases dx with
  | int i =>
    cases dy with
    | int j => exact .inl (.inl (.inl ⟨i, j, hx.int, hy.int, EndV.ok h R (by simp only [VR])⟩))
    | _ => exact h.elim
  | str i =>
    cases dy with
    | str j =>
      simp only at h
      by_cases hl : i.length + j.length ≤ 2 ^ 24
      · rw [if_pos hl] at h
        exact .inl (.inl (.inr ⟨i, j, hx.str, hy.str, hl, EndV.ok h R (by simp only [VR])⟩))
      · rw [if_neg hl] at h; exact h.elim
    | _ => exact h.elim
  | tup l =>
    cases dy with
    | tup m =>
      simp only at h
      by_cases hl : l.length + m.length ≤ 2 ^ 24
      · rw [if_pos hl] at h
        obtain ⟨a, vs, rfl, a2, a3⟩ := hx.tupE
        obtain ⟨b, us, rfl, b2, b3⟩ := hy.tupE
        refine .inl (.inr ⟨a, b, vs, us, rfl, rfl, a2, b2, by rw [a3.length, b3.length]; exact hl, fun e => ?_, fun _ e => ?_, fun _ _ p its np => EndV.tup h R np (a3.append b3)⟩)
        · subst e
          have : l = [] := List.eq_nil_of_length_eq_zero (by rw [← a3.length]; rfl)
          subst this
          exact EndV.ok h R hy
        · subst e
          have : m = [] := List.eq_nil_of_length_eq_zero (by rw [← b3.length]; rfl)
          subst this
          rw [List.append_nil] at h
          exact EndV.ok h R hx
      · rw [if_neg hl] at h; exact h.elim
    | _ => exact h.elim
  | loc a =>
    cases dy with
    | loc b =>
      simp only at h
      cases e1 : s[a]? with
      | none => rw [e1] at h; exact h.elim
      | some o1 =>
        rw [e1] at h
        cases o1 with
        | lst l =>
          cases e2 : s[b]? with
          | none => rw [e2] at h; exact h.elim
          | some o2 =>
            rw [e2] at h
            cases o2 with
            | lst m =>
              simp only at h
              by_cases hl : l.length + m.length ≤ 2 ^ 24
              · rw [if_pos hl] at h
                obtain ⟨p, _, rfl, vs, q1, q2⟩ := R.loc hx e1
                obtain ⟨p', _, rfl, us, r1, r2⟩ := R.loc hy e2
                exact .inr ⟨p, p', vs, us, rfl, rfl, q1, r1, by rw [q2.length, r2.length]; exact hl, fun t nt => EndV.newL h R nt (q2.append r2)⟩
              · rw [if_neg hl] at h; exact h.elim
            | _ => exact h.elim
        | _ => exact h.elim
    | _ => exact h.elim
  | _ => cases dy <;> exact h.elim
theorem VRs.rep {K : PySem.W.Frag} {ρ : List Addr} {H : Hp} {l : List Dv} {vs : List V} (h : VRs K κ ρ H l vs) : ∀ n : Nat, VRs K κ ρ H (List.replicate n l).flatten (List.replicate n vs).flatten
  | 0 => by simpa using VRs.nil
  | n + 1 => by
    rw [List.replicate_succ, List.replicate_succ, List.flatten_cons, List.flatten_cons]
    exact h.append (VRs.rep h n)
def rMulA : R2 := fun x y H Q => (rI CMulW fun i j => .int (i * j)) x y H Q ∨ rRep x y H Q
theorem or_mul : OpR X (binaryOp .Mult) rMulA := OpR.or op_mulW op_rep
theorem L_mul : OpL X κ rMulA oMul := by
  intro W ρ σ H s x y dx dy Q R hx hy h
  unfold oMul at h
  cases dx with
  | int i =>
    cases dy with
    | int j =>
      simp only at h
      by_cases hl : i.natAbs.log2 + j.natAbs.log2 < 1000000
      · rw [if_pos hl] at h
        exact .inl ⟨i, j, hx.int, hy.int, hl, EndV.ok h R (by simp only [VR])⟩
      · rw [if_neg hl] at h; exact h.elim
    | _ => exact h.elim
  | loc a =>
    cases dy with
    | int k =>
      simp only at h
      cases e1 : s[a]? with
      | none => rw [e1] at h; exact h.elim
      | some o1 =>
        rw [e1] at h
        cases o1 with
        | lst l =>
          simp only at h
          by_cases hl : -(2 ^ 63) ≤ k ∧ k < 2 ^ 63 ∧ l.length * k.toNat ≤ 2 ^ 24
          · rw [if_pos hl] at h
            obtain ⟨p, _, rfl, vs, q1, q2⟩ := R.loc hx e1
            exact .inr ⟨p, k, vs, rfl, hy.int, q1, hl.1, hl.2.1, by rw [q2.length]; exact hl.2.2, fun t nt => EndV.newL h R nt (q2.rep _)⟩
          · rw [if_neg hl] at h; exact h.elim
        | _ => exact h.elim
    | _ => exact h.elim
  | _ => cases dy <;> exact h.elim
/-! ### ==, !=, is -/
theorem L_cmpD {f : PyData → PyData → Bool} {r : R2} (hr : ∀ x y H Q, (∃ d e, Dp X.K H x d ∧ Dp X.K H y e ∧ SeqAt.shaped d = true ∧ SeqAt.shaped e = true ∧ Q (.bl (f d e)) H) → r x y H Q) : OpL X κ r (oCmpD f) := by
  intro W ρ σ H s x y dx dy Q R hx hy h
  unfold oCmpD at h
  cases e1 : dat s 66 dx with
  | none => rw [e1] at h; exact h.elim
  | some a =>
    cases e2 : dat s 66 dy with
    | none => rw [e1, e2] at h; exact h.elim
    | some b =>
      rw [e1, e2] at h
      simp only at h
      by_cases hs : SeqAt.shaped a = true ∧ SeqAt.shaped b = true
      · rw [if_pos hs] at h
        exact hr _ _ _ _ ⟨a, b, dat_ok R 66 dx x a hx e1, dat_ok R 66 dy y b hy e2, hs.1, hs.2, EndV.ok h R (by simp only [VR])⟩
      · rw [if_neg hs] at h; exact h.elim
theorem L_eq : OpL X κ (rEqD X.K) oEq := L_cmpD fun _ _ _ _ h => h
theorem L_ne : OpL X κ (rNeD X.K) oNe := L_cmpD fun _ _ _ _ h => h
def rIs : R2 := fun x y H Q => (y = .non ∧ Q (.bl (decide (x = .non))) H) ∨ ∃ a b : Bool, x = .bl a ∧ y = .bl b ∧ Q (.bl (decide (a = b))) H
def rIsNot : R2 := fun x y H Q => (y = .non ∧ Q (.bl (!decide (x = .non))) H) ∨ ∃ a b : Bool, x = .bl a ∧ y = .bl b ∧ Q (.bl (!decide (a = b))) H
theorem or_is : OpR X (compareOp .Is) rIs := OpR.or op_isN op_is_bl
theorem or_isnot : OpR X (compareOp .IsNot) rIsNot := OpR.or op_notN op_isnot_bl
theorem VR.isNon {K : PySem.W.Frag} {ρ : List Addr} {H : Hp} {d : Dv} {v : V} (h : VR K κ ρ H d v) : decide (v = .non) = isNonQ d := by
  cases d with
  | non => simp only [VR] at h; subst h; rfl
  | bl b => simp only [VR] at h; subst h; rfl
  | int b => simp only [VR] at h; subst h; rfl
  | str b => simp only [VR] at h; subst h; rfl
  | tup l => obtain ⟨a, vs, rfl, _⟩ := h.tupE; rfl
  | ptup l => obtain ⟨a, vs, rfl, _⟩ := h.ptupE; rfl
  | clst l => obtain ⟨a, vs, rfl, _⟩ := h.clstE; rfl
  | loc n => simp only [VR] at h; obtain ⟨a, _, rfl⟩ := h; rfl
  | fix n => simp only [VR] at h; subst h; rfl
  | ty n => simp only [VR] at h; subst h; rfl
theorem L_is : OpL X κ rIs oIsN := by
  intro W ρ σ H s x y dx dy Q R hx hy h
  unfold oIsN at h
  cases dy with
  | non => exact .inl ⟨hy.non, by rw [hx.isNon]; exact EndV.ok h R (by simp only [VR])⟩
  | bl b =>
    cases dx with
    | bl a => exact .inr ⟨a, b, hx.bl, hy.bl, EndV.ok h R (by simp only [VR])⟩
    | _ => exact h.elim
  | _ => exact h.elim
theorem L_isnot : OpL X κ rIsNot oNotN := by
  intro W ρ σ H s x y dx dy Q R hx hy h
  unfold oNotN at h
  cases dy with
  | non => exact .inl ⟨hy.non, by rw [hx.isNon]; exact EndV.ok h R (by simp only [VR])⟩
  | bl b =>
    cases dx with
    | bl a => exact .inr ⟨a, b, hx.bl, hy.bl, EndV.ok h R (by simp only [VR])⟩
    | _ => exact h.elim
  | _ => exact h.elim
end
end Mid
/-! MidN: dicts whose keys are tuples, nested too. -/
namespace Mid
open PySem PySem.Spec L2 Classical
mutual
theorem nested_of {h : Heap} : ∀ (d : PyData) (v : Value) (as : List Addr) (k : NestedKey), Reads h v d as → nkP d = some k → NestedIs h k v
  | .none, _, _, _, r, e => by cases r; unfold nkP at e; cases e; exact .none
  | .bool b, _, _, _, r, e => by cases r; unfold nkP at e; cases e; exact .bool rfl
  | .int i, _, _, _, r, e => by cases r; unfold nkP at e; cases e; exact .int _ _
  | .str x, _, _, _, r, e => by cases r; unfold nkP at e; cases e; exact .text _ _
  | .tuple l, _, _, _, r, e => by
    unfold nkP at e
    cases q : nkPs l with
    | none => rw [q] at e; cases e
    | some ks =>
      rw [q] at e
      cases e
      cases r with
      | tuple h1 h2 h3 h4 => exact .tup h1 h2 h3 (nested_all l _ _ _ h4 q)
  | .list l, _, _, _, r, e => by unfold nkP at e; cases e
  | .dict l, _, _, _, r, e => by unfold nkP at e; cases e
theorem nested_all {h : Heap} : ∀ (ds : List PyData) (vs : List Value) (as : List Addr) (ks : List NestedKey), ReadsAll h vs ds as → nkPs ds = some ks → NestedAll h ks vs
  | [], _, _, _, r, e => by cases r; unfold nkPs at e; cases e; exact .nil
  | d :: ds, _, _, _, r, e => by
    unfold nkPs at e
    cases r with
    | cons r1 r2 =>
      cases q1 : nkP d with
      | none => rw [q1] at e; cases e
      | some k =>
        cases q2 : nkPs ds with
        | none => rw [q1, q2] at e; cases e
        | some ks =>
          rw [q1, q2] at e
          cases e
          exact .cons (nested_of d _ _ _ r1 q1) (nested_all ds _ _ _ r2 q2)
end
mutual
/-- what is read without the list of things that change -/
theorem dat_nil {ρ : List Addr} {H : Hp} {K : PySem.W.Frag} {κ : Kap} : ∀ (n : Nat) (d : Dv) (v : V) (a : PyData), VR K κ ρ H d v → dat [] n d = some a → Dp K H v a
  | 0, _, _, _, _, e => by cases e
  | n + 1, d, v, a, h, e => by
    unfold dat at e
    cases d with
    | non => cases e; rw [h.non]; exact .non
    | bl b => cases e; rw [h.bl]; exact .bl b
    | int i => cases e; rw [h.int]; exact .int i
    | str x => cases e; rw [h.str]; exact .str x
    | tup l =>
      simp only at e
      cases q : datA (dat [] n) l with
      | none => rw [q] at e; cases e
      | some ds =>
        rw [q] at e; cases e
        obtain ⟨p, vs, rfl, e2, e3⟩ := VR.tupE h
        exact .tup e2 (datA_nil n l vs ds e3 q)
    | clst l =>
      simp only at e
      cases q : datA (dat [] n) l with
      | none => rw [q] at e; cases e
      | some ds =>
        rw [q] at e; cases e
        obtain ⟨p, vs, rfl, e2, e3⟩ := VR.clstE h
        exact .lst (SqI.list e2) (datA_nil n l vs ds e3 q)
    | loc k => simp at e
    | ptup _ => cases e
    | fix k => cases e
    | ty k => cases e
theorem datA_nil {ρ : List Addr} {H : Hp} {K : PySem.W.Frag} {κ : Kap} : ∀ (n : Nat) (l : List Dv) (vs : List V) (ds : List PyData), VRs K κ ρ H l vs → datA (dat [] n) l = some ds → DpAll K H vs ds
  | _, [], vs, ds, h, e => by
    simp only [VRs] at h; subst h
    unfold datA at e; cases e
    exact .nil
  | n, d :: l, vs, ds, h, e => by
    simp only [VRs] at h
    obtain ⟨v, r, rfl, h1, h2⟩ := h
    unfold datA at e
    cases q1 : dat [] n d with
    | none => rw [q1] at e; cases e
    | some x =>
      cases q2 : datA (dat [] n) l with
      | none => rw [q1, q2] at e; cases e
      | some xs =>
        rw [q1, q2] at e; cases e
        exact .cons (dat_nil n d v x h1 q1) (datA_nil n l r xs h2 q2)
end
/-- the tuple at b is the key k -/
def KeyIs (K : PySem.W.Frag) (H : Hp) (b : Addr) (k : NestedKey) : Prop := ∃ d, Dp K H (.ref b) d ∧ nkP d = some k ∧ k.depth ≤ 8
theorem keyN_ok {ρ : List Addr} {H : Hp} {K : PySem.W.Frag} {κ : Kap} {d : Dv} {v : V} {k : NestedKey} (h : VR K κ ρ H d v) (e : keyN d = some k) : ∃ b, v = .ref b ∧ KeyIs K H b k := by
  cases d with
  | tup l =>
    unfold keyN at e
    simp only at e
    cases q : (dat [] 66 (.tup l)).bind nkP with
    | none => rw [q] at e; cases e
    | some k' =>
      rw [q] at e
      simp only at e
      by_cases hd : k'.depth ≤ 8
      · rw [if_pos hd] at e; cases e
        obtain ⟨d, h1, h2⟩ := Option.bind_eq_some_iff.mp q
        obtain ⟨b, vs, rfl, e2, e3⟩ := VR.tupE h
        exact ⟨b, rfl, d, dat_nil 66 _ _ _ h h1, h2, hd⟩
      · rw [if_neg hd] at e; cases e
  | _ => cases e
section
variable {es : List (NestedKey × Addr × V)} {xs : List (NestedKey × Addr × Value)}
def valE (es : List (NestedKey × Addr × V)) (k : NestedKey) : Option V := (es.find? fun e => decide (e.1 = k)).map (·.2.2)
def putE (es : List (NestedKey × Addr × V)) (k : NestedKey) (b : Addr) (v : V) : List (NestedKey × Addr × V) := if (valE es k).isSome then es.map (fun e => if e.1 = k then (e.1, e.2.1, v) else e) else es ++ [(k, b, v)]
theorem PN.val (r : PN es xs) (k : NestedKey) : RelO (valE es k) ((atKey xs k).map (·.2)) := by
  unfold valE
  induction r with
  | nil => exact True.intro
  | @cons p q ps qs h t ih =>
    obtain ⟨h1, _, h2⟩ := h
    by_cases e : p.1 = k
    · have e' : q.1 = k := h1.symm.trans e
      have b : atKey (q :: qs) k = some q.2 := by simp [atKey, List.find?_cons, e']
      rw [List.find?_cons, decide_eq_true e, b]; exact h2
    · have e' : ¬ q.1 = k := fun z => e (h1.trans z)
      have b : atKey (q :: qs) k = atKey qs k := by simp [atKey, List.find?_cons, e']
      rw [List.find?_cons, decide_eq_false e, b]; exact ih
theorem PN.repl (r : PN es xs) (k : NestedKey) {y : V} {u : Value} (ry : RelV y u) : PN (es.map fun e => if e.1 = k then (e.1, e.2.1, y) else e) (xs.map (putAt k u)) := by
  induction r with
  | nil => exact .nil
  | @cons p q ps qs h t ih =>
    rw [List.map_cons, List.map_cons]
    refine .cons ?_ ih
    obtain ⟨h1, h2, h3⟩ := h
    unfold putAt
    by_cases e : p.1 = k
    · rw [if_pos e, if_pos (h1.symm.trans e)]; exact ⟨h1, h2, ry⟩
    · rw [if_neg e, if_neg fun z => e (h1.trans z)]; exact ⟨h1, h2, h3⟩
theorem PN.put (r : PN es xs) (k : NestedKey) {b : Addr} {y : V} {u : Value} (ry : RelV y u) : PN (putE es k b y) (storedH xs k b u) := by
  have e : (valE es k).isSome = (atKey xs k).isSome := by rw [(r.val k).isSome_eq, Option.isSome_map]
  unfold putE storedH
  rw [e]
  by_cases q : (atKey xs k).isSome = true
  · rw [if_pos q, if_pos q]; exact r.repl k ry
  · rw [if_neg q, if_neg q]; exact Paired.snoc r ⟨rfl, rfl, ry⟩
theorem putE_len (es : List (NestedKey × Addr × V)) (k : NestedKey) (b : Addr) (v : V) : (putE es k b v).length ≤ es.length + 1 := by
  unfold putE
  split <;> simp
theorem PN.keys (r : PN es xs) : xs.map (·.1) = es.map (·.1) := by
  induction r with
  | nil => rfl
  | cons h _ ih => rw [List.map_cons, List.map_cons, ih, h.1]
theorem PN.mem {x : NestedKey × Addr × Value} (r : PN es xs) (hx : x ∈ xs) : ∃ e ∈ es, x.1 = e.1 ∧ x.2.1 = e.2.1 := by
  induction r with
  | nil => cases hx
  | @cons p q ps qs h t ih =>
    rcases List.mem_cons.mp hx with e | hx
    · subst e; exact ⟨p, List.mem_cons_self, h.1.symm, h.2.1.symm⟩
    · obtain ⟨e, he, h'⟩ := ih hx
      exact ⟨e, List.mem_cons_of_mem _ he, h'⟩
theorem mem_putE {e : NestedKey × Addr × V} {k : NestedKey} {b : Addr} {v : V} (h : e ∈ putE es k b v) : (∃ e' ∈ es, e'.1 = e.1 ∧ e'.2.1 = e.2.1) ∨ (e.1 = k ∧ e.2.1 = b) := by
  unfold putE at h
  split at h
  · obtain ⟨e', h1, h2⟩ := List.mem_map.mp h
    refine .inl ⟨e', h1, ?_⟩
    split at h2 <;> subst h2 <;> exact ⟨rfl, rfl⟩
  · rcases List.mem_append.mp h with h | h
    · exact .inl ⟨e, h, rfl, rfl⟩
    · rw [List.mem_singleton.mp h]; exact .inr ⟨rfl, rfl⟩
end
/-- the dict of tuples at a, or an empty one -/
def NDa (w : World) (H : Hp) (a : Addr) (es : List (NestedKey × Addr × V)) : Prop := H a = some (dNO w a es) ∨ (H a = some (.dK []) ∧ es = [])
section
variable {X : Cx} {pins : List (Addr × Obj)} {σ : L2.St} {H : Hp} {s : Shared} {a b : Addr} {es : List (NestedKey × Addr × V)} {k : NestedKey}
theorem key_is (I : Inv X pins σ H s) (h : KeyIs X.K H b k) : (nestedKind X.prog X.w).is s.heap k b := by
  obtain ⟨d, h1, h2, h3⟩ := h
  obtain ⟨as, r⟩ := Dp.reads I d _ (.ref b) h1 rfl
  exact ⟨nested_of d _ _ _ r h2, h3⟩
theorem nda_at (I : Inv X pins σ H s) (h : NDa X.w H a es) (hk : ∀ e ∈ es, KeyIs X.K H e.2.1 e.1) : (a == sysModules) = false ∧ es.length ≤ sizeLine ∧ ∃ xs, PN es xs ∧ s.heap.DictOfH (nestedKind X.prog X.w) a xs := by
  rcases h with h | ⟨h, rfl⟩
  · obtain ⟨⟨h1, h2, h3, xs, o, ds, ep, r, ho, hx, hd, he⟩, _, _⟩ := I.hok a _ h
    refine ⟨h1, h2, xs, r, o, ds, ep, ho, hx, hd, he, fun x hx => ?_, by rw [r.keys]; exact h3⟩
    obtain ⟨e, m, e1, e2⟩ := r.mem hx
    rw [e1, e2]
    exact key_is I (hk e m)
  · obtain ⟨_, h1, vs, r, o, ds, ep, ho, hx, hd, hk', hp, _⟩ := I.hok a _ h
    cases r
    refine ⟨h1, Nat.zero_le _, [], .nil, o, ds, ep, ho, hx, hd, ?_, (fun _ hx => by cases hx), List.nodup_nil⟩
    cases e : ds.toList with
    | nil => rfl
    | cons z zs => rw [e] at hp; cases hp
theorem dNO_ok {P : Program} {w : World} {H' : Hp} {h' : Heap} {xs : List (NestedKey × Addr × Value)} (h1 : (a == sysModules) = false) (h2 : es.length ≤ sizeLine) (r : PN es xs) (dd : h'.DictOfH (nestedKind P w) a xs) : ObjOk P w H' h' a (dNO w a es) := by
  obtain ⟨o, ds, ep, ho, hx, hd, he, _, hn⟩ := dd
  refine ⟨⟨h1, h2, by rw [← r.keys]; exact hn, xs, o, ds, ep, r, ho, hx, hd, he⟩, ⟨o, ho⟩, fun g1 g2 p k => ?_⟩
  obtain ⟨q1, q2, q3, ys, o', ds', ep', t, go, gx, gd, ge⟩ := p
  exact ⟨q1, q2, q3, ys, o', ds', ep', t, k _ go, gx, gd, ge⟩
theorem room8 {A : Around} (hu : A.units + 65 < cLine) : A.in1.units + 8 < cLine := by
  simp only [Around.in1_units]; omega
theorem nda_mut (h : NDa X.w H a es) : Mut (H a) := by
  rcases h with h | ⟨h, _⟩ <;> rw [h] <;> trivial
/-! ### the rules -/
def rGetN (K : PySem.W.Frag) (w : World) : R2 := fun x y H Q => ∃ a b k es v, x = .ref a ∧ y = .ref b ∧ KeyIs K H b k ∧ NDa w H a es ∧ (∀ e ∈ es, KeyIs K H e.2.1 e.1) ∧ valE es k = some v ∧ Q v H
theorem ix_dictN (hu : X.A.units + 65 < cLine) : IxR X (rGetN X.K X.w) := by
  intro value slice pins s σ H x y v u Q I rx ry h hs
  obtain ⟨a, b, k, es, z, rfl, rfl, hk, hd, hks, hv, q⟩ := h
  obtain rfl : v = Value.ref a := rx
  obtain rfl : u = Value.ref b := ry
  obtain ⟨_, _, xs, r, dd⟩ := nda_at I hd hks
  obtain ⟨w', hw, rw'⟩ := RelO.some_of (v := z) (o := (atKey xs k).map (·.2)) (by rw [← hv]; exact r.val k)
  obtain ⟨p, hp, hp2⟩ := Option.map_eq_some_iff.mp hw
  refine PyProof.Rows.tail_any dd.typeIs PySem.F.slot_dict_getitem.lookup (wpAny_getItem_heap (room8 hu) (key_is I hk) dd hp ?_) hs
  rw [hp2]
  exact ⟨z, H, I.tok _, rw', q⟩
def rInN (K : PySem.W.Frag) (w : World) : R2 := fun x y H Q => ∃ a b k es, y = .ref a ∧ x = .ref b ∧ KeyIs K H b k ∧ NDa w H a es ∧ (∀ e ∈ es, KeyIs K H e.2.1 e.1) ∧ Q (.bl (valE es k).isSome) H
def rNotInN (K : PySem.W.Frag) (w : World) : R2 := fun x y H Q => ∃ a b k es, y = .ref a ∧ x = .ref b ∧ KeyIs K H b k ∧ NDa w H a es ∧ (∀ e ∈ es, KeyIs K H e.2.1 e.1) ∧ Q (.bl (!(valE es k).isSome)) H
theorem or_inN (hu : X.A.units + 65 < cLine) : OpR X (compareOp .In) (rInN X.K X.w) := by
  intro pins s σ H x y v u Q I rx ry h
  obtain ⟨a, b, k, es, rfl, rfl, hk, hd, hks, q⟩ := h
  obtain rfl : u = Value.ref a := ry
  obtain rfl : v = Value.ref b := rx
  obtain ⟨h1, _, xs, r, dd⟩ := nda_at I hd hks
  refine wpAny_in_heap (room8 hu) (key_is I hk) h1 dd ?_
  have e := (r.val k).isSome_eq
  rw [Option.isSome_map] at e
  rw [← e]
  exact ⟨.bl _, H, I.tok _, rfl, q⟩
theorem or_notInN (hu : X.A.units + 65 < cLine) : OpR X (compareOp .NotIn) (rNotInN X.K X.w) := by
  intro pins s σ H x y v u Q I rx ry h
  obtain ⟨a, b, k, es, rfl, rfl, hk, hd, hks, q⟩ := h
  obtain rfl : u = Value.ref a := ry
  obtain rfl : v = Value.ref b := rx
  obtain ⟨h1, _, xs, r, dd⟩ := nda_at I hd hks
  refine PyProof.Rows.wpAny_notIn_heap (room8 hu) (key_is I hk) h1 dd ?_
  have e := (r.val k).isSome_eq
  rw [Option.isSome_map] at e
  rw [← e]
  exact ⟨.bl _, H, I.tok _, rfl, q⟩
def rPutN (K : PySem.W.Frag) (w : World) : TSet := fun o i v H Q => ∃ a b k es, o = .ref a ∧ i = .ref b ∧ KeyIs K H b k ∧ NDa w H a es ∧ (∀ e ∈ es, KeyIs K H e.2.1 e.1) ∧ es.length < sizeLine ∧ Q (upd H a (dNO w a (putE es k b v)))
theorem set_dictN (hu : X.A.units + 65 < cLine) : PSet X (rPutN X.K X.w) := by
  intro pins s σ H o i v ov iv u Q I ro ri rv h
  obtain ⟨a, b, k, es, rfl, rfl, hk, hd, hks, hl, q⟩ := h
  obtain rfl : ov = Value.ref a := ro
  obtain rfl : iv = Value.ref b := ri
  obtain ⟨h1, h2, xs, r, dd⟩ := nda_at I hd hks
  have hz : xs.length ≤ sizeLine := by rw [← Paired.length r]; exact h2
  have hl2 : (putE es k b v).length ≤ sizeLine := by have := putE_len es k b v; omega
  refine wpAny_setItem_heap (hsz := hz) (room8 hu) (key_is I hk) dd fun h' dd' hs => ⟨_, ?_, q⟩
  have he : ∃ q, h'.get? a = some q := let ⟨q, _, _, hq, _⟩ := dd'; ⟨q, hq⟩
  exact d_write I (nda_mut hd) hs he (dNO_ok h1 hl2 (r.put k rv) dd')
/-- d.get(k), d.get(k, x) -/
def rDGetN (K : PySem.W.Frag) (w : World) : V → List V → Hp → VK → Prop := fun x xs H Q => ∃ a b k es, x = .ref a ∧ KeyIs K H b k ∧ NDa w H a es ∧ (∀ e ∈ es, KeyIs K H e.2.1 e.1) ∧
  ((xs = [.ref b] ∧ Q ((valE es k).getD .non) H) ∨ ∃ z, xs = [.ref b, z] ∧ Q ((valE es k).getD z) H)
theorem mt_getN (hu : X.A.units + 65 < cLine) : MtR X "dict.get" (rDGetN X.K X.w) := by
  intro pins s σ H x xs v us Q I rx rxs h
  obtain ⟨a, b, k, es, rfl, hk, hd, hks, h⟩ := h
  obtain rfl : v = Value.ref a := rx
  obtain ⟨h1, _, ys, r, dd⟩ := nda_at I hd hks
  rcases h with ⟨rfl, q⟩ | ⟨z, rfl, q⟩
  · obtain ⟨u, rfl, ru⟩ := rxs.one
    obtain rfl : u = Value.ref b := ru
    exact call_meetsIn PySem.F.slot_dict_get dd.typeIs PySem.F.entry_dict_get (PySem.F.args_dict_get_2 _ _) (meetsH_dict_get (nestedKind X.prog X.w) a b h1) ⟨room8 hu, k, ys, key_is I hk, dd, ⟨_, H, I.tok _, (r.val k).getD (show RelV .non Value.none from rfl), q⟩⟩
  · obtain ⟨u, u2, rfl, ru, ru2⟩ := rxs.two
    obtain rfl : u = Value.ref b := ru
    exact call_meetsIn PySem.F.slot_dict_get dd.typeIs PySem.F.entry_dict_get (PySem.F.args_dict_get_3 _ _ _) (meetsH_dict_get_default (nestedKind X.prog X.w) a b h1 u2) ⟨room8 hu, k, ys, key_is I hk, dd, ⟨_, H, I.tok _, (r.val k).getD ru2, q⟩⟩
/-- d.setdefault(k, x) -/
def rSetdN (K : PySem.W.Frag) (w : World) : V → List V → Hp → VK → Prop := fun x xs H Q => ∃ a b k es z, x = .ref a ∧ xs = [.ref b, z] ∧ KeyIs K H b k ∧ NDa w H a es ∧ (∀ e ∈ es, KeyIs K H e.2.1 e.1) ∧ es.length < sizeLine ∧
  (∀ v, valE es k = some v → Q v H) ∧ (valE es k = none → Q z (upd H a (dNO w a (putE es k b z))))
theorem mt_setdN (hu : X.A.units + 65 < cLine) : MtR X "dict.setdefault" (rSetdN X.K X.w) := by
  intro pins s σ H x xs v us Q I rx rxs h
  obtain ⟨a, b, k, es, z, rfl, rfl, hk, hd, hks, hl, q1, q2⟩ := h
  obtain rfl : v = Value.ref a := rx
  obtain ⟨h1, h2, ys, r, dd⟩ := nda_at I hd hks
  obtain ⟨u, u2, rfl, ru, ru2⟩ := rxs.two
  obtain rfl : u = Value.ref b := ru
  have hz : ys.length ≤ sizeLine := by rw [← Paired.length r]; exact h2
  have hl2 : (putE es k b z).length ≤ sizeLine := by have := putE_len es k b z; omega
  refine call_setdefault_heap (hsz := hz) (room8 hu) (key_is I hk) h1 dd (fun p hp => ?_) fun hp h' dd' hs => ?_
  · have e := r.val k
    rw [hp] at e
    cases e2 : valE es k with
    | none => rw [e2] at e; exact (show False from e).elim
    | some v => rw [e2] at e; exact ⟨v, H, I.tok _, e, q1 v e2⟩
  · have e := r.val k
    rw [hp] at e
    cases e2 : valE es k with
    | some v => rw [e2] at e; exact (show False from e).elim
    | none =>
      have he : ∃ q, h'.get? a = some q := let ⟨q, _, _, hq, _⟩ := dd'; ⟨q, hq⟩
      exact ⟨z, _, d_write I (nda_mut hd) hs he (dNO_ok h1 hl2 (r.put k ru2) dd'), ru2, q2 e2⟩
/-- len(d) -/
def rLenN (K : PySem.W.Frag) (w : World) : List V → Hp → VK → Prop := fun xs H Q => ∃ a es, xs = [.ref a] ∧ NDa w H a es ∧ (∀ e ∈ es, KeyIs K H e.2.1 e.1) ∧ Q (.int es.length) H
end
end Mid
/-! Mid6: dicts, places, slices, built-ins. -/
namespace Mid
open PySem PySem.Spec L2 Classical
open PyProof.Rows (tail_any)
section
variable {K : PySem.W.Frag} {κ : Kap} {W : WX} {ρ ρ' : List Addr} {σ : L2.St} {H H' : Hp} {s : Mst} {Q : VK} {p : Addr} {α : Type} [DecidableEq α]
/-- the pairs of a dict -/
def KR (K : PySem.W.Frag) (κ : Kap) (ρ : List Addr) (H : Hp) (kvs : List (α × Dv)) (vs : List (α × V)) : Prop := vs.map (·.1) = kvs.map (·.1) ∧ VRs K κ ρ H (kvs.map (·.2)) (vs.map (·.2))
theorem KR.nil : KR (α := α) K κ ρ H [] [] := ⟨rfl, .nil⟩
theorem KR.cons {k : α} {d : Dv} {v : V} {kvs : List (α × Dv)} {vs : List (α × V)} (h : VR K κ ρ H d v) (r : KR K κ ρ H kvs vs) : KR K κ ρ H ((k, d) :: kvs) ((k, v) :: vs) :=
  ⟨by simp [r.1], .cons h r.2⟩
theorem KR.ind {kvs : List (α × Dv)} {vs : List (α × V)} (r : KR K κ ρ H kvs vs) : (kvs = [] ∧ vs = []) ∨ ∃ k d v l m, kvs = (k, d) :: l ∧ vs = (k, v) :: m ∧ VR K κ ρ H d v ∧ KR K κ ρ H l m := by
  cases kvs with
  | nil =>
    cases vs with
    | nil => exact .inl ⟨rfl, rfl⟩
    | cons _ _ => have := r.1; simp at this
  | cons a l =>
    cases vs with
    | nil => have := r.1; simp at this
    | cons b m =>
      obtain ⟨k, d⟩ := a
      obtain ⟨k', v⟩ := b
      have e := r.1
      simp only [List.map_cons, List.cons.injEq] at e
      obtain ⟨rfl, e⟩ := e
      have h := r.2
      simp only [List.map_cons, VRs] at h
      obtain ⟨v', r', e2, h1, h2⟩ := h
      simp only [List.cons.injEq] at e2
      obtain ⟨rfl, rfl⟩ := e2
      exact .inr ⟨k', d, v, l, m, rfl, rfl, h1, e, h2⟩
theorem KR.kp {kvs : List (α × Dv)} {vs : List (α × V)} (r : KR K κ ρ H kvs vs) (x : Kp ρ H ρ' H') : KR K κ ρ' H' kvs vs := ⟨r.1, VRs.kp x _ _ r.2⟩
theorem KR.length {kvs : List (α × Dv)} {vs : List (α × V)} (r : KR K κ ρ H kvs vs) : vs.length = kvs.length := by
  have := congrArg List.length r.1
  simpa using this
theorem KR.append {kvs ls : List (α × Dv)} {vs ms : List (α × V)} (r : KR K κ ρ H kvs vs) (q : KR K κ ρ H ls ms) : KR K κ ρ H (kvs ++ ls) (vs ++ ms) :=
  ⟨by rw [List.map_append, List.map_append, r.1, q.1], by rw [List.map_append, List.map_append]; exact r.2.append q.2⟩
theorem KR.val {k : α} : ∀ {kvs : List (α × Dv)} {vs : List (α × V)}, KR K κ ρ H kvs vs → (valV vs k).isSome = (kval kvs k).isSome ∧ ∀ d, kval kvs k = some d → ∃ v, valV vs k = some v ∧ VR K κ ρ H d v := by
  intro kvs
  induction kvs with
  | nil =>
    intro vs r
    rcases r.ind with ⟨_, rfl⟩ | ⟨_, _, _, _, _, e, _⟩
    · exact ⟨rfl, fun d e => by cases e⟩
    · cases e
  | cons a l ih =>
    intro vs r
    rcases r.ind with ⟨e, _⟩ | ⟨k', d, v, l', m, e, rfl, h1, h2⟩
    · cases e
    · cases e
      unfold valV kval
      by_cases hk : k' = k
      · subst hk
        simp only [List.find?_cons, decide_true, Option.map_some]
        exact ⟨rfl, fun d' e => by cases e; exact ⟨v, rfl, h1⟩⟩
      · simp only [List.find?_cons, decide_eq_false hk]
        exact ih h2
theorem KR.any {k : α} : ∀ {kvs : List (α × Dv)} {vs : List (α × V)}, KR K κ ρ H kvs vs → (vs.any fun kv => decide (kv.1 = k)) = (kvs.any fun kv => decide (kv.1 = k)) := by
  intro kvs vs r
  have e : ∀ {β : Type} (l : List (α × β)), (l.any fun kv => decide (kv.1 = k)) = (l.map (·.1)).any fun x => decide (x = k) := fun l => by rw [List.any_map]; rfl
  rw [e, e, r.1]
theorem KR.mapPut {k : α} {d : Dv} {v : V} (h : VR K κ ρ H d v) : ∀ {kvs : List (α × Dv)} {vs : List (α × V)}, KR K κ ρ H kvs vs →
    KR K κ ρ H (kvs.map fun kv => if kv.1 = k then (kv.1, d) else kv) (vs.map fun kv => if kv.1 = k then (kv.1, v) else kv) := by
  intro kvs
  induction kvs with
  | nil =>
    intro vs r
    rcases r.ind with ⟨_, rfl⟩ | ⟨_, _, _, _, _, e, _⟩
    · exact .nil
    · cases e
  | cons a l ih =>
    intro vs r
    rcases r.ind with ⟨e, _⟩ | ⟨k', d', v', l', m, e, rfl, h1, h2⟩
    · cases e
    · cases e
      simp only [List.map_cons]
      by_cases hk : k' = k
      · rw [if_pos hk, if_pos hk]; exact .cons h (ih h2)
      · rw [if_neg hk, if_neg hk]; exact .cons h1 (ih h2)
theorem KR.put {k : α} {d : Dv} {v : V} (h : VR K κ ρ H d v) {kvs : List (α × Dv)} {vs : List (α × V)} (r : KR K κ ρ H kvs vs) : KR K κ ρ H (kput kvs k d) (putK vs k v) := by
  unfold kput putK
  rw [r.any]
  split
  · exact r.mapPut h
  · exact r.append (.cons h .nil)
theorem KR.puts {more : List (KeyQ × Dv)} {ms : List (Key × V)} : ∀ {kvs : List (KeyQ × Dv)} {vs : List (Key × V)}, KR K κ ρ H more ms → KR K κ ρ H kvs vs → KR K κ ρ H (kputs kvs more) (mergeK vs ms) := by
  unfold kputs mergeK
  induction more generalizing ms with
  | nil =>
    intro kvs vs q r
    rcases q.ind with ⟨_, rfl⟩ | ⟨_, _, _, _, _, e, _⟩
    · exact r
    · cases e
  | cons a l ih =>
    intro kvs vs q r
    rcases q.ind with ⟨e, _⟩ | ⟨k', d', v', l', m, e, rfl, h1, h2⟩
    · cases e
    · cases e
      simp only [List.foldl_cons]
      exact ih h2 (r.put h1)
theorem keyQ_ok {d : Dv} {v : V} {k : KeyQ} (h : VR K κ ρ H d v) (e : keyQ d = some k) : v = kV k := by
  cases d with
  | int i => cases e; exact h.int
  | str i => cases e; exact h.str
  | _ => cases e
theorem OR.dk {kvs : List (KeyQ × Dv)} (h : OR K κ ρ H p (.dK kvs)) : ∃ vs : List (Key × V), H p = some (.dK vs) ∧ KR K κ ρ H kvs vs := by
  obtain ⟨vs, e, a, b⟩ := h
  exact ⟨vs, e, a, b⟩
end
section
variable {K : PySem.W.Frag} {κ : Kap} {ρ : List Addr} {H : Hp} {s : Mst} {p : Addr}
def neV (e : NestedKey × Addr × V) : NestedKey × V := (e.1, e.2.2)
theorem valE_map (es : List (NestedKey × Addr × V)) (k : NestedKey) : valV (es.map neV) k = valE es k := by
  unfold valV valE
  induction es with
  | nil => rfl
  | cons e r ih =>
    rw [List.map_cons]
    by_cases h : e.1 = k
    · rw [List.find?_cons, List.find?_cons, decide_eq_true (show (neV e).1 = k from h), decide_eq_true h]; rfl
    · rw [List.find?_cons, List.find?_cons, decide_eq_false (show ¬ (neV e).1 = k from h), decide_eq_false h]; exact ih
theorem putE_map (es : List (NestedKey × Addr × V)) (k : NestedKey) (b : Addr) (v : V) : (putE es k b v).map neV = putK (es.map neV) k v := by
  unfold putE putK
  rw [valV_any, valE_map]
  by_cases q : (valE es k).isSome = true
  · rw [if_pos q, if_pos q, List.map_map, List.map_map]
    refine List.map_congr_left fun e _ => ?_
    show neV (if e.1 = k then (e.1, e.2.1, v) else e) = if (neV e).1 = k then ((neV e).1, v) else neV e
    by_cases h : e.1 = k
    · rw [if_pos h, if_pos (show (neV e).1 = k from h)]; rfl
    · rw [if_neg h, if_neg (show ¬ (neV e).1 = k from h)]
  · rw [if_neg q, if_neg q, List.map_append]; rfl
theorem OR.dn {kvs : List (NestedKey × Dv)} (h : OR K κ ρ H p (.dN kvs)) : ∃ es, H p = some (dNO κ.w p es) ∧ KR K κ ρ H kvs (es.map neV) ∧ (∀ e ∈ es, KeyIs K H e.2.1 e.1) ∧ ∀ e ∈ es, ∃ kd, VR K κ ρ H kd (.ref e.2.1) ∧ keyN kd = some e.1 := by
  obtain ⟨es, h1, h2, h3, h4⟩ := h
  refine ⟨es, h1, ⟨by rw [List.map_map]; exact h2, by rw [List.map_map]; exact h3⟩, fun e he => ?_, h4⟩
  obtain ⟨kd, g1, g2⟩ := h4 e he
  obtain ⟨b, e1, e2⟩ := keyN_ok g1 g2
  cases e1
  exact e2
theorem OR.dk0 {kvs : List (KeyQ × Dv)} (h : OR K κ ρ H p (.dK kvs)) (e : kvs.isEmpty = true) : NDa κ.w H p [] := by
  obtain ⟨vs, e1, h2⟩ := OR.dk h
  have l := h2.length
  cases kvs with
  | nil =>
    cases vs with
    | nil => exact .inr ⟨e1, rfl⟩
    | cons _ _ => simp at l
  | cons _ _ => simp at e
theorem OR.putN (R : Rel K κ ρ H s) {n : Nat} (e0 : ρ[n]? = some p) {kvs : List (NestedKey × Dv)} {es : List (NestedKey × Addr × V)} {dy dz : Dv} {b : Addr} {z : V} {k : NestedKey} (hk : KR K κ ρ H kvs (es.map neV))
    (h4 : ∀ e ∈ es, ∃ kd, VR K κ ρ H kd (.ref e.2.1) ∧ keyN kd = some e.1) (hy : VR K κ ρ H dy (.ref b)) (ey : keyN dy = some k) (hz : VR K κ ρ H dz z) : OR K κ ρ (upd H p (dNO κ.w p (putE es k b z))) p (.dN (kput kvs k dz)) := by
  have kp := (Step.put (H := H) (o := dNO κ.w p (putE es k b z)) e0).kp R
  have r := (hk.put (k := k) hz).kp kp
  rw [← putE_map es k b z] at r
  refine ⟨_, upd_same, ?_, ?_, fun e he => ?_⟩
  · have := r.1; rw [List.map_map] at this; exact this
  · have := r.2; rw [List.map_map] at this; exact this
  · rcases mem_putE he with ⟨e', m, e1, e2⟩ | ⟨e1, e2⟩
    · obtain ⟨kd, g1, g2⟩ := h4 e' m
      exact ⟨kd, by rw [← e2]; exact VR.kp kp _ _ g1, by rw [← e1]; exact g2⟩
    · exact ⟨dy, by rw [e2]; exact VR.kp kp _ _ hy, by rw [e1]; exact ey⟩
end
section
variable {X : Cx} {κ : Kap} {W : WX}
/-! ### in -/
def rInDict : R2 := fun x y H Q => ∃ a o, y = .ref a ∧ DGet H a x o ∧ Q (.bl o.isSome) H
def rNotInDict : R2 := fun x y H Q => ∃ a o, y = .ref a ∧ DGet H a x o ∧ Q (.bl (!o.isSome)) H
theorem or_inDict (hu : X.A.units + 1 < cLine) : OpR X (compareOp .In) rInDict := by
  intro pins s σ H x y v u Q I rx ry h
  obtain ⟨a, o, rfl, g, q⟩ := h
  obtain rfl : u = Value.ref a := ry
  exact d_in hu I g rx fun s' I' => ⟨.bl o.isSome, H, I', rfl, q⟩
theorem or_notInDict (hu : X.A.units + 1 < cLine) : OpR X (compareOp .NotIn) rNotInDict := by
  intro pins s σ H x y v u Q I rx ry h
  obtain ⟨a, o, rfl, g, q⟩ := h
  obtain rfl : u = Value.ref a := ry
  exact d_notIn hu I g rx fun s' I' => ⟨.bl (!o.isSome), H, I', rfl, q⟩
theorem room_in {A : Around} {xs : List PyData} {d : PyData} (hd : SeqAt.shaped d = true) (hu : A.units + 65 < cLine) : A.units + 1 + min (PyData.depthAll xs) d.depth < cLine := by
  have h1 := SeqAt.depth_of_shaped hd
  have h2 : min (PyData.depthAll xs) d.depth ≤ d.depth := Nat.min_le_right _ _
  omega
/-- in a tuple of data -/
def rInT (K : PySem.W.Frag) : R2 := fun x y H Q => ∃ d ds, Dp K H x d ∧ Dp K H y (.tuple ds) ∧ SeqAt.shaped d = true ∧ SeqAt.shaped (.tuple ds) = true ∧ Q (.bl (ds.any fun z => PyData.eqv z d)) H
def rNotInT (K : PySem.W.Frag) : R2 := fun x y H Q => ∃ d ds, Dp K H x d ∧ Dp K H y (.tuple ds) ∧ SeqAt.shaped d = true ∧ SeqAt.shaped (.tuple ds) = true ∧ Q (.bl (!ds.any fun z => PyData.eqv z d)) H
theorem or_inT (hu : X.A.units + 65 < cLine) : OpR X (compareOp .In) (rInT X.K) := by
  rintro pins s σ H x y v u Q I rx ry ⟨d, ds, hd, he, sd, se, q⟩
  obtain ⟨_, r1⟩ := Dp.reads I d x v hd rx
  obtain ⟨_, r2⟩ := Dp.reads I (.tuple ds) y u he ry
  have sl : SeqAt.shaped (.list ds) = true := se
  exact SeqAt.in_tuple_reads r2 r1 (SeqAt.canLay_of_shaped sl) (SeqAt.canLay_of_shaped sd) (room_in sd hu) ⟨.bl _, H, I, rfl, q⟩
theorem or_notInT (hu : X.A.units + 65 < cLine) : OpR X (compareOp .NotIn) (rNotInT X.K) := by
  rintro pins s σ H x y v u Q I rx ry ⟨d, ds, hd, he, sd, se, q⟩
  obtain ⟨_, r1⟩ := Dp.reads I d x v hd rx
  obtain ⟨_, r2⟩ := Dp.reads I (.tuple ds) y u he ry
  have sl : SeqAt.shaped (.list ds) = true := se
  exact SeqAt.notIn_tuple_reads r2 r1 (SeqAt.canLay_of_shaped sl) (SeqAt.canLay_of_shaped sd) (room_in sd hu) ⟨.bl _, H, I, rfl, q⟩
def rInA (K : PySem.W.Frag) : R2 := fun x y H Q => (rInD K x y H Q ∨ rInT K x y H Q) ∨ rInDict x y H Q
def rNotInA (K : PySem.W.Frag) : R2 := fun x y H Q => (rNotInD K x y H Q ∨ rNotInT K x y H Q) ∨ rNotInDict x y H Q
theorem hu1 {A : Around} (h : A.units + 65 < cLine) : A.units + 1 < cLine := by omega
def rInB (K : PySem.W.Frag) (w : World) : R2 := fun x y H Q => rInA K x y H Q ∨ rInN K w x y H Q
def rNotInB (K : PySem.W.Frag) (w : World) : R2 := fun x y H Q => rNotInA K x y H Q ∨ rNotInN K w x y H Q
def rInC (K : PySem.W.Frag) (w : World) : R2 := fun x y H Q => rInB K w x y H Q ∨ ∃ (c : Nat) (z : Str), x = .str ⟨#[c]⟩ ∧ y = .str z ∧ Q (.bl (decide (c ∈ z.cps.toList))) H
def rNotInC (K : PySem.W.Frag) (w : World) : R2 := fun x y H Q => rNotInB K w x y H Q ∨ ∃ (c : Nat) (z : Str), x = .str ⟨#[c]⟩ ∧ y = .str z ∧ Q (.bl (!decide (c ∈ z.cps.toList))) H
theorem or_in (hu : X.A.units + 65 < cLine) : OpR X (compareOp .In) (rInC X.K X.w) := OpR.or (OpR.or (OpR.or (OpR.or (op_inD hu) (or_inT hu)) (or_inDict (hu1 hu))) (or_inN hu)) op_in_sign
theorem or_notIn (hu : X.A.units + 65 < cLine) : OpR X (compareOp .NotIn) (rNotInC X.K X.w) := OpR.or (OpR.or (OpR.or (OpR.or (op_notInD hu) (or_notInT hu)) (or_notInDict (hu1 hu))) (or_notInN hu)) op_notIn_sign
theorem inQ_ok {K : PySem.W.Frag} {ρ : List Addr} {H : Hp} {s : Mst} (R : Rel K κ ρ H s) {x y : V} {dx dy : Dv} {b : Bool} (hx : VR K κ ρ H dx x) (hy : VR K κ ρ H dy y) (e : inQ dx dy s = some b) :
    (∃ d ds, Dp K H x d ∧ Dp K H y (.list ds) ∧ SeqAt.shaped d = true ∧ SeqAt.shaped (.list ds) = true ∧ b = ds.any fun z => PyData.eqv z d) ∨ (∃ d ds, Dp K H x d ∧ Dp K H y (.tuple ds) ∧ SeqAt.shaped d = true ∧ SeqAt.shaped (.tuple ds) = true ∧ b = ds.any fun z => PyData.eqv z d) ∨ (∃ a o, y = .ref a ∧ DGet H a x o ∧ b = o.isSome) ∨ (∃ a b' k es, y = .ref a ∧ x = .ref b' ∧ KeyIs K H b' k ∧ NDa κ.w H a es ∧ (∀ e ∈ es, KeyIs K H e.2.1 e.1) ∧ b = (valE es k).isSome) ∨ (∃ (c : Nat) (z : Str), x = .str ⟨#[c]⟩ ∧ y = .str z ∧ b = decide (c ∈ z.cps.toList)) := by
  have lst : ∀ l, bAny.lstQ dy s = some l → (match dat s 66 dx, datA (dat s 65) l with
      | some a, some bs => if SeqAt.shaped a = true ∧ SeqAt.shaped (.list bs) = true then some (bs.any fun z => PyData.eqv z a) else none
      | _, _ => none) = some b → ∃ d ds, Dp K H x d ∧ Dp K H y (.list ds) ∧ SeqAt.shaped d = true ∧ SeqAt.shaped (.list ds) = true ∧ b = ds.any fun z => PyData.eqv z d := fun l hl e => by
    cases e1 : dat s 66 dx with
    | none => rw [e1] at e; cases e
    | some a =>
      cases e2 : datA (dat s 65) l with
      | none => rw [e1, e2] at e; cases e
      | some bs =>
        rw [e1, e2] at e
        simp only at e
        by_cases hs : SeqAt.shaped a = true ∧ SeqAt.shaped (.list bs) = true
        · rw [if_pos hs] at e
          cases e
          exact ⟨a, bs, dat_ok R 66 dx x a hx e1, lst_dat R hy hl e2, hs.1, hs.2, rfl⟩
        · rw [if_neg hs] at e; cases e
  unfold inQ at e
  cases dy with
  | clst l => exact .inl (lst l rfl e)
  | tup l =>
    simp only at e
    cases e1 : dat s 66 dx with
    | none => rw [e1] at e; cases e
    | some a =>
      cases e2 : datA (dat s 65) l with
      | none => rw [e1, e2] at e; cases e
      | some bs =>
        rw [e1, e2] at e
        simp only at e
        by_cases hs : SeqAt.shaped a = true ∧ SeqAt.shaped (.tuple bs) = true
        · rw [if_pos hs] at e
          cases e
          refine .inr (.inl ⟨a, bs, dat_ok R 66 dx x a hx e1, dat_ok R 66 (.tup l) y (.tuple bs) hy ?_, hs.1, hs.2, rfl⟩)
          show (datA (dat s 65) l).map PyData.tuple = _
          rw [e2]; rfl
        · rw [if_neg hs] at e; cases e
  | loc n =>
    simp only at e
    cases q : s[n]? with
    | none => rw [q] at e; cases e
    | some o =>
      rw [q] at e
      cases o with
      | lst l => exact .inl (lst l (by unfold bAny.lstQ; simp only; rw [q]) e)
      | dK kvs =>
        simp only at e
        obtain ⟨p, _, rfl, h⟩ := R.loc hy q
        obtain ⟨vs, h1, h2⟩ := OR.dk h
        cases hk : keyQ dx with
        | none =>
          rw [hk] at e
          simp only at e
          by_cases h0 : kvs.isEmpty = true
          · rw [if_pos h0] at e
            obtain ⟨k, e1, e2⟩ := Option.map_eq_some_iff.mp e
            obtain ⟨b', rfl, hb⟩ := keyN_ok hx e1
            exact .inr (.inr (.inr (.inl ⟨p, b', k, [], rfl, rfl, hb, OR.dk0 h h0, (fun _ he => by cases he), e2.symm⟩)))
          · rw [if_neg h0] at e; cases e
        | some k =>
          rw [hk] at e
          cases e
          exact .inr (.inr (.inl ⟨p, valV vs k, rfl, by rw [keyQ_ok hx hk]; exact DGet.k h1, (h2.val.1).symm⟩))
      | dN kvs =>
        simp only at e
        obtain ⟨p, _, rfl, h⟩ := R.loc hy q
        obtain ⟨es, h1, h2, h3, _⟩ := OR.dn h
        obtain ⟨k, e1, e2⟩ := Option.map_eq_some_iff.mp e
        obtain ⟨b', rfl, hb⟩ := keyN_ok hx e1
        exact .inr (.inr (.inr (.inl ⟨p, b', k, es, rfl, rfl, hb, .inl h1, h3, by rw [← e2, ← valE_map]; exact (h2.val.1).symm⟩)))
      | _ => cases e
  | str z =>
    simp only at e
    split at e
    · rename_i c
      cases e
      exact .inr (.inr (.inr (.inr ⟨c, z, hx.str, hy.str, rfl⟩)))
    · cases e
  | _ => cases e
theorem L_in (hw : κ.w = X.w) : OpL X κ (rInC X.K X.w) oIn := by
  intro W ρ σ H s x y dx dy Q R hx hy h
  unfold oIn at h
  cases e : inQ dx dy s with
  | none => rw [e] at h; exact h.elim
  | some b =>
    rw [e] at h
    have q : Q (.bl b) H := EndV.ok h R (by simp only [VR])
    rcases inQ_ok R hx hy e with ⟨d, ds, a1, a2, a3, a4, rfl⟩ | ⟨d, ds, a1, a2, a3, a4, rfl⟩ | ⟨a, o, a1, a2, rfl⟩ | ⟨a, b', k, es, a1, a2, a3, a4, a5, rfl⟩ | ⟨c, z, a1, a2, rfl⟩
    · exact .inl (.inl (.inl (.inl ⟨d, ds, a1, a2, a3, a4, q⟩)))
    · exact .inl (.inl (.inl (.inr ⟨d, ds, a1, a2, a3, a4, q⟩)))
    · exact .inl (.inl (.inr ⟨a, o, a1, a2, q⟩))
    · exact .inl (.inr ⟨a, b', k, es, a1, a2, a3, by rw [← hw]; exact a4, a5, q⟩)
    · exact .inr ⟨c, z, a1, a2, q⟩
theorem L_notIn (hw : κ.w = X.w) : OpL X κ (rNotInC X.K X.w) oNotIn := by
  intro W ρ σ H s x y dx dy Q R hx hy h
  unfold oNotIn at h
  cases e : inQ dx dy s with
  | none => rw [e] at h; exact h.elim
  | some b =>
    rw [e] at h
    have q : Q (.bl (!b)) H := EndV.ok h R (by simp only [VR])
    rcases inQ_ok R hx hy e with ⟨d, ds, a1, a2, a3, a4, rfl⟩ | ⟨d, ds, a1, a2, a3, a4, rfl⟩ | ⟨a, o, a1, a2, rfl⟩ | ⟨a, b', k, es, a1, a2, a3, a4, a5, rfl⟩ | ⟨c, z, a1, a2, rfl⟩
    · exact .inl (.inl (.inl (.inl ⟨d, ds, a1, a2, a3, a4, q⟩)))
    · exact .inl (.inl (.inl (.inr ⟨d, ds, a1, a2, a3, a4, q⟩)))
    · exact .inl (.inl (.inr ⟨a, o, a1, a2, q⟩))
    · exact .inl (.inr ⟨a, b', k, es, a1, a2, a3, by rw [← hw]; exact a4, a5, q⟩)
    · exact .inr ⟨c, z, a1, a2, q⟩
/-! ### subscripts -/
def rIxDict : R2 := fun x y H Q => ∃ a v, x = .ref a ∧ DGet H a y (some v) ∧ Q v H
theorem ix_dict (hu : X.A.units + 1 < cLine) : IxR X rIxDict := by
  intro value slice pins s σ H x y v u Q I rx ry h hs
  obtain ⟨a, z, rfl, g, q⟩ := h
  obtain rfl : v = Value.ref a := rx
  exact tail_any (dict_typeIs I g) PySem.F.slot_dict_getitem.lookup (d_getItem hu I g ry fun w' s' I' r => ⟨z, H, I', r, q⟩) hs
def rIxA (K : PySem.W.Frag) (w : World) : R2 := fun x y H Q => (rIx K x y H Q ∨ rIxDict x y H Q) ∨ rGetN K w x y H Q
theorem ix_any (hu : X.A.units + 65 < cLine) : IxR X (rIxA X.K X.w) := IxR.or (IxR.or ix_seq (ix_dict (hu1 hu))) (ix_dictN hu)
theorem atQ_eq {α : Type} (xs : List α) (i : Int) : atQ xs i = atI xs i := rfl
theorem at_ok {K : PySem.W.Frag} {ρ : List Addr} {H : Hp} {l : List Dv} {vs : List V} (h : VRs K κ ρ H l vs) {i : Int} {d : Dv} (e : atQ l i = some d) : ∃ v, atI vs i = some v ∧ VR K κ ρ H d v := by
  unfold atQ at e
  unfold atI
  rw [h.length]
  cases q : ixN l.length i with
  | none => rw [show ixQ l.length i = none from q] at e; cases e
  | some j =>
    rw [show ixQ l.length i = some j from q] at e
    exact h.get e
theorem L_get (hw : κ.w = X.w) : OpL X κ (rIxA X.K X.w) oGet := by
  intro W ρ σ H s x y dx dy Q R hx hy h
  unfold oGet at h
  cases e : getQ dx dy s with
  | none => rw [e] at h; exact h.elim
  | some d =>
    rw [e] at h
    have q : ∀ v, VR X.K κ ρ H d v → Q v H := fun v hv => EndV.ok h R hv
    unfold getQ at e
    cases dx with
    | str z =>
      cases dy with
      | int j =>
        simp only at e
        by_cases hl : z.length ≤ 2 ^ 24
        · rw [if_pos hl] at e
          cases q2 : atQ z.cps.toList j with
          | none => rw [q2] at e; cases e
          | some c =>
            rw [q2] at e
            cases e
            exact .inl (.inl (.inr (.inr ⟨z, j, c, hx.str, hy.int, hl, q2, q _ (by simp only [VR])⟩)))
        · rw [if_neg hl] at e; cases e
      | _ => cases e
    | tup l =>
      cases dy with
      | int j =>
        simp only at e
        obtain ⟨a, vs, rfl, e2, e3⟩ := hx.tupE
        obtain ⟨v, e4, e5⟩ := at_ok e3 e
        exact .inl (.inl (.inr (.inl ⟨a, vs, j, v, rfl, hy.int, e2, e4, q v e5⟩)))
      | _ => cases e
    | clst l =>
      cases dy with
      | int j =>
        simp only at e
        obtain ⟨a, vs, rfl, e2, e3⟩ := hx.clstE
        obtain ⟨v, e4, e5⟩ := at_ok e3 e
        exact .inl (.inl (.inl ⟨a, vs, j, v, rfl, hy.int, SqI.list e2, e4, q v e5⟩))
      | _ => cases e
    | loc n =>
      simp only at e
      cases q2 : s[n]? with
      | none => rw [q2] at e; cases e
      | some o =>
        rw [q2] at e
        cases o with
        | lst l =>
          cases dy with
          | int j =>
            simp only at e
            obtain ⟨a, _, rfl, vs, e2, e3⟩ := R.loc hx q2
            obtain ⟨v, e4, e5⟩ := at_ok e3 e
            exact .inl (.inl (.inl ⟨a, vs, j, v, rfl, hy.int, .of e2, e4, q v e5⟩))
          | _ => cases e
        | dK kvs =>
          simp only at e
          obtain ⟨p, _, rfl, h⟩ := R.loc hx q2
          obtain ⟨vs, h1, h2⟩ := OR.dk h
          cases hk : keyQ dy with
          | none => rw [hk] at e; cases e
          | some k =>
            rw [hk] at e
            obtain ⟨v, e1, e2⟩ := h2.val.2 d e
            exact .inl (.inr ⟨p, v, rfl, by rw [keyQ_ok hy hk, ← e1]; exact DGet.k h1, q v e2⟩)
        | dN kvs =>
          simp only at e
          obtain ⟨p, _, rfl, h⟩ := R.loc hx q2
          obtain ⟨es, h1, h2, h3, _⟩ := OR.dn h
          obtain ⟨k, e1, e2⟩ := Option.bind_eq_some_iff.mp e
          obtain ⟨b', rfl, hb⟩ := keyN_ok hy e1
          obtain ⟨v, e3, e4⟩ := h2.val.2 d e2
          exact .inr ⟨p, b', k, es, v, rfl, rfl, hb, .inl (by rw [← hw]; exact h1), h3, by rw [← valE_map]; exact e3, q v e4⟩
        | _ => cases e
    | _ => cases e
/-! ### o[i] = e -/
def rPutDict : TSet := fun o i v H Q => ∃ a H', o = .ref a ∧ DPut H a i v H' ∧ Q H'
theorem set_dict (hu : X.A.units + 1 < cLine) : PSet X rPutDict := by
  intro pins s σ H o i v ov iv u Q I ro ri rv h
  obtain ⟨a, H', rfl, g, q⟩ := h
  obtain rfl : ov = Value.ref a := ro
  exact d_setItem hu I g ri rv fun s' I' => ⟨H', I', q⟩
def rPutA (K : PySem.W.Frag) (w : World) : TSet := fun o i v H Q => (rSetL o i v H Q ∨ rPutDict o i v H Q) ∨ rPutN K w o i v H Q
theorem set_any (hu : X.A.units + 65 < cLine) : PSet X (rPutA X.K X.w) := by
  intro pins s σ H o i v ov iv u Q I ro ri rv h
  rcases h with (h | h) | h
  · exact set_list pins s σ H o i v ov iv u Q I ro ri rv h
  · exact set_dict (hu1 hu) pins s σ H o i v ov iv u Q I ro ri rv h
  · exact set_dictN hu pins s σ H o i v ov iv u Q I ro ri rv h
theorem L_put (hw : κ.w = X.w) : SetL X κ (rPutA X.K X.w) oPut := by
  intro W ρ σ H s x y z dx dy dz Q R hx hy hz h
  unfold oPut at h
  cases e : putQ dx dy dz s with
  | none => rw [e] at h; exact h.elim
  | some s' =>
    rw [e] at h
    unfold putQ at e
    cases dx with
    | loc n =>
      simp only at e
      cases q2 : s[n]? with
      | none => rw [q2] at e; cases e
      | some o =>
        rw [q2] at e
        cases o with
        | lst l =>
          cases dy with
          | int j =>
            simp only at e
            obtain ⟨a, e0, rfl, vs, e2, e3⟩ := R.loc hx q2
            cases q3 : ixQ l.length j with
            | none => rw [q3] at e; cases e
            | some k =>
              rw [q3] at e
              cases e
              refine .inl (.inl ⟨a, vs, j, k, rfl, hy.int, e2, by rw [e3.length]; exact q3, h ρ _ (Step.put e0) (R.put e0 ⟨_, upd_same, ?_⟩)⟩)
              exact VRs.later R (Step.put e0) _ _ (VRs.set hz k e3)
          | _ => cases e
        | dK kvs =>
          simp only at e
          obtain ⟨p, e0, rfl, h'⟩ := R.loc hx q2
          obtain ⟨vs, h1, h2⟩ := OR.dk h'
          cases hk : keyQ dy with
          | none =>
            rw [hk] at e
            simp only at e
            by_cases h0 : kvs.isEmpty = true
            · rw [if_pos h0] at e
              obtain ⟨k, f1, f2⟩ := Option.map_eq_some_iff.mp e
              cases f2
              obtain ⟨b, rfl, hb⟩ := keyN_ok hy f1
              have ho := OR.putN (kvs := []) (es := []) R e0 KR.nil (fun _ he => by cases he) hy f1 hz
              refine .inr ⟨p, b, k, [], rfl, rfl, hb, by rw [← hw]; exact OR.dk0 h' h0, (fun _ he => by cases he), by decide, ?_⟩
              rw [← hw]
              exact h ρ _ (Step.put e0) (R.put e0 ho)
            · rw [if_neg h0] at e; cases e
          | some k =>
            rw [hk] at e
            simp only at e
            by_cases hl : kvs.length < 2 ^ 24
            · rw [if_pos hl] at e
              cases e
              refine .inl (.inr ⟨p, _, rfl, by rw [keyQ_ok hy hk]; exact DPut.k h1 (by rw [h2.length]; exact hl), h ρ _ (Step.put e0) (R.put e0 ⟨_, upd_same, ?_⟩)⟩)
              have r := (h2.put (k := k) hz).kp ((Step.put (H := H) (o := .dK (putK vs k z)) e0).kp R)
              exact ⟨r.1, r.2⟩
            · rw [if_neg hl] at e; cases e
        | dN kvs =>
          simp only at e
          obtain ⟨p, e0, rfl, h'⟩ := R.loc hx q2
          obtain ⟨es, h1, h2, h3, h4⟩ := OR.dn h'
          obtain ⟨k, f1, e⟩ := Option.bind_eq_some_iff.mp e
          obtain ⟨b, rfl, hb⟩ := keyN_ok hy f1
          by_cases hl : kvs.length < 2 ^ 24
          · rw [if_pos hl] at e
            cases e
            have ho := OR.putN R e0 h2 h4 hy f1 hz
            refine .inr ⟨p, b, k, es, rfl, rfl, hb, .inl (by rw [← hw]; exact h1), h3, by have := h2.length; rw [List.length_map] at this; rw [this]; exact hl, ?_⟩
            rw [← hw]
            exact h ρ _ (Step.put e0) (R.put e0 ho)
          · rw [if_neg hl] at e; cases e
        | _ => cases e
    | _ => cases e
end
end Mid
/-! Mid7: slices, built-ins, methods. -/
namespace Mid
open PySem PySem.Spec L2 Classical
section
variable {X : Cx} {κ : Kap} {W : WX} {pos : Pos} {e : Expr} {es : List Expr} {me : ME} {ms : List ME}
/-! ### slices -/
theorem cutQ_eq {α : Type} (xs : List α) (lo hi : Option Int) : cutQ xs lo hi = (xs.drop (HT.sIx xs.length 0 lo)).take (HT.sIx xs.length xs.length hi - HT.sIx xs.length 0 lo) := by
  have e : ∀ n d o, sIxQ n d o = HT.sIx n d o := fun n d o => by cases o <;> rfl
  unfold cutQ
  rw [e, e]
theorem cut_ok {K : PySem.W.Frag} {ρ : List Addr} {H : Hp} {l : List Dv} {vs : List V} (h : VRs K κ ρ H l vs) (lo hi : Option Int) : VRs K κ ρ H (cutQ l lo hi) (cutV vs lo hi) := by
  rw [cutQ_eq]
  unfold cutV
  rw [h.length]
  exact VRs.take _ (VRs.drop _ h)
abbrev rdO (K : PySem.W.Frag) (κ : Kap) (W : WX) (m : MO') : L2.TO := fun σ H Q => ∃ ρ σd s, Rel K κ ρ H s ∧ ER K κ ρ H σd σ ∧ Fin K κ W ρ σ H (m σd s) fun o _ _ H' => Q o H'
abbrev LO (X : Cx) (κ : Kap) (W : WX) (e : Option Expr) (m : MO') : Prop := PO X e (rdO X.K κ W m)
theorem PO.by {e : Option Expr} {t t' : L2.TO} (h : PO X e t) (f : ∀ σ H Q, t' σ H Q → t σ H Q) : PO X e t' := ⟨fun pins s σ H Q I q => h.run pins s σ H Q I (f σ H Q q)⟩
theorem lo_none : LO X κ W none poN := PO.by po_none fun σ H Q ⟨ρ, σd, s, R, hE, h⟩ => h ρ H Step.refl R
theorem lo_some (h : LE X κ W e me) : LO X κ W (some e) (poS me) :=
  PO.by (po_some h) fun σ H Q ⟨ρ, σd, s, R, hE, h⟩ => ⟨ρ, σd, s, R, hE, (Fin.bind h).mono fun d ρ1 s1 H1 x1 R1 q v hv => by
    cases d with
    | int i => exact ⟨i, hv.int, q ρ1 H1 Step.refl R1⟩
    | _ => exact q.elim⟩
def rSlDny (K : PySem.W.Frag) : V → Option Int → Option Int → Hp → VK → Prop := fun x lo hi H Q => rSlL K x lo hi H Q ∨ rSlD K x lo hi H Q
theorem sl_any : SlR X (rSlDny X.K) := SlR.or sl_list sl_tupD
theorem sIx_all {n : Nat} {l : List Dv} {lo hi : Option Int} (h : HT.sIx l.length 0 lo = 0 ∧ HT.sIx l.length l.length hi = l.length) : cutQ l lo hi = l := by
  rw [cutQ_eq, h.1, h.2]; simp
theorem L_sl {ρ : List Addr} {σ : L2.St} {H : Hp} {s : Mst} {x : V} {dx : Dv} {lo hi : Option Int} {Q : VK} (R : Rel X.K κ ρ H s) (hx : VR X.K κ ρ H dx x) (h : EndV X.K κ W ρ σ H (slQ dx lo hi s) Q) : rSlDny X.K x lo hi H Q := by
  unfold slQ at h
  cases dx with
  | tup l =>
    simp only at h
    obtain ⟨a, vs, rfl, e2, e3⟩ := hx.tupE
    refine .inr ⟨a, vs, rfl, e2, fun hw => ?_, fun hw p its np => EndV.tup h R np (cut_ok e3 lo hi)⟩
    rw [e3.length] at hw
    rw [sIx_all (n := 0) hw] at h
    exact EndV.ok h R hx
  | clst l =>
    obtain ⟨a, vs, rfl, e2, e3⟩ := hx.clstE
    exact .inl ⟨a, vs, rfl, SqI.list e2, fun p np => EndV.newL h R np (cut_ok e3 lo hi)⟩
  | loc n =>
    simp only at h
    cases q2 : s[n]? with
    | none => rw [q2] at h; exact h.elim
    | some o =>
      rw [q2] at h
      cases o with
      | lst l =>
        obtain ⟨a, _, rfl, vs, e2, e3⟩ := R.loc hx q2
        exact .inl ⟨a, vs, rfl, .of e2, fun p np => EndV.newL h R np (cut_ok e3 lo hi)⟩
      | _ => exact h.elim
  | _ => exact h.elim
theorem le_slice {lo hi : Option Expr} {ml mh : MO'} {p2 : Pos} (he : LE X κ W e me) (hl : LO X κ W lo ml) (hh : LO X κ W hi mh) : LE X κ W (.Subscript e (.Slice lo hi none p2) pos) (mSlice me ml mh) :=
  PE.by (pe_slice sl_any he hl hh) fun σ H Q ⟨ρ, σd, s, R, hE, h⟩ => ⟨ρ, σd, s, R, hE, (Fin.bind h).mono fun d ρ1 s1 H1 x1 R1 q v hv => ⟨ρ1, σd, s1, R1, hE.later R x1, (Fin.bind q).mono fun l ρ2 s2 H2 x2 R2 q2 => ⟨ρ2, σd, s2, R2, (hE.later R x1).later R1 x2,
    (Fin.bind q2).mono fun u ρ3 s3 H3 x3 R3 q3 => L_sl R3 (VR.later R2 x3 _ _ (VR.later R1 x2 _ _ hv)) q3⟩⟩⟩
/-! ### dicts written -/
theorem dispQ_ok {K : PySem.W.Frag} {ρ : List Addr} {H : Hp} : ∀ {l : List (Dv × Dv)} {ps : List (V × V)} {kvs : List (KeyQ × Dv)}, VRs K κ ρ H (l.map (·.1)) (ps.map (·.1)) → VRs K κ ρ H (l.map (·.2)) (ps.map (·.2)) → dispQ l = some kvs →
    ∃ vs : List (Key × V), ps = vs.map (fun kv => (kV kv.1, kv.2)) ∧ KR K κ ρ H kvs vs ∧ vs.length = l.length := by
  intro l
  induction l with
  | nil =>
    intro ps kvs h1 _ e
    cases ps with
    | nil => cases e; exact ⟨[], rfl, .nil, rfl⟩
    | cons _ _ => simp [VRs] at h1
  | cons a r ih =>
    intro ps kvs h1 h2 e
    obtain ⟨k, v⟩ := a
    cases ps with
    | nil => simp [VRs] at h1
    | cons b ps =>
      obtain ⟨x, y⟩ := b
      simp only [List.map_cons, VRs] at h1 h2
      obtain ⟨x', r1, e1, hx, t1⟩ := h1
      obtain ⟨y', r2, e2, hy, t2⟩ := h2
      simp only [List.cons.injEq] at e1 e2
      obtain ⟨rfl, rfl⟩ := e1
      obtain ⟨rfl, rfl⟩ := e2
      unfold dispQ at e
      cases q1 : keyQ k with
      | none => rw [q1] at e; cases e
      | some q =>
        cases q2 : dispQ r with
        | none => rw [q1, q2] at e; cases e
        | some l' =>
          rw [q1, q2] at e
          cases e
          obtain ⟨vs, e3, e4, e5⟩ := ih t1 t2 q2
          exact ⟨(q, y) :: vs, by rw [List.map_cons, ← e3, ← keyQ_ok hx q1], .cons hy e4, by simp [e5]⟩
/-- the pairs of a display, from the left -/
inductive LPs (X : Cx) (κ : Kap) (pos : Pos) : List (Option Expr) → List Expr → List (ME × ME) → Prop where
  | nil : LPs X κ pos [] [] []
  | cons {k v : Expr} {mk mv : ME} {ks : List (Option Expr)} {vs : List Expr} {ps : List (ME × ME)} : LE X κ W0 k mk → LE X κ W0 v mv → LPs X κ pos ks vs ps → LPs X κ pos (some k :: ks) (v :: vs) ((mk, mv) :: ps)
theorem LPs.pps {pos : Pos} {ks : List (Option Expr)} {vs : List Expr} {ps : List (ME × ME)} (h : LPs X κ pos ks vs ps) : PPs X pos ks vs (ps.map fun p => (rd X.K κ W0 p.1, rd X.K κ W0 p.2)) := by
  induction h with
  | nil => exact pps_nil
  | cons a b _ ih => exact pps_cons a b ih
theorem LPs.len {pos : Pos} {ks : List (Option Expr)} {vs : List Expr} {ps : List (ME × ME)} (h : LPs X κ pos ks vs ps) : ks.length = vs.length ∧ ps.length = ks.length ∧ ks.all (·.isSome) = true := by
  induction h with
  | nil => exact ⟨rfl, rfl, rfl⟩
  | cons a b _ ih => exact ⟨by simp [ih.1], by simp [ih.2.1], by simpa using ih.2.2⟩
theorem pairs_rd {K : PySem.W.Frag} : ∀ {ps : List (ME × ME)} {ρ : List Addr} {σ : L2.St} {σd : Men} {H : Hp} {s : Mst} {Q : List (V × V) → Hp → Prop}, Rel K κ ρ H s → ER K κ ρ H σd σ →
    Fin K κ W0 ρ σ H (mPairs ps σd s) (fun l ρ' _ H' => ∀ vs, VRs K κ ρ' H' (l.map (·.1)) (vs.map (·.1)) → VRs K κ ρ' H' (l.map (·.2)) (vs.map (·.2)) → Q vs H') → tPairs (ps.map fun p => (rd K κ W0 p.1, rd K κ W0 p.2)) σ H Q := by
  intro ps
  induction ps with
  | nil => intro ρ σ σd H s Q R hE h; exact h ρ H Step.refl R [] .nil .nil
  | cons a r ih =>
    intro ρ σ σd H s Q R hE h
    obtain ⟨mk, mv⟩ := a
    exact ⟨ρ, σd, s, R, hE, (Fin.bind h).mono fun d ρ1 s1 H1 x1 R1 h1 x hx => ⟨ρ1, σd, s1, R1, hE.later R x1, (Fin.bind h1).mono fun d2 ρ2 s2 H2 x2 R2 h2 y hy =>
      ih R2 ((hE.later R x1).later R1 x2) ((Fin.bind h2).mono fun l ρ3 s3 H3 x3 R3 h3 vs v1 v2 => h3 ρ3 H3 Step.refl R3 ((x, y) :: vs) (.cons (VR.later R2 x3 _ _ (VR.later R1 x2 _ _ hx)) v1) (.cons (VR.later R2 x3 _ _ hy) v2))⟩⟩
theorem mPairs_len : ∀ {ps : List (ME × ME)} {σ : Men} {s s1 : Mst} {l : List (Dv × Dv)}, mPairs ps σ s = .ok l s1 → l.length = ps.length
  | [], σ, s, s1, l, h => by cases h; rfl
  | (a, b) :: ps, σ, s, s1, l, h => by
    obtain ⟨d, s2, e1, h⟩ := Rm.bind_eq_ok h
    obtain ⟨d2, s3, e2, h⟩ := Rm.bind_eq_ok h
    obtain ⟨r, s4, e3, h⟩ := Rm.bind_eq_ok h
    cases h
    simp [mPairs_len e3]
theorem le_disp {ks : List (Option Expr)} {vs : List Expr} {ps : List (ME × ME)} (h : LPs X κ pos ks vs ps) (h0 : ks ≠ [] := by intro z; cases z) (h15 : ks.length ≤ 15 := by decide) : LE X κ W (.Dict ks vs pos) (fun σ s => (mDisp ps σ s).noEr) :=
  PE.by (pe_disp h.pps h.len.2.2 h.len.1 h0 h15) fun σ H Q ⟨ρ, σd, s, R, hE, q⟩ p np => by
    have hm : ∃ l s1 kvs, mPairs ps σd s = .ok l s1 ∧ dispQ l = some kvs := by
      have q1 : Fin X.K κ W ρ σ H (mDisp ps σd s).noEr _ := q
      unfold mDisp at q1
      cases e : mPairs ps σd s with
      | bad => rw [e] at q1; exact q1.elim
      | er z s1 => rw [e] at q1; exact q1.elim
      | ok l s1 =>
        rw [e] at q1
        simp only [Rm.bind_ok] at q1
        cases e2 : dispQ l with
        | none => rw [e2] at q1; exact q1.elim
        | some kvs => exact ⟨l, s1, kvs, rfl, e2⟩
    obtain ⟨l, s1, kvs, e, e2⟩ := hm
    have m0 : (mDisp ps σd s).noEr = .ok (.loc s1.length) (s1 ++ [.dK (kputs [] kvs)]) := by
      unfold mDisp
      rw [e]
      simp only [Rm.bind_ok]
      rw [e2]
      rfl
    refine pairs_rd (R.lay np) (hE.later R (Step.lay np)) ?_
    rw [e]
    intro ρ1 H1 x1 R1 us v1 v2
    have nd : p ∉ ρ := R.fresh np
    have hp1 : H1 p = some (.dK []) := x1.keep _ _ upd_same nd
    have np1 : p ∉ ρ1 := x1.out upd_same nd
    obtain ⟨ws, e3, e4, e5⟩ := dispQ_ok v1 v2 e2
    refine ⟨hp1, ws, e3, by rw [e5, mPairs_len e, h.len.2.1]; exact h15, ?_⟩
    have kpp : Kp ρ1 H1 ρ1 (upd H1 p (.dK (mergeK [] ws))) := ⟨fun _ _ h => h, fun b zs h => by rw [upd_ne (ne_of h hp1 (by intro z; cases z))]; exact h, fun b o u h => by rw [upd_ne (ne_of h hp1 (by intro z; cases z))]; exact h⟩
    have R2 : Rel X.K κ ρ1 (upd H1 p (.dK (mergeK [] ws))) s1 := ⟨R1.len, R1.nd, fun k b u a1 a2 => (R1.obj k b u a1 a2).kp kpp (upd_ne fun z => np1 (z ▸ List.mem_of_getElem? a1))⟩
    have q' : Fin X.K κ W ρ σ H (mDisp ps σd s).noEr fun d ρ' _ H' => ∀ v, VR X.K κ ρ' H' d v → Q v H' := q
    rw [m0] at q'
    have st : Step ρ H (ρ1 ++ [p]) (upd H1 p (.dK (mergeK [] ws))) := by
      have s0 : Step ρ H ρ1 H1 := (Step.lay np).trans x1
      exact (s0.apart np).add np
    have r := (e4.puts .nil).kp kpp
    exact q' _ _ st (R2.add ⟨mergeK [] ws, upd_same, r.1, r.2⟩ np1) (.ref p) (by rw [← R1.len]; exact VR.last)
theorem le_dict0 : LE X κ W (.Dict [] [] pos) (mDisp []) :=
  PE.by pe_dnewK fun σ H Q ⟨ρ, σd, s, R, hE, q⟩ p np => EndV.new q R np ⟨[], upd_same, rfl, .nil⟩
end
end Mid
/-! Mid8: built-ins and methods. -/
namespace Mid
open PySem PySem.Spec L2 Classical
section
variable {X : Cx} {κ : Kap} {W : WX} {pos p apos : Pos} {x : Str} {e o : Expr} {es : List Expr} {me mo : ME} {ms : List ME} {id T : String} {F : MF}
def CallL (X : Cx) (κ : Kap) (r : List V → Hp → VK → Prop) (F : MF) : Prop := ∀ W ρ σ H s vs ds Q, Rel X.K κ ρ H s → VRs X.K κ ρ H ds vs → EndV X.K κ W ρ σ H (F ds s) Q → r vs H Q
def MtL (X : Cx) (κ : Kap) (r : V → List V → Hp → VK → Prop) (F : MF) : Prop := ∀ W ρ σ H s v vs d ds Q, Rel X.K κ ρ H s → VR X.K κ ρ H d v → VRs X.K κ ρ H ds vs → EndV X.K κ W ρ σ H (F (d :: ds) s) Q → r v vs H Q
theorem le_callB {r : List V → Hp → VK → Prop} (hc : CallR X (.builtin id) r) (L : CallL X κ r F) (hg : Gl X x) (hm : X.mg x = none) (hv : bootBuiltins x = some (.builtin id)) (ha : LA X κ W (e :: es) ms) (hn : x ≠ "__name__" := by decide) (hdb : (x == ("__debug__" : Str)) = false := by decide)
    (he : starEach (e :: es) X.env = (false, eval e X.env) :: starEach es X.env := by rfl) (hpl : (backTo pos (starEach es X.env)).any (·.1) = false := by rfl) : LE X κ W (.Call (.Name x p) (e :: es) [] pos) (mCall F ms) :=
  PE.by (pe_callB hc hg hm hv ha hn hdb he hpl) fun σ H Q ⟨ρ, σd, s, R, hE, q⟩ => ⟨ρ, σd, s, R, hE, (Fin.bind q).mono fun ds ρ1 s1 H1 x1 R1 h1 vs hvs => L W ρ1 σ H1 s1 vs ds Q R1 hvs h1⟩
theorem le_callTy {r : List V → Hp → VK → Prop} (hc : CallR X (.type T) r) (L : CallL X κ r F) (hg : Gl X x) (hm : X.mg x = none) (hv : bootBuiltins x = some (.type T)) (ha : LA X κ W (e :: es) ms) (hn : x ≠ "__name__" := by decide) (hdb : (x == ("__debug__" : Str)) = false := by decide)
    (he : starEach (e :: es) X.env = (false, eval e X.env) :: starEach es X.env := by rfl) (hpl : (backTo pos (starEach es X.env)).any (·.1) = false := by rfl) : LE X κ W (.Call (.Name x p) (e :: es) [] pos) (mCall F ms) :=
  PE.by (pe_callTy hc hg hm hv ha hn hdb he hpl) fun σ H Q ⟨ρ, σd, s, R, hE, q⟩ => ⟨ρ, σd, s, R, hE, (Fin.bind q).mono fun ds ρ1 s1 H1 x1 R1 h1 vs hvs => L W ρ1 σ H1 s1 vs ds Q R1 hvs h1⟩
/-- of that type, a dict of tuples too -/
def tyW (K : PySem.W.Frag) (w : World) (T : String) (x : V) (H : Hp) : Prop := tyV K T x H ∨ (T = "dict" ∧ ∃ a es, x = .ref a ∧ H a = some (dNO w a es))
theorem tyW_is {w : World} {pins : List (Addr × Obj)} {σ : L2.St} {H : Hp} {s : Shared} {x : V} {v : Value} (I : Inv X pins σ H s) (r : RelV x v) (t : tyW X.K w T x H) : s.TypeIs v T ∧ ∀ a, v = .ref a → ∃ ob, s.heap.get? a = some ob ∧ ob.dict = none := by
  rcases t with t | ⟨rfl, a, es, rfl, h⟩
  · exact tyV_is I r t
  · obtain rfl : v = .ref a := r
    obtain ⟨⟨_, _, _, xs, o, ds, ep, _, ho, hx, _⟩, _, _⟩ := I.hok a _ h
    exact ⟨⟨o, ho, hx.1⟩, fun b e => by cases e; exact ⟨o, ho, hx.2.1⟩⟩
def tBW (K : PySem.W.Frag) (w : World) (T : String) (r : V → List V → Hp → VK → Prop) (to : TE) (t : TA) : TE := fun σ H Q => to σ H fun x H1 => tyW K w T x H1 ∧ t σ H1 fun xs H2 => r x xs H2 Q
def tBW0 (K : PySem.W.Frag) (w : World) (T : String) (r : V → List V → Hp → VK → Prop) (to : TE) : TE := fun σ H Q => to σ H fun x H1 => tyW K w T x H1 ∧ r x [] H1 Q
theorem pe_bw0 {w : World} {r : V → List V → Hp → VK → Prop} {name : Str} {to : TE} (pa : PlainAttrs T) (slot : Slot T name id) (hty : typeOf (.builtin id) = pure (.type "method_descriptor")) (hm : MtR X id r) (ho : PE X o to)
    (hbase : attributeBase o name X.env (eval o X.env) = eval o X.env) (hline : (apos.endLine == pos.line) = true) : PE X (.Call (.Attribute o name apos) [] [] pos) (tBW0 X.K w T r to) :=
  ⟨fun pins s σ H Q I h => wpAny_Call_method0_late hbase hline (thn (ho.run pins s σ H _ I h) fun v s1 ⟨x, H1, I1, r1, ty, q1⟩ =>
    let ⟨h1, h2⟩ := tyW_is I1 r1 ty
    ⟨T, id, pa, slot, hty, h1, h2, Calls.callWith_builtin rfl (PySem.evalArgs_none (hm pins s1 σ H1 x [] v [] Q I1 r1 .nil q1))⟩)⟩
theorem pe_bw {w : World} {r : V → List V → Hp → VK → Prop} {name : Str} {to : TE} {t : TA} (pa : PlainAttrs T) (slot : Slot T name id) (hty : typeOf (.builtin id) = pure (.type "method_descriptor")) (hm : MtR X id r) (ho : PE X o to) (ha : PA X (e :: es) t)
    (hbase : attributeBase o name X.env (eval o X.env) = eval o X.env)
    (hfew : ((backTo pos (starEach (e :: es) X.env)).all (fun x => !x.1) && (backToKw pos (keywordEach [] X.env)).all (fun x => x.1.isSome)
      && decide ((e :: es).length + ([] : List Keyword).length + (if ([] : List Keyword).isEmpty then 0 else 1) < 30)) = true)
    (hline : (apos.endLine == pos.line) = true) (hs : starEach (e :: es) X.env = (false, eval e X.env) :: starEach es X.env) (hplain : (backTo pos (starEach es X.env)).any (·.1) = false) : PE X (.Call (.Attribute o name apos) (e :: es) [] pos) (tBW X.K w T r to t) :=
  ⟨fun pins s σ H Q I h => wpAny_Call_method_late hbase hfew hline rfl (thn (ho.run pins s σ H _ I h) fun v s1 ⟨x, H1, I1, r1, ty, q1⟩ => by
    obtain ⟨h1, h2⟩ := tyW_is I1 r1 ty
    have hA := ha.run pos pins s1 σ H1 _ I1 q1
    refine ⟨T, id, pa, slot, hty, h1, h2, ?_⟩
    rw [hs] at hA ⊢
    exact Calls.callWith_builtin (by show (false || (backTo pos (starEach es X.env)).any (·.1)) = false; rw [hplain] <;> rfl) (Calls.evalArgs_plain (thn hA fun us s2 ⟨vs, H2, I2, r2, q2⟩ => hm pins s2 σ H2 x vs v us Q I2 r1 r2 q2)))⟩
theorem tyQ_ok {K : PySem.W.Frag} {ρ : List Addr} {H : Hp} {s : Mst} (R : Rel K κ ρ H s) {d : Dv} {v : V} (h : VR K κ ρ H d v) (e : tyQ d s = T) (hT : T ∈ ["str", "int", "list", "dict"]) : tyW K κ.w T v H := by
  unfold tyQ at e
  cases d with
  | int i => subst e; rw [h.int]; exact .inl rfl
  | str i => subst e; rw [h.str]; exact .inl rfl
  | clst l => subst e; obtain ⟨a, vs, rfl, e2, _⟩ := h.clstE; exact .inl (.inl ⟨rfl, vs, SqI.list e2⟩)
  | loc n =>
    simp only at e
    cases q : s[n]? with
    | none => rw [q] at e; subst e; simp at hT
    | some o =>
      rw [q] at e
      cases o with
      | lst l => subst e; obtain ⟨a, _, rfl, vs, e2, _⟩ := R.loc h q; exact .inl (.inl ⟨rfl, vs, .of e2⟩)
      | dK l => subst e; obtain ⟨a, _, rfl, vs, e2, _⟩ := R.loc h q; exact .inl (.inr (.inr (.inl ⟨rfl, .inl ⟨vs, e2⟩⟩)))
      | dN l => subst e; obtain ⟨a, _, rfl, vs, e2, _⟩ := R.loc h q; exact .inr ⟨rfl, a, vs, rfl, e2⟩
      | ins C l => subst e; simp at hT
  | _ => subst e; simp at hT
theorem le_meth {r : V → List V → Hp → VK → Prop} {name : Str} (pa : PlainAttrs T) (slot : Slot T name id) (hty : typeOf (.builtin id) = pure (.type "method_descriptor")) (hm : MtR X id r) (L : MtL X κ r F) (ho : LE X κ W o mo) (ha : LA X κ W (e :: es) ms) (hT : T ∈ ["str", "int", "list", "dict"] := by decide)
    (hbase : attributeBase o name X.env (eval o X.env) = eval o X.env := by rfl)
    (hfew : ((backTo pos (starEach (e :: es) X.env)).all (fun x => !x.1) && (backToKw pos (keywordEach [] X.env)).all (fun x => x.1.isSome)
      && decide ((e :: es).length + ([] : List Keyword).length + (if ([] : List Keyword).isEmpty then 0 else 1) < 30)) = true := by rfl)
    (hline : (apos.endLine == pos.line) = true := by rfl) (hs : starEach (e :: es) X.env = (false, eval e X.env) :: starEach es X.env := by rfl) (hplain : (backTo pos (starEach es X.env)).any (·.1) = false := by rfl) :
    LE X κ W (.Call (.Attribute o name apos) (e :: es) [] pos) (mMeth T F mo ms) :=
  PE.by (pe_bw (w := κ.w) pa slot hty hm ho ha hbase hfew hline hs hplain) fun σ H Q ⟨ρ, σd, s, R, hE, q⟩ => ⟨ρ, σd, s, R, hE, (Fin.bind q).mono fun d ρ1 s1 H1 x1 R1 h1 v hv => by
    by_cases hq : tyQ d s1 = T
    · rw [if_pos hq] at h1
      exact ⟨tyQ_ok R1 hv hq hT, ρ1, σd, s1, R1, hE.later R x1, (Fin.bind h1).mono fun ds ρ2 s2 H2 x2 R2 h2 vs hvs => L W ρ2 σ H2 s2 v vs d ds Q R2 (VR.later R1 x2 _ _ hv) hvs h2⟩
    · rw [if_neg hq] at h1; exact h1.elim⟩
theorem le_meth0 {r : V → List V → Hp → VK → Prop} {name : Str} (pa : PlainAttrs T) (slot : Slot T name id) (hty : typeOf (.builtin id) = pure (.type "method_descriptor")) (hm : MtR X id r) (L : MtL X κ r F) (ho : LE X κ W o mo) (hT : T ∈ ["str", "int", "list", "dict"] := by decide)
    (hbase : attributeBase o name X.env (eval o X.env) = eval o X.env := by rfl) (hline : (apos.endLine == pos.line) = true := by rfl) : LE X κ W (.Call (.Attribute o name apos) [] [] pos) (mMeth T F mo []) :=
  PE.by (pe_bw0 (w := κ.w) pa slot hty hm ho hbase hline) fun σ H Q ⟨ρ, σd, s, R, hE, q⟩ => ⟨ρ, σd, s, R, hE, (Fin.bind q).mono fun d ρ1 s1 H1 x1 R1 h1 v hv => by
    by_cases hq : tyQ d s1 = T
    · rw [if_pos hq] at h1
      exact ⟨tyQ_ok R1 hv hq hT, L W ρ1 σ H1 s1 v [] d [] Q R1 hv .nil ((Fin.bind h1) ρ1 H1 Step.refl R1)⟩
    · rw [if_neg hq] at h1; exact h1.elim⟩
theorem intsQ_ok {K : PySem.W.Frag} {ρ : List Addr} {H : Hp} : ∀ {l : List Dv} {vs : List V} {ns : List Int}, VRs K κ ρ H l vs → intsQ l = some ns → vs = ns.map V.int ∧ l = ns.map Dv.int
  | [], vs, ns, h, e => by simp only [VRs] at h; cases e; exact ⟨h, rfl⟩
  | d :: l, vs, ns, h, e => by
    simp only [VRs] at h
    obtain ⟨v, r, rfl, h1, h2⟩ := h
    cases d with
    | int i =>
      unfold intsQ at e
      cases q : intsQ l with
      | none => rw [q] at e; cases e
      | some ms =>
        rw [q] at e; cases e
        obtain ⟨e1, e2⟩ := intsQ_ok h2 q
        exact ⟨by rw [List.map_cons, ← e1, h1.int], by rw [List.map_cons, ← e2]⟩
    | _ => cases e
/-- one argument -/
theorem call1 {r : List V → Hp → VK → Prop} {f : Dv → Mst → Rm Dv} (h : ∀ W ρ σ H s v d Q, Rel X.K κ ρ H s → VR X.K κ ρ H d v → EndV X.K κ W ρ σ H (f d s) Q → r [v] H Q) : CallL X κ r (f1 f) := by
  intro W ρ σ H s vs ds Q R hv q
  cases ds with
  | nil => exact q.elim
  | cons d ds =>
    cases ds with
    | nil =>
      simp only [VRs] at hv
      obtain ⟨v, r', rfl, h1, rfl⟩ := hv
      exact h W ρ σ H s v d Q R h1 q
    | cons _ _ => exact q.elim
theorem call2 {r : List V → Hp → VK → Prop} {f : Dv → Dv → Mst → Rm Dv} (h : ∀ W ρ σ H s v u d e Q, Rel X.K κ ρ H s → VR X.K κ ρ H d v → VR X.K κ ρ H e u → EndV X.K κ W ρ σ H (f d e s) Q → r [v, u] H Q) : CallL X κ r (f2 f) := by
  intro W ρ σ H s vs ds Q R hv q
  cases ds with
  | nil => exact q.elim
  | cons d ds =>
    cases ds with
    | nil => exact q.elim
    | cons e ds =>
      cases ds with
      | nil =>
        simp only [VRs] at hv
        obtain ⟨v, r', rfl, h1, u, r'', rfl, h2, rfl⟩ := hv
        exact h W ρ σ H s v u d e Q R h1 h2 q
      | cons _ _ => exact q.elim
theorem meth1 {r : V → List V → Hp → VK → Prop} {f : Dv → Dv → Mst → Rm Dv} (h : ∀ W ρ σ H s v u d e Q, Rel X.K κ ρ H s → VR X.K κ ρ H d v → VR X.K κ ρ H e u → EndV X.K κ W ρ σ H (f d e s) Q → r v [u] H Q) : MtL X κ r (f2 f) := by
  intro W ρ σ H s v vs d ds Q R hd hv q
  cases ds with
  | nil => exact q.elim
  | cons e ds =>
    cases ds with
    | nil =>
      simp only [VRs] at hv
      obtain ⟨u, r', rfl, h1, rfl⟩ := hv
      exact h W ρ σ H s v u d e Q R hd h1 q
    | cons _ _ => exact q.elim
/-! ### len, tuple, list, any, all, int -/
def rLenA (K : PySem.W.Frag) (w : World) : List V → Hp → VK → Prop := fun xs H Q => ((∃ x n, xs = [x] ∧ LenV K x H n ∧ Q (.int n) H) ∨ ∃ a kvs, xs = [V.ref a] ∧ H a = some (.dK kvs) ∧ Q (.int kvs.length) H) ∨ rLenN K w xs H Q
theorem cr_lenN : CallR X (.builtin "len") (rLenN X.K X.w) := by
  intro pins s σ H xs us Q I r h
  obtain ⟨a, es, rfl, hd, hk, q⟩ := h
  obtain ⟨u, rfl, ru⟩ := vals1 r
  cases ru
  obtain ⟨h1, h2, ys, r, dd⟩ := nda_at I hd hk
  have hl : es.length = ys.length := Paired.length r
  refine call_len_dictH h1 dd (by rw [← hl]; rw [sizeLine_eq] at h2; omega) ?_
  rw [← hl]
  exact ⟨.int es.length, H, I.tok _, ⟨_, rfl⟩, q⟩
theorem cr_len : CallR X (.builtin "len") (rLenA X.K X.w) := CallR.or (CallR.or call_len call_lenD) cr_lenN
theorem L_len (hw : κ.w = X.w) : CallL X κ (rLenA X.K X.w) bLen := call1 fun W ρ σ H s v d Q R hv q => by
  cases e : lenQ d s with
  | none => rw [e] at q; exact q.elim
  | some n =>
    rw [e] at q
    have q' : Q (.int n) H := EndV.ok q R (by simp only [VR])
    unfold lenQ at e
    cases d with
    | str z =>
      simp only at e
      by_cases hl : z.length ≤ 2 ^ 24
      · rw [if_pos hl] at e; cases e
        exact .inl (.inl ⟨v, _, rfl, by rw [hv.str]; exact ⟨hl, rfl⟩, q'⟩)
      · rw [if_neg hl] at e; cases e
    | tup l =>
      cases e
      obtain ⟨a, vs, rfl, e2, e3⟩ := hv.tupE
      exact .inl (.inl ⟨_, _, rfl, .inr ⟨vs, e2, e3.length.symm⟩, q'⟩)
    | clst l =>
      cases e
      obtain ⟨a, vs, rfl, e2, e3⟩ := hv.clstE
      exact .inl (.inl ⟨_, _, rfl, .inl ⟨vs, SqI.list e2, e3.length.symm⟩, q'⟩)
    | loc k =>
      simp only at e
      cases q2 : s[k]? with
      | none => rw [q2] at e; cases e
      | some o =>
        rw [q2] at e
        cases o with
        | lst l =>
          cases e
          obtain ⟨a, _, rfl, vs, e2, e3⟩ := R.loc hv q2
          exact .inl (.inl ⟨_, _, rfl, .inl ⟨vs, .of e2, e3.length.symm⟩, q'⟩)
        | dK l =>
          cases e
          obtain ⟨a, _, rfl, h⟩ := R.loc hv q2
          obtain ⟨vs, e2, e3⟩ := OR.dk h
          exact .inl (.inr ⟨a, vs, rfl, e2, by rw [e3.length]; exact q'⟩)
        | dN l =>
          cases e
          obtain ⟨a, _, rfl, h⟩ := R.loc hv q2
          obtain ⟨es, e2, e3, e4, _⟩ := OR.dn h
          exact .inr ⟨a, es, rfl, .inl (by rw [← hw]; exact e2), e4, by have := e3.length; rw [List.length_map] at this; rw [this]; exact q'⟩
        | _ => cases e
    | _ => cases e
theorem L_tuple : CallL X κ (fun xs H Q => ∃ p ys, xs = [.ref p] ∧ ((SqL X.K H p ys ∧ ∀ l its, H l = none → Q (.ref l) (upd H l (.frz (tupO its) (.tup ys)))) ∨ (SqT X.K H p ys ∧ Q (.ref p) H))) bTuple := call1 fun W ρ σ H s v d Q R hv q => by
  cases e : seqOf d s with
  | none => rw [e] at q; exact q.elim
  | some l =>
    rw [e] at q
    rcases seqOf_eq e with rfl | e2
    · obtain ⟨a, vs, rfl, e2, e3⟩ := VR.tupE hv
      exact ⟨a, vs, rfl, .inr ⟨e2, EndV.ok q R hv⟩⟩
    · obtain ⟨a, vs, rfl, h1, h2⟩ := R.lstE hv e2
      exact ⟨a, vs, rfl, .inl ⟨h1, fun p its np => EndV.tup q R np h2⟩⟩
theorem L_list : CallL X κ (fun xs H Q => ∃ p ys, xs = [.ref p] ∧ (SqL X.K H p ys ∨ SqT X.K H p ys) ∧ ∀ l, H l = none → Q (.ref l) (upd H l (.lst ys))) bList := call1 fun W ρ σ H s v d Q R hv q => by
  cases e : seqOf d s with
  | none => rw [e] at q; exact q.elim
  | some l =>
    rw [e] at q
    rcases seqOf_eq e with rfl | e2
    · obtain ⟨a, vs, rfl, e2, e3⟩ := VR.tupE hv
      exact ⟨a, vs, rfl, .inr e2, fun p np => EndV.newL q R np e3⟩
    · obtain ⟨a, vs, rfl, h1, h2⟩ := R.lstE hv e2
      exact ⟨a, vs, rfl, .inl h1, fun p np => EndV.newL q R np h2⟩
theorem blsQ_ok {K : PySem.W.Frag} {ρ : List Addr} {H : Hp} : ∀ {l : List Dv} {vs : List V} {bs : List Bool}, VRs K κ ρ H l vs → blsQ l = some bs → vs = bs.map V.bl
  | [], vs, bs, h, e => by simp only [VRs] at h; cases e; exact h
  | d :: l, vs, bs, h, e => by
    simp only [VRs] at h
    obtain ⟨v, r, rfl, h1, h2⟩ := h
    cases d with
    | bl b =>
      unfold blsQ at e
      cases q : blsQ l with
      | none => rw [q] at e; cases e
      | some cs => rw [q] at e; cases e; rw [List.map_cons, ← blsQ_ok h2 q, h1.bl]
    | _ => cases e
theorem L_any : CallL X κ (rAny X.K) bAny := call1 fun W ρ σ H s v d Q R hv q => by
  cases e : bAny.lstQ d s with
  | none => rw [e] at q; exact q.elim
  | some l =>
    rw [e] at q
    simp only [Option.bind_some] at q
    cases e2 : blsQ l with
    | none => rw [e2] at q; exact q.elim
    | some bs =>
      rw [e2] at q
      obtain ⟨a, vs, rfl, h1, h2⟩ := R.lstE hv e
      exact ⟨a, bs, rfl, by rw [← blsQ_ok h2 e2]; exact h1, EndV.ok q R (by simp only [VR])⟩
theorem L_all : CallL X κ (rAll X.K) bAll := call1 fun W ρ σ H s v d Q R hv q => by
  cases e : bAny.lstQ d s with
  | none => rw [e] at q; exact q.elim
  | some l =>
    rw [e] at q
    simp only [Option.bind_some] at q
    cases e2 : blsQ l with
    | none => rw [e2] at q; exact q.elim
    | some bs =>
      rw [e2] at q
      obtain ⟨a, vs, rfl, h1, h2⟩ := R.lstE hv e
      exact ⟨a, bs, rfl, by rw [← blsQ_ok h2 e2]; exact h1, EndV.ok q R (by simp only [VR])⟩
theorem L_int : CallL X κ (fun xs H Q => (∃ i, xs = [.int i] ∧ Q (.int i) H) ∨ ∃ k, xs = [.bl k] ∧ Q (.int (if k then 1 else 0)) H) bInt := call1 fun W ρ σ H s v d Q R hv q => by
  cases d with
  | int i => exact .inl ⟨i, by rw [hv.int], EndV.ok q R (by simp only [VR])⟩
  | bl b => exact .inr ⟨b, by rw [hv.bl], EndV.ok q R (by simp only [VR])⟩
  | _ => exact q.elim
/-! ### isinstance -/
theorem tyX_ok {K : PySem.W.Frag} {ρ : List Addr} {H : Hp} {s : Mst} (R : Rel K κ ρ H s) {d : Dv} {v : V} (h : VR K κ ρ H d v) (hk : tyQ d s ∈ kinds) (hn : noN d s = true) : TyX K H v (.type (tyQ d s)) := by
  unfold noN at hn
  unfold tyQ at hk ⊢
  cases d with
  | non => rw [h.non]; exact .base .non
  | bl b => rw [h.bl]; exact .base (.bl b)
  | int i => rw [h.int]; exact .base (.int i)
  | str i => rw [h.str]; exact .base (.str i)
  | tup l =>
    obtain ⟨a, vs, rfl, e2, _⟩ := h.tupE
    rcases e2 with (e2 | ⟨o, e2⟩) | ⟨o, its, n, e1, e2, _⟩
    · exact .base (.tup e2)
    · exact .fTuple e2
    · exact .kTuple e1 e2
  | clst l =>
    obtain ⟨a, vs, rfl, e2, _⟩ := h.clstE
    rcases e2 with ⟨o, e2⟩ | ⟨o, its, n, e1, e2, _⟩
    · exact .base (.frz e2)
    · exact .kList e1 e2
  | loc n =>
    simp only at hk ⊢
    cases q : s[n]? with
    | none => simp [q, kinds] at hk
    | some o =>
      simp only [q] at hk ⊢
      cases o with
      | lst l => obtain ⟨a, _, rfl, vs, e2, _⟩ := R.loc h q; exact .base (.lst e2)
      | dK l => obtain ⟨a, _, rfl, vs, e2, _⟩ := R.loc h q; exact .base (.dK e2)
      | dN l => simp only [q] at hn; cases hn
      | ins C l => simp [kinds] at hk
  | ptup l => simp [kinds] at hk
  | fix n => simp [kinds] at hk
  | ty n => simp [kinds] at hk
theorem kit_all {K : PySem.W.Frag} {t n : String} (ht : t ∈ kinds) (hn : n ∈ asked) : PySem.W.kitOne K (.type t) (.type n) = some (isiQ t n) := by
  have h : ∀ t ∈ kinds, ∀ n ∈ asked, kitB t n = some (isiQ t n) := by decide +kernel
  exact kit_ty (h t ht n hn)
theorem L_isi : CallL X κ (rIsi X.K) bIsi := call2 fun W ρ σ H s v u d e Q R hv hu q => by
  cases e with
  | ty n =>
    simp only at q
    by_cases hq : tyQ d s ∈ kinds ∧ n ∈ asked ∧ noN d s = true
    · rw [if_pos hq] at q
      exact ⟨v, .ty n, _, _, _, by rw [hu.tyE], .ty n, tyX_ok R hv hq.1 hq.2.2, kit_all hq.1 hq.2.1, EndV.ok q R (by simp only [VR])⟩
    · rw [if_neg hq] at q; exact q.elim
  | _ => exact q.elim
/-! ### methods of lists -/
theorem methL {r : V → List V → Hp → VK → Prop} {f : List Dv → List Dv → Option (List Dv × Dv)}
    (h : ∀ (ρ : List Addr) (H : Hp) (l : List Dv) (xs : List V) (ds : List Dv) (vs : List V) (l' : List Dv) (d : Dv) (a : Addr) (Q : VK), VRs X.K κ ρ H l xs → VRs X.K κ ρ H ds vs → f l ds = some (l', d) → H a = some (.lst xs) →
      (∀ xs' v, VRs X.K κ ρ H l' xs' → VR X.K κ ρ H d v → Q v (upd H a (.lst xs'))) → r (.ref a) vs H Q) : MtL X κ r (onLst f) := by
  intro W ρ σ H s v vs d ds Q R hd hv q
  unfold onLst at q
  cases d with
  | loc n =>
    simp only at q
    cases e : s[n]? with
    | none => rw [e] at q; exact q.elim
    | some o =>
      rw [e] at q
      cases o with
      | lst l =>
        simp only at q
        obtain ⟨a, e0, rfl, xs, e2, e3⟩ := R.loc hd e
        cases e4 : f l ds with
        | none => rw [e4] at q; exact q.elim
        | some z =>
          obtain ⟨l', d'⟩ := z
          rw [e4] at q
          exact h ρ H l xs ds vs l' d' a Q e3 hv e4 e2 fun xs' v' h1 h2 => EndV.put q R e0 ⟨xs', upd_same, VRs.later R (Step.put e0) _ _ h1⟩ (VR.later R (Step.put e0) _ _ h2)
      | _ => exact q.elim
  | _ => exact q.elim
theorem L_append : MtL X κ rAppend tAppend := methL fun ρ H l xs ds vs l' d a Q hl hv e ha q => by
  cases ds with
  | nil => cases e
  | cons x r =>
    cases r with
    | nil =>
      simp only at e
      by_cases hz : l.length < 2 ^ 24
      · rw [if_pos hz] at e
        cases e
        simp only [VRs] at hv
        obtain ⟨v, r', rfl, h1, rfl⟩ := hv
        exact ⟨a, xs, v, rfl, rfl, ha, by rw [hl.length]; exact hz, q _ _ (hl.append (.cons h1 .nil)) (by simp only [VR])⟩
      · rw [if_neg hz] at e; cases e
    | cons _ _ => cases e
def rPopA : V → List V → Hp → VK → Prop := fun x vs H Q => rPop x vs H Q ∨ rPopAt x vs H Q
theorem mt_popA : MtR X "list.pop" rPopA := MtR.or mt_pop mt_popAt
theorem VRs.eraseIdx {K : PySem.W.Frag} {ρ : List Addr} {H : Hp} : ∀ {l : List Dv} {vs : List V} (n : Nat), VRs K κ ρ H l vs → VRs K κ ρ H (l.eraseIdx n) (vs.eraseIdx n)
  | [], vs, n, h => by simp only [VRs] at h; subst h; simpa using VRs.nil
  | d :: l, vs, 0, h => by
    simp only [VRs] at h
    obtain ⟨v, r, rfl, h1, h2⟩ := h
    simpa using h2
  | d :: l, vs, n + 1, h => by
    simp only [VRs] at h
    obtain ⟨v, r, rfl, h1, h2⟩ := h
    simpa using VRs.cons h1 (VRs.eraseIdx n h2)
theorem L_pop : MtL X κ rPopA tPop := methL fun ρ H l xs ds vs l' d a Q hl hv e ha q => by
  cases ds with
  | nil =>
    simp only at e
    cases e1 : l[l.length - 1]? with
    | none => rw [e1] at e; cases e
    | some z =>
      rw [e1] at e
      cases e
      simp only [VRs] at hv
      obtain ⟨v, e2, e3⟩ := hl.get e1
      refine .inl ⟨a, xs, v, rfl, hv, ha, by rw [hl.length]; exact e2, q _ _ ?_ e3⟩
      rw [List.dropLast_eq_take, List.dropLast_eq_take, hl.length]
      exact VRs.take _ hl
  | cons x r =>
    cases r with
    | cons _ _ => cases x <;> cases e
    | nil =>
      cases x with
      | int i =>
        simp only at e
        cases e1 : ixQ l.length i with
        | none => rw [e1] at e; cases e
        | some k =>
          rw [e1] at e
          simp only at e
          cases e2 : l[k]? with
          | none => rw [e2] at e; cases e
          | some z =>
            rw [e2] at e
            simp only at e
            by_cases hi : -(2 ^ 63) ≤ i ∧ i < 2 ^ 63
            · rw [if_pos hi] at e
              cases e
              simp only [VRs] at hv
              obtain ⟨v, r', rfl, h1, rfl⟩ := hv
              obtain ⟨u, e3, e4⟩ := hl.get e2
              exact .inr ⟨a, xs, i, k, u, rfl, by rw [h1.int], ha, hi.1, hi.2, (ixN_seq (n := xs.length) (by rw [hl.length]; exact e1)).1, e3, q _ _ (VRs.eraseIdx k hl) e4⟩
            · rw [if_neg hi] at e; cases e
      | _ => cases e
theorem L_clear : MtL X κ rClear tClear := methL fun ρ H l xs ds vs l' d a Q hl hv e ha q => by
  cases ds with
  | nil =>
    cases e
    simp only [VRs] at hv
    exact ⟨a, xs, rfl, hv, ha, q _ _ .nil (by simp only [VR])⟩
  | cons _ _ => cases e
theorem findE_ok (a : PyData) : ∀ {bs : List PyData} {n : Nat}, findE a bs = some n → ∃ z, bs[n]? = some z ∧ PyData.eqv z a = true ∧ ∀ (m : Nat) z', m < n → bs[m]? = some z' → PyData.eqv z' a = false
  | [], n, e => by cases e
  | b :: r, n, e => by
    unfold findE at e
    by_cases h : PyData.eqv b a = true
    · rw [if_pos h] at e; cases e
      exact ⟨b, rfl, h, fun m z' hm => absurd hm (Nat.not_lt_zero m)⟩
    · rw [if_neg h] at e
      cases q : findE a r with
      | none => rw [q] at e; cases e
      | some k =>
        rw [q] at e; cases e
        obtain ⟨z, e1, e2, e3⟩ := findE_ok a q
        refine ⟨z, by simpa using e1, e2, fun m z' hm e4 => ?_⟩
        cases m with
        | zero => simp at e4; subst e4; exact Bool.eq_false_iff.mpr h
        | succ m => exact e3 m z' (Nat.lt_of_succ_lt_succ hm) (by simpa using e4)
theorem L_index : MtL X κ (rIndexD X.K) tIndex := meth1 fun W ρ σ H s v u d e Q R hv hu q => by
  cases e1 : bAny.lstQ d s with
  | none => rw [e1] at q; exact q.elim
  | some l =>
    rw [e1] at q
    simp only at q
    cases e2 : dat s 66 e with
    | none => rw [e2] at q; exact q.elim
    | some a =>
      cases e3 : datA (dat s 65) l with
      | none => rw [e2, e3] at q; exact q.elim
      | some bs =>
        rw [e2, e3] at q
        simp only at q
        by_cases hs : SeqAt.shaped a = true ∧ SeqAt.shaped (.list bs) = true
        · rw [if_pos hs] at q
          cases e4 : findE a bs with
          | none => rw [e4] at q; exact q.elim
          | some n =>
            rw [e4] at q
            obtain ⟨z, f1, f2, f3⟩ := findE_ok a e4
            obtain ⟨p, vs, rfl, _, _⟩ := R.lstE hv e1
            exact ⟨p, u, a, bs, n, z, rfl, rfl, lst_dat R hv e1 e3, dat_ok R 66 e u a hu e2, hs.2, hs.1, f1, f2, f3, EndV.ok q R (by simp only [VR])⟩
        · rw [if_neg hs] at q; exact q.elim
/-! ### get, setdefault -/
def rDGetK : V → List V → Hp → VK → Prop := fun x xs H Q => ∃ a y o, x = .ref a ∧ DGet H a y o ∧ ((xs = [y] ∧ Q (o.getD .non) H) ∨ ∃ z, xs = [y, z] ∧ Q (o.getD z) H)
theorem mt_getK (hu : X.A.units + 65 < cLine) : MtR X "dict.get" rDGetK := by
  intro pins s σ H x xs v us Q I rx rxs h
  obtain ⟨a, y, o, rfl, g, h⟩ := h
  obtain rfl : v = Value.ref a := rx
  rcases h with ⟨rfl, q⟩ | ⟨z, rfl, q⟩
  · obtain ⟨u, rfl, ru⟩ := rxs.one
    exact d_get1 (hu1 hu) I g ru fun w' s' I' rw' => ⟨_, H, I', rw', q⟩
  · obtain ⟨u, u2, rfl, ru, ru2⟩ := rxs.two
    exact d_get2 (hu1 hu) I g ru ru2 fun w' s' I' rw' => ⟨_, H, I', rw', q⟩
def rDGetA (K : PySem.W.Frag) (w : World) : V → List V → Hp → VK → Prop := fun x vs H Q => rDGetK x vs H Q ∨ rDGetN K w x vs H Q
theorem mt_get (hu : X.A.units + 65 < cLine) : MtR X "dict.get" (rDGetA X.K X.w) := MtR.or (mt_getK hu) (mt_getN hu)
theorem dgQ_ok {K : PySem.W.Frag} {ρ : List Addr} {H : Hp} {s : Mst} (R : Rel K κ ρ H s) {x y : V} {dx dy : Dv} {o : Option Dv} (hx : VR K κ ρ H dx x) (hy : VR K κ ρ H dy y) (e : dgQ dx dy s = some o) :
    (∃ a ov, x = .ref a ∧ DGet H a y ov ∧ ov.isSome = o.isSome ∧ ∀ d, o = some d → ∃ v, ov = some v ∧ VR K κ ρ H d v) ∨
    ∃ a b k es, x = .ref a ∧ y = .ref b ∧ KeyIs K H b k ∧ NDa κ.w H a es ∧ (∀ e ∈ es, KeyIs K H e.2.1 e.1) ∧ (valE es k).isSome = o.isSome ∧ ∀ d, o = some d → ∃ v, valE es k = some v ∧ VR K κ ρ H d v := by
  unfold dgQ at e
  cases dx with
  | loc n =>
    simp only at e
    cases q : s[n]? with
    | none => rw [q] at e; cases e
    | some ob =>
      rw [q] at e
      cases ob with
      | dK kvs =>
        simp only at e
        obtain ⟨p, _, rfl, h⟩ := R.loc hx q
        cases hk : keyQ dy with
        | none =>
          rw [hk] at e
          simp only at e
          by_cases h0 : kvs.isEmpty = true
          · rw [if_pos h0] at e
            obtain ⟨k, e1, rfl⟩ := Option.map_eq_some_iff.mp e
            obtain ⟨b, rfl, hb⟩ := keyN_ok hy e1
            exact .inr ⟨p, b, k, [], rfl, rfl, hb, OR.dk0 h h0, (fun _ he => by cases he), rfl, (fun _ e => by cases e)⟩
          · rw [if_neg h0] at e; cases e
        | some k =>
          rw [hk] at e
          cases e
          obtain ⟨vs, h1, h2⟩ := OR.dk h
          exact .inl ⟨p, valV vs k, rfl, by rw [keyQ_ok hy hk]; exact DGet.k h1, h2.val.1, h2.val.2⟩
      | dN kvs =>
        simp only at e
        obtain ⟨p, _, rfl, h⟩ := R.loc hx q
        obtain ⟨es, h1, h2, h3, _⟩ := OR.dn h
        obtain ⟨k, e1, rfl⟩ := Option.map_eq_some_iff.mp e
        obtain ⟨b, rfl, hb⟩ := keyN_ok hy e1
        exact .inr ⟨p, b, k, es, rfl, rfl, hb, .inl h1, h3, by rw [← valE_map]; exact h2.val.1, fun d e => by rw [← valE_map]; exact h2.val.2 d e⟩
      | _ => cases e
  | _ => cases e
theorem getD_ok {K : PySem.W.Frag} {ρ : List Addr} {H : Hp} {o : Option Dv} {ov : Option V} {d : Dv} {v : V} (h1 : ov.isSome = o.isSome) (h2 : ∀ d, o = some d → ∃ v, ov = some v ∧ VR K κ ρ H d v) (h : VR K κ ρ H d v) : VR K κ ρ H (o.getD d) (ov.getD v) := by
  cases o with
  | some d' => obtain ⟨v', rfl, h3⟩ := h2 d' rfl; exact h3
  | none =>
    cases ov with
    | none => exact h
    | some _ => cases h1
theorem L_dget (hw : κ.w = X.w) : MtL X κ (rDGetA X.K X.w) tGet := by
  intro W ρ σ H s v vs d ds Q R hd hv q
  have key : ∀ (i : Dv) (u : V) (e : Dv) (z : V) (vs : List V), VR X.K κ ρ H i u → VR X.K κ ρ H e z → EndV X.K κ W ρ σ H (ofO ((dgQ d i s).map fun o => o.getD e) s) Q → ((vs = [u] ∧ z = .non) ∨ vs = [u, z]) → rDGetA X.K X.w v vs H Q := by
    intro i u e z vs hi he q hz
    cases e1 : dgQ d i s with
    | none => rw [e1] at q; exact q.elim
    | some o =>
      rw [e1] at q
      have q' : ∀ ov : Option V, ov.isSome = o.isSome → (∀ d, o = some d → ∃ v, ov = some v ∧ VR X.K κ ρ H d v) → Q (ov.getD z) H := fun ov h1 h2 => EndV.ok q R (getD_ok h1 h2 he)
      rcases dgQ_ok R hd hi e1 with ⟨a, ov, rfl, g, h1, h2⟩ | ⟨a, b, k, es, rfl, rfl, g1, g2, g3, h1, h2⟩
      · refine .inl ⟨a, u, ov, rfl, g, ?_⟩
        rcases hz with ⟨rfl, rfl⟩ | rfl
        · exact .inl ⟨rfl, q' ov h1 h2⟩
        · exact .inr ⟨z, rfl, q' ov h1 h2⟩
      · refine .inr ⟨a, b, k, es, rfl, g1, by rw [← hw]; exact g2, g3, ?_⟩
        rcases hz with ⟨rfl, rfl⟩ | rfl
        · exact .inl ⟨rfl, q' _ h1 h2⟩
        · exact .inr ⟨z, rfl, q' _ h1 h2⟩
  cases ds with
  | nil => exact q.elim
  | cons i ds =>
    simp only [VRs] at hv
    obtain ⟨u, r, rfl, h1, h2⟩ := hv
    cases ds with
    | nil =>
      simp only [VRs] at h2
      subst h2
      exact key i u .non .non [u] h1 (by simp only [VR]) q (.inl ⟨rfl, rfl⟩)
    | cons e ds =>
      simp only [VRs] at h2
      obtain ⟨z, r', rfl, h3, h4⟩ := h2
      cases ds with
      | nil =>
        simp only [VRs] at h4
        subst h4
        exact key i u e z [u, z] h1 h3 q (.inr rfl)
      | cons _ _ => exact q.elim
def rSetdK : V → List V → Hp → VK → Prop := fun x xs H Q => ∃ a kvs k z, x = .ref a ∧ xs = [kV k, z] ∧ H a = some (.dK kvs) ∧ kvs.length < sizeLine ∧ (∀ v, valV kvs k = some v → Q v H) ∧ (valV kvs k = none → Q z (upd H a (.dK (putK kvs k z))))
theorem mt_setdK : MtR X "dict.setdefault" rSetdK := by
  intro pins s σ H x xs v us Q I rx rxs h
  obtain ⟨a, kvs, k, z, rfl, rfl, ha, hl, q1, q2⟩ := h
  obtain rfl : v = Value.ref a := rx
  obtain ⟨u, u2, rfl, ru, ru2⟩ := rxs.two
  exact d_setd I ha ru ru2 hl (fun v hv w' s' I' rw' => ⟨v, H, I', rw', q1 v hv⟩) fun hn w' s' I' rw' => ⟨z, _, I', rw', q2 hn⟩
def rSetdA (K : PySem.W.Frag) (w : World) : V → List V → Hp → VK → Prop := fun x vs H Q => rSetdK x vs H Q ∨ rSetdN K w x vs H Q
theorem mt_setd (hu : X.A.units + 65 < cLine) : MtR X "dict.setdefault" (rSetdA X.K X.w) := MtR.or mt_setdK (mt_setdN hu)
theorem L_setd (hw : κ.w = X.w) : MtL X κ (rSetdA X.K X.w) tSetd := by
  intro W ρ σ H s v vs d ds Q R hd hv q
  match ds, hv, q with
  | [i, e], hv, q =>
    simp only [VRs] at hv
    obtain ⟨u, r, rfl, h1, z, r', rfl, h3, rfl⟩ := hv
    have q' : EndV X.K κ W ρ σ H (setdQ d i e s) Q := q
    unfold setdQ at q'
    cases d with
    | loc n =>
      simp only at q'
      cases q2 : s[n]? with
      | none => rw [q2] at q'; exact q'.elim
      | some ob =>
        rw [q2] at q'
        cases ob with
        | dK kvs =>
          simp only at q'
          obtain ⟨p, e0, rfl, h⟩ := R.loc hd q2
          by_cases hl : kvs.length < 2 ^ 24
          · rw [if_pos hl] at q'
            cases hk : keyQ i with
            | none =>
              rw [hk] at q'
              simp only at q'
              by_cases h0 : kvs.isEmpty = true
              · rw [if_pos h0] at q'
                cases hkn : keyN i with
                | none => rw [hkn] at q'; exact q'.elim
                | some k =>
                  rw [hkn] at q'
                  obtain ⟨b, rfl, hb⟩ := keyN_ok h1 hkn
                  have ho := OR.putN (kvs := []) (es := []) R e0 KR.nil (fun _ he => by cases he) h1 hkn h3
                  refine .inr ⟨p, b, k, [], z, rfl, rfl, hb, by rw [← hw]; exact OR.dk0 h h0, (fun _ he => by cases he), by decide, (fun _ e => by cases e), fun _ => ?_⟩
                  rw [← hw]
                  exact EndV.put q' R e0 ho (VR.later R (Step.put e0) _ _ h3)
              · rw [if_neg h0] at q'; exact q'.elim
            | some k =>
              rw [hk] at q'
              simp only at q'
              obtain ⟨vs, g1, g2⟩ := OR.dk h
              refine .inl ⟨p, vs, k, z, rfl, by rw [keyQ_ok h1 hk], g1, by rw [g2.length]; exact hl, fun v hv => ?_, fun hn => ?_⟩
              · have g3 := (g2.val (k := k)).1
                rw [hv] at g3
                cases e1 : kval kvs k with
                | none => rw [e1] at g3; cases g3
                | some d' =>
                  rw [e1] at q'
                  obtain ⟨v', e2, e3⟩ := g2.val.2 d' e1
                  rw [hv] at e2; cases e2
                  exact EndV.ok q' R e3
              · have g3 := (g2.val (k := k)).1
                rw [hn] at g3
                cases e1 : kval kvs k with
                | some d' => rw [e1] at g3; cases g3
                | none =>
                  rw [e1] at q'
                  have r := (g2.put (k := k) h3).kp ((Step.put (H := H) (o := .dK (putK vs k z)) e0).kp R)
                  exact EndV.put q' R e0 ⟨_, upd_same, r.1, r.2⟩ (VR.later R (Step.put e0) _ _ h3)
          · rw [if_neg hl] at q'; exact q'.elim
        | dN kvs =>
          simp only at q'
          obtain ⟨p, e0, rfl, h⟩ := R.loc hd q2
          by_cases hl : kvs.length < 2 ^ 24
          · rw [if_pos hl] at q'
            cases hk : keyN i with
            | none => rw [hk] at q'; exact q'.elim
            | some k =>
              rw [hk] at q'
              simp only at q'
              obtain ⟨es, g1, g2, g5, g4⟩ := OR.dn h
              obtain ⟨b, rfl, hb⟩ := keyN_ok h1 hk
              refine .inr ⟨p, b, k, es, z, rfl, rfl, hb, .inl (by rw [← hw]; exact g1), g5, by have := g2.length; rw [List.length_map] at this; rw [this]; exact hl, fun v hv => ?_, fun hn => ?_⟩
              · rw [← valE_map] at hv
                have g3 := (g2.val (k := k)).1
                rw [hv] at g3
                cases e1 : kval kvs k with
                | none => rw [e1] at g3; cases g3
                | some d' =>
                  rw [e1] at q'
                  obtain ⟨v', e2, e3⟩ := g2.val.2 d' e1
                  rw [hv] at e2; cases e2
                  exact EndV.ok q' R e3
              · rw [← valE_map] at hn
                have g3 := (g2.val (k := k)).1
                rw [hn] at g3
                cases e1 : kval kvs k with
                | some d' => rw [e1] at g3; cases g3
                | none =>
                  rw [e1] at q'
                  have ho := OR.putN R e0 g2 g4 h1 hk h3
                  rw [← hw]
                  exact EndV.put q' R e0 ho (VR.later R (Step.put e0) _ _ h3)
          · rw [if_neg hl] at q'; exact q'.elim
        | _ => exact q'.elim
    | _ => exact q'.elim
  | [], hv, q => exact q.elim
  | [_], hv, q => exact q.elim
  | _ :: _ :: _ :: _, hv, q => exact q.elim
/-! ### len(set(..)) -/
theorem metI_eq (ns : List Int) : metI [] ns = PyProof.Rows.firstMet (fun i => ns.getD i 0) ns.length := by
  have e : (List.range ns.length).map (fun i => ns.getD i 0) = ns := List.ext_getElem (by simp) fun i h1 h2 => by simp [h2]
  have g : ∀ (l acc : List Int), metI acc l = l.foldl PyProof.Rows.step_dedup acc := by
    intro l
    induction l with
    | nil => intro acc; rfl
    | cons i r ih =>
      intro acc
      unfold metI PyProof.Rows.step_dedup
      rw [List.foldl_cons]
      by_cases h : i ∈ acc
      · rw [if_pos h, ih, if_pos (by simpa using h)]; rfl
      · rw [if_neg h, ih, if_neg (by simpa using h)]; rfl
  unfold PyProof.Rows.firstMet
  rw [e, g]
end
section
variable {X : Cx} {κ : Kap} {W : WX}
def tLenSet (K : PySem.W.Frag) (ta : TE) : TE := fun σ H Q => ta σ H fun x H1 => ∃ (l : Addr) (ns : List Int), x = .ref l ∧ SqL K H1 l (ns.map V.int) ∧ ns.length < 4000 ∧ Q (.int (metI [] ns).length) H1
theorem pe_lenSet {a : Expr} {ta : TE} {p p2 q pos : Pos} (hc : X.calm = true) (hg : Gl X "len") (hm : X.mg "len" = none) (hg2 : Gl X "set") (hm2 : X.mg "set" = none) (ha : PE X a ta) (na : starEach [a] X.env = (false, eval a X.env) :: starEach [] X.env) :
    PE X (.Call (.Name "len" p) [.Call (.Name "set" p2) [a] [] q] [] pos) (tLenSet X.K ta) := by
  refine ⟨fun pins s σ H Q I h => PyProof.Rows.Call_ (ld_blt I hg hm boot_len (PyProof.Rows.callWith_builtin1 (PyProof.Rows.args_cons (PyProof.Rows.Call_ (ld_blt I hg2 hm2 PyProof.Rows.boot_set ?_)) rfl) rfl rfl))⟩
  refine PyProof.Rows.callWith_type1 (PyProof.Rows.args_cons (thn (ha.run pins s σ H _ I h) fun v s1 ⟨x, H1, I1, r1, q1⟩ => PyProof.Rows.args_nil ?_) na) na rfl
  obtain ⟨l, ns, rfl, hq, hlt, q1⟩ := q1
  cases r1
  obtain ⟨its, r, pl, hz⟩ := I1.list hq
  have hlen : its.toArray.size = ns.length := by rw [List.size_toArray, ← r.length, List.length_map]
  refine call_set_list (ns := ns) (I1.ok.hd hc) pl.isList (by simpa using r.ints) (by rw [hlen]; unfold scanBound; omega) fun h' tk hS hk => PyProof.Rows.args_nil ?_
  rw [hlen, ← metI_eq] at hS
  obtain ⟨o, es, ep, t, ho, hex, hd, _, _, _, hf, hn⟩ := hS
  have hml : (metI [] ns).length ≤ ns.length := by rw [metI_eq]; exact PyProof.Rows.firstMet_length_le _ _
  have I2 : Inv X pins σ H1 { s1 with heap := h', toks := tk } := I1.kept fun b o e => hk b o (Heap.lt_size e) e
  exact call_len_set ho hex hd hf (by rw [hn]; omega) ⟨.int (metI [] ns).length, H1, I2.tok _, ⟨_, by rw [hn]⟩, q1⟩
theorem le_lenSet {a : Expr} {ma : ME} {p p2 q pos : Pos} (hc : X.calm = true) (hg : Gl X "len") (hm : X.mg "len" = none) (hg2 : Gl X "set") (hm2 : X.mg "set" = none) (ha : LE X κ W a ma) (na : starEach [a] X.env = (false, eval a X.env) :: starEach [] X.env := by rfl) :
    LE X κ W (.Call (.Name "len" p) [.Call (.Name "set" p2) [a] [] q] [] pos) (mCall bLenSet [ma]) :=
  PE.by (pe_lenSet hc hg hm hg2 hm2 ha na) fun σ H Q ⟨ρ, σd, s, R, hE, h⟩ => ⟨ρ, σd, s, R, hE, (Fin.bind (f := fun d s => bLenSet [d] s) (by
      have h' := h
      unfold mCall mArgs mArgs at h'
      cases e : ma σd s with
      | ok d s1 => rw [e] at h'; exact h'
      | er z s1 => rw [e] at h'; exact h'
      | bad => rw [e] at h'; exact h')).mono fun d ρ1 s1 H1 x1 R1 q v hv => by
    unfold bLenSet f1 at q
    simp only at q
    cases e : bAny.lstQ d s1 with
    | none => rw [e] at q; exact q.elim
    | some l =>
      rw [e] at q
      simp only [Option.bind_some] at q
      cases e2 : intsQ l with
      | none => rw [e2] at q; exact q.elim
      | some ns =>
        rw [e2] at q
        simp only at q
        by_cases hl : ns.length < 4000
        · rw [if_pos hl] at q
          obtain ⟨p, vs, rfl, h1, h2⟩ := R1.lstE hv e
          obtain ⟨rfl, _⟩ := intsQ_ok h2 e2
          exact ⟨p, ns, rfl, h1, hl, EndV.ok q R1 (by simp only [VR])⟩
        · rw [if_neg hl] at q; exact q.elim⟩
end
end Mid
/-! Mid9: sorted, dicts of pairs, update, count, join, zip. -/
namespace Mid
open PySem PySem.Spec L2 Classical

theorem risingS_all : ∀ (l : List Str) (p : Str), PyProof.Rows.risingS p l = true → (p :: l).Pairwise leS
  | [], p, _ => by simp
  | x :: r, p, h => by
    have h' : (!ltCps x.cps.toList p.cps.toList && PyProof.Rows.risingS x r) = true := h
    rw [Bool.and_eq_true] at h'
    have h1 : leS p x := by
      have q := h'.1
      rw [PyProof.Rows.ltCps_eq] at q
      simpa [leS] using q
    have h2 := risingS_all r x h'.2
    refine List.pairwise_cons.mpr ⟨fun y hy => ?_, h2⟩
    rcases List.mem_cons.mp hy with rfl | hy
    · exact h1
    · exact leS_trans h1 (List.rel_of_pairwise_cons h2 hy)
theorem srtS_one {l m : List Str} (hp : m.Perm l) (h : PyProof.Rows.sortedS m = true) : m = srtS l := by
  refine perm_one leS_anti (hp.trans (srtS_perm l).symm) ?_ (srtS_rising l)
  cases m with
  | nil => exact .nil
  | cons x r => exact risingS_all r x h

section
variable {K : PySem.W.Frag} {κ : Kap} {ρ : List Addr} {H : Hp}
theorem strsQ_ok : ∀ {l : List Dv} {vs : List V} {ns : List Str}, VRs K κ ρ H l vs → strsQ l = some ns → vs = ns.map V.str ∧ l = ns.map Dv.str
  | [], vs, ns, h, e => by simp only [VRs] at h; cases e; exact ⟨h, rfl⟩
  | d :: l, vs, ns, h, e => by
    simp only [VRs] at h
    obtain ⟨v, r, rfl, h1, h2⟩ := h
    cases d with
    | str i =>
      unfold strsQ at e
      cases q : strsQ l with
      | none => rw [q] at e; cases e
      | some ms =>
        rw [q] at e; cases e
        obtain ⟨e1, e2⟩ := strsQ_ok h2 q
        exact ⟨by rw [List.map_cons, ← e1, h1.str], by rw [List.map_cons, ← e2]⟩
    | _ => cases e
theorem VRs.ints (ns : List Int) : VRs K κ ρ H (ns.map Dv.int) (ns.map V.int) := by
  induction ns with
  | nil => exact .nil
  | cons n r ih => exact .cons (by simp only [VR]) ih
theorem VRs.strs (ns : List Str) : VRs K κ ρ H (ns.map Dv.str) (ns.map V.str) := by
  induction ns with
  | nil => exact .nil
  | cons n r ih => exact .cons (by simp only [VR]) ih
/-- the keys of a dict, as values -/
theorem keysQ_ints : ∀ {ks : List KeyQ} {ns : List Int}, intsQ (ks.map keyD) = some ns → ks = ns.map Sum.inl
  | [], ns, e => by cases e; rfl
  | k :: ks, ns, e => by
    cases k with
    | inl i =>
      simp only [List.map_cons, keyD, intsQ] at e
      cases q : intsQ (ks.map keyD) with
      | none => rw [q] at e; cases e
      | some ms => rw [q] at e; cases e; rw [List.map_cons, ← keysQ_ints q]
    | inr x => simp [keyD, intsQ] at e
theorem keysQ_strs : ∀ {ks : List KeyQ} {ns : List Str}, strsQ (ks.map keyD) = some ns → ks = ns.map Sum.inr
  | [], ns, e => by cases e; rfl
  | k :: ks, ns, e => by
    cases k with
    | inr i =>
      simp only [List.map_cons, keyD, strsQ] at e
      cases q : strsQ (ks.map keyD) with
      | none => rw [q] at e; cases e
      | some ms => rw [q] at e; cases e; rw [List.map_cons, ← keysQ_strs q]
    | inl x => simp [keyD, strsQ] at e
end

section
variable {X : Cx} {κ : Kap} {W : WX}
/-- sorted(d) of a dict, all its keys ints, any number of them -/
def rSortedDI (H0 : Hp) : List V → Hp → VK → Prop := fun xs H Q => ∃ (a : Addr) (kvs : List (Key × V)) (ks : List Int), xs = [.ref a] ∧ Rd H a (.dK kvs) ∧ kvs.map (·.1) = ks.map Sum.inl ∧
    ∀ (ys : List Int) (p : Addr), ys.Perm ks → ys.Pairwise (· ≤ ·) → H p = none → Q (.ref p) (upd H p (.lst (ys.map V.int)))
theorem cr_sortedDI (hcalm : X.calm = true) : CallR X (.builtin "sorted") (rSortedDI X.H_0) := by
  intro pins s σ H xs us Q I r hq
  obtain ⟨a, kvs, ks, ex, hd, hks, fin⟩ := hq
  subst ex
  obtain ⟨u0, eu, rx⟩ := vals1 r
  subst eu
  cases rx
  obtain ⟨hz, lo, vs, rel, dd⟩ := dk_rd I.hok hd
  obtain ⟨ep, hat⟩ := dd.dictAt
  have keys : vs.map (·.1) = ks.map Sum.inl := rel.keys.symm.trans hks
  have len1 : vs.length = ks.length := by simpa using congrArg List.length keys
  have len2 : kvs.length = ks.length := by simpa using congrArg List.length hks
  have big : vs.length ≤ sizeLine := by rw [len1, ← len2]; exact hz
  refine Calls.call_function_entry PyProof.Rows.kind_sorted PyProof.Rows.plain_sorted PyProof.Rows.entry_sorted (PyProof.Rows.args_sorted1 _) ?_
  unfold Builtin.«sorted»
  refine wpAny_bind (m := checkCount "sorted" 1 1 _) (wpAny_pure (wpAny_bind ?_))
  refine PySem.W.kdu_collect (A := X.A.in1) (PySem.W.kdl_dict (knd := mixKind X.prog X.w) (kvs := vs) (ep := ep) lo) (I.ok.hd hcalm) hat big fun g tk acc keep got => ?_
  have len3 : acc.toList.length = ks.length := by rw [Array.length_toList, got.1, len1]
  have hS : PyProof.Rows.IntsAre acc.toList ks := L2.ints_each len3 fun j v e => by
    obtain ⟨k, y, e1, e2⟩ := got.2 j v (by rw [← Array.getElem?_toList]; exact e)
    have e3 : (vs.map (·.1))[j]? = some k := by rw [List.getElem?_map, e1]; rfl
    rw [keys, List.getElem?_map] at e3
    cases e4 : ks[j]? with
    | none => rw [e4] at e3; cases e3
    | some i =>
      rw [e4] at e3
      obtain rfl : Sum.inl i = k := Option.some.inj e3
      obtain ⟨t, ev⟩ := Value.isInt_shape (k := i) (v := v) e2
      exact ⟨i, t, rfl, ev⟩
  have I1 : Inv X pins σ H { s with heap := g, toks := tk } := I.kept keep
  have big2 : acc.toList.length ≤ sizeLine := by rw [len3, ← len1]; exact big
  refine wpAny_bind (wpAny_newList ?_ big2)
  have at0 : (g.push (PyProof.Rows.seqObj "list" acc.toList.toArray 0)).get? g.objs.size = some (PyProof.Rows.seqObj "list" acc.toList.toArray 0) := Heap.get?_push_size _ rfl
  show wpAny _ _ _ _ _ { s with heap := g.push (PyProof.Rows.seqObj "list" acc.toList.toArray 0), toks := tk }
  refine wpAny_bind (wpAny_holding (wpAny_call_entry PyProof.Rows.slot_list_sort ⟨_, at0, rfl⟩ PyProof.Rows.entry_list_sort
    (SrtO.list_sort_ord (s := { s with heap := g.push (PyProof.Rows.seqObj "list" acc.toList.toArray 0), toks := tk }) SrtO.swo_int at0 big2 (fun h2 => SrtO.ints_sortable hS h2) fun out h1 h2 => ⟨_, rfl, ?_⟩) (PyProof.Rows.args_list_sort _)))
  obtain ⟨k1, k2, k3⟩ := SrtO.ints_out hS h1 h2
  obtain ⟨e', he'⟩ := PyProof.Rows.sortedHeap_at (vs := acc.toList) (out := out.toArray) at0
  have len4 : ((out.map SrtO.iv).map V.int).length ≤ sizeLine := by
    rw [List.length_map, k2.length_eq, ← len1]
    exact big
  refine wpAny_pure ⟨_, rfl, .ref g.objs.size, upd H g.objs.size (.lst ((out.map SrtO.iv).map V.int)), I1.laid (t' := tk) (fun b u e => ?_) (Nat.le_refl _)
    ⟨len4, out, e', vals_of_ints k1, he'⟩, rfl, fin _ _ k2 k3 (I1.hok.fresh (Nat.le_refl _))⟩
  have hb : b < g.objs.size := Heap.lt_size e
  rw [PyProof.Rows.sortedHeap_old (Nat.ne_of_lt hb) (by show b < (g.push _).objs.size; rw [Heap.size_push]; exact Nat.lt_succ_of_lt hb)]
  exact Heap.get?_push_of_some _ e

def rSortedA (K : PySem.W.Frag) (H0 : Hp) : List V → Hp → VK → Prop := fun xs H Q => ((rSortedI K xs H Q ∨ rSortedS K xs H Q) ∨ rSortedDI H0 xs H Q) ∨ (∃ (a : Addr) (kvs : List (Key × V)) (ks : List Str), xs = [.ref a] ∧ Rd H a (.dK kvs) ∧ kvs.map (·.1) = ks.map Sum.inr ∧ ks.length < 64 ∧
    ∀ ys p, ys.Perm ks → PyProof.Rows.sortedS ys = true → H p = none → Q (.ref p) (upd H p (.lst (ys.map V.str))))
theorem cr_sortedA (hc : X.calm = true) : CallR X (.builtin "sorted") (rSortedA X.K X.H_0) := CallR.or (CallR.or (CallR.or cr_sortedI cr_sortedS) (cr_sortedDI hc)) (call_sortedD hc)
theorem L_sorted : CallL X κ (rSortedA X.K X.H_0) bSorted := call1 fun W ρ σ H s v d Q R hv q => by
  cases e : bAny.lstQ d s with
  | some l =>
    rw [e] at q
    simp only at q
    obtain ⟨a, vs, rfl, h1, h2⟩ := R.lstE hv e
    unfold srtQ at q
    cases e1 : intsQ l with
    | some ns =>
      rw [e1] at q
      simp only at q
      obtain ⟨rfl, rfl⟩ := intsQ_ok h2 e1
      exact .inl (.inl (.inl ⟨a, ns, rfl, h1, fun ns' p hp hr np => by rw [srtI_one hp hr]; exact EndV.newL q R np (VRs.ints _)⟩))
    | none =>
      rw [e1] at q
      simp only at q
      cases e2 : strsQ l with
      | none => rw [e2] at q; exact q.elim
      | some xs =>
        rw [e2] at q
        simp only at q
        by_cases h64 : xs.length < 64
        · rw [if_pos h64] at q
          obtain ⟨rfl, rfl⟩ := strsQ_ok h2 e2
          exact .inl (.inl (.inr ⟨a, xs, rfl, h1, h64, fun ys p hp hr np => by rw [srtS_one hp hr]; exact EndV.newL q R np (VRs.strs _)⟩))
        · rw [if_neg h64] at q; exact q.elim
  | none =>
    rw [e] at q
    simp only at q
    cases d with
    | loc n =>
      simp only at q
      cases q2 : s[n]? with
      | none => rw [q2] at q; exact q.elim
      | some o =>
        rw [q2] at q
        cases o with
        | dK kvs =>
          simp only at q
          obtain ⟨a, _, rfl, h⟩ := R.loc hv q2
          obtain ⟨vs, e2, e3⟩ := OR.dk h
          have ek : (kvs.map fun kv => keyD kv.1) = (kvs.map (·.1)).map keyD := by rw [List.map_map]; rfl
          rw [ek] at q
          unfold srtQ at q
          cases e1 : intsQ ((kvs.map (·.1)).map keyD) with
          | some ns =>
            rw [e1] at q
            simp only at q
            exact .inl (.inr ⟨a, vs, ns, rfl, .inl e2, e3.1.trans (keysQ_ints e1), fun ys p hp hr np => by rw [srtI_one hp hr]; exact EndV.newL q R np (VRs.ints _)⟩)
          | none =>
            rw [e1] at q
            simp only at q
            cases e4 : strsQ ((kvs.map (·.1)).map keyD) with
            | none => rw [e4] at q; exact q.elim
            | some xs =>
              rw [e4] at q
              simp only at q
              by_cases h64 : xs.length < 64
              · rw [if_pos h64] at q
                exact .inr ⟨a, vs, xs, rfl, .inl e2, e3.1.trans (keysQ_strs e4), h64, fun ys p hp hr np => by rw [srtS_one hp hr]; exact EndV.newL q R np (VRs.strs _)⟩
              · rw [if_neg h64] at q; exact q.elim
        | _ => exact q.elim
    | _ => exact q.elim
/-! ### dict of pairs, update -/
theorem pairsQ_ok {K : PySem.W.Frag} {ρ : List Addr} {H : Hp} : ∀ {l : List Dv} {vs : List V} {kvs : List (KeyQ × Dv)}, VRs K κ ρ H l vs → pairsQ l = some kvs →
    ∃ (ps : List Addr) (ws : List (Key × V)), vs = ps.map V.ref ∧ KR K κ ρ H kvs ws ∧ Paired (fun p kv => SqT K H p [kV kv.1, kv.2]) ps ws
  | [], vs, kvs, h, e => by simp only [VRs] at h; cases e; exact ⟨[], [], h, .nil, .nil⟩
  | d :: l, vs, kvs, h, e => by
    simp only [VRs] at h
    obtain ⟨v, r, rfl, h1, h2⟩ := h
    unfold pairsQ at e
    cases q1 : pairQ d with
    | none => rw [q1] at e; cases e
    | some kd =>
      cases q2 : pairsQ l with
      | none => rw [q1, q2] at e; cases e
      | some m =>
        rw [q1, q2] at e
        cases e
        obtain ⟨ps, ws, rfl, e3, e4⟩ := pairsQ_ok h2 q2
        unfold pairQ at q1
        split at q1
        · rename_i k z
          cases q3 : keyQ k with
          | none => rw [q3] at q1; cases q1
          | some kk =>
            rw [q3] at q1
            cases q1
            obtain ⟨a, us, rfl, f2, f3⟩ := h1.tupE
            simp only [VRs] at f3
            obtain ⟨x, r1, rfl, g1, y, r2, rfl, g2, rfl⟩ := f3
            rw [keyQ_ok g1 q3] at f2
            exact ⟨a :: ps, (kk, y) :: ws, rfl, .cons g2 e3, .cons f2 e4⟩
        · cases q1
def rDictP (K : PySem.W.Frag) : List V → Hp → VK → Prop := fun xs H Q => (∃ (a : Addr) (ps : List Addr) (kvs : List (Key × V)), xs = [.ref a] ∧ SqL K H a (ps.map V.ref) ∧ Paired (fun p kv => SqT K H p [kV kv.1, kv.2]) ps kvs ∧ ∀ p, H p = none → Q (.ref p) (upd H p (.dK (mergeK [] kvs)))) ∨
  (∃ (a : Addr) (ps : List Addr) (kvs : List (Key × V)), xs = [.ref a] ∧ SqD K H a (ps.map V.ref) ∧ Paired (fun p kv => SqT K H p [kV kv.1, kv.2]) ps kvs ∧ ∀ p, H p = none → Q (.ref p) (upd H p (.dK (mergeK [] kvs))))
theorem cr_dictP (hc : X.calm = true) : CallR X (.type "dict") (rDictP X.K) := CallR.or (call_dictP hc) (call_dictT hc)
theorem L_dict (hc : X.calm = true) : CallL X κ (rDictP X.K) bDict := call1 fun W ρ σ H s v d Q R hv q => by
  cases e : seqOf d s with
  | none => rw [e] at q; exact q.elim
  | some l =>
    rw [e] at q
    simp only [Option.bind_some] at q
    cases e2 : pairsQ l with
    | none => rw [e2] at q; exact q.elim
    | some kvs =>
      rw [e2] at q
      simp only at q
      rcases seqOf_eq e with rfl | e1
      · obtain ⟨a, vs, rfl, h1, h2⟩ := VR.tupD hv
        obtain ⟨ps, ws, rfl, e3, e4⟩ := pairsQ_ok h2 e2
        refine .inr ⟨a, ps, ws, rfl, h1, e4, fun p np => EndV.new q R np ?_⟩
        have r := (e3.puts KR.nil).kp ((Step.new (ρ := ρ) np (o := .dK (mergeK [] ws))).kp R)
        exact ⟨_, upd_same, r.1, r.2⟩
      · obtain ⟨a, vs, rfl, h1, h2⟩ := R.lstE hv e1
        obtain ⟨ps, ws, rfl, e3, e4⟩ := pairsQ_ok h2 e2
        refine .inl ⟨a, ps, ws, rfl, h1, e4, fun p np => EndV.new q R np ?_⟩
        have r := (e3.puts KR.nil).kp ((Step.new (ρ := ρ) np (o := .dK (mergeK [] ws))).kp R)
        exact ⟨_, upd_same, r.1, r.2⟩
def rUpd : V → List V → Hp → VK → Prop := fun x xs H Q => ∃ (a b : Addr) (kvs more : List (Key × V)), x = .ref a ∧ xs = [.ref b] ∧ a ≠ b ∧ H a = some (.dK kvs) ∧ H b = some (.dK more) ∧ kvs.length + more.length ≤ sizeLine ∧ (mergeK kvs more).length ≤ sizeLine ∧ Q .non (upd H a (.dK (mergeK kvs more)))
theorem mt_update : MtR X "dict.update" rUpd := by
  intro pins s σ H x xs v us Q I rx rxs h
  obtain ⟨a, b, kvs, more, rfl, rfl, hab, ha, hb, hz, hz2, q⟩ := h
  cases rx
  obtain ⟨u, rfl, ru⟩ := rxs.one
  cases ru
  obtain ⟨z1, lo1, vs, rel1, dd1⟩ := dk_of I.hok ha
  obtain ⟨z2, lo2, ws, rel2, dd2⟩ := dk_of I.hok hb
  refine call_meetsIn PySem.F.slot_dict_update dd1.typeIs PySem.F.entry_dict_update (PySem.F.args_dict_update_2 _ _) (meets_dict_update (mixKind X.prog X.w) a b hab lo2) ⟨vs, ws, dd1, dd2, by rw [← rel1.length, ← rel2.length]; exact hz, fun h' d1 _ hs => ?_⟩
  have he : ∃ q, h'.get? a = some q := let ⟨q, _, _, hq, _⟩ := d1; ⟨q, hq⟩
  exact ⟨.non, upd H a (.dK (mergeK kvs more)), I.write (x := a) (e := a) (t' := s.toks) (by rw [ha]; trivial) (.inl rfl) (fun c q hc z => (hs.2 c hc).trans z) he (dk_new hz2 lo1 (rel2.merge rel1) d1), rfl, q⟩
theorem mergeK_len (more : List (Key × V)) : ∀ kvs : List (Key × V), (mergeK kvs more).length ≤ kvs.length + more.length := by
  unfold mergeK
  induction more with
  | nil => intro kvs; simp
  | cons a r ih =>
    intro kvs
    simp only [List.foldl_cons, List.length_cons]
    have := ih (putK kvs a.1 a.2)
    have := length_putK kvs a.1 a.2
    omega
theorem L_update : MtL X κ rUpd tUpdate := meth1 fun W ρ σ H s v u d e Q R hv hu q => by
  cases d with
  | loc n =>
    cases e with
    | loc m =>
      simp only at q
      cases e1 : s[n]? with
      | none => rw [e1] at q; exact q.elim
      | some o1 =>
        rw [e1] at q
        cases o1 with
        | dK kvs =>
          cases e2 : s[m]? with
          | none => rw [e2] at q; exact q.elim
          | some o2 =>
            rw [e2] at q
            cases o2 with
            | dK more =>
              simp only at q
              by_cases hq : n ≠ m ∧ kvs.length + more.length < 2 ^ 24
              · rw [if_pos hq] at q
                obtain ⟨a, a0, rfl, h1⟩ := R.loc hv e1
                obtain ⟨b, b0, rfl, h2⟩ := R.loc hu e2
                obtain ⟨vs, f1, f2⟩ := OR.dk h1
                obtain ⟨ws, g1, g2⟩ := OR.dk h2
                have l1 : vs.length + ws.length ≤ sizeLine := by rw [f2.length, g2.length]; exact Nat.le_of_lt hq.2
                have r := (g2.puts f2).kp ((Step.put (H := H) (o := .dK (mergeK vs ws)) a0).kp R)
                refine ⟨a, b, vs, ws, rfl, rfl, fun z => hq.1 ?_, f1, g1, l1, Nat.le_trans (mergeK_len ws vs) l1, EndV.put q R a0 ⟨_, upd_same, r.1, r.2⟩ (by simp only [VR])⟩
                subst z
                have l1 := (List.getElem?_eq_some_iff.mp a0)
                have l2 := (List.getElem?_eq_some_iff.mp b0)
                exact (List.getElem_inj R.nd).mp (l1.2.trans l2.2.symm)
              · rw [if_neg hq] at q; exact q.elim
            | _ => exact q.elim
        | _ => exact q.elim
    | _ => exact q.elim
  | _ => exact q.elim
/-! ### count, join -/
def rCountD (K : PySem.W.Frag) : V → List V → Hp → VK → Prop := fun x xs H Q => ∃ (a : Addr) (y : V) (d : PyData) (ds : List PyData), x = V.ref a ∧ xs = [y] ∧ Dp K H (V.ref a) (.list ds) ∧ Dp K H y d ∧ SeqAt.shaped (.list ds) = true ∧ SeqAt.shaped d = true ∧ Q (.int (ds.countP fun z => PyData.eqv z d : Nat)) H
theorem mt_countD (hu : X.A.units + 65 < cLine) : MtR X "list.count" (rCountD X.K) := by
  intro pins s σ H x xs v us Q I rx rxs h
  obtain ⟨a, y, d, ds, rfl, rfl, hl, hy, sl, sd, q⟩ := h
  cases rx
  obtain ⟨u, rfl, ru⟩ := rxs.one
  obtain ⟨bs, r1⟩ := Dp.reads I d y u hy ru
  cases hl with
  | lst hs ha =>
    obtain ⟨its, rv, ⟨⟨cls, dd, data, sls⟩, n, ho, hc, hdn, hdt⟩, hlen⟩ := I.list hs
    simp only at hc hdt
    subst hc hdt
    obtain ⟨as, h4⟩ := Dp.readsAll I ds _ its ha rv
    have lay : PyData.canLayAll0 ds = true := SeqAt.canLay_of_shaped sl
    have room : X.A.units + 1 + min (PyData.depthAll ds) d.depth < cLine := PyProof.Rows.room_in_shaped sd hu
    have mp : its.map (SeqAt.readOf s.heap) = ds := SeqAt.readsAll_map ds its as lay h4
    refine call_meets PySem.F.slot_list_count ⟨_, ho, rfl⟩ PySem.F.entry_list_count (PySem.F.args_list_count_2 _ _)
      (SeqAt.list_countAt a its.toArray n dd sls u fun z => PyData.eqv (SeqAt.readOf s.heap z) d) ⟨ho, SeqAt.items_eqAt (vs := its.toArray) (show ReadsAll s.heap its.toArray.toList ds as from h4) r1 lay (SeqAt.canLay_of_shaped sd) room, ?_⟩
    refine ⟨.int (ds.countP fun z => PyData.eqv z d : Nat), H, I.tok _, ⟨s.toks, ?_⟩, q⟩
    rw [← mp, List.countP_map]
    rfl
theorem L_count : MtL X κ (rCountD X.K) tCount := meth1 fun W ρ σ H s v u d e Q R hv hu q => by
  cases e1 : bAny.lstQ d s with
  | none => rw [e1] at q; exact q.elim
  | some l =>
    rw [e1] at q
    simp only at q
    cases e2 : dat s 66 e with
    | none => rw [e2] at q; exact q.elim
    | some a =>
      cases e3 : datA (dat s 65) l with
      | none => rw [e2, e3] at q; exact q.elim
      | some bs =>
        rw [e2, e3] at q
        simp only at q
        by_cases hs : SeqAt.shaped a = true ∧ SeqAt.shaped (.list bs) = true
        · rw [if_pos hs] at q
          obtain ⟨p, vs, rfl, _, _⟩ := R.lstE hv e1
          exact ⟨p, u, a, bs, rfl, rfl, lst_dat R hv e1 e3, dat_ok R 66 e u a hu e2, hs.2, hs.1, EndV.ok q R (by simp only [VR])⟩
        · rw [if_neg hs] at q; exact q.elim
theorem L_join : MtL X κ (fun x xs H Q => ∃ a p, ∃ ys : List Str, x = .str a ∧ xs = [.ref p] ∧ (SqL X.K H p (ys.map V.str) ∨ SqT X.K H p (ys.map V.str)) ∧ (ys.map (·.length)).sum + ys.length * a.length ≤ 16777216 ∧ Q (.str (Txt.join a ys)) H) tJoin := meth1 fun W ρ σ H s v u d e Q R hv hu q => by
  cases d with
  | str z =>
    cases e1 : seqOf e s with
    | none => rw [e1] at q; exact q.elim
    | some l =>
      rw [e1] at q
      simp only [Option.bind_some] at q
      cases e2 : strsQ l with
      | none => rw [e2] at q; exact q.elim
      | some ys =>
        rw [e2] at q
        simp only at q
        by_cases hz : (ys.map (·.length)).sum + ys.length * z.length ≤ 16777216
        · rw [if_pos hz] at q
          rcases seqOf_eq e1 with rfl | e3
          · obtain ⟨a, vs, rfl, f2, f3⟩ := VR.tupE hu
            exact ⟨z, a, ys, hv.str, rfl, .inr (by rw [← (strsQ_ok f3 e2).1]; exact f2), hz, EndV.ok q R (by simp only [VR]; rw [TL.join_eq])⟩
          · obtain ⟨a, vs, rfl, h1, h2⟩ := R.lstE hu e3
            exact ⟨z, a, ys, hv.str, rfl, .inl (by rw [← (strsQ_ok h2 e2).1]; exact h1), hz, EndV.ok q R (by simp only [VR]; rw [TL.join_eq])⟩
        · rw [if_neg hz] at q; exact q.elim
  | _ => exact q.elim
end
/-! ### zip, list(range) -/
section
variable {X : Cx} {κ : Kap} {W : WX} {pos p tpos : Pos} {a b : Expr} {ma mb : ME} {elts : List Expr} {kk : Nat}
theorem zipWith_get {α β γ : Type} {f : α → β → γ} {l : List α} {m : List β} {i : Nat} {z : γ} (h : (List.zipWith f l m)[i]? = some z) : ∃ x y, l[i]? = some x ∧ m[i]? = some y ∧ z = f x y := by
  rw [List.getElem?_zipWith] at h
  cases e1 : l[i]? with
  | none => rw [e1] at h; simp at h
  | some x =>
    cases e2 : m[i]? with
    | none => rw [e1, e2] at h; simp at h
    | some y => rw [e1, e2] at h; simp at h; exact ⟨x, y, rfl, rfl, h.symm⟩
theorem stays_app : ∀ {r q : List (Nat × List Dv)} {s : Mst}, Mit.stays (r ++ q) s → Mit.stays r s ∧ Mit.stays q s
  | [], q, s, h => ⟨trivial, h⟩
  | (n, l) :: r, q, s, h => by
    obtain ⟨h1, h2⟩ := h
    obtain ⟨h3, h4⟩ := stays_app h2
    exact ⟨⟨h1, h3⟩, h4⟩
theorem zipQ_ok {K : PySem.W.Frag} {ρ : List Addr} {H : Hp} {s : Mst} (R : Rel K κ ρ H s) {d : Dv} {v : V} (h : VR K κ ρ H d v) {c : Bool} {l : List Dv} {r : List (Nat × List Dv)} (e : zipQ d s = some (c, l, r)) :
    ∃ t, v = .ref t ∧ ∀ ρ1 H1 s1, Kp ρ H ρ1 H1 → Rel K κ ρ1 H1 s1 → Mit.stays r s1 → ∃ vs, (if c then SqT K H1 t vs else SqL K H1 t vs) ∧ VRs K κ ρ1 H1 l vs := by
  unfold zipQ at e
  cases d with
  | tup m =>
    cases e
    obtain ⟨t, vs, rfl, e2, e3⟩ := h.tupE
    exact ⟨t, rfl, fun ρ1 H1 s1 kp R1 st => ⟨vs, SqT.kp kp e2, VRs.kp kp _ _ e3⟩⟩
  | clst m =>
    cases e
    obtain ⟨t, vs, rfl, e2, e3⟩ := h.clstE
    exact ⟨t, rfl, fun ρ1 H1 s1 kp R1 st => ⟨vs, SqI.list (SqI.kp kp e2), VRs.kp kp _ _ e3⟩⟩
  | loc n =>
    simp only at e
    cases q : s[n]? with
    | none => rw [q] at e; cases e
    | some o =>
      rw [q] at e
      cases o with
      | lst m =>
        cases e
        obtain ⟨t, t0, rfl, _⟩ := R.loc h q
        exact ⟨t, rfl, fun ρ1 H1 s1 kp R1 st => by
          obtain ⟨vs, e1, e2⟩ := R1.obj n t _ (kp.ix n t t0) st.1
          exact ⟨vs, .of e1, e2⟩⟩
      | _ => cases e
  | _ => cases e
theorem it_zip {ρ : List Addr} {H : Hp} {t u : Addr} {l m : List Dv} {r q : List (Nat × List Dv)} (h1 : ∀ ρ1 H1 s1, Kp ρ H ρ1 H1 → Rel X.K κ ρ1 H1 s1 → Mit.stays r s1 → ∃ vs, SqL X.K H1 t vs ∧ VRs X.K κ ρ1 H1 l vs)
    (h2 : ∀ ρ1 H1 s1, Kp ρ H ρ1 H1 → Rel X.K κ ρ1 H1 s1 → Mit.stays q s1 → ∃ vs, SqL X.K H1 u vs ∧ VRs X.K κ ρ1 H1 m vs) : ItOk X.K κ ρ H ⟨List.zipWith (fun x y => .ptup [x, y]) l m, r ++ q⟩ (Itz X.K t u) := fun ρ1 H1 s1 kp R st => by
  obtain ⟨st1, st2⟩ := stays_app st
  obtain ⟨vs, a1, a2⟩ := h1 ρ1 H1 s1 kp R st1
  obtain ⟨us, b1, b2⟩ := h2 ρ1 H1 s1 kp R st2
  refine ⟨fun i z e => ?_, fun i hi => ⟨vs, us, a1, b1, ?_⟩⟩
  · obtain ⟨x, y, e1, e2, rfl⟩ := zipWith_get e
    obtain ⟨vx, f1, f2⟩ := a2.get e1
    obtain ⟨vy, g1, g2⟩ := b2.get e2
    refine ⟨⟨vs, us, vx, vy, a1, b1, f1, g1⟩, fun v H' w => ?_⟩
    obtain ⟨T, x', y', rfl, nT, rfl, w1, w2⟩ := w
    have ex := w1 vs a1
    have ey := w2 us b1
    rw [f1] at ex; cases ex
    rw [g1] at ey; cases ey
    refine ⟨Step.lay nT, R.lay nT, ?_⟩
    simp only [VR]
    exact ⟨T, [vx, vy], rfl, .inl (.inl upd_same), .cons (VR.later R (Step.lay nT) _ _ f2) (.cons (VR.later R (Step.lay nT) _ _ g2) .nil)⟩
  · rw [a2.length, b2.length]
    simp only [List.length_zipWith] at hi
    omega
theorem it_zipT {ρ : List Addr} {H : Hp} {t u : Addr} {l m : List Dv} {r q : List (Nat × List Dv)} (h1 : ∀ ρ1 H1 s1, Kp ρ H ρ1 H1 → Rel X.K κ ρ1 H1 s1 → Mit.stays r s1 → ∃ vs, SqT X.K H1 t vs ∧ VRs X.K κ ρ1 H1 l vs)
    (h2 : ∀ ρ1 H1 s1, Kp ρ H ρ1 H1 → Rel X.K κ ρ1 H1 s1 → Mit.stays q s1 → ∃ vs, SqT X.K H1 u vs ∧ VRs X.K κ ρ1 H1 m vs) : ItOk X.K κ ρ H ⟨List.zipWith (fun x y => .ptup [x, y]) l m, r ++ q⟩ (RZ.ItzT X.K t u) := fun ρ1 H1 s1 kp R st => by
  obtain ⟨st1, st2⟩ := stays_app st
  obtain ⟨vs, a1, a2⟩ := h1 ρ1 H1 s1 kp R st1
  obtain ⟨us, b1, b2⟩ := h2 ρ1 H1 s1 kp R st2
  refine ⟨fun i z e => ?_, fun i hi => ⟨vs, us, a1, b1, ?_⟩⟩
  · obtain ⟨x, y, e1, e2, rfl⟩ := zipWith_get e
    obtain ⟨vx, f1, f2⟩ := a2.get e1
    obtain ⟨vy, g1, g2⟩ := b2.get e2
    refine ⟨⟨vs, us, vx, vy, a1, b1, f1, g1⟩, fun v H' w => ?_⟩
    obtain ⟨T, x', y', rfl, nT, rfl, w1, w2⟩ := w
    have ex := w1 vs a1
    have ey := w2 us b1
    rw [f1] at ex; cases ex
    rw [g1] at ey; cases ey
    refine ⟨Step.lay nT, R.lay nT, ?_⟩
    simp only [VR]
    exact ⟨T, [vx, vy], rfl, .inl (.inl upd_same), .cons (VR.later R (Step.lay nT) _ _ f2) (.cons (VR.later R (Step.lay nT) _ _ g2) .nil)⟩
  · rw [a2.length, b2.length]
    simp only [List.length_zipWith] at hi
    omega
theorem li_zip (hg : Gl X "zip") (hm : X.mg "zip" = none) (ha : LE X κ W a ma) (hb : LE X κ W b mb) (hs : starEach [a, b] X.env = (false, eval a X.env) :: starEach [b] X.env := by rfl) (hs2 : starEach [b] X.env = (false, eval b X.env) :: starEach [] X.env := by rfl)
    (hpl : (backTo pos (starEach [b] X.env)).any (·.1) = false := by rfl) : LI X κ W (.Tuple elts kk tpos) (.Call (.Name "zip" p) [a, b] [] pos) (miZip ma mb) :=
  PI.by (RZ.pi_zipA hg hm (pa_cons ha (pa_cons hb pa_nil hs2) hs) hs hpl) fun σ H Q ⟨ρ, σd, s, R, hE, h⟩ => ⟨ρ, σd, s, R, hE, (Fin.bind h).mono fun d ρ1 s1 H1 x1 R1 q v hv => ⟨ρ1, σd, s1, R1, hE.later R x1, (Fin.bind q).mono fun e ρ2 s2 H2 x2 R2 q2 u hu => by
    have hv2 := VR.later R1 x2 _ _ hv
    cases e1 : zipQ d s2 with
    | none => rw [e1] at q2; exact q2.elim
    | some z1 =>
      cases e2 : zipQ e s2 with
      | none => rw [e1, e2] at q2; exact q2.elim
      | some z2 =>
        obtain ⟨c1, l1, r1⟩ := z1
        obtain ⟨c2, l2, r2⟩ := z2
        rw [e1, e2] at q2
        simp only at q2
        by_cases hc : c1 = c2
        · rw [if_pos hc] at q2
          subst hc
          obtain ⟨t, rfl, f⟩ := zipQ_ok R2 hv2 e1
          obtain ⟨t', rfl, g⟩ := zipQ_ok R2 hu e2
          have fin := q2 ρ2 H2 Step.refl R2
          cases c1 with
          | true =>
            obtain ⟨vs, i1, _⟩ : ∃ vs, SqT X.K H2 t vs ∧ VRs X.K κ ρ2 H2 l1 vs := by
              unfold zipQ at e1
              cases d with
              | tup m =>
                cases e1
                obtain ⟨t0, vs, e0, i2, i3⟩ := VR.tupE hv2
                cases e0
                exact ⟨vs, i2, i3⟩
              | loc n =>
                simp only at e1
                split at e1 <;> cases e1
              | _ => cases e1
            obtain ⟨us, j1, _⟩ : ∃ vs, SqT X.K H2 t' vs ∧ VRs X.K κ ρ2 H2 l2 vs := by
              unfold zipQ at e2
              cases e with
              | tup m =>
                cases e2
                obtain ⟨t0, vs, e0, i2, i3⟩ := VR.tupE hu
                cases e0
                exact ⟨vs, i2, i3⟩
              | loc n =>
                simp only at e2
                split at e2 <;> cases e2
              | _ => cases e2
            exact ⟨t, t', vs, us, rfl, .inr ⟨i1, j1, fin _ (it_zipT (fun ρ1 H1 s1 kp R st => f ρ1 H1 s1 kp R st) (fun ρ1 H1 s1 kp R st => g ρ1 H1 s1 kp R st))⟩⟩
          | false =>
            have st1 : Mit.stays r1 s2 := by
              unfold zipQ at e1
              cases d with
              | loc n =>
                simp only at e1
                split at e1
                · rename_i l q; cases e1; exact ⟨q, trivial⟩
                · cases e1
              | clst m => cases e1; trivial
              | _ => cases e1
            have st2 : Mit.stays r2 s2 := by
              unfold zipQ at e2
              cases e with
              | loc n =>
                simp only at e2
                split at e2
                · rename_i l q; cases e2; exact ⟨q, trivial⟩
                · cases e2
              | clst m => cases e2; trivial
              | _ => cases e2
            obtain ⟨vs, i1, _⟩ := f ρ2 H2 s2 Kp.refl R2 st1
            obtain ⟨us, j1, _⟩ := g ρ2 H2 s2 Kp.refl R2 st2
            exact ⟨t, t', vs, us, rfl, .inl ⟨i1, j1, fin _ (it_zip (fun ρ1 H1 s1 kp R st => f ρ1 H1 s1 kp R st) (fun ρ1 H1 s1 kp R st => g ρ1 H1 s1 kp R st))⟩⟩
        · rw [if_neg hc] at q2; exact q2.elim⟩⟩
theorem rgV_ok {K : PySem.W.Frag} {ρ : List Addr} {H : Hp} (i j : Int) : VRs K κ ρ H (rngI i (j - i).toNat) (rgV i j) := by
  unfold rngI rgV
  generalize List.range (j - i).toNat = l
  induction l with
  | nil => exact .nil
  | cons n r ih => exact .cons (by simp only [VR]) ih
theorem le_listRg {p2 pos2 : Pos} (hc : X.calm = true) (hg : Gl X "list") (hm : X.mg "list" = none) (hg2 : Gl X "range") (hm2 : X.mg "range" = none) (ha : LE X κ W a ma) (hb : LE X κ W b mb)
    (na : starEach [a, b] X.env = (false, eval a X.env) :: starEach [b] X.env := by rfl) (nb : starEach [b] X.env = (false, eval b X.env) :: starEach [] X.env := by rfl)
    (np : (backTo pos2 (starEach [b] X.env)).any (·.1) = false := by rfl) (nc : starEach [.Call (.Name "range" p2) [a, b] [] pos2] X.env = (false, eval (.Call (.Name "range" p2) [a, b] [] pos2) X.env) :: starEach [] X.env := by rfl) :
    LE X κ W (.Call (.Name "list" p) [.Call (.Name "range" p2) [a, b] [] pos2] [] pos) (bListRg ma mb) :=
  PE.by (pe_listRg hc hg hm (prg_2 hg2 hm2 ha hb na nb np) nc) fun σ H Q ⟨ρ, σd, s, R, hE, h⟩ => ⟨ρ, σd, s, R, hE, (Fin.bind h).mono fun d ρ1 s1 H1 x1 R1 q v hv => ⟨ρ1, σd, s1, R1, hE.later R x1, (Fin.bind q).mono fun e ρ2 s2 H2 x2 R2 q2 u hu => by
    cases d with
    | int i =>
      cases e with
      | int j =>
        simp only at q2
        by_cases hq : -(2 ^ 62) ≤ i ∧ i < 2 ^ 62 ∧ -(2 ^ 62) ≤ j ∧ j < 2 ^ 62 ∧ (j - i).toNat ≤ 2 ^ 24
        · rw [if_pos hq] at q2
          exact ⟨i, j, hv.int, hu.int, hq, fun p np => EndV.newL q2 R2 np (rgV_ok i j)⟩
        · rw [if_neg hq] at q2; exact q2.elim
      | _ => exact q2.elim
    | _ => cases e <;> exact q2.elim⟩⟩
theorem le_listRg1 {p2 pos2 : Pos} (hc : X.calm = true) (hg : Gl X "list") (hm : X.mg "list" = none) (hg2 : Gl X "range") (hm2 : X.mg "range" = none) (hb : LE X κ W b mb)
    (nb : starEach [b] X.env = (false, eval b X.env) :: starEach [] X.env := by rfl)
    (nc : starEach [.Call (.Name "range" p2) [b] [] pos2] X.env = (false, eval (.Call (.Name "range" p2) [b] [] pos2) X.env) :: starEach [] X.env := by rfl) :
    LE X κ W (.Call (.Name "list" p) [.Call (.Name "range" p2) [b] [] pos2] [] pos) (bListRg (mC (.int 0)) mb) :=
  PE.by (pe_listRg hc hg hm (prg_1 hg2 hm2 hb nb) nc) fun σ H Q ⟨ρ, σd, s, R, hE, h⟩ => ⟨ρ, σd, s, R, hE, (Fin.bind (r := mb σd s) h).mono fun e ρ2 s2 H2 x2 R2 q2 u hu => by
    cases e with
    | int j =>
      simp only at q2
      by_cases hq : -(2 ^ 62) ≤ (0 : Int) ∧ (0 : Int) < 2 ^ 62 ∧ -(2 ^ 62) ≤ j ∧ j < 2 ^ 62 ∧ (j - 0).toNat ≤ 2 ^ 24
      · rw [if_pos hq] at q2
        exact ⟨j, hu.int, hq, fun p np => EndV.newL q2 R2 np (rgV_ok 0 j)⟩
      · rw [if_neg hq] at q2; exact q2.elim
    | _ => exact q2.elim⟩
end
end Mid
/-! MidS: sorted(set(..)) of texts, of whole numbers. -/
namespace Mid
open PySem PySem.Spec L2
theorem metG_app {α : Type} [DecidableEq α] (l : List α) (x : α) : ∀ acc : List α, metG acc (l ++ [x]) = if x ∈ metG acc l then metG acc l else metG acc l ++ [x] := by
  induction l with
  | nil => intro acc; show (if x ∈ acc then acc else acc ++ [x]) = _; rfl
  | cons y r ih => intro acc; show (if y ∈ acc then metG acc (r ++ [x]) else metG (acc ++ [y]) (r ++ [x])) = (if x ∈ (if y ∈ acc then metG acc r else metG (acc ++ [y]) r) then (if y ∈ acc then metG acc r else metG (acc ++ [y]) r) else (if y ∈ acc then metG acc r else metG (acc ++ [y]) r) ++ [x]); by_cases h : y ∈ acc <;> simp only [h, if_true, if_false] <;> exact ih _
theorem metG_le {α : Type} [DecidableEq α] (l : List α) : ∀ acc : List α, (metG acc l).length ≤ acc.length + l.length := by
  induction l with
  | nil => intro acc; exact Nat.le_refl _
  | cons y r ih => intro acc; unfold metG; rw [List.length_cons]; split
                   · have := ih acc; omega
                   · have := ih (acc ++ [y]); rw [List.length_append, List.length_singleton] at this; omega
theorem metG_nd {α : Type} [DecidableEq α] (l : List α) : ∀ acc : List α, acc.Nodup → (metG acc l).Nodup := by
  induction l with
  | nil => intro acc h; exact h
  | cons y r ih => intro acc h; unfold metG; split
                   · exact ih _ h
                   · rename_i hy; exact ih _ (List.nodup_append.mpr ⟨h, by simp, fun a ha b hb e => by rw [List.mem_singleton] at hb; subst hb; subst e; exact hy ha⟩)
theorem metG_mem {α : Type} [DecidableEq α] {x : α} (l : List α) : ∀ acc : List α, x ∈ metG acc l ↔ x ∈ acc ∨ x ∈ l := by
  induction l with
  | nil => intro acc; simp [metG]
  | cons y r ih => intro acc; unfold metG; split
                   · rename_i h; rw [ih, List.mem_cons]; constructor
                     · rintro (a | a); exact .inl a; exact .inr (.inr a)
                     · rintro (a | rfl | a); exact .inl a; exact .inl h; exact .inr a
                   · rw [ih, List.mem_append, List.mem_singleton, List.mem_cons, or_assoc]
section
variable {P : Program} {w : World} {K : Type} [DecidableEq K] {knd : KeyKind P w K}
/-- the set at a holds the keys l, each once; its table can be walked -/
def KSet (knd : KeyKind P w K) (h : Heap) (a : Addr) (l : List K) : Prop := ∃ o es ep t, h.get? a = some o ∧ o.ExactSet ∧ o.data = .set es ep t ∧ ElemsOf knd es.toList ∧ (∀ k, k ∈ l ↔ ∃ e ∈ es.toList, knd.is k e.2 = true) ∧ es.size = l.length ∧ es.size < scanBound ∧ t.fits es.size = true ∧ Ris t.place.toList ∧ (w.params.followText "set-order" = true ∨ t.led = true)
theorem KSet.at {h h' : Heap} {a : Addr} {l : List K} (R : KSet knd h a l) (k : ∀ o, h.get? a = some o → h'.get? a = some o) : KSet knd h' a l := by
  obtain ⟨o, es, ep, t, ho, r⟩ := R; exact ⟨o, es, ep, t, k o ho, r⟩
variable {A : Around} {E : Value → Shared → Prop} {s : Shared} {a : Addr}
theorem ks_tail {g : Bool → Sem Unit} (hg : ∀ (b : Bool) (s₁ : Shared) (Q' : Unit → Shared → Prop), Q' () s₁ → wpAny (model P w) A (g b) Q' E s₁) {o : Obj} {es : Array (Int × Value)} {ep : Nat} {t : SetTable} (ho : s.heap.get? a = some o) (hex : o.ExactSet) (hd : o.data = .set es ep t) {es1 : Array (Int × Value)} {t2 : SetTable} {l' : List K} (g1 : ElemsOf knd es1.toList) (m1 : ∀ k, k ∈ l' ↔ ∃ e ∈ es1.toList, knd.is k e.2 = true) (n1 : es1.size = l'.length)
    (hb1 : es1.size < scanBound) (hf2 : t2.fits es1.size = true) (hr : Ris t2.place.toList) (hl : w.params.followText "set-order" = true ∨ t2.led = true) {wasDummy : Bool} {R : Option Bool → Shared → Prop} (hR : ∀ h', Heap.SameBut a s.heap h' → KSet knd h' a l' → R (some true) { s with heap := h' }) :
    wpAny (model P w) A (do
        storeSet a es1 t2
        if (!wasDummy && t2.tooFull) = true then do
            g (relayAll t2 es1 (SetTable.grown es1.size)).2.2
            storeSet a (relayAll t2 es1 (SetTable.grown es1.size)).1 (relayAll t2 es1 (SetTable.grown es1.size)).2.1
            pure (some true)
          else pure (some true)) R E s := by
  refine wpAny_bind (wpAny_storeSet_of ho hd ?_ (fits_of_scanBound hb1)); have ho1 := store_at (es' := es1) (t' := t2) ho hd; have sb1 := Heap.SameBut.update s.heap a (Obj.putSet es1 t2)
  split
  · have pm := relayAll_perm t2 es1 (SetTable.grown es1.size); have hf3 := relayAll_fits t2 es1 (SetTable.grown es1.size)
    have hr3 := relayAll_ris t2 es1 (SetTable.grown es1.size); have hl3 := relayAll_led t2 es1 (SetTable.grown es1.size)
    generalize relayAll t2 es1 (SetTable.grown es1.size) = Z at pm hf3 hr3 hl3 ⊢; obtain ⟨es2, t3, gave⟩ := Z; dsimp only at pm hf3 hr3 hl3 ⊢
    have hsz : es2.size = es1.size := by rw [← Array.length_toList, pm.length_eq, Array.length_toList]
    have hb2 : es2.size < scanBound := by rw [hsz]; exact hb1
    refine wpAny_bind (hg _ _ _ ?_); refine wpAny_bind (wpAny_storeSet_of ho1 rfl ?_ (fits_of_scanBound hb2)); have ho2 := store_at (es' := es2) (t' := t3) ho1 rfl
    refine wpAny_pure (hR _ (sb1.trans (Heap.SameBut.update _ a _)) ⟨_, es2, _, t3, ho2, hex, rfl, g1.perm pm, fun k => (m1 k).trans ⟨fun ⟨e, he, q⟩ => ⟨e, pm.mem_iff.mpr he, q⟩, fun ⟨e, he, q⟩ => ⟨e, pm.mem_iff.mp he, q⟩⟩, hsz.trans n1, hb2, by first | exact hf3 | (rw [hsz]; exact hf3), hr3, hl.imp id fun z => by rw [hl3]; exact z⟩)
  · exact wpAny_pure (hR _ sb1 ⟨_, es1, _, t2, ho1, hex, rfl, g1, m1, n1, hb1, hf2, hr, hl⟩)
theorem ks_add {k : K} {x : Value} {l : List K} {Q : Bool → Shared → Prop} (hkey : knd.is k x = true) (hsc : x.scannable = true) (R : KSet knd s.heap a l) (room : l.length + 1 < scanBound) (hQ : ∀ h' b, Heap.SameBut a s.heap h' → KSet knd h' a (if k ∈ l then l else l ++ [k]) → Q b { s with heap := h' }) : wpAny (model P w) A (setAddHashed a x (knd.hash k)) Q E s := by
  obtain ⟨o, es, ep, t, ho, hex, hd, g, hm, hn, hb, hf, hr, hl⟩ := R
  unfold setAddHashed setAddHashedIn; refine wpAny_holding (wpAny_bind (wpAny_setState_of ho hd hf ?_)); dsimp only
  rw [byScan_of hsc hb g]; simp only [↓reduceIte]; unfold setAddByScan
  refine wpAny_bind ?_; refine wpAny_bind (wpAny_rule ?_); refine wpAny_bind (wpAny_setScan_of hkey ho hd hf g ?_)
  cases hfi : List.findIdx? (fun e => knd.is k e.2) es.toList with
  | some j =>
    dsimp only; obtain ⟨hj, pj, _⟩ := List.findIdx?_eq_some_iff_getElem.mp hfi
    have hk : k ∈ l := (hm k).2 ⟨es.toList[j], List.getElem_mem hj, pj⟩
    exact wpAny_pure (wpAny_pure (hQ s.heap _ (Heap.SameBut.refl a s.heap) (by rw [if_pos hk]; exact ⟨o, es, ep, t, ho, hex, hd, g, hm, hn, hb, hf, hr, hl⟩)))
  | none =>
    dsimp only
    have hk : k ∉ l := fun z => by
      obtain ⟨e, he, q⟩ := (hm k).1 z; have c := List.findIdx?_eq_none_iff.mp hfi e he; rw [q] at c; cases c
    rw [if_neg hk] at hQ
    have hgw : ∀ (b : Bool) {s₁ : Shared} {Q' : Unit → Shared → Prop}, Q' () s₁ → wpAny (model P w) A (match b with | true => rule "set.scan.the-table-gave-way" | false => pure ()) Q' E s₁ := fun b s₁ Q' q => by cases b <;> first | exact wpAny_pure q | exact wpAny_rule q
    have pm := layNew_perm t es (knd.hash k) x; have hf1 := layNew_fits t es (knd.hash k) x; have hr1 := layNew_ris t es (knd.hash k) x hr; have hl1 := layNew_led t es (knd.hash k) x
    generalize layNew t es (knd.hash k) x = Z at pm hf1 hr1 hl1 ⊢; obtain ⟨es1, t1, wasDummy, gave⟩ := Z; dsimp only at pm hf1 hr1 hl1 ⊢
    rw [Array.toList_push] at pm
    have g1 : ElemsOf knd es1.toList := (g.push (k := k) (x := x) hkey hsc).perm pm
    have m1 : ∀ i, i ∈ l ++ [k] ↔ ∃ e ∈ es1.toList, knd.is i e.2 = true := fun i => by
      rw [List.mem_append, List.mem_singleton, hm i]
      constructor
      · rintro (⟨e, he, q⟩ | rfl)
        · exact ⟨e, pm.mem_iff.mpr (List.mem_append_left _ he), q⟩
        · exact ⟨(knd.hash i, x), pm.mem_iff.mpr (List.mem_append_right _ (by simp)), hkey⟩
      · rintro ⟨e, he, q⟩
        rcases List.mem_append.mp (pm.mem_iff.mp he) with he | he
        · exact .inl ⟨e, he, q⟩
        · rw [List.mem_singleton] at he; subst he; exact .inr (knd.inj x i k q hkey)
    have hsz : es1.size = (l ++ [k]).length := by rw [← Array.length_toList, pm.length_eq, List.length_append, Array.length_toList, List.length_append, hn]; rfl
    have hb1 : es1.size < scanBound := by rw [hsz, List.length_append]; exact room
    have hled : w.params.followText "set-order" = true ∨ t1.led = true := hl.imp id fun z => by rw [hl1]; exact z
    refine wpAny_bind (hgw _ ?_)
    split
    · refine wpAny_bind ?_; rw [hashByValue_scannable 8 hsc]; refine wpAny_pure ?_; refine ks_tail ?_ ho hex hd g1 m1 hsz hb1 ?_ ?_ ?_ ?_
      · intro b s₁ Q' q; cases b <;> first | exact wpAny_pure q | exact wpAny_rule q
      · first | (split <;> first | exact hf1 | exact SetTable.fits_plain_off hf1) | exact hf1
      · first | (split <;> exact hr1) | exact hr1
      · first | (split <;> exact hled) | exact hled
      · intro h' sb r; dsimp only; exact wpAny_pure (hQ h' _ sb r)
    · refine wpAny_bind (wpAny_pure ?_); simp only [↓reduceIte]; refine ks_tail ?_ ho hex hd g1 m1 hsz hb1 hf1 hr1 hled ?_
      · intro b s₁ Q' q; cases b <;> first | exact wpAny_pure q | exact wpAny_rule q
      · intro h' sb r; dsimp only; exact wpAny_pure (hQ h' _ sb r)
end
/-! ### set(xs) -/
section
variable {P : Program} {w : World} {K : Type} [DecidableEq K] {knd : KeyKind P w K} {A : Around} {R : Result → Shared → Prop} {I : Addr} {fp wr : List Addr} {G : Array GenState → Array GenState → Prop} {n : Nat} {Pv : Nat → Value → Prop} {St : Nat → Shared → Prop}
theorem ks_loop (W : WalksS P w A.in1 I fp wr G n Pv St) (S : Addr) (hSf : S ∉ fp) (xs : List K) (hx : xs.length = n) (hval : ∀ (i : Nat) (v : Value), Pv i v → ∃ k : K, xs[i]? = some k ∧ knd.is k v = true ∧ v.scannable = true) (hb : n + 1 < scanBound) :
    ∀ (k i : Nat) (s : Shared), n - i = k → i ≤ n → St i s → KSet knd s.heap S (metG [] (xs.take i)) → (∀ s', Moved (S :: wr) G s s' → KSet knd s'.heap S (metG [] (xs.take n)) → R (.ok (.ret .none)) s') → codeAny (model P w) A (.builtin "set.update.loop" ⟨[.ref S, .ref I], []⟩) R s := by
  have hSw : S ∉ wr := fun h => hSf (W.sub _ h)
  have hsub : ∀ b ∈ wr, b ∈ S :: wr := fun b hb => List.mem_cons_of_mem _ hb
  intro k; induction k with
  | zero =>
    intro i s hk hi hst hS hR; obtain rfl : i = n := by omega
    refine codeAny_builtin PyProof.Rows.F.entry_set_update_loop ?_; rw [Around.under_plainId PyProof.Rows.F.plain_set_update_loop _]
    show wpAny _ A.in1 (pyNext (.ref I) >>= _) _ _ s; refine wpAny_bind (W.done s _ _ hst fun s' hm => ?_)
    show wpAny _ A.in1 (ret Value.none) _ _ s'; exact wpAny_pure (hR s' (hm.mono hsub) (hS.at fun o e => hm.heap S _ hSw e))
  | succ k ih =>
    intro i s hk hi hst hS hR; have hlt : i < n := by omega
    refine codeAny_builtin PyProof.Rows.F.entry_set_update_loop ?_; rw [Around.under_plainId PyProof.Rows.F.plain_set_update_loop _]
    show wpAny _ A.in1 (pyNext (.ref I) >>= _) _ _ s; refine wpAny_bind (W.item i s _ _ hlt hst fun v s' hP hst' hm => ?_)
    obtain ⟨y, hy, his, hsc⟩ := hval i v hP
    have hS' : KSet knd s'.heap S (metG [] (xs.take i)) := hS.at fun o e => hm.heap S _ hSw e
    show wpAny _ A.in1 (holding [v] (setAdd S v) >>= _) _ _ s'
    refine wpAny_bind (wpAny_holding ?_); unfold setAdd; refine wpAny_holding ?_; refine wpAny_bind (knd.pyHash (k := y) his ?_)
    have hroom : (metG [] (xs.take i)).length + 1 < scanBound := by have := metG_le (xs.take i) []; rw [List.length_nil, List.length_take] at this; omega
    refine ks_add (s := { s' with toks := s'.toks + 1 }) his hsc hS' hroom fun h' b hsb hS2 => ?_
    have hSi : KSet knd h' S (metG [] (xs.take (i + 1))) := by
      rw [List.take_add_one, hy]; show KSet knd h' S (metG [] (xs.take i ++ [y])); rw [metG_app]; exact hS2
    refine wpAny_pure ⟨plainId_quiet PyProof.Rows.F.plain_set_update_loop _, ih (i + 1) _ (by omega) hlt (W.frame _ s' _ _ hst' (Nat.le_succ _) fun b hb o e => ?_) hSi fun s'' hm'' hS'' => ?_⟩
    · rw [hsb.2 b (fun h : b = S => hSf (by rw [← h]; exact hb))]; exact e
    · refine hR s'' (Moved.trans W.gtrans ((hm.mono hsub).then_heap (Nat.le_succ _) fun b o hb e => ?_) hm'') hS''; rw [hsb.2 b (fun h : b = S => hb (by rw [h]; exact List.mem_cons_self))]; exact e
end
section
variable {P : Program} {w : World} {A : Around} {E : Value → Shared → Prop} {s : Shared}
theorem ks_code (x : Value) {Q₁ : Value → Shared → Prop} (h : Q₁ (.ref s.heap.objs.size) { s with heap := s.heap.push { cls := .type "set", dict := none, data := .set #[] 0 (.fresh 0 0 (!w.params.followText "set-order")) } }) : codeAny (model P w) A (.call (.builtin "set.__new__") ⟨[.type "set", x], []⟩) (wants Q₁ E) s := by
  refine codeAny_of_tree ?_; show wpAny _ A.in1 (do checkBuiltinCall "set.__new__" ⟨[.type "set", x], []⟩; again (.builtin "set.__new__" ⟨[.type "set", x], []⟩)) _ _ s
  refine wpAny_bind (wpAny_of_eq (PySem.F.newCall_set_1 x) (wpAny_pure ⟨plainId_quiet F.plain_set_new _, codeAny_builtin F.entry_set_new ?_⟩)); rw [Around.under_plainId F.plain_set_new _]
  unfold Builtin.«set.__new__» Builtin.Frozenset.newClass; have hsub := sub_set_self; obtain ⟨hp, g, d, tk, os⟩ := s
  dsimp only; wp_walk; refine wpAny_askSetting (wpAny_pure ?_); dsimp only; simp only [newObj]; refine wpAny_bind (wpAny_alloc (wpAny_pure ?_)); exact wpAny_pure h
theorem ks_fresh {K : Type} [DecidableEq K] {knd : KeyKind P w K} {h : Heap} : KSet knd (h.push { cls := .type "set", dict := none, data := .set #[] 0 (.fresh 0 0 (!w.params.followText "set-order")) }) h.objs.size [] :=
  ⟨_, #[], 0, _, Heap.get?_push_size _ rfl, ⟨rfl, rfl, rfl⟩, rfl, (fun e he => by simp at he), (fun k => by simp), rfl, (by decide), (by rfl), List.Pairwise.nil, by
    show _ ∨ (!w.params.followText "set-order") = true; cases w.params.followText "set-order"
    · exact .inr rfl
    · exact .inl rfl⟩
set_option maxHeartbeats 3200000 in
theorem ks_call {K : Type} [DecidableEq K] {knd : KeyKind P w K} {l : Addr} {items : Array Value} {xs : List K} {Q : Value → Shared → Prop} (hh : A.handled = none) (hl : s.heap.IsList l items) (hx : xs.length = items.size) (hi : ∀ (i : Nat) (v : Value), items[i]? = some v → ∃ k : K, xs[i]? = some k ∧ knd.is k v = true ∧ v.scannable = true) (hb : items.size + 1 < scanBound)
    (h : ∀ (h' : Heap) (tk : Nat), KSet knd h' s.heap.objs.size (metG [] xs) → (∀ b o, b < s.heap.objs.size → s.heap.get? b = some o → h'.get? b = some o) → Q (.ref s.heap.objs.size) { s with heap := h', toks := tk }) : wpAny (model P w) A (call (.type "set") [.ref l]) Q E s := by
  obtain ⟨c, tl, hmro⟩ := PySem.F.called_set.mro; have hmade := PySem.F.called_set.made; have hsub := PySem.F.called_set.sub
  refine wpAny_call (codeAny_of_tree ?_); show wpAny _ _ (callAny (.type "set") _) _ _ _
  refine wpAny_pure ⟨Code.quiet_builtin _ (by decide +kernel), codeAny_builtin PySem.F.entry_type_call ?_⟩; rw [Around.under_plain (weight_type_call_type "set" [.ref l] []) rfl]
  have h1 := PySem.F.called_set.notType; have h2 := PySem.F.called_set.canCreate; have hct := PySem.F.typeCall_set_1 (.ref l)
  repeat (any_goals (first | assumption | wp_step))
  refine codeAny_mono (ks_code (.ref l) (E := E) (Q₁ := fun obj s₁ => obj = .ref s.heap.objs.size ∧ s₁ = { s with heap := s.heap.push { cls := .type "set", dict := none, data := .set #[] 0 (.fresh 0 0 (!w.params.followText "set-order")) } }) ⟨rfl, rfl⟩) fun r s₁ hr => ?_
  cases r with
  | error e => exact hr
  | ok fl =>
    cases fl with
    | ret obj =>
      obtain ⟨rfl, rfl⟩ := hr; have hF := ks_fresh (knd := knd) (h := s.heap)
      generalize hled : (!w.params.followText "set-order") = led at hF ⊢
      have hS : (s.heap.push { cls := .type "set", dict := none, data := .set #[] 0 (.fresh 0 0 led) }).get? s.heap.objs.size = some { cls := .type "set", dict := none, data := .set #[] 0 (.fresh 0 0 led) } := Heap.get?_push_size _ rfl
      have hT : Shared.TypeIs { s with heap := s.heap.push { cls := .type "set", dict := none, data := .set #[] 0 (.fresh 0 0 led) } } (.ref s.heap.objs.size) "set" := ⟨_, hS, rfl⟩
      have hli := PySem.F.called_set.init.lookup; have hbi := PySem.F.called_set.init.bind (.ref s.heap.objs.size)
      repeat (any_goals (first | assumption | wp_step))
      refine codeAny_mono (codeAny_call_builtin (R := wants (fun r s₂ => r = .none ∧ ∃ h' tk, s₂ = { s with heap := h', toks := tk } ∧ KSet knd h' s.heap.objs.size (metG [] xs) ∧ (∀ b o, b < s.heap.objs.size → s.heap.get? b = some o → h'.get? b = some o)) E) PySem.F.called_set.init.plain PySem.F.entry_set_init (check_set_init_1 hT ?_)) fun r₂ s₂ hr₂ => ?_
      · obtain ⟨ol, hol, hcl, nl, hdl⟩ := hl; obtain ⟨ocls, odict, odata, oslots⟩ := ol; simp only at hcl hdl; subst hcl; subst hdl
        have hol' : (s.heap.push { cls := .type "set", dict := none, data := .set #[] 0 (.fresh 0 0 led) }).get? l = some { cls := .type "list", dict := odict, data := .seq items nl, slots := oslots } := Heap.get?_push_of_some _ hol
        have hsls := PySem.F.sub_list_set; have hslf := PySem.F.sub_list_frozenset; have hne : (Value.type "list" == Value.type "dict") = false := by decide
        have hl1 : (s.heap.push { cls := .type "set", dict := none, data := .set #[] 0 (.fresh 0 0 led) }).IsList l items := ⟨_, hol', rfl, nl, rfl⟩
        unfold Builtin.«set.__init__» noKeywords Builtin.Frozenset.updateFrom; generalize hPI : pyIter = PI; wp_walk; subst hPI
        refine wpAny_pyIter_list hl1 ?_; refine wpAny_bind (wpAny_runValue ?_)
        have hlS : l < s.heap.objs.size := Heap.lt_size hol; have hh3 : A.in1.in1.in1.handled = none := by simp [hh]
        have hneI : l ≠ (s.heap.push { cls := .type "set", dict := none, data := .set #[] 0 (.fresh 0 0 led) }).objs.size := by rw [Heap.size_push]; exact Nat.ne_of_lt (Nat.lt_succ_of_lt hlS)
        have hSf : s.heap.objs.size ∉ [(s.heap.push { cls := .type "set", dict := none, data := .set #[] 0 (.fresh 0 0 led) }).objs.size, l] := by
          rw [Heap.size_push]; simp only [List.mem_cons, List.mem_singleton, List.not_mem_nil, or_false, not_or]; exact ⟨Nat.ne_of_lt (Nat.lt_succ_self _), Nat.ne_of_gt hlS⟩
        refine ks_loop (knd := knd) ((Walks.list hh3 _ l hneI items).toS) s.heap.objs.size hSf xs hx hi hb (items.size - 0) 0 _ (by omega) (Nat.zero_le _) ⟨⟨_, Heap.get?_push_size _ rfl, rfl, rfl⟩, (hl1.push _)⟩ (hF.at fun o e => Heap.get?_push_of_some _ e) ?hR
        case hR =>
          intro s' hm hS'; obtain ⟨h', g', d', tk', os'⟩ := s'
          have eg : g' = s.gens := hm.gens; have ed : d' = s.drawn := hm.drawn; have eo : os' = s.os := hm.os; subst eg; subst ed; subst eo
          rw [← hx, List.take_length] at hS'
          show wpAny _ _ _ _ _ _; refine wpAny_pure ?_; show wpAny _ _ (ret Value.none) _ _ _
          refine wpAny_pure ⟨rfl, h', tk', rfl, hS', fun b o hb e => ?_⟩
          have hb1 : b ≠ s.heap.objs.size := Nat.ne_of_lt hb
          have hb2 : b ≠ (s.heap.push { cls := .type "set", dict := none, data := .set #[] 0 (.fresh 0 0 led) }).objs.size := by rw [Heap.size_push]; exact Nat.ne_of_lt (Nat.lt_succ_of_lt hb)
          exact hm.heap b o (by simp only [List.mem_cons, List.mem_singleton, List.not_mem_nil, or_false, not_or]; exact ⟨hb1, hb2⟩) (Heap.get?_push_of_some _ (Heap.get?_push_of_some _ e))
      · cases r₂ with
        | error e => exact hr₂
        | ok fl₂ =>
          cases fl₂ with
          | ret r => obtain ⟨rfl, h', tk, rfl, hS', hk'⟩ := hr₂; repeat (any_goals (first | assumption | wp_step))
                     exact h _ _ hS' hk'
          | _ => exact hr₂.elim
    | _ => exact hr.elim
end
/-! ### sorted(set(xs)) -/
theorem perm_cover {α : Type} [DecidableEq α] : ∀ {l m : List α}, l.Nodup → (∀ x ∈ l, x ∈ m) → m.length ≤ l.length → m.Perm l
  | [], m, _, _, h => by rw [List.length_nil, Nat.le_zero, List.length_eq_zero_iff] at h; rw [h]
  | x :: r, m, nd, hs, h => by
    have hx := hs x List.mem_cons_self; obtain ⟨n1, n2⟩ := List.nodup_cons.mp nd
    refine (List.perm_cons_erase hx).trans (List.Perm.cons x (perm_cover n2 (fun y hy => (List.mem_erase_of_ne fun e => n1 (by rw [← e]; exact hy)).mpr (hs y (List.mem_cons_of_mem _ hy))) ?_))
    rw [List.length_erase_of_mem hx]; rw [List.length_cons] at h; omega
def txtOf : Value → Str
  | .str k _ => k
  | _ => Str.empty
def numOf : Value → Int
  | .int k _ => k
  | _ => 0
theorem strs_txt : ∀ l : List Value, (∀ v ∈ l, ∃ k tk, v = Value.str k tk) → PyProof.Rows.StrsAre l (l.map txtOf)
  | [], _ => .nil
  | v :: l, h => by obtain ⟨k, tk, rfl⟩ := h v List.mem_cons_self; exact .cons k tk (strs_txt l fun u hu => h u (List.mem_cons_of_mem _ hu))
theorem ints_num : ∀ l : List Value, (∀ v ∈ l, ∃ k tk, v = Value.int k tk) → PyProof.Rows.IntsAre l (l.map numOf)
  | [], _ => .nil
  | v :: l, h => by obtain ⟨k, tk, rfl⟩ := h v List.mem_cons_self; exact .cons k tk (ints_num l fun u hu => h u (List.mem_cons_of_mem _ hu))
section
variable {P : Program} {w : World} {A : Around} {E : Value → Shared → Prop} {s : Shared} {a : Addr}
theorem ks_perm {K : Type} [DecidableEq K] {knd : KeyKind P w K} {l : List K} {kf : Value → K} {es : Array (Int × Value)} {vs : List Value} (g : ElemsOf knd es.toList) (hm : ∀ k, k ∈ l ↔ ∃ e ∈ es.toList, knd.is k e.2 = true) (hn : es.size = l.length) (nd : l.Nodup) (hk : ∀ k v, knd.is k v = true → kf v = k) (pm : vs.Perm (es.toList.map (·.2))) : (vs.map kf).Perm l ∧ (∀ v ∈ vs, ∃ k, knd.is k v = true) ∧ vs.length = l.length := by
  have hl : vs.length = l.length := by rw [pm.length_eq, List.length_map, Array.length_toList]; exact hn
  refine ⟨perm_cover nd (fun x hx => ?_) (by rw [List.length_map, hl]; exact Nat.le_refl _), fun v hv => ?_, hl⟩
  · obtain ⟨e, he, q⟩ := (hm x).1 hx
    exact List.mem_map.mpr ⟨e.2, pm.mem_iff.mpr (List.mem_map.mpr ⟨e, he, rfl⟩), hk x e.2 q⟩
  · obtain ⟨e, he, q⟩ := List.mem_map.mp (pm.mem_iff.mp hv)
    obtain ⟨⟨k, h1, _⟩, _⟩ := g e he
    exact ⟨k, by rw [← q]; exact h1⟩
theorem ks_sortS {l : List Str} {Q : Value → Shared → Prop} (R : KSet (PySem.strKind P w) s.heap a l) (nd : l.Nodup) (hh : A.handled = none) (h64 : l.length < 64)
    (hQ : ∀ s' p (out : Array Value) (c : Nat) (ys : List Str), (∀ b o, s.heap.get? b = some o → s'.heap.get? b = some o) → s'.gens = s.gens → s'.os = s.os → s.heap.objs.size ≤ p → s'.heap.get? p = some (PyProof.Rows.seqObj "list" out c) → PyProof.Rows.StrsAre out.toList ys → ys.Perm l → PyProof.Rows.sortedS ys = true → Q (.ref p) s') : wpAny (model P w) A (call (.builtin "sorted") [.ref a]) Q E s := by
  obtain ⟨o, es, ep, t, ho, hex, hd, g, hm, hn, hb, hf, hr, hl⟩ := R
  refine Calls.call_function_entry PyProof.Rows.kind_sorted PyProof.Rows.plain_sorted PyProof.Rows.entry_sorted (PyProof.Rows.args_sorted1 _) ?_
  unfold Builtin.«sorted»; refine wpAny_bind (m := checkCount "sorted" 1 1 _) (wpAny_pure (wpAny_bind ?_))
  refine collect_set (A := A.in1) hh ⟨o, ho, hex.1, hd⟩ hf hb hr hl fun s1 vs k1 hz g1 o1 pm => ?_
  obtain ⟨p1, p2, p3⟩ := ks_perm (kf := txtOf) g hm hn nd (fun k v h => by obtain ⟨t, rfl⟩ := Value.isStrOf_shape (x := k) (v := v) h; rfl) pm
  have hS := strs_txt vs fun v hv => by obtain ⟨k, h⟩ := p2 v hv; obtain ⟨t, rfl⟩ := Value.isStrOf_shape (x := k) (v := v) h; exact ⟨k, t, rfl⟩
  refine wpAny_bind (wpAny_newList ?_ (by rw [p3, sizeLine_eq]; omega))
  have hoL : (s1.heap.push (PyProof.Rows.seqObj "list" vs.toArray 0)).get? s1.heap.objs.size = some (PyProof.Rows.seqObj "list" vs.toArray 0) := Heap.get?_push_size _ rfl
  refine wpAny_bind (wpAny_holding (wpAny_call_entry PyProof.Rows.slot_list_sort ⟨_, hoL, rfl⟩ PyProof.Rows.entry_list_sort (PyProof.Rows.list_sort_treeK PyProof.Rows.strKind_oneLt hoL hS.keysOf (fun v₁ v₂ rest e => PyProof.Rows.keyKind_strs (by rw [← e]; exact hS)) (by rw [p3]; exact h64) fun st' hp hs => ⟨_, rfl, ?_⟩) (PyProof.Rows.args_list_sort _)))
  obtain ⟨ys, q1, q2, q3⟩ := PyProof.Rows.sorted_out_str hS hp hs; obtain ⟨c, hc⟩ := PyProof.Rows.sortedHeap_at (vs := vs) (out := (PyProof.Rows.arrOf st').map (·.2)) hoL
  refine wpAny_pure ⟨_, rfl, hQ _ s1.heap.objs.size _ c ys (fun b u e => ?_) g1 o1 hz hc q1 (q2.trans p1) q3⟩
  have q := k1 b u e; have hlt := Heap.lt_size q
  show (PyProof.Rows.sortedHeap (s1.heap.push (PyProof.Rows.seqObj "list" vs.toArray 0)) s1.heap.objs.size vs _).get? b = some u
  rw [PyProof.Rows.sortedHeap_old (Nat.ne_of_lt hlt) (by show b < (s1.heap.push _).objs.size; rw [Heap.size_push]; exact Nat.lt_succ_of_lt hlt)]; exact Heap.get?_push_of_some _ q
theorem ks_sortI {l : List Int} {Q : Value → Shared → Prop} (R : KSet (intKind P w) s.heap a l) (nd : l.Nodup) (hh : A.handled = none)
    (hQ : ∀ s' p (out : Array Value) (c : Nat) (ys : List Int), (∀ b o, s.heap.get? b = some o → s'.heap.get? b = some o) → s'.gens = s.gens → s'.os = s.os → s.heap.objs.size ≤ p → s'.heap.get? p = some (PyProof.Rows.seqObj "list" out c) → PyProof.Rows.IntsAre out.toList ys → ys.Perm l → ys.Pairwise (· ≤ ·) → Q (.ref p) s') : wpAny (model P w) A (call (.builtin "sorted") [.ref a]) Q E s := by
  obtain ⟨o, es, ep, t, ho, hex, hd, g, hm, hn, hb, hf, hr, hl⟩ := R
  refine Calls.call_function_entry PyProof.Rows.kind_sorted PyProof.Rows.plain_sorted PyProof.Rows.entry_sorted (PyProof.Rows.args_sorted1 _) ?_
  unfold Builtin.«sorted»; refine wpAny_bind (m := checkCount "sorted" 1 1 _) (wpAny_pure (wpAny_bind ?_))
  refine collect_set (A := A.in1) hh ⟨o, ho, hex.1, hd⟩ hf hb hr hl fun s1 vs k1 hz g1 o1 pm => ?_
  have ish : ∀ k v, (intKind P w).is k v = true → ∃ t, v = .int k t := fun k v h => Value.isInt_shape (k := k) (v := v) h
  obtain ⟨p1, p2, p3⟩ := ks_perm (kf := numOf) g hm hn nd (fun k v h => by obtain ⟨t, rfl⟩ := ish k v h; rfl) pm
  have hS := ints_num vs fun v hv => by obtain ⟨k, h⟩ := p2 v hv; obtain ⟨t, rfl⟩ := ish k v h; exact ⟨k, t, rfl⟩
  have big : vs.length ≤ sizeLine := by rw [p3, ← hn]; exact fits_of_scanBound hb
  refine wpAny_bind (wpAny_newList ?_ big)
  have hoL : (s1.heap.push (PyProof.Rows.seqObj "list" vs.toArray 0)).get? s1.heap.objs.size = some (PyProof.Rows.seqObj "list" vs.toArray 0) := Heap.get?_push_size _ rfl
  refine wpAny_bind (wpAny_holding (wpAny_call_entry PyProof.Rows.slot_list_sort ⟨_, hoL, rfl⟩ PyProof.Rows.entry_list_sort (SrtO.list_sort_ord (s := { s1 with heap := s1.heap.push (PyProof.Rows.seqObj "list" vs.toArray 0) }) SrtO.swo_int hoL big (fun h2 => SrtO.ints_sortable hS h2) fun out h1 h2 => ⟨_, rfl, ?_⟩) (PyProof.Rows.args_list_sort _)))
  obtain ⟨q1, q2, q3⟩ := SrtO.ints_out hS h1 h2; obtain ⟨c, hc⟩ := PyProof.Rows.sortedHeap_at (vs := vs) (out := out.toArray) hoL
  refine wpAny_pure ⟨_, rfl, hQ _ s1.heap.objs.size out.toArray c _ (fun b u e => ?_) g1 o1 hz hc (by simpa using q1) (q2.trans p1) q3⟩
  have q := k1 b u e; have hlt := Heap.lt_size q
  show (PyProof.Rows.sortedHeap (s1.heap.push (PyProof.Rows.seqObj "list" vs.toArray 0)) s1.heap.objs.size vs _).get? b = some u
  rw [PyProof.Rows.sortedHeap_old (Nat.ne_of_lt hlt) (by show b < (s1.heap.push _).objs.size; rw [Heap.size_push]; exact Nat.lt_succ_of_lt hlt)]; exact Heap.get?_push_of_some _ q
end
section
variable {X : Cx} {κ : Kap} {W : WX}
theorem vals_back {xs : List V} {us : List Value} (r : Vals xs us) {i : Nat} {v : Value} (h : us[i]? = some v) : ∃ x, xs[i]? = some x ∧ RelV x v := by
  have hl : i < xs.length := by rw [r.length]; exact (List.getElem?_eq_some_iff.mp h).1
  obtain ⟨u, h1, h2⟩ := r.get (i := i) (x := xs[i]) (List.getElem?_eq_getElem hl)
  rw [h] at h1; cases h1
  exact ⟨_, List.getElem?_eq_getElem hl, h2⟩
def tSortSet (K : PySem.W.Frag) (ta : TE) : TE := fun σ H Q => ta σ H fun x H1 => ∃ l : Addr, x = .ref l ∧ ((∃ ns : List Int, SqL K H1 l (ns.map V.int) ∧ ns.length < 4000 ∧ ∀ p, H1 p = none → Q (.ref p) (upd H1 p (.lst ((srtI (metG [] ns)).map V.int)))) ∨ (∃ xs : List Str, SqL K H1 l (xs.map V.str) ∧ xs.length < 64 ∧ ∀ p, H1 p = none → Q (.ref p) (upd H1 p (.lst ((srtS (metG [] xs)).map V.str)))))
theorem pe_sortSet {a : Expr} {ta : TE} {p p2 q pos : Pos} (hc : X.calm = true) (hg : Gl X "sorted") (hm : X.mg "sorted" = none) (hg2 : Gl X "set") (hm2 : X.mg "set" = none) (ha : PE X a ta) (na : starEach [a] X.env = (false, eval a X.env) :: starEach [] X.env) :
    PE X (.Call (.Name "sorted" p) [.Call (.Name "set" p2) [a] [] q] [] pos) (tSortSet X.K ta) := by
  refine ⟨fun pins s σ H Q I h => PyProof.Rows.Call_ (ld_blt I hg hm PyProof.Rows.boot_sorted (PyProof.Rows.callWith_builtin1 (PyProof.Rows.args_cons (PyProof.Rows.Call_ (ld_blt I hg2 hm2 PyProof.Rows.boot_set ?_)) rfl) rfl rfl))⟩
  refine PyProof.Rows.callWith_type1 (PyProof.Rows.args_cons (thn (ha.run pins s σ H _ I h) fun v s1 ⟨x, H1, I1, r1, q1⟩ => PyProof.Rows.args_nil ?_) na) na rfl
  obtain ⟨l, rfl, q1⟩ := q1; cases r1
  rcases q1 with ⟨ns, hq, hlt, q1⟩ | ⟨xs, hq, hlt, q1⟩
  · obtain ⟨its, r, pl, hz⟩ := I1.list hq
    have hlen : its.toArray.size = ns.length := by rw [List.size_toArray, ← r.length, List.length_map]
    refine ks_call (knd := intKind X.prog X.w) (xs := ns) (I1.ok.hd hc) pl.isList hlen.symm (fun i v hv => ?_) (by rw [hlen]; unfold scanBound; omega) fun h' tk hS hk => PyProof.Rows.args_nil ?_
    · obtain ⟨x, hx, rx⟩ := vals_back r (i := i) (v := v) (by simpa using hv)
      rw [List.getElem?_map] at hx
      cases e : ns[i]? with
      | none => rw [e] at hx; cases hx
      | some k => rw [e] at hx; obtain rfl : V.int k = x := Option.some.inj hx; obtain ⟨t, rfl⟩ := rx; exact ⟨k, rfl, intKind_is _ _ _ _, rfl⟩
    have I2 : Inv X pins σ H1 { s1 with heap := h', toks := tk } := I1.kept fun b o e => hk b o (Heap.lt_size e) e
    have nd := metG_nd ns [] List.nodup_nil
    have le0 := metG_le ns []
    refine ks_sortI (s := { s1 with heap := h', toks := tk }) hS nd (I1.ok.hd hc) fun s' p out c ys k g o hp hg hi hpm hs => ?_
    have hn : H1 p = none := I2.hok.fresh hp
    obtain rfl := srtI_one hpm hs
    have hlen : ((srtI (metG [] ns)).map V.int).length ≤ sizeLine := by rw [List.length_map, hpm.length_eq, sizeLine_eq]; rw [List.length_nil] at le0; omega
    exact ⟨.ref p, _, I2.call' (s' := s') (ch := []) o (Un.laid k hp hn) (I2.hok.laid k hp (show ObjOk X.prog X.w _ _ _ (.lst ((srtI (metG [] ns)).map V.int)) from ⟨hlen, out.toList, c, vals_of_ints hi, by rw [Array.toArray_toList]; exact hg⟩)) (by rw [g]; exact I2.bare) (fun _ z => nomatch z), rfl, q1 p hn⟩
  · obtain ⟨its, r, pl, hz⟩ := I1.list hq
    have hlen : its.toArray.size = xs.length := by rw [List.size_toArray, ← r.length, List.length_map]
    refine ks_call (knd := PySem.strKind X.prog X.w) (xs := xs) (I1.ok.hd hc) pl.isList hlen.symm (fun i v hv => ?_) (by rw [hlen]; unfold scanBound; omega) fun h' tk hS hk => PyProof.Rows.args_nil ?_
    · obtain ⟨x, hx, rx⟩ := vals_back r (i := i) (v := v) (by simpa using hv)
      rw [List.getElem?_map] at hx
      cases e : xs[i]? with
      | none => rw [e] at hx; cases hx
      | some k => rw [e] at hx; obtain rfl : V.str k = x := Option.some.inj hx; obtain ⟨t, rfl⟩ := rx; exact ⟨k, rfl, strKind_is _ _ _ _, rfl⟩
    have I2 : Inv X pins σ H1 { s1 with heap := h', toks := tk } := I1.kept fun b o e => hk b o (Heap.lt_size e) e
    have nd := metG_nd xs [] List.nodup_nil
    have le0 := metG_le xs []
    rw [List.length_nil] at le0
    refine ks_sortS (s := { s1 with heap := h', toks := tk }) hS nd (I1.ok.hd hc) (by omega) fun s' p out c ys k g o hp hg hi hpm hs => ?_
    have hn : H1 p = none := I2.hok.fresh hp
    obtain rfl := srtS_one hpm hs
    have hlen : ((srtS (metG [] xs)).map V.str).length ≤ sizeLine := by rw [List.length_map, hpm.length_eq, sizeLine_eq]; omega
    exact ⟨.ref p, _, I2.call' (s' := s') (ch := []) o (Un.laid k hp hn) (I2.hok.laid k hp (show ObjOk X.prog X.w _ _ _ (.lst ((srtS (metG [] xs)).map V.str)) from ⟨hlen, out.toList, c, vals_of_strs hi, by rw [Array.toArray_toList]; exact hg⟩)) (by rw [g]; exact I2.bare) (fun _ z => nomatch z), rfl, q1 p hn⟩
theorem le_sortSet {a : Expr} {ma : ME} {p p2 q pos : Pos} (hc : X.calm = true) (hg : Gl X "sorted") (hm : X.mg "sorted" = none) (hg2 : Gl X "set") (hm2 : X.mg "set" = none) (ha : LE X κ W a ma) (na : starEach [a] X.env = (false, eval a X.env) :: starEach [] X.env := by rfl) :
    LE X κ W (.Call (.Name "sorted" p) [.Call (.Name "set" p2) [a] [] q] [] pos) (mCall bSortSet [ma]) :=
  PE.by (pe_sortSet hc hg hm hg2 hm2 ha na) fun σ H Q ⟨ρ, σd, s, R, hE, h⟩ => ⟨ρ, σd, s, R, hE, (Fin.bind (f := fun d s => bSortSet [d] s) (by
      have h' := h
      unfold mCall mArgs mArgs at h'
      cases e : ma σd s with
      | ok d s1 => rw [e] at h'; exact h'
      | er z s1 => rw [e] at h'; exact h'
      | bad => rw [e] at h'; exact h')).mono fun d ρ1 s1 H1 x1 R1 q v hv => by
    unfold bSortSet f1 at q
    simp only at q
    cases e : bAny.lstQ d s1 with
    | none => rw [e] at q; exact q.elim
    | some l =>
      rw [e] at q
      simp only at q
      obtain ⟨p, vs, rfl, h1, h2⟩ := R1.lstE hv e
      cases e2 : intsQ l with
      | some ns =>
        rw [e2] at q
        simp only at q
        by_cases hl : ns.length < 4000
        · rw [if_pos hl] at q
          obtain ⟨rfl, _⟩ := intsQ_ok h2 e2
          exact ⟨p, rfl, .inl ⟨ns, h1, hl, fun p np => EndV.newL q R1 np (VRs.ints _)⟩⟩
        · rw [if_neg hl] at q; exact q.elim
      | none =>
        rw [e2] at q
        simp only at q
        cases e3 : strsQ l with
        | none => rw [e3] at q; exact q.elim
        | some xs =>
          rw [e3] at q
          simp only at q
          by_cases hl : xs.length < 64
          · rw [if_pos hl] at q
            obtain ⟨rfl, _⟩ := strsQ_ok h2 e3
            exact ⟨p, rfl, .inr ⟨xs, h1, hl, fun p np => EndV.newL q R1 np (VRs.strs _)⟩⟩
          · rw [if_neg hl] at q; exact q.elim⟩
end
end Mid
/-! MidU: enumerate of a list, of a tuple. -/
namespace Mid
open PySem PySem.Spec L2 Classical
open PyProof.Rows (IsTup)
set_option maxHeartbeats 1000000 in
theorem enum_new1 {v : Value} {o : Obj} {H : Heap → Prop} (B : Begins v o H) : Meets (Builtin.«enumerate.__new__» ⟨[.type "enumerate", v], []⟩) (fun _ R s => H s.heap ∧
    R (.ok (.ret (.ref (s.heap.push o).objs.size))) { s with heap := (s.heap.push o).push { cls := .type "enumerate", data := .fields #[.none, .bool false, .ref s.heap.objs.size, rawInt 0, .none, .none] } }) := by
  refine .of_wp fun prog w A R s h => ?_
  obtain ⟨hp, g, d, tk, os⟩ := s
  obtain ⟨h1, h⟩ := h
  have hsub := sub_enumerate
  have it : ∀ {A' : Around} {E Q : Value → Shared → Prop}, Q (.ref hp.objs.size) ⟨hp.push o, g, d, tk, os⟩ → wpAny (model prog w) A' (pyIter v) Q E ⟨hp, g, d, tk, os⟩ := fun q => B.iter prog w _ _ ⟨hp, g, d, tk, os⟩ _ h1 q
  wp_walk using it
  refine wpAny_stack_any fun st => wpAny_pure ?_
  split
  · rename_i c _ _ _ _ _
    cases (c == Value.type "enumerate") <;> (wp_walk using it; exact ⟨_, rfl, h⟩)
  · wp_walk using it
    exact ⟨_, rfl, h⟩
theorem enum_call1 {prog : Program} {w : World} {A : Around} {E : Value → Shared → Prop} {s : Shared} {v : Value} {o : Obj} {H : Heap → Prop} {Q : Value → Shared → Prop} (B : Begins v o H) (h1 : H s.heap)
    (h : ∀ h', IsEnum h' (s.heap.objs.size + 1) s.heap.objs.size 0 .none → h'.get? s.heap.objs.size = some o → (∀ b ob, s.heap.get? b = some ob → h'.get? b = some ob) → Q (.ref (s.heap.objs.size + 1)) { s with heap := h' }) : wpAny (model prog w) A (call (.type "enumerate") [v]) Q E s := by
  have hz : (s.heap.push o).objs.size = s.heap.objs.size + 1 := Heap.size_push ..
  have he : ∀ z, z = s.heap.objs.size + 1 → IsEnum ((s.heap.push o).push { cls := .type "enumerate", data := .fields #[.none, .bool false, .ref s.heap.objs.size, rawInt 0, .none, .none] }) z s.heap.objs.size 0 .none := fun z e => by
    rw [e, ← hz]; exact Heap.get?_push_size _ rfl
  refine callType_new F.called_enumerate (by decide) (F.typeCall_enumerate_1 _) (F.newCall_enumerate_1 _) (fun obj => F.args_object_init_2 obj _) F.entry_enumerate_new (enum_new1 B) ⟨h1, ?_⟩
  show _ ∧ _
  rw [hz]
  exact ⟨⟨_, he _ rfl, rfl⟩, h _ (he _ rfl) (Heap.get?_push_of_some _ (Heap.get?_push_size _ B.free)) fun b ob x => Heap.get?_push_of_some _ (Heap.get?_push_of_some _ x)⟩
/-- the tuple at a, each item in a new pair -/
def IteT (K : PySem.W.Frag) (a : Addr) : It :=
  ⟨fun i H => ∃ (xs : List V) (x : V), SqT K H a xs ∧ xs[i]? = some x, fun i H v H' => ∃ T x, v = .ref T ∧ H T = none ∧ H' = upd H T (.tup [.int (i : Nat), x]) ∧ ∀ xs, SqT K H a xs → xs[i]? = some x, fun i H => ∃ xs : List V, SqT K H a xs ∧ xs.length ≤ i⟩
theorem turn_enumT {P : Program} {w : World} {K : PySem.W.Frag} {elts : List Expr} {kk : Nat} {tpos : Pos} (a e it : Addr) :
    Turn P w K (.Tuple elts kk tpos) (IteT K a) [e, it] e (fun i h => (∃ old, IsEnum h e it ((i : Nat) : Int) old) ∧ h.IsTupleIter it a i ∧ e ≠ it ∧ a ≠ it ∧ e ≠ a) where
  mem := by simp
  obj := fun i h st b hb => by
    obtain ⟨⟨old, he⟩, ⟨o, ho, hc, hd⟩, _⟩ := st
    rcases (show b = e ∨ b = it by simpa using hb) with z | z <;> rw [z]
    · exact ⟨_, he, fun v q => nomatch q⟩
    · exact ⟨o, ho, fun v q => by rw [hd] at q; cases q⟩
  keep := fun i h h' st k => by
    obtain ⟨⟨old, he⟩, hi, n1, n2, n3⟩ := st
    exact ⟨⟨old, k e (by simp) _ he⟩, hi.at fun o q => k it (by simp) o q, n1, n2, n3⟩
  item := by
    rintro X rfl rfl rfl hc i pins s σ H E I hf ⟨⟨old, he⟩, hit, n1, n2, n3⟩ ⟨xs, x, hq, hx⟩
    obtain ⟨its, rv, p, hz⟩ := I.tuple hq
    obtain ⟨u, hu, ru⟩ := rv.get hx
    have hel : e < s.heap.objs.size := Heap.lt_size he
    have hil : it < s.heap.objs.size := let ⟨_, q, _⟩ := hit; Heap.lt_size q
    have hlt : i < its.toArray.size := by rw [List.size_toArray]; exact (List.getElem?_eq_some_iff.mp hu).1
    have pt : s.heap.IsTuple a its.toArray := p
    refine wpAny_pyNext_enum_itemD (Draws.tuple (A := X.A.in1) (I.ok.hd hc) it a n2 its.toArray) he ⟨hit, pt⟩ hlt n1 (by simp [n1, n3]) fun x' h' tk hP ho st' hT hsz hk => ?_
    have ex : x' = u := by
      have e1 : its[i]? = some x' := by simpa using hP
      rw [hu] at e1; exact (Option.some.inj e1).symm
    subst ex
    refine ⟨_, rfl, wpAny_letOwnedTupleGo_enum (s := { s with heap := h', toks := tk + 1 }) ho fun h'' he' sb => ?_⟩
    have hT2 := (sb.2 _ (Nat.ne_of_gt hel)).trans hT
    have new : ObjOk X.prog X.w (upd H s.heap.objs.size (.tup [.int (i : Nat), x])) h'' s.heap.objs.size (.tup [.int (i : Nat), x]) := ⟨by show 2 ≤ sizeLine; decide, [.int i tk, x'], .cons ⟨_, rfl⟩ (.cons ru .nil), ⟨_, hT2, rfl, _, rfl⟩⟩
    have I1 := I.turnedNew (t' := tk + 1) (ch := [e, it]) (h' := h'') (fun b ob hb q => (sb.2 b (fun z => hb (by simp [z]))).trans (hk b ob (fun z => hb (by simp [z])) (fun z => hb (by simp [z])) q)) hf (Nat.le_refl _) new
    refine ⟨.ref s.heap.objs.size, _, I1, rfl, ⟨_, x, rfl, I.hok.fresh (Nat.le_refl _), rfl, fun ys hy => by rw [I.tuple_inj hy hq]; exact hx⟩, ⟨⟨x', ?_⟩, st'.1.at fun o q => (sb.2 it (Ne.symm n1)).trans q, n1, n2, n3⟩, fun b hb => ?_⟩
    · rw [show ((i + 1 : Nat) : Int) = (i : Int) + 1 by omega]; exact he'
    · have hb' : b < s.heap.objs.size := by rcases (show b = e ∨ b = it by simpa using hb) with z | z <;> rw [z] <;> assumption
      rw [upd_ne (Nat.ne_of_lt hb')]; exact (hf b hb).1
  done := by
    rintro X rfl rfl rfl hc i pins s σ H E I hf ⟨⟨old, he⟩, hit, n1, n2, n3⟩ ⟨xs, hq, hx⟩
    obtain ⟨its, rv, p, hz⟩ := I.tuple hq
    obtain ⟨f0, f1, f2, f3, f4, f5⟩ := hf it (by simp)
    have pt : s.heap.IsTuple a its.toArray := p
    have hl := rv.length
    have hT : s.TypeIs (.ref e) "enumerate" := ⟨_, he, rfl⟩
    have rest : wpAny (model X.prog X.w) X.A (pyNext (.ref e)) (fun r s1 => r = none ∧ Inv X pins σ H s1) E s := by
      unfold pyNext
      refine wpAny_bind (wpAny_attempt (wpAny_callSpecial?_slot (name := Str.ofString "__next__") hT F.slot_enumerate_next (wpAny_call_entry F.slot_enumerate_next hT F.entry_enumerate_next ?_ (F.args_enumerate_next_1 _))))
      show wpAny _ _ (field (.ref e) 2 >>= _) _ _ _
      refine wpAny_bind (wpAny_field he rfl (x := .ref it) rfl (wpAny_bind (wpAny_nextOf_tuple_end (I.ok.hd hc) hit pt (by simp; omega) fun h' x he' ⟨o, ho, hc'⟩ => ?_)))
      exact wpAny_bind (wpAny_isInstance (T := "StopIteration") (b := true) ⟨o, ho, hc'⟩ isSubtype_stop (wpAny_pure ⟨rfl, I.turned (t' := s.toks) (fun b o hb q => he' b o hb q) f0 f1 f3 f4 f5⟩))
    exact rest
  self := fun A i s Q E st h => let ⟨⟨_, he⟩, _⟩ := st; wpAny_pyIter_enum he h
section
variable {X : Cx} {κ : Kap} {W : WX} {pos p tpos : Pos} {a e : Expr} {ma : ME} {elts : List Expr} {kk : Nat}
def iEnumA (K : PySem.W.Frag) (ta : TA) : TI := fun σ H R => ta σ H fun vs H1 => ∃ a xs, vs = [.ref a] ∧ ((SqL K H1 a xs ∧ R (Ite K a) H1) ∨ (SqT K H1 a xs ∧ R (IteT K a) H1))
theorem pi_enumA {ta : TA} (hg : Gl X "enumerate") (hm : X.mg "enumerate" = none) (ha : PA X [e] ta) (hs : starEach [e] X.env = [(false, eval e X.env)]) : PI X (.Tuple elts kk tpos) (.Call (.Name "enumerate" p) [e] [] pos) (iEnumA X.K ta) := by
  refine ⟨fun pins s σ H R I h => PyProof.Rows.Call_ (ld_blt I hg hm PyProof.Rows.boot_enumerate (PyProof.Rows.callWith_type1 (thn (ha.run pos pins s σ H _ I h) fun us s1 ⟨vs, H1, I1, r1, a, xs, ex, q⟩ => ?_) hs rfl))⟩
  subst ex
  obtain ⟨u, rfl, ru⟩ := r1.one
  obtain rfl : u = Value.ref a := ru
  have fr : ∀ (h' : Heap), ∀ b ∈ [s1.heap.objs.size + 1, s1.heap.objs.size], FpOk X pins H1 b := fun h' b hb => by
    have hle : s1.heap.objs.size ≤ b := by rcases (show b = s1.heap.objs.size + 1 ∨ b = s1.heap.objs.size by simpa using hb) with z | z <;> rw [z] <;> first | exact Nat.le_succ _ | exact Nat.le_refl _
    exact I1.fpOk hle (I1.hok.fresh hle)
  rcases q with ⟨hq, q⟩ | ⟨hq, q⟩
  · obtain ⟨its, rv, p', hz⟩ := I1.list hq
    exact call_enumerate_list p'.isList fun h' he hit hsz hk => wpAny_pyIter_enum he ⟨_, _, _, _, H1, rfl, I1.kept (t' := s1.toks) hk, turn_enum a (s1.heap.objs.size + 1) s1.heap.objs.size, ⟨⟨.none, he⟩, hit, Nat.succ_ne_self _⟩, fr h', q⟩
  · obtain ⟨its, rv, p', hz⟩ := I1.tuple hq
    have pt : s1.heap.IsTuple a its.toArray := p'
    obtain ⟨oa, ga, _⟩ := id p'
    have hl : a < s1.heap.objs.size := Heap.lt_size ga
    exact enum_call1 (begins_tuple a its.toArray) pt fun h' he ho hk => wpAny_pyIter_enum he ⟨_, _, _, _, H1, rfl, I1.kept (t' := s1.toks) hk, turn_enumT a (s1.heap.objs.size + 1) s1.heap.objs.size, ⟨⟨.none, he⟩, ⟨_, ho, rfl, rfl⟩, Nat.succ_ne_self _, Nat.ne_of_lt hl, Nat.ne_of_gt (Nat.lt_succ_of_lt hl)⟩, fr h', q⟩
theorem zipQ_now {s : Mst} {d : Dv} {c : Bool} {l : List Dv} {r : List (Nat × List Dv)} (e : zipQ d s = some (c, l, r)) : Mit.stays r s := by
  unfold zipQ at e
  cases d with
  | loc n =>
    simp only at e
    split at e
    · rename_i l q; cases e; exact ⟨q, trivial⟩
    · cases e
  | clst m => cases e; trivial
  | tup m => cases e; trivial
  | _ => cases e
theorem zipIdx_get {l : List Dv} {i : Nat} {z : Dv} (h : ((l.zipIdx).map fun p => Dv.ptup [.int p.2, p.1])[i]? = some z) : ∃ x, l[i]? = some x ∧ z = .ptup [.int i, x] := by
  rw [List.getElem?_map, List.getElem?_zipIdx] at h
  cases e : l[i]? with
  | none => rw [e] at h; simp at h
  | some x => rw [e] at h; simp at h; exact ⟨x, rfl, by rw [← h]⟩
theorem li_enum (hg : Gl X "enumerate") (hm : X.mg "enumerate" = none) (ha : LE X κ W e ma) (hs : starEach [e] X.env = (false, eval e X.env) :: starEach [] X.env := by rfl) : LI X κ W (.Tuple elts kk tpos) (.Call (.Name "enumerate" p) [e] [] pos) (miEnum ma) :=
  PI.by (pi_enumA hg hm (pa_cons ha pa_nil hs) hs) fun σ H Q ⟨ρ, σd, s, R, hE, h⟩ => ⟨ρ, σd, s, R, hE, (Fin.bind h).mono fun d ρ1 s1 H1 x1 R1 q v hv => by
    cases e1 : zipQ d s1 with
    | none => rw [e1] at q; exact q.elim
    | some z1 =>
      obtain ⟨c, l, r⟩ := z1
      rw [e1] at q
      obtain ⟨t, rfl, f⟩ := zipQ_ok R1 hv e1
      have fin := q ρ1 H1 Step.refl R1
      have st : Mit.stays r s1 := zipQ_now e1
      obtain ⟨vs, h1, h2⟩ := f ρ1 H1 s1 Kp.refl R1 st
      cases c with
      | true =>
        refine ⟨t, vs, rfl, .inr ⟨h1, fin _ fun ρ2 H2 s2 kp R2 st2 => ⟨fun i z e => ?_, fun i hi => ?_⟩⟩⟩
        · obtain ⟨us, g1, g2⟩ := f ρ2 H2 s2 kp R2 st2
          obtain ⟨x, f1, rfl⟩ := zipIdx_get e
          obtain ⟨vx, f2, f3⟩ := g2.get f1
          refine ⟨⟨us, vx, g1, f2⟩, fun v H' y => ?_⟩
          obtain ⟨T, x', rfl, nT, rfl, w1⟩ := y
          have ex := w1 us g1
          rw [f2] at ex; cases ex
          refine ⟨Step.lay nT, R2.lay nT, ?_⟩
          simp only [VR]
          exact ⟨T, [.int (i : Nat), vx], rfl, .inl (.inl upd_same), .cons (by simp only [VR]) (.cons (VR.later R2 (Step.lay nT) _ _ f3) .nil)⟩
        · obtain ⟨us, g1, g2⟩ := f ρ2 H2 s2 kp R2 st2
          exact ⟨us, g1, by rw [g2.length]; simpa using hi⟩
      | false =>
        refine ⟨t, vs, rfl, .inl ⟨h1, fin _ fun ρ2 H2 s2 kp R2 st2 => ⟨fun i z e => ?_, fun i hi => ?_⟩⟩⟩
        · obtain ⟨us, g1, g2⟩ := f ρ2 H2 s2 kp R2 st2
          obtain ⟨x, f1, rfl⟩ := zipIdx_get e
          obtain ⟨vx, f2, f3⟩ := g2.get f1
          refine ⟨⟨us, vx, g1, f2⟩, fun v H' y => ?_⟩
          obtain ⟨T, x', rfl, nT, rfl, w1⟩ := y
          have ex := w1 us g1
          rw [f2] at ex; cases ex
          refine ⟨Step.lay nT, R2.lay nT, ?_⟩
          simp only [VR]
          exact ⟨T, [.int (i : Nat), vx], rfl, .inl (.inl upd_same), .cons (by simp only [VR]) (.cons (VR.later R2 (Step.lay nT) _ _ f3) .nil)⟩
        · obtain ⟨us, g1, g2⟩ := f ρ2 H2 s2 kp R2 st2
          exact ⟨us, g1, by rw [g2.length]; simpa using hi⟩⟩
end
end Mid
/-! Mid10: a def of the text by its name; the law's end. -/
namespace Mid
open PySem PySem.Spec L2 Classical
theorem hu65 {A : Around} {k : Nat} (hr : Room k A) : A.units + 65 < cLine := by have := hr.un; omega
section
variable {P : Program} {w : World} {K : PySem.W.Frag} {mg : Str → Option Value} {base : Heap} {κ : Kap}
/-- the def called x does what F does -/
def Cal (P : Program) (w : World) (K : PySem.W.Frag) (mg : Str → Option Value) (base : Heap) (κ : Kap) (k : Nat) (x : Str) (n : Nat) (F : MF) : Prop :=
  ∃ (f : Addr) (fd : FuncData) (ps : List Str), FnOk P w K mg base CX0 k f fd ps (spF0 K κ n F) ∧ mg x = some (.ref f) ∧ PySem.W.keepIn K (.ref f) = true ∧ Binds K fd ps []
theorem fn_bad {k n : Nat} {f : Addr} {fd : FuncData} {ps : List Str} : FnOk P w K mg base CX0 k f fd ps (spF0 K κ n fun _ _ => .bad) :=
  ⟨fun vs H Q E ⟨_, ρ, ds, s, _, _, h⟩ => h.elim, fun A outer s H args us vs Q E _ _ _ _ ⟨_, ρ, ds, s', _, _, h⟩ => h.elim⟩
theorem Cal.mono {j k n : Nat} {x : Str} {F : MF} (c : Cal P w K mg base κ j x n F) (h : j ≤ k) : Cal P w K mg base κ k x n F := by
  obtain ⟨f, fd, ps, a, b, c, d⟩ := c
  exact ⟨f, fd, ps, a.mono h, b, c, d⟩
end
theorem le_calC {X : Cx} {κ : Kap} {W : WX} {k n : Nat} {x : Str} {F : MF} {e : Expr} {es : List Expr} {ms : List ME} {p pos : Pos} (c : Cal X.prog X.w X.K X.mg X.base κ k x n F) (hr : Room k X.A) (hg : Gl X x) (ha : LA X κ W (e :: es) ms) (hn : ms.length = n := by rfl)
    (hdb : (x == ("__debug__" : Str)) = false := by decide) (he : starEach (e :: es) X.env = (false, eval e X.env) :: starEach es X.env := by rfl) (hpl : (backTo pos (starEach es X.env)).any (·.1) = false := by rfl) : LE X κ W (.Call (.Name x p) (e :: es) [] pos) (mCall (noE F) ms) := by
  obtain ⟨f, fd, ps, G, hm, hk, hb⟩ := c
  exact le_call0 G hr hg hm hk hb ha hn hdb he hpl
/-- a promise wherever the classes lie -/
def spFX (K : PySem.W.Frag) (w : World) (n : Nat) (F : MF) : Sp := fun vs H Q E => ∀ at', spF0 K ⟨at', w⟩ n F vs H Q E
/-- the law's end: where the plain model tells True of every script -/
theorem law_end {K : PySem.W.Frag} {κ : Kap} {F : MF} {H : Hp} {a : Addr} {ns : List Int} (hO : Only H) (hS : SqL K H a (ns.map V.int)) (h : ∃ s, F [.clst (ns.map Dv.int)] [] = .ok (.bl true) s) :
    spF0 K κ 1 F [.ref a] H (fun v _ => v = .bl true) fun _ _ _ => False := by
  obtain ⟨s, h⟩ := h
  have hI : SqI K H a (ns.map V.int) := by
    rcases hS with (hS | ⟨o, hS⟩) | hS
    · rcases hO a with q | ⟨o, xs, q⟩
      · rw [q] at hS; cases hS
      · rw [q] at hS; cases hS
    · exact .inl ⟨o, hS⟩
    · exact .inr hS
  refine ⟨rfl, [], [.clst (ns.map Dv.int)], [], ⟨rfl, List.nodup_nil, fun n a o e _ => by simp at e⟩, .cons (by simp only [VR]; exact ⟨a, _, rfl, hI, VRs.ints ns⟩) .nil, ?_⟩
  rw [h]
  exact fun ρ' H' x R v hv => hv.bl
/-- a name of the module's own top, a number or a text -/
theorem le_gv {X : Cx} {κ : Kap} {W : WX} {x : Str} {pos : Pos} {d : Dv} {v : V} (hg : Gl X x) (h : ∃ u, X.mg x = some u ∧ RelV v u) (hd : ∀ (ρ : List Addr) (H : Hp), VR X.K κ ρ H d v) (hdb : (x == ("__debug__" : Str)) = false := by decide) : LE X κ W (.Name x pos) (mC d) :=
  let ⟨_, hm, r⟩ := h; le_c (pe_glob hg hm r (hd := hdb)) hd
end Mid
/-! MidC: instances of classes of the program's own. -/
namespace Mid
open PySem PySem.Spec L2 Classical
noncomputable section
structure Attr (K : PySem.W.Frag) (κ : Kap) (cs : List Nat) (f : Str) : Prop where
  all : ∀ C ∈ cs, Cls K (κ C) ∧ NoAttr K (κ C) f
section
variable {X : Cx} {κ : Kap} {W : WX} {pos : Pos} {a : Expr} {ma : ME} {cs : List Nat} {f : Str}
theorem look_ok {K : PySem.W.Frag} {ρ : List Addr} {H : Hp} {f : Str} : ∀ {fs : List (Str × Dv)} {vs : List (Str × V)} {d : Dv}, vs.map (·.1) = fs.map (·.1) → VRs K κ ρ H (fs.map (·.2)) (vs.map (·.2)) → fs.lookup f = some d → ∃ v, vs.lookup f = some v ∧ VR K κ ρ H d v
  | [], _, d, _, _, e => by cases e
  | (g, u) :: r, [], d, h, _, _ => by cases h
  | (g, u) :: r, (g', u') :: r', d, h, hr, e => by
    simp only [List.map_cons, List.cons.injEq] at h
    obtain ⟨rfl, h⟩ := h
    obtain ⟨v, w, e1, h1, h2⟩ := hr
    simp only [List.map_cons, List.cons.injEq] at e1
    obtain ⟨rfl, rfl⟩ := e1
    rw [List.lookup_cons] at e ⊢
    cases q : f == g' with
    | true => rw [q] at e; cases e; exact ⟨_, rfl, h1⟩
    | false => rw [q] at e; exact look_ok h h2 e
theorem le_fld (ha : LE X κ W a ma) (A : Attr X.K κ cs f) (hb : attributeBase a f X.env (eval a X.env) = eval a X.env := by rfl) : LE X κ W (.Attribute a f pos) (mUn (oFld cs f) ma) :=
  PE.by (pe_fld ha hb) fun σ H Q ⟨ρ, σd, s, R, hE, h⟩ => ⟨ρ, σd, s, R, hE, (Fin.bind h).mono fun d ρ1 s1 H1 x1 R1 q v hv => by
    cases d with
    | loc n =>
      unfold oFld at q
      simp only at q
      cases e : s1[n]? with
      | none => rw [e] at q; exact q.elim
      | some o =>
        rw [e] at q
        cases o with
        | ins C fs =>
          simp only at q
          by_cases hc : C ∈ cs
          · rw [if_pos hc] at q
            obtain ⟨p, _, rfl, dx, vs, e1, k, r⟩ := R1.loc hv e
            cases e2 : fs.lookup f with
            | none => rw [e2] at q; exact q.elim
            | some d =>
              rw [e2] at q
              obtain ⟨u, e3, hu⟩ := look_ok k r e2
              exact ⟨p, κ C, dx, vs, u, rfl, e1, (A.all C hc).1, (A.all C hc).2, e3, EndV.ok q R1 hu⟩
          · rw [if_neg hc] at q; exact q.elim
        | _ => exact q.elim
    | _ => exact q.elim⟩
theorem putA_ok {K : PySem.W.Frag} {ρ : List Addr} {H : Hp} {f : Str} {d : Dv} {v : V} (hv : VR K κ ρ H d v) : ∀ {fs : List (Str × Dv)} {vs : List (Str × V)}, vs.map (·.1) = fs.map (·.1) → VRs K κ ρ H (fs.map (·.2)) (vs.map (·.2)) →
    (putF f v vs).map (·.1) = (putA f d fs).map (·.1) ∧ VRs K κ ρ H ((putA f d fs).map (·.2)) ((putF f v vs).map (·.2))
  | [], [], _, _ => ⟨rfl, v, [], rfl, hv, rfl⟩
  | [], _ :: _, h, _ => by cases h
  | _ :: _, [], h, _ => by cases h
  | (g, u) :: r, (g', u') :: r', h, hr => by
    simp only [List.map_cons, List.cons.injEq] at h
    obtain ⟨rfl, h⟩ := h
    obtain ⟨x, w, e1, h1, h2⟩ := hr
    simp only [List.map_cons, List.cons.injEq] at e1
    obtain ⟨rfl, rfl⟩ := e1
    unfold putF putA
    by_cases q : g' = f
    · rw [if_pos q, if_pos q]
      exact ⟨by simp [h], v, _, rfl, hv, h2⟩
    · rw [if_neg q, if_neg q]
      obtain ⟨k1, k2⟩ := putA_ok hv h h2
      exact ⟨by simp [k1], u', _, rfl, h1, k2⟩
theorem ls_fldC {e : Expr} {me : ME} {pos' : Pos} (ha : LE X κ W a ma) (he : LE X κ W e me) (A : Attr X.K κ cs f) (hs : swapsWith e (some (.Attribute a f pos')) pos.line X.env = pure false := by rfl) :
    LS X κ W (.Assign [.Attribute a f pos'] e pos) (msFldC cs f ma me) :=
  PS.by (ps_fld ha he hs) fun D σ H ⟨ρ, σd, s, R, hE, h⟩ => ⟨ρ, σd, s, R, hE, (FinS.st h R hE).mono fun d ρ1 s1 H1 x1 R1 q v hv => ⟨ρ1, σd, s1, R1, hE.later R x1, (FinS.st q R1 (hE.later R x1)).mono fun d2 ρ2 s2 H2 x2 R2 q2 v2 hv2 => by
    cases d2 with
    | loc n =>
      simp only at q2
      cases e : s2[n]? with
      | none => rw [e] at q2; exact q2.elim
      | some o =>
        rw [e] at q2
        cases o with
        | ins C fs =>
          simp only at q2
          by_cases hc : C ∈ cs ∧ fs.length < 1000
          · rw [if_pos hc] at q2
            obtain ⟨p, e0, rfl, dx, vs, e1, k, r⟩ := R2.loc hv2 e
            have hl : vs.length = fs.length := by
              have := congrArg List.length k
              simpa using this
            have hv' := VR.later R1 x2 _ _ hv
            obtain ⟨k1, k2⟩ := putA_ok (f := f) hv' k r
            refine ⟨p, κ C, dx, vs, rfl, e1, (A.all C hc.1).1, (A.all C hc.1).2, by omega, ?_⟩
            exact q2 ρ2 _ σ (Step.put e0) (R2.put e0 ⟨dx, _, upd_same, k1, VRs.later R2 (Step.put e0) _ _ k2⟩) (((hE.later R x1).later R1 x2).later R2 (Step.put e0))
          · rw [if_neg hc] at q2; exact q2.elim
        | _ => exact q2.elim
    | _ => exact q2.elim⟩⟩
theorem look_no {K : PySem.W.Frag} {ρ : List Addr} {H : Hp} {f : Str} : ∀ {fs : List (Str × Dv)} {vs : List (Str × V)}, vs.map (·.1) = fs.map (·.1) → fs.lookup f = none → vs.lookup f = none
  | [], [], _, _ => rfl
  | [], _ :: _, h, _ => by cases h
  | _ :: _, [], h, _ => by cases h
  | (g, u) :: r, (g', u') :: r', h, e => by
    simp only [List.map_cons, List.cons.injEq] at h
    obtain ⟨rfl, h⟩ := h
    rw [List.lookup_cons] at e ⊢
    cases q : f == g' with
    | true => rw [q] at e; cases e
    | false => rw [q] at e; exact look_no (K := K) (ρ := ρ) (H := H) h e
theorem le_methC {e : Expr} {es : List Expr} {ms : List ME} {C k n : Nat} {m : Str} {g : Addr} {fd : FuncData} {ps : List Str} {F : MF} {apos : Pos} {pl : Sem Bool} (ho : LE X κ W a ma) (c : Cls X.K (κ C)) (hm : Meth X.K (κ C) m g)
    (G : FnOk X.prog X.w X.K X.mg X.base CX0 k g fd ps (spF0 X.K κ n F)) (hr : Room k X.A) (hb : Binds X.K fd ps []) (ha : LA X κ W (e :: es) ms) (hn : ms.length + 1 = n := by rfl)
    (hst : starEach (e :: es) X.env = (false, eval e X.env) :: starEach es X.env := by rfl) (hpl : (backTo pos (starEach es X.env)).any (·.1) = false := by rfl)
    (ht : eval (.Call (.Attribute a m apos) (e :: es) [] pos) X.env = (do
      let ov ← eval a X.env
      standAt apos.atName
      let (f, first) ← holding [ov] (getMethod ov m pl)
      callWith pos f first (backTo pos (starEach (e :: es) X.env)) (backToKw pos (keywordEach [] X.env))) := by rfl) :
    LE X κ W (.Call (.Attribute a m apos) (e :: es) [] pos) (mMethC C m F ma ms) :=
  PE.by (pe_meth (E := E0) ho c hm G hr hb .nil pass0 ha hst hpl ht) fun σ H Q ⟨ρ, σd, s, R, hE, h⟩ => ⟨ρ, σd, s, R, hE, (Fin.bind h).mono fun d ρ1 s1 H1 x1 R1 q v hv => by
    cases d with
    | loc i =>
      simp only at q
      cases e : s1[i]? with
      | none => rw [e] at q; exact q.elim
      | some o =>
        rw [e] at q
        cases o with
        | ins C' fs =>
          simp only at q
          by_cases hc : C' = C ∧ fs.lookup m = none
          · rw [if_pos hc] at q
            obtain ⟨rfl, hl⟩ := hc
            obtain ⟨p, e0, rfl, dx, vs, e1, kk, r⟩ := R1.loc hv e
            refine ⟨p, dx, vs, rfl, e1, look_no (K := X.K) (ρ := ρ1) (H := H1) kk hl, ρ1, σd, s1, R1, hE.later R x1, (Fin.args (Fin.bind q)).mono fun ds ρ2 s2 H2 x2 R2 ⟨hnn, h1⟩ us hus => ?_⟩
            show spF0 X.K κ n F (.ref p :: (us ++ [])) H2 Q E0
            rw [List.append_nil]
            refine ⟨by rw [List.length_cons, hus.length, hnn, hn], ρ2, .loc i :: ds, s2, R2, .cons (VR.later R1 x2 _ _ hv) hus, Fin.noEr h1⟩
          · rw [if_neg hc] at q; exact q.elim
        | _ => exact q.elim
    | _ => exact q.elim⟩
theorem le_methC0 {C k : Nat} {m : Str} {g : Addr} {fd : FuncData} {ps : List Str} {F : MF} {apos : Pos} {pl : Sem Bool} (ho : LE X κ W a ma) (c : Cls X.K (κ C)) (hm : Meth X.K (κ C) m g)
    (G : FnOk X.prog X.w X.K X.mg X.base CX0 k g fd ps (spF0 X.K κ 1 F)) (hr : Room k X.A) (hb : Binds X.K fd ps [])
    (ht : eval (.Call (.Attribute a m apos) [] [] pos) X.env = (do
      let ov ← eval a X.env
      standAt apos.atName
      let (f, first) ← holding [ov] (getMethod ov m pl)
      callWith pos f first (backTo pos (starEach [] X.env)) (backToKw pos (keywordEach [] X.env))) := by rfl) :
    LE X κ W (.Call (.Attribute a m apos) [] [] pos) (mMethC C m F ma []) :=
  PE.by (pe_meth0 (E := E0) ho c hm G hr hb .nil pass0 ht) fun σ H Q ⟨ρ, σd, s, R, hE, h⟩ => ⟨ρ, σd, s, R, hE, (Fin.bind h).mono fun d ρ1 s1 H1 x1 R1 q v hv => by
    cases d with
    | loc i =>
      simp only at q
      cases e : s1[i]? with
      | none => rw [e] at q; exact q.elim
      | some o =>
        rw [e] at q
        cases o with
        | ins C' fs =>
          simp only at q
          by_cases hc : C' = C ∧ fs.lookup m = none
          · rw [if_pos hc] at q
            obtain ⟨rfl, hl⟩ := hc
            obtain ⟨p, e0, rfl, dx, vs, e1, kk, r⟩ := R1.loc hv e
            refine ⟨p, dx, vs, rfl, e1, look_no (K := X.K) (ρ := ρ1) (H := H1) kk hl, ?_⟩
            show spF0 X.K κ 1 F (.ref p :: ([] ++ [])) H1 Q E0
            exact ⟨rfl, ρ1, [.loc i], s1, R1, .cons hv .nil, Fin.noEr q⟩
          · rw [if_neg hc] at q; exact q.elim
        | _ => exact q.elim
    | _ => exact q.elim⟩
/-- C(..): a new instance, then its __init__ -/
theorem le_makeC {e : Expr} {es : List Expr} {ms : List ME} {C k n : Nat} {x : Str} {g : Addr} {fd : FuncData} {ps : List Str} {F : MF} {p : Pos} (M : Mk X.K (κ C) g)
    (G : FnOk X.prog X.w X.K X.mg X.base CX0 k g fd ps (spF0 X.K κ n F)) (hr : Room (k + 1) X.A) (hg : Gl X x) (hm : X.mg x = some (.ref (κ C))) (hb : Binds X.K fd ps []) (ha : LA X κ W (e :: es) ms) (hn : ms.length + 1 = n := by rfl)
    (hdb : (x == ("__debug__" : Str)) = false := by decide) (he : starEach (e :: es) X.env = (false, eval e X.env) :: starEach es X.env := by rfl) (hpl : (backTo pos (starEach es X.env)).any (·.1) = false := by rfl) :
    LE X κ W (.Call (.Name x p) (e :: es) [] pos) (mCall (noE (mMake C F)) ms) :=
  PE.by (pe_make (E := E0) M G hr hg hm hb .nil pass0 ha hdb he hpl) fun σ H Q ⟨ρ, σd, s, R, hE, h⟩ => ⟨ρ, σd, s, R, hE, (Fin.args (Fin.bind h)).mono fun ds ρ1 s1 H1 x1 R1 ⟨hnn, h1⟩ vs hvs => fun q dx nq ndx hne => by
    show spF0 X.K κ n F (.ref q :: (vs ++ [])) _ _ E0
    rw [List.append_nil]
    have nq' : upd H1 dx (.own q) q = none := by rw [upd_ne (fun z => hne z.symm)]; exact nq
    have R2 : Rel X.K κ ρ1 (upd H1 dx (.own q)) s1 := R1.lay ndx
    have R3 : Rel X.K κ (ρ1 ++ [q]) (upd (upd H1 dx (.own q)) q (.ins (κ C) dx [])) (s1 ++ [.ins C []]) := R2.new nq' ⟨dx, [], upd_same, rfl, rfl⟩
    have x3 : Step ρ1 H1 (ρ1 ++ [q]) (upd (upd H1 dx (.own q)) q (.ins (κ C) dx [])) := (Step.lay ndx).trans (Step.new nq')
    have h2 := Fin.bind (W := W0) (σ := []) (r := F (.loc s1.length :: ds) (s1 ++ [.ins C []])) (Fin.noEr h1)
    refine ⟨by rw [List.length_cons, hvs.length, hnn, hn], ρ1 ++ [q], .loc s1.length :: ds, s1 ++ [.ins C []], R3, .cons (by rw [← R1.len]; exact VR.last) (VRs.later R1 x3 _ _ hvs), ?_⟩
    refine (Fin.step h2 x3).mono fun d ρ4 s4 H4 x4 R4 q4 v hv => ?_
    cases d with
    | non =>
      refine ⟨by simpa only [VR] using hv, q4 ρ4 H4 Step.refl R4 _ (VR.later R3 x4 _ _ ?_)⟩
      rw [← R1.len]; exact VR.last
    | _ => exact q4.elim⟩
/-- the def m of the class C does what F does -/
def CalM (P : Program) (w : World) (K : PySem.W.Frag) (mg : Str → Option Value) (base : Heap) (κ : Kap) (k C : Nat) (m : Str) (n : Nat) (F : MF) : Prop :=
  ∃ (f : Addr) (fd : FuncData) (ps : List Str), FnOk P w K mg base CX0 k f fd ps (spF0 K κ n F) ∧ Cls K (κ C) ∧ Meth K (κ C) m f ∧ Binds K fd ps []
/-- x, called, makes an instance of C by F -/
def CalN (P : Program) (w : World) (K : PySem.W.Frag) (mg : Str → Option Value) (base : Heap) (κ : Kap) (k C : Nat) (x : Str) (n : Nat) (F : MF) : Prop :=
  ∃ (f : Addr) (fd : FuncData) (ps : List Str), FnOk P w K mg base CX0 k f fd ps (spF0 K κ n F) ∧ Mk K (κ C) f ∧ mg x = some (.ref (κ C)) ∧ Binds K fd ps []
section
variable {P : Program} {w : World} {K : PySem.W.Frag} {mg : Str → Option Value} {base : Heap} {j k C n : Nat} {m x : Str} {F : MF}
theorem CalM.mono (c : CalM P w K mg base κ j C m n F) (h : j ≤ k) : CalM P w K mg base κ k C m n F := by
  obtain ⟨f, fd, ps, a, b, c, d⟩ := c
  exact ⟨f, fd, ps, a.mono h, b, c, d⟩
theorem CalN.mono (c : CalN P w K mg base κ j C x n F) (h : j ≤ k) : CalN P w K mg base κ k C x n F := by
  obtain ⟨f, fd, ps, a, b, c, d⟩ := c
  exact ⟨f, fd, ps, a.mono h, b, c, d⟩
end
theorem le_methM {e : Expr} {es : List Expr} {ms : List ME} {C k n : Nat} {m : Str} {F : MF} {apos : Pos} {pl : Sem Bool} (c : CalM X.prog X.w X.K X.mg X.base κ k C m n F) (hr : Room k X.A) (ho : LE X κ W a ma) (ha : LA X κ W (e :: es) ms) (hn : ms.length + 1 = n := by rfl)
    (hst : starEach (e :: es) X.env = (false, eval e X.env) :: starEach es X.env := by rfl) (hpl : (backTo pos (starEach es X.env)).any (·.1) = false := by rfl)
    (ht : eval (.Call (.Attribute a m apos) (e :: es) [] pos) X.env = (do
      let ov ← eval a X.env
      standAt apos.atName
      let (f, first) ← holding [ov] (getMethod ov m pl)
      callWith pos f first (backTo pos (starEach (e :: es) X.env)) (backToKw pos (keywordEach [] X.env))) := by rfl) :
    LE X κ W (.Call (.Attribute a m apos) (e :: es) [] pos) (mMethC C m F ma ms) := by
  obtain ⟨f, fd, ps, G, hc, hm, hb⟩ := c
  exact le_methC ho hc hm G hr hb ha hn hst hpl ht
theorem le_methM0 {C k : Nat} {m : Str} {F : MF} {apos : Pos} {pl : Sem Bool} (c : CalM X.prog X.w X.K X.mg X.base κ k C m 1 F) (hr : Room k X.A) (ho : LE X κ W a ma)
    (ht : eval (.Call (.Attribute a m apos) [] [] pos) X.env = (do
      let ov ← eval a X.env
      standAt apos.atName
      let (f, first) ← holding [ov] (getMethod ov m pl)
      callWith pos f first (backTo pos (starEach [] X.env)) (backToKw pos (keywordEach [] X.env))) := by rfl) :
    LE X κ W (.Call (.Attribute a m apos) [] [] pos) (mMethC C m F ma []) := by
  obtain ⟨f, fd, ps, G, hc, hm, hb⟩ := c
  exact le_methC0 ho hc hm G hr hb ht
theorem le_makeN {e : Expr} {es : List Expr} {ms : List ME} {C k n : Nat} {x : Str} {F : MF} {p : Pos} (c : CalN X.prog X.w X.K X.mg X.base κ k C x n F) (hr : Room (k + 1) X.A) (hg : Gl X x) (ha : LA X κ W (e :: es) ms) (hn : ms.length + 1 = n := by rfl)
    (hdb : (x == ("__debug__" : Str)) = false := by decide) (he : starEach (e :: es) X.env = (false, eval e X.env) :: starEach es X.env := by rfl) (hpl : (backTo pos (starEach es X.env)).any (·.1) = false := by rfl) :
    LE X κ W (.Call (.Name x p) (e :: es) [] pos) (mCall (noE (mMake C F)) ms) := by
  obtain ⟨f, fd, ps, G, M, hm, hb⟩ := c
  exact le_makeC M G hr hg hm hb ha hn hdb he hpl
end
end
end Mid
/-! MidW: what holds behind a piece of the plain model. -/
namespace Mid
open PySem Classical
noncomputable section
def Rm.to {α : Type} (r : Rm α) (Q : α → Mst → Prop) : Prop := match r with
  | .ok a s => Q a s
  | _ => False
def Sm.to (r : Sm) (N : Men → Mst → Prop) (R : Dv → Mst → Prop) (C B : Men → Mst → Prop) : Prop := match r with
  | .nx σ s => N σ s
  | .rt d s => R d s
  | .ct σ s => C σ s
  | .bk σ s => B σ s
  | _ => False
def Dv.toB (d : Dv) (Q : Bool → Prop) : Prop := match d with
  | .bl c => Q c
  | _ => False
def Dv.toI (d : Dv) (Q : Int → Prop) : Prop := match d with
  | .int c => Q c
  | _ => False
def Dv.toS (d : Dv) (Q : Str → Prop) : Prop := match d with
  | .str c => Q c
  | _ => False
@[simp] theorem toB_bl (c : Bool) (Q : Bool → Prop) : (Dv.bl c).toB Q = Q c := id rfl
@[simp] theorem toI_int (c : Int) (Q : Int → Prop) : (Dv.int c).toI Q = Q c := id rfl
@[simp] theorem toS_str (c : Str) (Q : Str → Prop) : (Dv.str c).toS Q = Q c := id rfl
section
variable {α β : Type} {Q Q' : α → Mst → Prop} {N N' : Men → Mst → Prop} {R R' : Dv → Mst → Prop} {C B C' B' : Men → Mst → Prop} {σ : Men} {s : Mst}
@[simp] theorem to_ok (a : α) : (Rm.ok a s).to Q = Q a s := id rfl
@[simp] theorem to_bad : (Rm.bad : Rm α).to Q = False := id rfl
theorem to_bind (r : Rm α) (f : α → Mst → Rm β) (Q : β → Mst → Prop) : (r.bind f).to Q = r.to fun a s => (f a s).to Q := by cases r <;> rfl
@[simp] theorem to_noEr (r : Rm α) : r.noEr.to Q = r.to Q := by cases r <;> rfl
theorem to_mono {r : Rm α} (h : r.to Q) (f : ∀ a s, Q a s → Q' a s) : r.to Q' := by
  cases r with
  | ok a s => exact f a s h
  | er e s => exact h
  | bad => exact h
theorem to_ex {r : Rm α} (h : r.to Q) : ∃ a s, r = .ok a s ∧ Q a s := by
  cases r with
  | ok a s => exact ⟨a, s, rfl, h⟩
  | er e s => exact h.elim
  | bad => exact h.elim
theorem sto_mono {r : Sm} (h : r.to N R C B) (f : ∀ a s, N a s → N' a s) (g : ∀ a s, R a s → R' a s) (hc : ∀ a s, C a s → C' a s) (hb : ∀ a s, B a s → B' a s) : r.to N' R' C' B' := by
  cases r with
  | nx a s => exact f a s h
  | rt a s => exact g a s h
  | ct a s => exact hc a s h
  | bk a s => exact hb a s h
  | er e a s => exact h
  | bad => exact h
@[simp] theorem to_nx : (Sm.nx σ s).to N R C B = N σ s := id rfl
@[simp] theorem to_rt (d : Dv) : (Sm.rt d s).to N R C B = R d s := id rfl
theorem to_st (r : Rm α) (f : α → Mst → Sm) : (r.st σ f).to N R C B = r.to fun a s => (f a s).to N R C B := by cases r <;> rfl
theorem to_andThen (r : Sm) (f : MS) : (r.andThen f).to N R C B = r.to (fun σ s => (f σ s).to N R C B) R C B := by cases r <;> rfl
theorem to_turn (r : Sm) (f : MS) : (r.turn f).to N R C B = r.to (fun σ s => (f σ s).to N R C B) R (fun σ s => (f σ s).to N R C B) N := by cases r <;> rfl
/-! statements -/
@[simp] theorem w_seq (a b : MS) : (msSeq a b σ s).to N R C B = (a σ s).to (fun σ s => (b σ s).to N R C B) R C B := to_andThen _ _
@[simp] theorem w_nx : (msNx σ s).to N R C B = N σ s := id rfl
@[simp] theorem w_brk : (msBrk σ s).to N R C B = B σ s := id rfl
@[simp] theorem w_cnt : (msCnt σ s).to N R C B = C σ s := id rfl
@[simp] theorem w_set (i : Nat) (e : ME) : (msSet i e σ s).to N R C B = (e σ s).to fun d s => N (σ.set i (some d)) s := to_st _ _
@[simp] theorem w_asg (g : MG) (e : ME) : (msAsg g e σ s).to N R C B = (e σ s).to fun d s => (g d σ s).to fun σ' s => N σ' s := by
  unfold msAsg; rw [to_st]; congr; funext d s'; rw [to_st]; rfl
@[simp] theorem w_exp (e : ME) : (msExp e σ s).to N R C B = (e σ s).to fun _ s => N σ s := to_st _ _
@[simp] theorem w_ret (e : ME) : (msRet e σ s).to N R C B = (e σ s).to R := to_st _ _
@[simp] theorem w_retN : (msRetN σ s).to N R C B = R .non s := id rfl
@[simp] theorem w_if (t : MT) (a b : MS) : (msIf t a b σ s).to N R C B = (t σ s).to fun c s => if c = true then (a σ s).to N R C B else (b σ s).to N R C B := by
  unfold msIf; rw [to_st]; congr; funext c s'; cases c <;> rfl
@[simp] theorem w_put (f : Dv → Dv → Dv → Mst → Rm Unit) (o i e : ME) : (msPut f o i e σ s).to N R C B = (e σ s).to fun v s => (o σ s).to fun x s => (i σ s).to fun y s => (f x y v s).to fun _ s => N σ s := by
  unfold msPut; rw [to_st]; congr; funext v s1; rw [to_st]; congr; funext x s2; rw [to_st]; congr; funext y s3; rw [to_st]; rfl
@[simp] theorem w_for (it : MI) (g : MG) (b : MS) : (msFor it g b σ s).to N R C B = (it σ s).to fun i s => (forF i.src g b i.xs σ s).to N R C B := to_st _ _
/-! expressions -/
theorem mVar_eq {i : Nat} {d : Dv} (h : σ[i]? = some (some d)) : mVar i σ s = .ok d s := by unfold mVar; rw [h]
@[simp] theorem v0 (d : Dv) (r : Men) : mVar 0 (some d :: r) s = .ok d s := id rfl
@[simp] theorem vS (o : Option Dv) (i : Nat) (r : Men) : mVar (i + 1) (o :: r) s = mVar i r s := id rfl
@[simp] theorem mC_eq (d : Dv) : mC d σ s = .ok d s := id rfl
section
variable {Q : Dv → Mst → Prop}
@[simp] theorem w_op (f : Dv → Dv → Mst → Rm Dv) (a b : ME) : (mOp f a b σ s).to Q = (a σ s).to fun x s => (b σ s).to fun y s => (f x y s).to Q := by
  unfold mOp; rw [to_bind]; congr; funext x s1; rw [to_bind]
@[simp] theorem w_un (f : Dv → Mst → Rm Dv) (a : ME) : (mUn f a σ s).to Q = (a σ s).to fun x s => (f x s).to Q := to_bind _ _ _
@[simp] theorem w_tup (ms : List ME) : (mTup ms σ s).to Q = (mArgs ms σ s).to fun ds s => Q (.tup ds) s := to_bind _ _ _
@[simp] theorem w_lst (ms : List ME) : (mLst ms σ s).to Q = (mArgs ms σ s).to fun ds s => Q (.loc s.length) (s ++ [.lst ds]) := to_bind _ _ _
@[simp] theorem w_call (F : MF) (ms : List ME) : (mCall F ms σ s).to Q = (mArgs ms σ s).to fun ds s => (F ds s).to Q := to_bind _ _ _
@[simp] theorem w_noE (F : MF) (ds : List Dv) : (noE F ds s).to Q = (F ds s).to Q := to_noEr _
@[simp] theorem w_meth (T : String) (F : MF) (m : ME) (ms : List ME) : (mMeth T F m ms σ s).to Q = (m σ s).to fun d s => tyQ d s = T ∧ (mArgs ms σ s).to fun ds s => (F (d :: ds) s).to Q := by
  unfold mMeth; rw [to_bind]; congr; funext x s1
  by_cases h : tyQ x s1 = T
  · rw [if_pos h, to_bind]; simp [h]
  · rw [if_neg h]; simp [h]
@[simp] theorem w_and (a b : ME) : (mAnd a b σ s).to Q = (a σ s).to fun d s => d.toB fun c => if c = true then (b σ s).to Q else Q (.bl false) s := by
  unfold mAnd mtVal; rw [to_bind, to_bind]; congr; funext d s1
  cases d with
  | bl c => cases c <;> rfl
  | _ => rfl
@[simp] theorem w_or (a b : ME) : (mOr a b σ s).to Q = (a σ s).to fun d s => d.toB fun c => if c = true then Q (.bl true) s else (b σ s).to Q := by
  unfold mOr mtVal; rw [to_bind, to_bind]; congr; funext d s1
  cases d with
  | bl c => cases c <;> rfl
  | _ => rfl
@[simp] theorem w_not (a : ME) : (mNot a σ s).to Q = (a σ s).to fun d s => d.toB fun c => Q (.bl (!c)) s := by
  unfold mNot mtVal; rw [to_bind, to_bind]; congr; funext d s1
  cases d <;> rfl
@[simp] theorem w_ife (t : MT) (a b : ME) : (mIf t a b σ s).to Q = (t σ s).to fun c s => if c = true then (a σ s).to Q else (b σ s).to Q := by
  unfold mIf; rw [to_bind]; congr; funext c s1; cases c <;> rfl
@[simp] theorem w_lc (it : MI) (g : MG) (t : MT) (e : ME) (vs : List Nat) : (mLc it g t e vs σ s).to Q = (it σ s).to fun i s => (lcF i.src g t e (mWipe σ vs) i.xs s).to fun ds s => i.xs.length < 2 ^ 24 ∧ Q (.loc s.length) (s ++ [.lst ds]) := by
  unfold mLc; rw [to_bind]; congr; funext i s1; rw [to_bind, to_noEr]; congr; funext ds s2
  by_cases h : i.xs.length < 2 ^ 24
  · rw [if_pos h]; simp [h]
  · rw [if_neg h]; simp [h]
@[simp] theorem w_slice (m : ME) (lo hi : MO') : (mSlice m lo hi σ s).to Q = (m σ s).to fun x s => (lo σ s).to fun l s => (hi σ s).to fun h s => (slQ x l h s).to Q := by
  unfold mSlice; rw [to_bind]; congr; funext x s1; rw [to_bind]; congr; funext l s2; rw [to_bind]
@[simp] theorem w_disp (ps : List (ME × ME)) : (mDisp ps σ s).to Q = (mPairs ps σ s).to fun l s => ∃ kvs, dispQ l = some kvs ∧ Q (.loc s.length) (s ++ [.dK (kputs [] kvs)]) := by
  unfold mDisp; rw [to_bind]; congr; funext l s1
  cases dispQ l with
  | none => simp
  | some kvs => simp [mNew]
@[simp] theorem w_listRg (a b : ME) : (bListRg a b σ s).to Q = (a σ s).to fun x s => (b σ s).to fun y s => x.toI fun i => y.toI fun j => (-(2 ^ 62) ≤ i ∧ i < 2 ^ 62 ∧ -(2 ^ 62) ≤ j ∧ j < 2 ^ 62 ∧ (j - i).toNat ≤ 2 ^ 24) ∧ Q (.loc s.length) (s ++ [.lst (rngI i (j - i).toNat)]) := by
  unfold bListRg; rw [to_bind]; congr; funext x s1; rw [to_bind]; congr; funext y s2
  cases x with
  | int i =>
    cases y with
    | int j =>
      simp only [toI_int]
      by_cases h : -(2 ^ 62) ≤ i ∧ i < 2 ^ 62 ∧ -(2 ^ 62) ≤ j ∧ j < 2 ^ 62 ∧ (j - i).toNat ≤ 2 ^ 24
      · rw [if_pos h]; simp only [h, true_and, and_self]; rfl
      · rw [if_neg h]; simp only [to_bad, false_iff, eq_iff_iff]; exact fun z => h z.1
    | _ => rfl
  | _ => rfl
@[simp] theorem w_ofO (o : Option α) (Q : α → Mst → Prop) : (ofO o s).to Q = ∃ d, o = some d ∧ Q d s := by
  cases o <;> simp
@[simp] theorem w_new (o : MO) : (mNew o s).to Q = Q (.loc s.length) (s ++ [o]) := id rfl
end
@[simp] theorem w_args0 {Q : List Dv → Mst → Prop} : (mArgs [] σ s).to Q = Q [] s := id rfl
@[simp] theorem w_argsS {Q : List Dv → Mst → Prop} (m : ME) (ms : List ME) : (mArgs (m :: ms) σ s).to Q = (m σ s).to fun d s => (mArgs ms σ s).to fun ds s => Q (d :: ds) s := by
  show ((m σ s).bind fun d s1 => (mArgs ms σ s1).bind fun ds s2 => .ok (d :: ds) s2).to Q = _
  rw [to_bind]; congr; funext d s1; rw [to_bind]; rfl
@[simp] theorem w_pairs0 {Q : List (Dv × Dv) → Mst → Prop} : (mPairs [] σ s).to Q = Q [] s := id rfl
@[simp] theorem w_pairsS {Q : List (Dv × Dv) → Mst → Prop} (k v : ME) (r : List (ME × ME)) : (mPairs ((k, v) :: r) σ s).to Q = (k σ s).to fun a s => (v σ s).to fun b s => (mPairs r σ s).to fun l s => Q ((a, b) :: l) s := by
  show ((k σ s).bind fun a s1 => (v σ s1).bind fun b s2 => (mPairs r σ s2).bind fun l s3 => .ok ((a, b) :: l) s3).to Q = _
  rw [to_bind]; congr; funext d s1; rw [to_bind]; congr; funext b s2; rw [to_bind]; rfl
@[simp] theorem w_poN {Q : Option Int → Mst → Prop} : (poN σ s).to Q = Q none s := id rfl
@[simp] theorem w_poS {Q : Option Int → Mst → Prop} (m : ME) : (poS m σ s).to Q = (m σ s).to fun d s => d.toI fun i => Q (some i) s := by
  unfold poS; rw [to_bind]; congr; funext d s1; cases d <;> rfl
/-! tests -/
section
variable {Q : Bool → Mst → Prop}
@[simp] theorem w_tval (m : ME) : (mtVal m σ s).to Q = (m σ s).to fun d s => d.toB fun c => Q c s := by
  unfold mtVal; rw [to_bind]; congr; funext d s1; cases d <;> rfl
@[simp] theorem w_tand (a b : MT) : (mtAnd a b σ s).to Q = (a σ s).to fun c s => if c = true then (b σ s).to Q else Q false s := by
  unfold mtAnd; rw [to_bind]; congr; funext c s1; cases c <;> rfl
@[simp] theorem w_tor (a b : MT) : (mtOr a b σ s).to Q = (a σ s).to fun c s => if c = true then Q true s else (b σ s).to Q := by
  unfold mtOr; rw [to_bind]; congr; funext c s1; cases c <;> rfl
@[simp] theorem w_tnot (a : MT) : (mtNot a σ s).to Q = (a σ s).to fun c s => Q (!c) s := to_bind _ _ _
@[simp] theorem w_tyes : (mtYes σ s).to Q = Q true s := id rfl
end
/-! what is walked; targets -/
section
variable {Q : Mit → Mst → Prop}
@[simp] theorem w_iseq (m : ME) : (miSeq m σ s).to Q = (m σ s).to fun d s => (itSeq d s).to Q := to_bind _ _ _
@[simp] theorem w_irng1 (m : ME) : (miRng1 m σ s).to Q = (m σ s).to fun d s => d.toI fun j => (-(2 ^ 62) ≤ j ∧ j < 2 ^ 62) ∧ Q ⟨rngI 0 j.toNat, []⟩ s := by
  unfold miRng1; rw [to_bind]; congr; funext d s1
  cases d with
  | int j =>
    simp only [toI_int]
    by_cases h : -(2 ^ 62) ≤ j ∧ j < 2 ^ 62
    · rw [if_pos h]; simp only [h, true_and, and_self, to_ok]
    · rw [if_neg h]; simp only [to_bad, false_iff, eq_iff_iff]; exact fun z => h z.1
  | _ => rfl
@[simp] theorem w_irng2 (m1 m2 : ME) : (miRng2 m1 m2 σ s).to Q = (m1 σ s).to fun d s => (m2 σ s).to fun e s => d.toI fun i => e.toI fun j => (-(2 ^ 62) ≤ i ∧ i < 2 ^ 62 ∧ -(2 ^ 62) ≤ j ∧ j < 2 ^ 62) ∧ Q ⟨rngI i (j - i).toNat, []⟩ s := by
  unfold miRng2; rw [to_bind]; congr; funext d s1; rw [to_bind]; congr; funext e s2
  cases d with
  | int i =>
    cases e with
    | int j =>
      simp only [toI_int]
      by_cases h : -(2 ^ 62) ≤ i ∧ i < 2 ^ 62 ∧ -(2 ^ 62) ≤ j ∧ j < 2 ^ 62
      · rw [if_pos h]; simp only [h, true_and, and_self, to_ok]
      · rw [if_neg h]; simp only [to_bad, false_iff, eq_iff_iff]; exact fun z => h z.1
    | _ => rfl
  | _ => rfl
@[simp] theorem w_izip (m1 m2 : ME) : (miZip m1 m2 σ s).to Q = (m1 σ s).to fun d s => (m2 σ s).to fun e s => ∃ b l r m q, zipQ d s = some (b, l, r) ∧ zipQ e s = some (b, m, q) ∧ Q ⟨List.zipWith (fun x y => .ptup [x, y]) l m, r ++ q⟩ s := by
  unfold miZip; rw [to_bind]; congr; funext d s1; rw [to_bind]; congr; funext e s2
  cases zipQ d s2 with
  | none => simp
  | some x =>
    cases zipQ e s2 with
    | none => simp
    | some y =>
      obtain ⟨b, l, r⟩ := x
      obtain ⟨c, m, q⟩ := y
      simp only
      by_cases h : b = c
      · subst h
        rw [if_pos rfl, to_ok, eq_iff_iff]
        exact ⟨fun z => ⟨b, l, r, m, q, rfl, rfl, z⟩, fun ⟨b', l', r', m', q', e1, e2, z⟩ => by cases e1; cases e2; exact z⟩
      · rw [if_neg h, to_bad, eq_iff_iff]
        exact ⟨fun z => z.elim, fun ⟨b', l', r', m', q', e1, e2, z⟩ => h (by cases e1; cases e2; rfl)⟩
@[simp] theorem w_ienum (m : ME) : (miEnum m σ s).to Q = (m σ s).to fun d s => ∃ c l r, zipQ d s = some (c, l, r) ∧ Q ⟨(l.zipIdx).map fun p => .ptup [.int p.2, p.1], r⟩ s := by
  unfold miEnum; rw [to_bind]; congr; funext d s1
  cases zipQ d s1 with
  | none => simp
  | some x =>
    obtain ⟨b, l, r⟩ := x
    rw [eq_iff_iff]
    exact ⟨fun z => ⟨b, l, r, rfl, z⟩, fun ⟨b', l', r', e, z⟩ => by cases e; exact z⟩
end
@[simp] theorem w_gN {Q : Men → Mst → Prop} (i : Nat) (d : Dv) : (gN i d σ s).to Q = Q (σ.set i (some d)) s := id rfl
@[simp] theorem w_gT {Q : Men → Mst → Prop} (gs : List MG) (l : List Dv) : (gT gs (.tup l) σ s).to Q = (l.length = gs.length ∧ (gEach gs l σ s).to Q) := by
  unfold gT
  simp only
  by_cases h : l.length = gs.length
  · rw [if_pos h, to_noEr]; simp [h]
  · rw [if_neg h]; simp [h]
@[simp] theorem w_gTp {Q : Men → Mst → Prop} (gs : List MG) (l : List Dv) : (gT gs (.ptup l) σ s).to Q = (l.length = gs.length ∧ (gEach gs l σ s).to Q) := by
  unfold gT
  simp only
  by_cases h : l.length = gs.length
  · rw [if_pos h, to_noEr]; simp [h]
  · rw [if_neg h]; simp [h]
@[simp] theorem w_chain (f g : Dv → Dv → Mst → Rm Dv) (a b c : ME) {Q : Dv → Mst → Prop} : (mChain f g a b c σ s).to Q = (a σ s).to fun x s => (b σ s).to fun y s => (f x y s).to fun z s => z.toB fun d => if d = true then (c σ s).to (fun w s => (g y w s).to Q) else Q (.bl false) s := by
  unfold mChain; rw [to_bind]; congr; funext x s1; rw [to_bind]; congr; funext y s2; rw [to_bind]; congr; funext z s3
  cases z with
  | bl d =>
    cases d with
    | true => simp only [toB_bl, if_true]; rw [to_bind]
    | false => simp only [toB_bl, Bool.false_eq_true, if_false]; rfl
  | _ => rfl
@[simp] theorem w_gE0 {Q : Men → Mst → Prop} : (gEach [] [] σ s).to Q = Q σ s := id rfl
@[simp] theorem w_gES {Q : Men → Mst → Prop} (g : MG) (gs : List MG) (d : Dv) (ds : List Dv) : (gEach (g :: gs) (d :: ds) σ s).to Q = (g d σ s).to fun σ s => (gEach gs ds σ s).to Q := to_bind _ _ _
@[simp] theorem wipe0 : mWipe σ [] = σ := id rfl
@[simp] theorem wipeS (i : Nat) (r : List Nat) : mWipe σ (i :: r) = (mWipe σ r).set i none := id rfl
/-! a def -/
theorem w_fun {k n : Nat} {b : MS} {ds : List Dv} {Q : Dv → Mst → Prop} (hl : ds.length = k) : (mFun k n b ds s).to Q = (b (mStart n ds) s).to (fun _ s => Q .non s) Q (fun _ _ => False) (fun _ _ => False) := by
  unfold mFun
  rw [if_pos hl]
  cases b (mStart n ds) s <;> rfl
end
theorem fun_to {k n : Nat} {b : MS} {ds : List Dv} {s : Mst} {Q : Dv → Mst → Prop} (hl : ds.length = k) (h : (b (mStart n ds) s).to (fun _ s => Q .non s) Q (fun _ _ => False) (fun _ _ => False)) : (mFun k n b ds s).to Q := by
  rw [w_fun hl]; exact h
theorem fun_at {k n : Nat} {b : MS} {ds : List Dv} {s : Mst} {Q : Dv → Mst → Prop} (σ : Men) (hl : ds.length = k) (e : mStart n ds = σ) (h : (b σ s).to (fun _ s => Q .non s) Q (fun _ _ => False) (fun _ _ => False)) : (mFun k n b ds s).to Q := by
  subst e; exact fun_to hl h
/-! ### loops -/
section
variable {N : Men → Mst → Prop} {R : Dv → Mst → Prop} {C B : Men → Mst → Prop} {σ : Men} {s : Mst}
/-- a for: I by the number of items gone through -/
theorem for_by {src : List (Nat × List Dv)} {g : MG} {b : MS} {xs : List Dv} (I : Nat → Men → Mst → Prop) (h0 : I 0 σ s) (hst : ∀ i σ s, I i σ s → Mit.stays src s)
    (step : ∀ i x σ s, xs[i]? = some x → I i σ s → (g x σ s).to fun σ s => (b σ s).to (I (i + 1)) R (I (i + 1)) N) (fin : ∀ σ s, I xs.length σ s → N σ s) : (forF src g b xs σ s).to N R C B := by
  have key : ∀ (r : List Dv) (i : Nat) σ s, xs.drop i = r → i ≤ xs.length → I i σ s → (forF src g b r σ s).to N R C B := by
    intro r
    induction r with
    | nil =>
      intro i σ s hd hi h
      unfold forF
      rw [if_pos (hst i σ s h), to_nx]
      have : i = xs.length := Nat.le_antisymm hi (List.drop_eq_nil_iff.mp hd)
      subst this
      exact fin σ s h
    | cons x r ih =>
      intro i σ s hd hi h
      have h1 : xs[i]? = some x := by
        have : xs[i]? = (xs.drop i)[0]? := by simp
        rw [this, hd]; rfl
      have h2 : xs.drop (i + 1) = r := by
        have : xs.drop (i + 1) = (xs.drop i).drop 1 := by rw [List.drop_drop]
        rw [this, hd]; rfl
      have h3 : i < xs.length := (List.getElem?_eq_some_iff.mp h1).1
      unfold forF
      rw [if_pos (hst i σ s h), to_st]
      refine to_mono (step i x σ s h1 h) fun σ1 s1 h4 => ?_
      rw [to_turn]
      exact sto_mono h4 (fun σ2 s2 h5 => ih (i + 1) σ2 s2 h2 h3 h5) (fun _ _ z => z) (fun σ2 s2 h5 => ih (i + 1) σ2 s2 h2 h3 h5) (fun _ _ z => z)
  exact key xs 0 σ s rfl (Nat.zero_le _) h0
/-- a while: I, and a measure that falls -/
theorem while_by {t : MT} {b : MS} (I : Men → Mst → Prop) (μ : Men → Mst → Nat) (h0 : I σ s)
    (step : ∀ σ s, I σ s → (t σ s).to fun c s1 => if c = true then (b σ s1).to (fun σ2 s2 => I σ2 s2 ∧ μ σ2 s2 < μ σ s) R (fun σ2 s2 => I σ2 s2 ∧ μ σ2 s2 < μ σ s) N else N σ s1) : (msWhile t b σ s).to N R C B := by
  have key : ∀ (n : Nat) σ s, μ σ s < n → I σ s → (whileF t b n σ s).to N R C B := by
    intro n
    induction n with
    | zero => intro σ s h _; exact absurd h (Nat.not_lt_zero _)
    | succ n ih =>
      intro σ s h hI
      show ((t σ s).st σ fun c s1 => if c then (b σ s1).turn (whileF t b n) else .nx σ s1).to N R C B
      rw [to_st]
      refine to_mono (step σ s hI) fun c s1 h1 => ?_
      cases c with
      | false => simpa using h1
      | true =>
        simp only [if_true] at h1 ⊢
        rw [to_turn]
        exact sto_mono h1 (fun σ2 s2 ⟨a, b⟩ => ih σ2 s2 (by omega) a) (fun _ _ z => z) (fun σ2 s2 ⟨a, b⟩ => ih σ2 s2 (by omega) a) (fun _ _ z => z)
  have h := key (μ σ s + 1) σ s (Nat.lt_succ_self _) h0
  have e : msWhile t b σ s = whileF t b (μ σ s + 1) σ s := msWhile_of fun z => by rw [z] at h; exact h
  rw [e]
  exact h
/-- a while: I by a measure -/
theorem while_m {t : MT} {b : MS} (I : Nat → Men → Mst → Prop) (h0 : ∃ m, I m σ s)
    (step : ∀ m σ s, I m σ s → (t σ s).to fun c s1 => if c = true then (b σ s1).to (fun σ2 s2 => ∃ m', m' < m ∧ I m' σ2 s2) R (fun σ2 s2 => ∃ m', m' < m ∧ I m' σ2 s2) N else N σ s1) : (msWhile t b σ s).to N R C B := by
  have key : ∀ (n : Nat) m σ s, m < n → I m σ s → (whileF t b n σ s).to N R C B := by
    intro n
    induction n with
    | zero => intro m σ s h _; exact absurd h (Nat.not_lt_zero _)
    | succ n ih =>
      intro m σ s h hI
      show ((t σ s).st σ fun c s1 => if c then (b σ s1).turn (whileF t b n) else .nx σ s1).to N R C B
      rw [to_st]
      refine to_mono (step m σ s hI) fun c s1 h1 => ?_
      cases c with
      | false => simpa using h1
      | true =>
        simp only [if_true] at h1 ⊢
        rw [to_turn]
        exact sto_mono h1 (fun σ2 s2 ⟨m', a, b⟩ => ih m' σ2 s2 (by omega) b) (fun _ _ z => z) (fun σ2 s2 ⟨m', a, b⟩ => ih m' σ2 s2 (by omega) b) (fun _ _ z => z)
  obtain ⟨m, hm⟩ := h0
  have h := key (m + 1) m σ s (Nat.lt_succ_self _) hm
  have e : msWhile t b σ s = whileF t b (m + 1) σ s := msWhile_of fun z => by rw [z] at h; exact h
  rw [e]
  exact h
/-- a comprehension: I by the number of items and what is made -/
theorem lc_by {src : List (Nat × List Dv)} {g : MG} {t : MT} {e : ME} {xs : List Dv} {Q : List Dv → Mst → Prop} (I : Nat → List Dv → Mst → Prop) (h0 : I 0 [] s) (hst : ∀ i ds s, I i ds s → Mit.stays src s)
    (step : ∀ i x ds s, xs[i]? = some x → I i ds s → (g x σ s).to fun σ1 s => (t σ1 s).to fun c s => if c = true then (e σ1 s).to fun d s => I (i + 1) (ds ++ [d]) s else I (i + 1) ds s) (fin : ∀ ds s, I xs.length ds s → Q ds s) : (lcF src g t e σ xs s).to Q := by
  have key : ∀ (r : List Dv) (i : Nat) ds s, xs.drop i = r → i ≤ xs.length → I i ds s → (lcF src g t e σ r s).to fun es s => Q (ds ++ es) s := by
    intro r
    induction r with
    | nil =>
      intro i ds s hd hi h
      unfold lcF
      rw [if_pos (hst i ds s h), to_ok, List.append_nil]
      have : i = xs.length := Nat.le_antisymm hi (List.drop_eq_nil_iff.mp hd)
      subst this
      exact fin ds s h
    | cons x r ih =>
      intro i ds s hd hi h
      have h1 : xs[i]? = some x := by
        have : xs[i]? = (xs.drop i)[0]? := by simp
        rw [this, hd]; rfl
      have h2 : xs.drop (i + 1) = r := by
        have : xs.drop (i + 1) = (xs.drop i).drop 1 := by rw [List.drop_drop]
        rw [this, hd]; rfl
      have h3 : i < xs.length := (List.getElem?_eq_some_iff.mp h1).1
      unfold lcF
      rw [if_pos (hst i ds s h), to_bind]
      refine to_mono (step i x ds s h1 h) fun σ1 s1 h4 => ?_
      rw [to_bind]
      refine to_mono h4 fun c s2 h5 => ?_
      cases c with
      | false =>
        simp only [Bool.false_eq_true, if_false] at h5 ⊢
        exact ih (i + 1) ds s2 h2 h3 h5
      | true =>
        simp only [if_true] at h5 ⊢
        rw [to_bind]
        refine to_mono h5 fun d s3 h6 => ?_
        rw [to_bind]
        refine to_mono (ih (i + 1) (ds ++ [d]) s3 h2 h3 h6) fun es s4 h7 => ?_
        simpa using h7
  simpa using key xs 0 [] s rfl (Nat.zero_le _) h0
end
end
end Mid
/-! MidV: what changes and what stays; operators at known values; data. -/
namespace Mid
open PySem
noncomputable section
/-! ### the list of changing things -/
/-- all but what stands at X stays -/
def Fr (X : List Nat) (s s' : Mst) : Prop := s.length ≤ s'.length ∧ ∀ n, n ∉ X → n < s.length → s'[n]? = s[n]?
section
variable {X Y : List Nat} {s s' s'' t : Mst} {n m : Nat} {o o' : MO}
theorem Fr.refl : Fr X s s := ⟨Nat.le_refl _, fun _ _ _ => rfl⟩
theorem Fr.trans (a : Fr X s s') (b : Fr X s' s'') : Fr X s s'' := ⟨Nat.le_trans a.1 b.1, fun n h l => (b.2 n h (Nat.lt_of_lt_of_le l a.1)).trans (a.2 n h l)⟩
theorem Fr.mono (a : Fr X s s') (h : ∀ n ∈ X, n ∈ Y ∨ s.length ≤ n) : Fr Y s s' := ⟨a.1, fun n hn l => a.2 n (fun z => by
  rcases h n z with q | q
  · exact hn q
  · omega) l⟩
theorem Fr.trans2 (a : Fr X s s') (b : Fr Y s' s'') (h : ∀ n ∈ Y, n ∈ X ∨ s.length ≤ n) : Fr X s s'' := ⟨Nat.le_trans a.1 b.1, fun n hn l => (b.2 n (fun z => by
  rcases h n z with q | q
  · exact hn q
  · omega) (Nat.lt_of_lt_of_le l a.1)).trans (a.2 n hn l)⟩
theorem Fr.app : Fr X s (s ++ t) := ⟨by simp, fun n _ l => List.getElem?_append_left l⟩
theorem Fr.put (a : Fr X s s') (h : n ∈ X ∨ s.length ≤ n) : Fr X s (s'.set n o) := ⟨by simpa using a.1, fun m hm l => by
  rw [List.getElem?_set_ne (fun e => by
    subst e
    rcases h with q | q
    · exact hm q
    · omega)]
  exact a.2 m hm l⟩
theorem Fr.get (a : Fr X s s') (h : s[n]? = some o) (hn : n ∉ X) : s'[n]? = some o := by
  rw [a.2 n hn (List.getElem?_eq_some_iff.mp h).1]; exact h
theorem lt_of (h : s[n]? = some o) : n < s.length := (List.getElem?_eq_some_iff.mp h).1
theorem look_app (h : s[n]? = some o) : (s ++ t)[n]? = some o := by rw [List.getElem?_append_left (lt_of h)]; exact h
theorem look_put (h : s[n]? = some o) : (s.set n o')[n]? = some o' := List.getElem?_set_self (lt_of h)
theorem look_ne (h : s[n]? = some o) (e : m ≠ n) : (s.set m o')[n]? = some o := by rw [List.getElem?_set_ne e]; exact h
@[simp] theorem look_new0 : (s ++ t)[s.length]? = t[0]? := by rw [List.getElem?_append_right (Nat.le_refl _), Nat.sub_self]
@[simp] theorem look_newS (k : Nat) : (s ++ t)[s.length + k]? = t[k]? := by rw [List.getElem?_append_right (Nat.le_add_right _ _), Nat.add_sub_cancel_left]
@[simp] theorem set_new0 : (s ++ t).set s.length o = s ++ t.set 0 o := by rw [List.set_append_right _ _ (Nat.le_refl _), Nat.sub_self]
@[simp] theorem set_newS (k : Nat) : (s ++ t).set (s.length + k) o = s ++ t.set k o := by rw [List.set_append_right _ _ (Nat.le_add_right _ _), Nat.add_sub_cancel_left]
theorem ne_len (h : s[n]? = some o) : n ≠ s.length := Nat.ne_of_lt (lt_of h)
theorem stays_nil : Mit.stays [] s := trivial
end
/-! ### operators at known values -/
section
variable {s : Mst} {i j : Int} {x y : Str} {l m : List Dv} {d e : Dv} {n k : Nat}
@[simp] theorem oAdd_int : oAdd (.int i) (.int j) s = .ok (.int (i + j)) s := id rfl
theorem oAdd_str (h : x.length + y.length ≤ 2 ^ 24) : oAdd (.str x) (.str y) s = .ok (.str (x ++ y)) s := if_pos h
theorem oAdd_tup (h : l.length + m.length ≤ 2 ^ 24) : oAdd (.tup l) (.tup m) s = .ok (.tup (l ++ m)) s := if_pos h
theorem oAdd_lst (h1 : s[n]? = some (.lst l)) (h2 : s[k]? = some (.lst m)) (h : l.length + m.length ≤ 2 ^ 24) : oAdd (.loc n) (.loc k) s = .ok (.loc s.length) (s ++ [.lst (l ++ m)]) := by
  unfold oAdd; simp only; rw [h1, h2]; exact if_pos h
@[simp] theorem oSub_int : oSub (.int i) (.int j) s = .ok (.int (i - j)) s := id rfl
theorem oMod_int (h : 0 < j) : oMod (.int i) (.int j) s = .ok (.int (i % j)) s := by unfold oMod oII; simp only; rw [if_pos h]; rfl
theorem oFdiv_int (h : 0 < j) (h2 : j.natAbs.log2 < 9000) : oFdiv (.int i) (.int j) s = .ok (.int (i / j)) s := by unfold oFdiv oII; simp only; rw [if_pos ⟨h, h2⟩]; rfl
theorem oPow_int (h : 0 ≤ j ∧ j ≤ 1000000 ∧ i.natAbs < 2 ^ 64) : oPow (.int i) (.int j) s = .ok (.int (i ^ j.toNat)) s := by unfold oPow oII; simp only; rw [if_pos h]; rfl
theorem oMul_int (h : i.natAbs.log2 + j.natAbs.log2 < 1000000) : oMul (.int i) (.int j) s = .ok (.int (i * j)) s := if_pos h
@[simp] theorem oLt_int : oLt (.int i) (.int j) s = .ok (.bl (decide (i < j))) s := id rfl
@[simp] theorem oLe_int : oLe (.int i) (.int j) s = .ok (.bl (decide (i ≤ j))) s := id rfl
@[simp] theorem oGt_int : oGt (.int i) (.int j) s = .ok (.bl (decide (j < i))) s := id rfl
@[simp] theorem oGe_int : oGe (.int i) (.int j) s = .ok (.bl (decide (j ≤ i))) s := id rfl
@[simp] theorem uNeg_int : uNeg (.int i) s = .ok (.int (-i)) s := id rfl
@[simp] theorem oIsN_non : oIsN d .non s = .ok (.bl (isNonQ d)) s := id rfl
@[simp] theorem oNotN_non : oNotN d .non s = .ok (.bl (!isNonQ d)) s := id rfl
@[simp] theorem isNonQ_tup : isNonQ (.tup l) = false := id rfl
@[simp] theorem isNonQ_non : isNonQ .non = true := id rfl
@[simp] theorem isNonQ_int : isNonQ (.int i) = false := id rfl
@[simp] theorem isNonQ_bl (b : Bool) : isNonQ (.bl b) = false := id rfl
@[simp] theorem isNonQ_str : isNonQ (.str x) = false := id rfl
@[simp] theorem isNonQ_loc : isNonQ (.loc n) = false := id rfl
/-! scalars compared -/
theorem shaped_int : SeqAt.shaped (.int i) = true := by simp [SeqAt.shaped, PyData.canLay0, PyData.depth]
theorem shaped_bool (b : Bool) : SeqAt.shaped (.bool b) = true := by simp [SeqAt.shaped, PyData.canLay0, PyData.depth]
theorem shaped_none : SeqAt.shaped .none = true := by simp [SeqAt.shaped, PyData.canLay0, PyData.depth]
@[simp] theorem oEq_int : oEq (.int i) (.int j) s = .ok (.bl (decide (i = j))) s := by
  unfold oEq oCmpD
  simp only [dat, shaped_int, and_self, if_true, PyData.eqv]
  rw [Bool.beq_eq_decide_eq]
@[simp] theorem oNe_int : oNe (.int i) (.int j) s = .ok (.bl (!decide (i = j))) s := by
  unfold oNe oCmpD
  simp only [dat, shaped_int, and_self, if_true, PyData.eqv]
  rw [Bool.beq_eq_decide_eq]
@[simp] theorem oEq_bl (b c : Bool) : oEq (.bl b) (.bl c) s = .ok (.bl (b == c)) s := by
  unfold oEq oCmpD
  simp only [dat, shaped_bool, and_self, if_true, PyData.eqv]
@[simp] theorem oNe_bl (b c : Bool) : oNe (.bl b) (.bl c) s = .ok (.bl (!(b == c))) s := by
  unfold oNe oCmpD
  simp only [dat, shaped_bool, and_self, if_true, PyData.eqv]
/-! places -/
theorem ixQ_nat {a b : Nat} (h : b < a) : ixQ a (b : Int) = some b := by
  unfold ixQ; rw [if_pos (by omega), if_pos (by omega)]; simp
theorem atQ_nat {α : Type} {xs : List α} {b : Nat} {z : α} (h : xs[b]? = some z) : atQ xs (b : Int) = some z := by
  unfold atQ; rw [ixQ_nat (List.getElem?_eq_some_iff.mp h).1]; exact h
theorem ixQ_last {a : Nat} (h : 0 < a) : ixQ a (-1) = some (a - 1) := by
  unfold ixQ; rw [if_neg (by omega), if_pos (by omega)]; congr 1; omega
theorem atQ_last {α : Type} {xs : List α} {z : α} (h : xs[xs.length - 1]? = some z) : atQ xs (-1) = some z := by
  unfold atQ; rw [ixQ_last (by have := (List.getElem?_eq_some_iff.mp h).1; omega)]; exact h
theorem getQ_seq (h : seqOf d s = some l) : getQ d (.int i) s = atQ l i := by
  unfold seqOf at h
  unfold getQ
  cases d with
  | tup m => cases h; rfl
  | clst m => cases h; rfl
  | loc n =>
    simp only at h ⊢
    cases q : s[n]? with
    | none => rw [q] at h; cases h
    | some o =>
      rw [q] at h
      cases o with
      | lst m => cases h; rfl
      | _ => cases h
  | _ => cases h
theorem oGet_seq (h : seqOf d s = some l) {b : Nat} {z : Dv} (hz : l[b]? = some z) : oGet d (.int (b : Int)) s = .ok z s := by
  unfold oGet; rw [getQ_seq h, atQ_nat hz]; rfl
theorem oGet_lst (h : s[n]? = some (.lst l)) {b : Nat} {z : Dv} (hz : l[b]? = some z) : oGet (.loc n) (.int (b : Int)) s = .ok z s :=
  oGet_seq (by unfold seqOf; simp only; rw [h]) hz
theorem oGet_tup {b : Nat} {z : Dv} (hz : l[b]? = some z) : oGet (.tup l) (.int (b : Int)) s = .ok z s := oGet_seq rfl hz
theorem oGet_last (h : seqOf d s = some l) {z : Dv} (hz : l[l.length - 1]? = some z) : oGet d (.int (-1)) s = .ok z s := by
  unfold oGet; rw [getQ_seq h, atQ_last hz]; rfl
@[simp] theorem oGet_tup0 : oGet (.tup (d :: l)) (.int 0) s = .ok d s := oGet_tup (b := 0) rfl
@[simp] theorem oGet_tup1 : oGet (.tup (d :: e :: l)) (.int 1) s = .ok e s := oGet_tup (b := 1) rfl
theorem seqOf_lst (h : s[n]? = some (.lst l)) : seqOf (.loc n) s = some l := by unfold seqOf; simp only; rw [h]
@[simp] theorem seqOf_tup : seqOf (.tup l) s = some l := id rfl
theorem lenQ_seq (h : seqOf d s = some l) : lenQ d s = some l.length := by
  unfold seqOf at h
  unfold lenQ
  cases d with
  | tup m => cases h; rfl
  | clst m => cases h; rfl
  | loc n =>
    simp only at h ⊢
    cases q : s[n]? with
    | none => rw [q] at h; cases h
    | some o =>
      rw [q] at h
      cases o with
      | lst m => cases h; rfl
      | _ => cases h
  | _ => cases h
theorem bLen_seq (h : seqOf d s = some l) : bLen [d] s = .ok (.int l.length) s := by
  show ofO ((lenQ d s).map fun n => Dv.int n) s = _; rw [lenQ_seq h]; rfl
theorem bTuple_seq (h : seqOf d s = some l) : bTuple [d] s = .ok (.tup l) s := by
  show ofO ((seqOf d s).map Dv.tup) s = _; rw [h]; rfl
theorem bList_seq (h : seqOf d s = some l) : bList [d] s = .ok (.loc s.length) (s ++ [.lst l]) := by
  show (match seqOf d s with | some l => mNew (.lst l) s | none => .bad) = _; rw [h]; rfl
theorem lstQ_loc (h : s[n]? = some (.lst l)) : bAny.lstQ (.loc n) s = some l := by unfold bAny.lstQ; simp only; rw [h]
theorem blsQ_map (bs : List Bool) : blsQ (bs.map .bl) = some bs := by
  induction bs with
  | nil => rfl
  | cons b r ih => show (blsQ (r.map .bl)).map (b :: ·) = _; rw [ih]; rfl
theorem bAny_lst {bs : List Bool} (h : s[n]? = some (.lst (bs.map .bl))) : bAny [.loc n] s = .ok (.bl (bs.any id)) s := by
  show ofO (((bAny.lstQ (.loc n) s).bind blsQ).map fun bs => Dv.bl (bs.any id)) s = _
  rw [lstQ_loc h, Option.bind_some, blsQ_map]; rfl
theorem bAll_lst {bs : List Bool} (h : s[n]? = some (.lst (bs.map .bl))) : bAll [.loc n] s = .ok (.bl (bs.all id)) s := by
  show ofO (((bAny.lstQ (.loc n) s).bind blsQ).map fun bs => Dv.bl (bs.all id)) s = _
  rw [lstQ_loc h, Option.bind_some, blsQ_map]; rfl
theorem intsQ_map (ns : List Int) : intsQ (ns.map .int) = some ns := by
  induction ns with
  | nil => rfl
  | cons b r ih => show (intsQ (r.map .int)).map (b :: ·) = _; rw [ih]; rfl
theorem strsQ_map (ns : List Str) : strsQ (ns.map .str) = some ns := by
  induction ns with
  | nil => rfl
  | cons b r ih => show (strsQ (r.map .str)).map (b :: ·) = _; rw [ih]; rfl
theorem bSorted_ints {ns : List Int} (h : s[n]? = some (.lst (ns.map .int))) : bSorted [.loc n] s = .ok (.loc s.length) (s ++ [.lst ((srtI ns).map .int)]) := by
  show (match bAny.lstQ (.loc n) s with | some l => _ | none => _) = _
  rw [lstQ_loc h]
  simp only [srtQ, intsQ_map]
  rfl
theorem bSorted_strs {ns : List Str} (h : s[n]? = some (.lst (ns.map .str))) (hl : ns.length < 64) : bSorted [.loc n] s = .ok (.loc s.length) (s ++ [.lst ((srtS ns).map .str)]) := by
  show (match bAny.lstQ (.loc n) s with | some l => _ | none => _) = _
  rw [lstQ_loc h]
  cases ns with
  | nil => rfl
  | cons a r =>
    have e : intsQ ((a :: r).map Dv.str) = none := rfl
    simp only [srtQ, e, strsQ_map, if_pos hl]
    rfl
theorem bSorted_keys {kvs : List (KeyQ × Dv)} {ns : List Int} (h : s[n]? = some (.dK kvs)) (e : kvs.map (·.1) = ns.map Sum.inl) : bSorted [.loc n] s = .ok (.loc s.length) (s ++ [.lst ((srtI ns).map .int)]) := by
  show (match bAny.lstQ (.loc n) s with | some l => _ | none => _) = _
  have e1 : bAny.lstQ (.loc n) s = none := by unfold bAny.lstQ; simp only; rw [h]
  have e2 : (kvs.map fun kv => keyD kv.1) = ns.map .int := by
    have : (kvs.map fun kv => keyD kv.1) = (kvs.map (·.1)).map keyD := by rw [List.map_map]; rfl
    rw [this, e, List.map_map]; rfl
  rw [e1]
  simp only [h, e2, srtQ, intsQ_map]
  rfl
/-! dicts -/
theorem kval_some {α : Type} [DecidableEq α] {kvs : List (α × Dv)} {k : α} : (kval kvs k).isSome = true ↔ k ∈ kvs.map (·.1) := by
  unfold kval
  induction kvs with
  | nil => simp
  | cons a r ih =>
    by_cases h : a.1 = k
    · simp [List.find?_cons, h]
    · have h' : ¬ k = a.1 := fun z => h z.symm
      simp only [List.find?_cons, decide_eq_false h, List.map_cons, List.mem_cons, h', false_or]
      simpa using ih
theorem inQ_dict {kvs : List (KeyQ × Dv)} {q : KeyQ} (h : s[n]? = some (.dK kvs)) (hk : keyQ d = some q) : inQ d (.loc n) s = some (kval kvs q).isSome := by
  unfold inQ
  simp only [h, hk]
theorem oIn_dict {kvs : List (KeyQ × Dv)} {q : KeyQ} (h : s[n]? = some (.dK kvs)) (hk : keyQ d = some q) : oIn d (.loc n) s = .ok (.bl (kval kvs q).isSome) s := by
  unfold oIn; rw [inQ_dict h hk]; rfl
theorem oNotIn_dict {kvs : List (KeyQ × Dv)} {q : KeyQ} (h : s[n]? = some (.dK kvs)) (hk : keyQ d = some q) : oNotIn d (.loc n) s = .ok (.bl (!(kval kvs q).isSome)) s := by
  unfold oNotIn; rw [inQ_dict h hk]; rfl
theorem kput_new {α : Type} [DecidableEq α] {kvs : List (α × Dv)} {k : α} (h : k ∉ kvs.map (·.1)) : kput kvs k d = kvs ++ [(k, d)] := by
  unfold kput
  rw [if_neg]
  intro z
  rw [List.any_eq_true] at z
  obtain ⟨a, ha, hb⟩ := z
  exact h (List.mem_map.mpr ⟨a, ha, of_decide_eq_true hb⟩)
theorem oGet_dict {kvs : List (KeyQ × Dv)} {q : KeyQ} {z : Dv} (h : s[n]? = some (.dK kvs)) (hk : keyQ d = some q) (hz : kval kvs q = some z) : oGet (.loc n) d s = .ok z s := by
  unfold oGet getQ; simp only [h, hk, hz]; rfl
theorem oPut_dict {kvs : List (KeyQ × Dv)} {q : KeyQ} (h : s[n]? = some (.dK kvs)) (hk : keyQ d = some q) (hl : kvs.length < 2 ^ 24) : oPut (.loc n) d e s = .ok () (s.set n (.dK (kput kvs q e))) := by
  unfold oPut putQ; simp only [h, hk, if_pos hl]
theorem oPut_lst (h : s[n]? = some (.lst l)) (hl : k < l.length) : oPut (.loc n) (.int (k : Int)) e s = .ok () (s.set n (.lst (l.set k e))) := by
  unfold oPut putQ; simp only [h, ixQ_nat hl]; rfl
/-! lists -/
theorem tAppend_lst (h : s[n]? = some (.lst l)) (hl : l.length < 2 ^ 24) : tAppend [.loc n, d] s = .ok .non (s.set n (.lst (l ++ [d]))) := by
  unfold tAppend onLst; simp only [h, if_pos hl]
theorem tClear_lst (h : s[n]? = some (.lst l)) : tClear [.loc n] s = .ok .non (s.set n (.lst [])) := by
  unfold tClear onLst; simp only [h]
theorem tPop_lst (h : s[n]? = some (.lst (l ++ [d]))) : tPop [.loc n] s = .ok d (s.set n (.lst l)) := by
  unfold tPop onLst; simp only [h]
  have : (l ++ [d])[(l ++ [d]).length - 1]? = some d := by simp
  rw [this]; simp
theorem tyQ_lst (h : s[n]? = some (.lst l)) : tyQ (.loc n) s = "list" := by unfold tyQ; simp only [h]
theorem tyQ_dict {kvs : List (KeyQ × Dv)} (h : s[n]? = some (.dK kvs)) : tyQ (.loc n) s = "dict" := by unfold tyQ; simp only [h]
@[simp] theorem tyQ_str : tyQ (.str x) s = "str" := id rfl
@[simp] theorem itSeq_tup : itSeq (.tup l) s = .ok ⟨l, []⟩ s := id rfl
@[simp] theorem itSeq_clst : itSeq (.clst l) s = .ok ⟨l, []⟩ s := id rfl
theorem itSeq_lst (h : s[n]? = some (.lst l)) : itSeq (.loc n) s = .ok ⟨l, [(n, l)]⟩ s := by unfold itSeq; simp only [h]
end
end
end Mid
/-! MidD: data of a type: how it stands, how it is compared. -/
namespace Mid
open PySem
noncomputable section
/-! ### two lists, item by item -/
inductive All2 {α β : Type} (R : α → β → Prop) : List α → List β → Prop where
  | nil : All2 R [] []
  | cons {a b l m} : R a b → All2 R l m → All2 R (a :: l) (b :: m)
namespace All2
variable {α β γ : Type} {R S : α → β → Prop} {l l' : List α} {m m' : List β}
theorem len (h : All2 R l m) : l.length = m.length := by induction h with
  | nil => rfl
  | cons _ _ ih => simp [ih]
theorem imp (h : All2 R l m) (f : ∀ a b, a ∈ l → b ∈ m → R a b → S a b) : All2 S l m := by induction h with
  | nil => exact .nil
  | cons a _ ih => exact .cons (f _ _ (by simp) (by simp) a) (ih fun x y hx hy => f x y (by simp [hx]) (by simp [hy]))
theorem app (h : All2 R l m) (g : All2 R l' m') : All2 R (l ++ l') (m ++ m') := by induction h with
  | nil => exact g
  | cons a _ ih => exact .cons a ih
theorem snoc {a : α} {b : β} (h : All2 R l m) (g : R a b) : All2 R (l ++ [a]) (m ++ [b]) := h.app (.cons g .nil)
theorem get (h : All2 R l m) {i : Nat} {a : α} (g : l[i]? = some a) : ∃ b, m[i]? = some b ∧ R a b := by
  induction h generalizing i with
  | nil => cases g
  | cons x _ ih => cases i with
    | zero => cases g; exact ⟨_, rfl, x⟩
    | succ i => exact ih g
theorem get' (h : All2 R l m) {i : Nat} {b : β} (g : m[i]? = some b) : ∃ a, l[i]? = some a ∧ R a b := by
  induction h generalizing i with
  | nil => cases g
  | cons x _ ih => cases i with
    | zero => cases g; exact ⟨_, rfl, x⟩
    | succ i => exact ih g
theorem of_map {f : β → α} (h : ∀ b ∈ m, R (f b) b) : All2 R (m.map f) m := by induction m with
  | nil => exact .nil
  | cons b m ih => exact .cons (h b (by simp)) (ih fun x hx => h x (by simp [hx]))
theorem to_map {f : β → α} (h : All2 R l m) (g : ∀ a b, a ∈ l → b ∈ m → R a b → a = f b) : l = m.map f := by induction h with
  | nil => rfl
  | cons a _ ih => rw [List.map_cons, g _ _ (by simp) (by simp) a, ih fun x y hx hy => g x y (by simp [hx]) (by simp [hy])]
theorem drop (h : All2 R l m) (i : Nat) : All2 R (l.drop i) (m.drop i) := by
  induction h generalizing i with
  | nil => simp; exact .nil
  | cons x y ih => cases i with
    | zero => exact .cons x y
    | succ i => exact ih i
end All2
/-! ### a type's data -/
structure Enc (α : Type) where
  rep : (Nat → Prop) → Mst → Dv → α → Prop
  py : α → PyData
  dep : Nat
  mono : ∀ {P P' s d a}, rep P s d a → (∀ n, P' n → P n ∨ s.length ≤ n) → rep P' s d a
  fr : ∀ {P X s s' d a}, rep P s d a → Fr X s s' → (∀ n ∈ X, P n) → rep P s' d a
  dat : ∀ {P s d a n}, rep P s d a → dep < n → dat s n d = some (py a)
  lay : ∀ {P s d a}, rep P s d a → (py a).canLay0 = true
  depth : ∀ a, (py a).depth ≤ dep
  eqv : ∀ a b, PyData.eqv (py a) (py b) = true ↔ a = b
variable {α β : Type} {P P' : Nat → Prop} {X : List Nat} {s s' : Mst} {d e : Dv}
def noP : Nat → Prop := fun _ => False
theorem Enc.fr0 (A : Enc α) {a : α} (h : A.rep P s d a) (f : Fr [] s s') : A.rep P s' d a := A.fr h f (by simp)
theorem Enc.toNo (A : Enc α) {a : α} (h : A.rep P s d a) : A.rep noP s d a := A.mono h fun _ z => z.elim
def Enc.int : Enc Int where
  rep _ _ d a := d = .int a
  py := .int
  dep := 0
  mono h _ := h
  fr h _ _ := h
  dat h hn := by subst h; cases ‹Nat› with
    | zero => omega
    | succ n => rfl
  lay _ := by simp [PyData.canLay0]
  depth _ := by simp [PyData.depth]
  eqv a b := by simp [PyData.eqv]
def Enc.nat : Enc Nat where
  rep _ _ d a := d = .int a
  py a := .int a
  dep := 0
  mono h _ := h
  fr h _ _ := h
  dat h hn := by subst h; cases ‹Nat› with
    | zero => omega
    | succ n => rfl
  lay _ := by simp [PyData.canLay0]
  depth _ := by simp [PyData.depth]
  eqv a b := by simp [PyData.eqv]; omega
def Enc.bool : Enc Bool where
  rep _ _ d a := d = .bl a
  py a := .bool a
  dep := 0
  mono h _ := h
  fr h _ _ := h
  dat h hn := by subst h; cases ‹Nat› with
    | zero => omega
    | succ n => rfl
  lay _ := by simp [PyData.canLay0]
  depth _ := by simp [PyData.depth]
  eqv a b := by simp [PyData.eqv]
def Enc.str : Enc Str where
  rep _ _ d a := d = .str a ∧ PyData.strOk a = true
  py a := .str a
  dep := 0
  mono h _ := h
  fr h _ _ := h
  dat h hn := by obtain ⟨rfl, _⟩ := h; cases ‹Nat› with
    | zero => omega
    | succ n => rfl
  lay h := by simp [PyData.canLay0, h.2]
  depth _ := by simp [PyData.depth]
  eqv a b := by simp [PyData.eqv]
def Enc.pair (A : Enc α) (B : Enc β) : Enc (α × β) where
  rep P s d a := ∃ x y, d = .tup [x, y] ∧ A.rep P s x a.1 ∧ B.rep P s y a.2
  py a := .tuple [A.py a.1, B.py a.2]
  dep := max A.dep B.dep + 1
  mono h f := by obtain ⟨x, y, rfl, h1, h2⟩ := h; exact ⟨x, y, rfl, A.mono h1 f, B.mono h2 f⟩
  fr h f g := by obtain ⟨x, y, rfl, h1, h2⟩ := h; exact ⟨x, y, rfl, A.fr h1 f g, B.fr h2 f g⟩
  dat h hn := by
    obtain ⟨x, y, rfl, h1, h2⟩ := h
    cases ‹Nat› with
    | zero => omega
    | succ n => simp [Mid.dat, datA, A.dat h1 (n := n) (by omega), B.dat h2 (n := n) (by omega)]
  lay h := by obtain ⟨x, y, rfl, h1, h2⟩ := h; simp [PyData.canLay0, PyData.canLayAll0, A.lay h1, B.lay h2]
  depth a := by
    have := A.depth a.1
    have := B.depth a.2
    simp [PyData.depth, PyData.depthAll]; omega
  eqv a b := by
    simp [PyData.eqv, PyData.eqvAll, A.eqv, B.eqv]
    exact ⟨fun h => Prod.ext h.1 h.2, fun h => by rw [h]; exact ⟨rfl, rfl⟩⟩
theorem datA_all2 {A : Enc α} {ds : List Dv} {l : List α} (h : All2 (A.rep P s) ds l) {n : Nat} (hn : A.dep < n) : datA (Mid.dat s n) ds = some (l.map A.py) := by
  induction h with
  | nil => rfl
  | cons a _ ih => simp [datA, A.dat a hn, ih]
theorem lay_all2 {A : Enc α} {ds : List Dv} {l : List α} (h : All2 (A.rep P s) ds l) : PyData.canLayAll0 (l.map A.py) = true := by
  induction h with
  | nil => simp [PyData.canLayAll0]
  | cons a _ ih => simp [PyData.canLayAll0, A.lay a, ih]
theorem depth_all (A : Enc α) (l : List α) : PyData.depthAll (l.map A.py) ≤ A.dep := by
  induction l with
  | nil => simp [PyData.depthAll]
  | cons a l ih => have := A.depth a; simp [PyData.depthAll]; omega
theorem eqv_all (A : Enc α) (l m : List α) : PyData.eqvAll (l.map A.py) (m.map A.py) = true ↔ l = m := by
  induction l generalizing m with
  | nil => cases m <;> simp [PyData.eqvAll]
  | cons a l ih => cases m with
    | nil => simp [PyData.eqvAll]
    | cons b m => simp [PyData.eqvAll, A.eqv, ih]
def Enc.tupOf (A : Enc α) : Enc (List α) where
  rep P s d a := ∃ ds, d = .tup ds ∧ All2 (A.rep P s) ds a
  py a := .tuple (a.map A.py)
  dep := A.dep + 1
  mono h f := by obtain ⟨ds, rfl, h⟩ := h; exact ⟨ds, rfl, h.imp fun _ _ _ _ z => A.mono z f⟩
  fr h f g := by obtain ⟨ds, rfl, h⟩ := h; exact ⟨ds, rfl, h.imp fun _ _ _ _ z => A.fr z f g⟩
  dat h hn := by
    obtain ⟨ds, rfl, h⟩ := h
    cases ‹Nat› with
    | zero => omega
    | succ n => simp [Mid.dat, datA_all2 h (n := n) (by omega)]
  lay h := by obtain ⟨ds, rfl, h⟩ := h; simp [PyData.canLay0, lay_all2 h]
  depth a := by have := depth_all A a; simp [PyData.depth]; omega
  eqv a b := by simp only [PyData.eqv]; exact eqv_all A a b
def Enc.lstOf (A : Enc α) : Enc (List α) where
  rep P s d a := ∃ n ds, d = .loc n ∧ ¬ P n ∧ s[n]? = some (.lst ds) ∧ All2 (A.rep P s) ds a
  py a := .list (a.map A.py)
  dep := A.dep + 1
  mono h f := by
    obtain ⟨n, ds, rfl, hp, hs, h⟩ := h
    refine ⟨n, ds, rfl, fun z => ?_, hs, h.imp fun _ _ _ _ z => A.mono z f⟩
    rcases f n z with q | q
    · exact hp q
    · have := lt_of hs; omega
  fr h f g := by
    obtain ⟨n, ds, rfl, hp, hs, h⟩ := h
    exact ⟨n, ds, rfl, hp, f.get hs fun z => hp (g n z), h.imp fun _ _ _ _ z => A.fr z f g⟩
  dat h hn := by
    obtain ⟨k, ds, rfl, hp, hs, h⟩ := h
    rename_i n'
    cases n' with
    | zero => omega
    | succ n => simp [Mid.dat, hs, datA_all2 h (n := n) (by omega)]
  lay h := by obtain ⟨n, ds, rfl, hp, hs, h⟩ := h; simp [PyData.canLay0, lay_all2 h]
  depth a := by have := depth_all A a; simp [PyData.depth]; omega
  eqv a b := by simp only [PyData.eqv]; exact eqv_all A a b
/-! ### compared -/
theorem Enc.shaped (A : Enc α) {a : α} (h : A.rep P s d a) (hd : A.dep ≤ 64) : SeqAt.shaped (A.py a) = true := by
  have := A.depth a
  simp only [SeqAt.shaped, A.lay h, Bool.true_and, decide_eq_true_iff]; omega
theorem oEq_enc [DecidableEq α] (A : Enc α) {a b : α} (h : A.rep P s d a) (g : A.rep P' s e b) (hd : A.dep ≤ 64) : oEq d e s = .ok (.bl (decide (a = b))) s := by
  unfold oEq oCmpD
  rw [A.dat h (by omega), A.dat g (by omega)]
  simp only [A.shaped h hd, A.shaped g hd, and_self, if_true]
  congr 2
  rw [Bool.eq_iff_iff, A.eqv, decide_eq_true_iff]
theorem oNe_enc [DecidableEq α] (A : Enc α) {a b : α} (h : A.rep P s d a) (g : A.rep P' s e b) (hd : A.dep ≤ 64) : oNe d e s = .ok (.bl (!decide (a = b))) s := by
  unfold oNe oCmpD
  rw [A.dat h (by omega), A.dat g (by omega)]
  simp only [A.shaped h hd, A.shaped g hd, and_self, if_true]
  congr 3
  rw [Bool.eq_iff_iff, A.eqv, decide_eq_true_iff]
theorem inQ_enc [DecidableEq α] (A : Enc α) {a : α} {l : List α} (h : A.rep P s d a) (g : A.lstOf.rep P' s e l) (hd : A.dep < 64) : inQ d e s = some (decide (a ∈ l)) := by
  obtain ⟨n, ds, rfl, hp, hs, hl⟩ := g
  have g' : A.lstOf.rep P' s (.loc n) l := ⟨n, ds, rfl, hp, hs, hl⟩
  have sh := A.lstOf.shaped g' (show A.dep + 1 ≤ 64 from hd)
  unfold inQ
  simp only [hs]
  rw [A.dat h (by omega), datA_all2 hl (by omega)]
  simp only [A.shaped h (by omega), true_and]
  rw [if_pos (show SeqAt.shaped (.list (l.map A.py)) = true from sh)]
  congr 1
  rw [Bool.eq_iff_iff, decide_eq_true_iff, List.any_eq_true]
  simp only [List.mem_map]
  exact ⟨fun ⟨z, ⟨b, hb, e⟩, q⟩ => by rw [← e, A.eqv] at q; rw [← q]; exact hb, fun q => ⟨_, ⟨a, q, rfl⟩, (A.eqv _ _).mpr rfl⟩⟩
theorem oIn_enc [DecidableEq α] (A : Enc α) {a : α} {l : List α} (h : A.rep P s d a) (g : A.lstOf.rep P' s e l) (hd : A.dep < 64) : oIn d e s = .ok (.bl (decide (a ∈ l))) s := by
  unfold oIn; rw [inQ_enc A h g hd]; rfl
theorem oNotIn_enc [DecidableEq α] (A : Enc α) {a : α} {l : List α} (h : A.rep P s d a) (g : A.lstOf.rep P' s e l) (hd : A.dep < 64) : oNotIn d e s = .ok (.bl (!decide (a ∈ l))) s := by
  unfold oNotIn; rw [inQ_enc A h g hd]; rfl
/-! ### lists of numbers -/
def nD (k : Nat) : Dv := .int k
theorem nat_all {l : List Nat} : All2 (Enc.nat.rep P s) (l.map nD) l := .of_map fun _ _ => rfl
theorem nat_of {l : List Nat} {ds : List Dv} (h : All2 (Enc.nat.rep P s) ds l) : ds = l.map nD := h.to_map fun _ _ _ _ z => z
abbrev NL : Enc (List Nat) := .lstOf .nat
abbrev NLL : Enc (List (List Nat)) := .lstOf NL
theorem nl_iff {l : List Nat} : NL.rep P s d l ↔ ∃ n, d = .loc n ∧ ¬ P n ∧ s[n]? = some (.lst (l.map nD)) :=
  ⟨fun ⟨n, ds, e, hp, hs, h⟩ => ⟨n, e, hp, by rw [hs, nat_of h]⟩, fun ⟨n, e, hp, hs⟩ => ⟨n, _, e, hp, hs, nat_all⟩⟩
theorem oIn_nat {n k : Nat} {l : List Nat} (h : s[n]? = some (.lst (l.map nD))) : oIn (nD k) (.loc n) s = .ok (.bl (decide (k ∈ l))) s :=
  oIn_enc Enc.nat (P := noP) rfl (nl_iff (P := noP).mpr ⟨n, rfl, id, h⟩) (by decide)
theorem oNotIn_nat {n k : Nat} {l : List Nat} (h : s[n]? = some (.lst (l.map nD))) : oNotIn (nD k) (.loc n) s = .ok (.bl (!decide (k ∈ l))) s :=
  oNotIn_enc Enc.nat (P := noP) rfl (nl_iff (P := noP).mpr ⟨n, rfl, id, h⟩) (by decide)
theorem inQ_tupE [DecidableEq α] (A : Enc α) {a : α} {l : List α} (h : A.rep P s d a) (g : A.tupOf.rep P' s e l) (hd : A.dep < 64) : inQ d e s = some (decide (a ∈ l)) := by
  obtain ⟨ds, rfl, hl⟩ := g
  have g' : A.tupOf.rep P' s (.tup ds) l := ⟨ds, rfl, hl⟩
  have sh := A.tupOf.shaped g' (show A.dep + 1 ≤ 64 from hd)
  unfold inQ
  simp only
  rw [A.dat h (by omega), datA_all2 hl (by omega)]
  simp only [A.shaped h (by omega), true_and]
  rw [if_pos (show SeqAt.shaped (.tuple (l.map A.py)) = true from sh)]
  congr 1
  rw [Bool.eq_iff_iff, decide_eq_true_iff, List.any_eq_true]
  simp only [List.mem_map]
  exact ⟨fun ⟨z, ⟨b, hb, e⟩, q⟩ => by rw [← e, A.eqv] at q; rw [← q]; exact hb, fun q => ⟨_, ⟨a, q, rfl⟩, (A.eqv _ _).mpr rfl⟩⟩
theorem oIn_tupE [DecidableEq α] (A : Enc α) {a : α} {l : List α} (h : A.rep P s d a) (g : A.tupOf.rep P' s e l) (hd : A.dep < 64) : oIn d e s = .ok (.bl (decide (a ∈ l))) s := by
  unfold oIn; rw [inQ_tupE A h g hd]; rfl
/-! ### lists of texts -/
abbrev SL : Enc (List Str) := .lstOf .str
theorem str_of {l : List Str} {ds : List Dv} (h : All2 (Enc.str.rep P s) ds l) : ds = l.map Dv.str := h.to_map fun _ _ _ _ z => z.1
theorem str_all {l : List Str} (h : ∀ x ∈ l, PyData.strOk x = true) : All2 (Enc.str.rep P s) (l.map Dv.str) l := .of_map fun x hx => ⟨rfl, h x hx⟩
theorem sl_rep {l : List Str} {n : Nat} (hn : ¬ P n) (hs : s[n]? = some (.lst (l.map Dv.str))) (h : ∀ x ∈ l, PyData.strOk x = true) : SL.rep P s (.loc n) l := ⟨n, _, rfl, hn, hs, str_all h⟩
theorem oNotIn_str {n : Nat} {x : Str} {l : List Str} (hs : s[n]? = some (.lst (l.map Dv.str))) (hx : PyData.strOk x = true) (h : ∀ x ∈ l, PyData.strOk x = true) : oNotIn (.str x) (.loc n) s = .ok (.bl (!decide (x ∈ l))) s :=
  oNotIn_enc Enc.str (P := noP) ⟨rfl, hx⟩ (sl_rep (P := noP) id hs h) (by decide)
/-! ### a list of two kinds -/
def Enc.two (A : Enc α) (B : Enc β) : Enc (α × β) where
  rep P s d a := ∃ n x y, d = .loc n ∧ ¬ P n ∧ s[n]? = some (.lst [x, y]) ∧ A.rep P s x a.1 ∧ B.rep P s y a.2
  py a := .list [A.py a.1, B.py a.2]
  dep := max A.dep B.dep + 1
  mono h f := by
    obtain ⟨n, x, y, rfl, hp, hs, h1, h2⟩ := h
    refine ⟨n, x, y, rfl, fun z => ?_, hs, A.mono h1 f, B.mono h2 f⟩
    rcases f n z with q | q
    · exact hp q
    · have := lt_of hs; omega
  fr h f g := by
    obtain ⟨n, x, y, rfl, hp, hs, h1, h2⟩ := h
    exact ⟨n, x, y, rfl, hp, f.get hs fun z => hp (g n z), A.fr h1 f g, B.fr h2 f g⟩
  dat h hn := by
    obtain ⟨k, x, y, rfl, hp, hs, h1, h2⟩ := h
    rename_i n'
    cases n' with
    | zero => omega
    | succ n => simp [Mid.dat, hs, datA, A.dat h1 (n := n) (by omega), B.dat h2 (n := n) (by omega)]
  lay h := by obtain ⟨n, x, y, rfl, hp, hs, h1, h2⟩ := h; simp [PyData.canLay0, PyData.canLayAll0, A.lay h1, B.lay h2]
  depth a := by
    have := A.depth a.1
    have := B.depth a.2
    simp [PyData.depth, PyData.depthAll]; omega
  eqv a b := by
    simp [PyData.eqv, PyData.eqvAll, A.eqv, B.eqv]
    exact ⟨fun h => Prod.ext h.1 h.2, fun h => by rw [h]; exact ⟨rfl, rfl⟩⟩
end
end Mid
/-! MidE: comprehensions and loops over data. -/
namespace Mid
open PySem
noncomputable section
variable {α β : Type} {P : Nat → Prop} {s : Mst} {σ : Men}
theorem bDict_pairs {n : Nat} {l : List Dv} {kvs : List (KeyQ × Dv)} (h : s[n]? = some (.lst l)) (hp : pairsQ l = some kvs) : bDict [.loc n] s = .ok (.loc s.length) (s ++ [.dK (kputs [] kvs)]) := by
  show (match (bAny.lstQ (.loc n) s).bind pairsQ with | some kvs => _ | none => _) = _
  rw [lstQ_loc h, Option.bind_some, hp]; rfl
theorem tUpdate_dict {n m : Nat} {kvs more : List (KeyQ × Dv)} (h : s[n]? = some (.dK kvs)) (h2 : s[m]? = some (.dK more)) (hn : n ≠ m) (hl : kvs.length + more.length < 2 ^ 24) : tUpdate [.loc n, .loc m] s = .ok .non (s.set n (.dK (kputs kvs more))) := by
  show (match s[n]?, s[m]? with | some (.dK kvs), some (.dK more) => _ | _, _ => _) = _
  rw [h, h2]
  exact if_pos ⟨hn, hl⟩
theorem r62 {n : Nat} (h : n ≤ 2 ^ 24) : -(2 ^ 62) ≤ (n : Int) ∧ (n : Int) < 2 ^ 62 := by
  have e : (2 : Int) ^ 62 = 4611686018427387904 := by decide
  rw [e]; omega
theorem rng0 (n : Nat) : rngI 0 n = (List.range n).map nD := by
  simp [rngI, nD]
theorem rngN (b n : Nat) : rngI (b : Int) n = (List.range' b n).map nD := by
  rw [List.range'_eq_map_range]; simp [rngI, nD]
theorem take_filter_map {xs : List α} {p : α → Bool} {f : α → β} {i : Nat} {a : α} (h : xs[i]? = some a) :
    ((xs.take (i + 1)).filter p).map f = ((xs.take i).filter p).map f ++ (if p a = true then [f a] else []) := by
  rw [List.take_add_one, h, List.filter_append, List.map_append]
  by_cases q : p a = true <;> simp [q]
/-- a comprehension whose items are data made anew -/
theorem lc_new {src : List (Nat × List Dv)} {g : MG} {t : MT} {e : ME} {Q : List Dv → Mst → Prop} (E : Enc β) (xs : List α) (enc : α → Dv) (p : α → Bool) (f : α → β)
    (hst : ∀ s', Fr [] s s' → Mit.stays src s')
    (step : ∀ a ∈ xs, ∀ s', Fr [] s s' → (g (enc a) σ s').to fun σ1 s1 => (t σ1 s1).to fun c s2 => c = p a ∧ Fr [] s' s2 ∧ (p a = true → (e σ1 s2).to fun d s3 => Fr [] s2 s3 ∧ E.rep P s3 d (f a)))
    (fin : ∀ ds s', Fr [] s s' → All2 (E.rep P s') ds ((xs.filter p).map f) → Q ds s') : (lcF src g t e σ (xs.map enc) s).to Q := by
  refine lc_by (fun i ds s' => Fr [] s s' ∧ All2 (E.rep P s') ds (((xs.take i).filter p).map f)) ⟨.refl, by simpa using .nil⟩ (fun _ _ _ h => hst _ h.1) ?_ ?_
  · rintro i x ds s' hx ⟨hf, ha⟩
    rw [List.getElem?_map] at hx
    cases q : xs[i]? with
    | none => rw [q] at hx; cases hx
    | some a =>
      rw [q] at hx; cases hx
      refine to_mono (step a (List.mem_of_getElem? q) s' hf) fun σ1 s1 h1 => to_mono h1 fun c s2 ⟨hc, f2, h2⟩ => ?_
      rw [take_filter_map q, hc]
      by_cases hp : p a = true
      · simp only [hp, if_true]
        refine to_mono (h2 hp) fun d s3 ⟨f3, r3⟩ => ⟨hf.trans (f2.trans f3), (ha.imp fun _ _ _ _ z => E.fr0 z (f2.trans f3)).snoc r3⟩
      · simp only [hp, Bool.false_eq_true, if_false, List.append_nil]
        exact ⟨hf.trans f2, ha.imp fun _ _ _ _ z => E.fr0 z f2⟩
  · rintro ds s' ⟨hf, ha⟩
    rw [List.length_map, List.take_length] at ha
    exact fin ds s' hf ha
/-- a comprehension that makes nothing anew -/
theorem lc_pure {src : List (Nat × List Dv)} {g : MG} {t : MT} {e : ME} {Q : List Dv → Mst → Prop} (xs : List α) (enc : α → Dv) (p : α → Bool) (f : α → Dv)
    (hst : Mit.stays src s)
    (step : ∀ a ∈ xs, (g (enc a) σ s).to fun σ1 s1 => (t σ1 s1).to fun c s2 => c = p a ∧ (p a = true → (e σ1 s2).to fun d s3 => d = f a ∧ s3 = s) ∧ (p a = false → s2 = s))
    (fin : Q ((xs.filter p).map f) s) : (lcF src g t e σ (xs.map enc) s).to Q := by
  refine lc_by (fun i ds s' => s' = s ∧ ds = ((xs.take i).filter p).map f) ⟨rfl, by simp⟩ (fun _ _ _ h => by rw [h.1]; exact hst) ?_ ?_
  · rintro i x ds s' hx ⟨rfl, rfl⟩
    rw [List.getElem?_map] at hx
    cases q : xs[i]? with
    | none => rw [q] at hx; cases hx
    | some a =>
      rw [q] at hx; cases hx
      refine to_mono (step a (List.mem_of_getElem? q)) fun σ1 s1 h1 => to_mono h1 fun c s2 ⟨hc, h2, h3⟩ => ?_
      rw [take_filter_map q, hc]
      by_cases hp : p a = true
      · simp only [hp, if_true]
        refine to_mono (h2 hp) fun d s3 ⟨e1, e2⟩ => ⟨e2, by rw [e1]⟩
      · simp only [hp, Bool.false_eq_true, if_false, List.append_nil]
        exact ⟨h3 (by simpa using hp), trivial⟩
  · rintro ds s' ⟨rfl, rfl⟩
    rw [List.length_map, List.take_length]
    exact fin
/-- a for over known things -/
theorem for_map {N : Men → Mst → Prop} {R : Dv → Mst → Prop} {C B : Men → Mst → Prop} {src : List (Nat × List Dv)} {g : MG} {b : MS} (xs : List α) (enc : α → Dv) (I : Nat → Men → Mst → Prop) (h0 : I 0 σ s) (hst : ∀ i σ s, I i σ s → Mit.stays src s)
    (step : ∀ i a σ s, xs[i]? = some a → I i σ s → (g (enc a) σ s).to fun σ s => (b σ s).to (I (i + 1)) R (I (i + 1)) N) (fin : ∀ σ s, I xs.length σ s → N σ s) : (forF src g b (xs.map enc) σ s).to N R C B := by
  refine for_by I h0 hst ?_ ?_
  · intro i x σ s hx h
    rw [List.getElem?_map] at hx
    cases q : xs[i]? with
    | none => rw [q] at hx; cases hx
    | some a => rw [q] at hx; cases hx; exact step i a σ s q h
  · rw [List.length_map]; exact fin
theorem range_at {n i a : Nat} (h : (List.range n)[i]? = some a) : a = i ∧ i < n := by
  have := List.getElem?_eq_some_iff.mp h
  obtain ⟨h1, h2⟩ := this
  simp at h1 h2
  exact ⟨h2.symm, h1⟩
end
end Mid
/-! MidF: instances; dicts of lists; lists held against the empty one. -/
namespace Mid
open PySem
noncomputable section
/-! ### instances -/
section
variable {s : Mst} {n C : Nat} {fs : List (Str × Dv)} {f m : Str} {d : Dv} {cs : List Nat} {σ : Men} {Q : Dv → Mst → Prop} {N : Men → Mst → Prop} {R : Dv → Mst → Prop} {C' B : Men → Mst → Prop}
theorem oFld_of (h : s[n]? = some (.ins C fs)) (hc : C ∈ cs) (hl : fs.lookup f = some d) : oFld cs f (.loc n) s = .ok d s := by
  unfold oFld; simp only [h]; rw [if_pos hc, hl]; rfl
theorem msFldC_to {mo me : ME} {v : Dv} {s1 : Mst} (he : me σ s = .ok v s1) (ho : mo σ s1 = .ok (.loc n) s1) (h : s1[n]? = some (.ins C fs)) (hc : C ∈ cs) (hl : fs.length < 1000) (q : N σ (s1.set n (.ins C (putA f v fs)))) : (msFldC cs f mo me σ s).to N R C' B := by
  unfold msFldC
  rw [he, to_st, to_ok, to_st, ho, to_ok]
  simp only [h]
  rw [if_pos ⟨hc, hl⟩]
  exact q
theorem mMethC_to {F : MF} {o : ME} {ms : List ME} (ho : o σ s = .ok (.loc n) s) (h : s[n]? = some (.ins C fs)) (hl : fs.lookup m = none) (q : (mArgs ms σ s).to fun ds s2 => (F (.loc n :: ds) s2).to Q) : (mMethC C m F o ms σ s).to Q := by
  unfold mMethC
  rw [ho, to_bind, to_ok]
  simp only [h]
  rw [if_pos (by exact ⟨trivial, hl⟩), to_bind]
  refine to_mono q fun ds s2 z => ?_
  rw [to_noEr]; exact z
theorem mMake_to {F : MF} {ds : List Dv} (q : (F (.loc s.length :: ds) (s ++ [.ins C []])).to fun d s1 => d = .non ∧ Q (.loc s.length) s1) : (mMake C F ds s).to Q := by
  unfold mMake
  rw [to_bind]
  refine to_mono q fun d s1 ⟨e, z⟩ => ?_
  subst e; exact z
end
/-! ### x != [] -/
theorem oNe_nil {s : Mst} {n m : Nat} {l : List Nat} (h : s[n]? = some (.lst (l.map nD))) (g : s[m]? = some (.lst [])) : oNe (.loc n) (.loc m) s = .ok (.bl (!decide (l = []))) s :=
  oNe_enc NL (P := noP) (P' := noP) (nl_iff.mpr ⟨n, rfl, id, h⟩) (nl_iff.mpr ⟨m, rfl, id, g⟩) (by decide)
theorem oNe_nilL {s : Mst} {n m : Nat} {P : Nat → Prop} {ds : List Dv} {l : List (List Nat)} (h : s[n]? = some (.lst ds)) (hl : All2 (NL.rep P s) ds l) (g : s[m]? = some (.lst [])) : oNe (.loc n) (.loc m) s = .ok (.bl (!decide (l = []))) s :=
  oNe_enc NLL (P := noP) (P' := noP) ⟨n, ds, rfl, id, h, hl.imp fun _ _ _ _ z => NL.toNo z⟩ ⟨m, [], rfl, id, g, .nil⟩ (by decide)
/-! ### dicts by a kind of keys -/
structure DKind (α : Type) [DecidableEq α] where
  key : Dv → Option α
  isk : MO → List (α × Dv) → Prop
  ty : ∀ {o kvs s n}, isk o kvs → s[n]? = some o → tyQ (.loc n) s = "dict"
  get : ∀ {o kvs s n d k}, isk o kvs → s[n]? = some o → key d = some k → dgQ (.loc n) d s = some (kval kvs k)
  setd : ∀ {o kvs s n d k} (e : Dv), isk o kvs → s[n]? = some o → key d = some k → kvs.length < 2 ^ 24 →
    (∀ x, kval kvs k = some x → setdQ (.loc n) d e s = .ok x s) ∧ (kval kvs k = none → ∃ o', isk o' (kput kvs k e) ∧ setdQ (.loc n) d e s = .ok e (s.set n o'))
  nl : ∀ {o kvs l}, isk o kvs → o ≠ .lst l
def kK : DKind KeyQ where
  key := keyQ
  isk o kvs := o = .dK kvs
  ty e h := by subst e; exact tyQ_dict h
  get e h hk := by subst e; unfold dgQ; simp only [h, hk]
  setd e i h hk hl := by
    subst i
    refine ⟨fun x hx => ?_, fun hn => ⟨_, rfl, ?_⟩⟩
    · unfold setdQ; simp only [h, hk, hx]; rw [if_pos hl]
    · unfold setdQ; simp only [h, hk, hn]; rw [if_pos hl]
  nl e z := by subst e; cases z
theorem keyN_keyQ {d : Dv} {k : NestedKey} (h : keyN d = some k) : keyQ d = none := by
  cases d with
  | tup l => rfl
  | _ => cases h
def kN : DKind NestedKey where
  key := keyN
  isk o kvs := o = .dN kvs ∨ (o = .dK [] ∧ kvs = [])
  ty e h := by
    rcases e with e | ⟨e, _⟩ <;> subst e
    · unfold tyQ; simp only [h]
    · exact tyQ_dict h
  get e h hk := by
    rcases e with e | ⟨e, e2⟩ <;> subst e
    · unfold dgQ; simp only [h, hk]; rfl
    · subst e2
      have hq : keyQ _ = none := keyN_keyQ hk
      unfold dgQ; simp only [h, hq, hk]; rfl
  setd e i h hk hl := by
    rcases i with i | ⟨i, i2⟩ <;> subst i
    · refine ⟨fun x hx => ?_, fun hn => ⟨_, .inl rfl, ?_⟩⟩
      · unfold setdQ; simp only [h, hk, hx]; rw [if_pos hl]
      · unfold setdQ; simp only [h, hk, hn]; rw [if_pos hl]
    · subst i2
      have hq : keyQ _ = none := keyN_keyQ hk
      refine ⟨fun x hx => (by cases hx), fun hn => ⟨_, .inl rfl, ?_⟩⟩
      unfold setdQ; simp only [h, hq, hk]; rw [if_pos (by simp)]
      rfl
  nl e z := by
    rcases e with e | ⟨e, _⟩ <;> subst e <;> cases z
section
variable {α : Type} [DecidableEq α] {D : DKind α} {s s' : Mst} {n m : Nat} {f : α → List Nat} {kvs : List (α × Dv)} {k : α} {d : Dv} {P : Nat → Prop}
theorem kval_put {kvs : List (α × Dv)} {k k' : α} {v : Dv} : kval (kput kvs k v) k' = if k = k' then some v else kval kvs k' := by
  have g : ∀ l : List (α × Dv), kval (l.map fun kv => if kv.1 = k then (kv.1, v) else kv) k' = if k = k' then (if k ∈ l.map (·.1) then some v else none) else kval l k' := by
    intro l
    unfold kval
    induction l with
    | nil => simp
    | cons a r ih =>
      rw [List.map_cons, List.find?_cons, List.find?_cons]
      by_cases ha : a.1 = k
      · rw [if_pos ha]
        by_cases hk : k = k'
        · subst hk; simp [ha]
        · have h1 : ¬ a.1 = k' := fun z => hk (ha.symm.trans z)
          simp only [decide_eq_false h1]
          rw [ih, if_neg hk, if_neg hk]
      · rw [if_neg ha]
        by_cases hk : k = k'
        · subst hk
          simp only [decide_eq_false ha]
          rw [ih]
          have : ¬ k = a.1 := fun z => ha z.symm
          simp only [if_true, List.map_cons, List.mem_cons, this, false_or]
        · by_cases h1 : a.1 = k'
          · simp [h1, hk]
          · simp only [decide_eq_false h1]
            rw [ih, if_neg hk, if_neg hk]
  unfold kput
  split
  · rename_i h
    rw [g]
    by_cases hk : k = k'
    · rw [if_pos hk, if_pos hk, if_pos]
      rw [List.any_eq_true] at h
      obtain ⟨a, h1, h2⟩ := h
      exact List.mem_map.mpr ⟨a, h1, of_decide_eq_true h2⟩
    · rw [if_neg hk, if_neg hk]
  · rename_i h
    unfold kval
    rw [List.find?_append, Option.map_or]
    by_cases hk : k = k'
    · subst hk
      rw [if_pos rfl]
      have : kvs.find? (fun kv => decide (kv.1 = k)) = none := by
        rw [List.find?_eq_none]
        intro a ha z
        exact h (List.any_eq_true.mpr ⟨a, ha, z⟩)
      rw [this]; simp
    · rw [if_neg hk]
      simp [hk]
theorem mem_kput {kvs : List (α × Dv)} {k k' : α} {v : Dv} : k' ∈ (kput kvs k v).map (·.1) ↔ k' = k ∨ k' ∈ kvs.map (·.1) := by
  rw [← kval_some, ← kval_some, kval_put]
  by_cases h : k = k'
  · simp [h]
  · have : ¬ k' = k := fun z => h z.symm
    simp [h, this]
theorem kput_nd {kvs : List (α × Dv)} {q : α} {v : Dv} (nd : (kvs.map (·.1)).Nodup) : ((kput kvs q v).map (·.1)).Nodup := by
  unfold kput
  split
  · have : (kvs.map fun kv => if kv.1 = q then (kv.1, v) else kv).map (·.1) = kvs.map (·.1) := by
      rw [List.map_map]
      refine List.map_congr_left fun e _ => ?_
      simp only [Function.comp_def]
      split <;> rfl
    rw [this]; exact nd
  · rename_i hn
    rw [List.map_append, List.nodup_append]
    refine ⟨nd, by simp, fun a ha b hb e => hn ?_⟩
    obtain ⟨e1, h1, rfl⟩ := List.mem_map.mp ha
    simp at hb
    subst hb
    exact List.any_eq_true.mpr ⟨e1, h1, decide_eq_true e⟩
/-- a dict of lists of numbers: what it holds at each key, none where nothing -/
structure ML (D : DKind α) (P : Nat → Prop) (s : Mst) (n : Nat) (f : α → List Nat) (kvs : List (α × Dv)) : Prop where
  ob : ∃ o, s[n]? = some o ∧ D.isk o kvs
  dom : ∀ k, k ∈ kvs.map (·.1) ↔ f k ≠ []
  val : ∀ k d, kval kvs k = some d → ∃ l, d = .loc l ∧ P l ∧ s[l]? = some (.lst ((f k).map nD))
  inj : ∀ k k' l, kval kvs k = some (.loc l) → kval kvs k' = some (.loc l) → k = k'
  nd : (kvs.map (·.1)).Nodup
theorem ML.ty (h : ML D P s n f kvs) : tyQ (.loc n) s = "dict" := by
  obtain ⟨o, h1, h2⟩ := h.ob
  exact D.ty h2 h1
theorem ML.none (h : ML D P s n f kvs) (k : α) : kval kvs k = none ↔ f k = [] := by
  have := (kval_some (kvs := kvs) (k := k)).trans (h.dom k)
  cases e : kval kvs k with
  | none => rw [e] at this; simpa using this
  | some d => rw [e] at this; simpa using this
/-- d.get(k, []) -/
theorem ML.getd (h : ML D P s n f kvs) (hk : D.key d = some k) {e : Nat} (he : s[e]? = some (.lst [])) : ∃ l, tGet [.loc n, d, .loc e] s = .ok (.loc l) s ∧ s[l]? = some (.lst ((f k).map nD)) ∧ (kval kvs k = some (.loc l) ∨ f k = []) := by
  obtain ⟨o, h1, h2⟩ := h.ob
  have g := D.get h2 h1 hk
  cases q : kval kvs k with
  | none =>
    refine ⟨e, ?_, by rw [(h.none k).mp q]; exact he, .inr ((h.none k).mp q)⟩
    show ofO ((dgQ (.loc n) d s).map fun o => o.getD (.loc e)) s = _
    rw [g, q]; rfl
  | some x =>
    obtain ⟨l, rfl, _, h3⟩ := h.val k x q
    refine ⟨l, ?_, h3, .inl rfl⟩
    show ofO ((dgQ (.loc n) d s).map fun o => o.getD (.loc e)) s = _
    rw [g, q]; rfl
/-- what stands apart from such a dict stays -/
theorem ML.fr (h : ML D P s n f kvs) {X : List Nat} (a : Fr X s s') (hn : n ∉ X) (hX : ∀ l ∈ X, ¬ P l) : ML D P s' n f kvs := by
  obtain ⟨o, h1, h2⟩ := h.ob
  exact ⟨⟨o, a.get h1 hn, h2⟩, h.dom, fun k d e => let ⟨l, e1, e2, e3⟩ := h.val k d e; ⟨l, e1, e2, a.get e3 fun z => hX l z e2⟩, h.inj, h.nd⟩
def addF (f : α → List Nat) (k : α) (v : Nat) : α → List Nat := fun k' => if k = k' then f k ++ [v] else f k'
/-- d.setdefault(k, []).append(v) -/
theorem ML.add {Q : Dv → Mst → Prop} {v : Nat} (h : ML D P s n f kvs) (hk : D.key d = some k) (hl : kvs.length < 2 ^ 24) (hf : (f k).length < 2 ^ 24) (hP : P s.length)
    (q : ∀ s' kvs', ML D P s' n (addF f k v) kvs' → kvs'.length ≤ kvs.length + 1 → s'.length = s.length + 1 → (∀ m, m ≠ n → m < s.length → ¬ P m → s'[m]? = s[m]?) → (∀ m o, m ≠ n → s[m]? = some o → (∀ l, o ≠ .lst l) → s'[m]? = some o) → Q .non s') :
    (tSetd [.loc n, d, .loc s.length] (s ++ [.lst []])).to fun x s2 => tyQ x s2 = "list" ∧ (tAppend [x, nD v] s2).to Q := by
  obtain ⟨o, h1, h2⟩ := h.ob
  have h1' : (s ++ [MO.lst []])[n]? = some o := look_app h1
  obtain ⟨g1, g2⟩ := D.setd (.loc s.length) h2 h1' hk hl
  show (setdQ (.loc n) d (.loc s.length) (s ++ [.lst []])).to _
  have hdom : ∀ k', (k' = k ∨ k' ∈ kvs.map (·.1)) ↔ addF f k v k' ≠ [] := fun k' => by
    unfold addF
    rw [h.dom]
    by_cases e : k = k'
    · rw [if_pos e]; simp [e]
    · rw [if_neg e]
      have : ¬ k' = k := fun z => e z.symm
      simp [this]
  cases e : kval kvs k with
  | some x =>
    obtain ⟨l, rfl, hp, h3⟩ := h.val k x e
    have h3' : (s ++ [MO.lst []])[l]? = some (.lst ((f k).map nD)) := look_app h3
    rw [g1 _ e, to_ok]
    refine ⟨tyQ_lst h3', ?_⟩
    rw [tAppend_lst h3' (by rw [List.length_map]; exact hf), to_ok]
    have hln : l ≠ n := fun z => by subst z; rw [h3] at h1; cases h1; exact D.nl h2 rfl
    refine q _ kvs ⟨⟨o, look_ne h1' hln, h2⟩, fun k' => ?_, fun k' x e' => ?_, h.inj, h.nd⟩ (Nat.le_succ _) (by simp) (fun m hm hm2 hm3 => ?_) fun m o' hm hs hnl => ?_
    · rw [← hdom]
      exact ⟨.inr, fun z => z.elim (fun z => by rw [z]; exact kval_some.mp (by rw [e]; rfl)) id⟩
    · by_cases hkk : k = k'
      · subst hkk
        rw [e] at e'; cases e'
        refine ⟨l, rfl, hp, ?_⟩
        rw [look_put h3']
        unfold addF
        rw [if_pos rfl, List.map_append]; rfl
      · obtain ⟨l', rfl, hp', h4⟩ := h.val k' x e'
        have hll : l ≠ l' := fun z => hkk (h.inj k k' l e (by rw [z]; exact e'))
        refine ⟨l', rfl, hp', ?_⟩
        rw [look_ne (look_app h4) hll]
        unfold addF
        rw [if_neg hkk]
    · rw [List.getElem?_set_ne (fun z => by subst z; exact hm3 hp), List.getElem?_append_left hm2]
    · rw [List.getElem?_set_ne (fun z => by subst z; rw [h3] at hs; cases hs; exact hnl _ rfl)]
      exact look_app hs
  | none =>
    obtain ⟨o', i', g3⟩ := g2 e
    have hlt := lt_of h1
    rw [g3, to_ok]
    have h5 : ((s ++ [MO.lst []]).set n o')[s.length]? = some (.lst []) := by
      rw [List.getElem?_set_ne (Nat.ne_of_lt hlt)]; simp
    refine ⟨tyQ_lst h5, ?_⟩
    rw [tAppend_lst h5 (by simp), to_ok]
    have hsn : s.length ≠ n := Nat.ne_of_gt hlt
    refine q _ (kput kvs k (.loc s.length)) ⟨⟨o', ?_, i'⟩, fun k' => ?_, fun k' x e' => ?_, fun k1 k2 l e1 e2 => ?_, kput_nd h.nd⟩ ?_ (by simp) (fun m hm hm2 hm3 => ?_) fun m o2 hm hs hnl => ?_
    · exact look_ne (look_put h1') hsn
    · rw [mem_kput]; exact hdom k'
    · rw [kval_put] at e'
      by_cases hkk : k = k'
      · rw [if_pos hkk] at e'; cases e'
        subst hkk
        refine ⟨_, rfl, hP, ?_⟩
        rw [look_put h5]
        unfold addF
        rw [if_pos rfl, (h.none k).mp e]; rfl
      · rw [if_neg hkk] at e'
        obtain ⟨l', rfl, hp', h4⟩ := h.val k' x e'
        refine ⟨l', rfl, hp', ?_⟩
        have hln : n ≠ l' := fun z => by subst z; rw [h4] at h1; cases h1; exact D.nl h2 rfl
        rw [look_ne (look_ne (look_app h4) hln) (Nat.ne_of_gt (lt_of h4))]
        unfold addF
        rw [if_neg hkk]
    · rw [kval_put] at e1 e2
      have big : ∀ k l, kval kvs k = some (.loc l) → l < s.length := fun k l e => by
        obtain ⟨l', e3, _, h4⟩ := h.val k _ e
        cases e3; exact lt_of h4
      by_cases c1 : k = k1
      · rw [if_pos c1] at e1; cases e1
        by_cases c2 : k = k2
        · exact c1.symm.trans c2
        · rw [if_neg c2] at e2
          exact absurd (big _ _ e2) (Nat.lt_irrefl _)
      · rw [if_neg c1] at e1
        by_cases c2 : k = k2
        · rw [if_pos c2] at e2; cases e2
          exact absurd (big _ _ e1) (Nat.lt_irrefl _)
        · rw [if_neg c2] at e2
          exact h.inj _ _ _ e1 e2
    · rw [kput_new (fun z => by rw [← kval_some, e] at z; cases z)]; simp
    · rw [List.getElem?_set_ne (by omega), List.getElem?_set_ne (Ne.symm hm), List.getElem?_append_left hm2]
    · rw [List.getElem?_set_ne (Nat.ne_of_gt (lt_of hs)), List.getElem?_set_ne (Ne.symm hm)]
      exact look_app hs
end
end
end Mid
namespace Mid
open PySem Classical
noncomputable section
def m_is_whole : MS := msRet (mAnd (mCall bIsi [mVar 0, mC (.ty "int")]) (mNot (mCall bIsi [mVar 0, mC (.ty "bool")])))
def f_is_whole : MF := mFun 1 1 m_is_whole
def m_is_sign : MS := msSeq (msIf (mtOr (mtNot (mtVal (mCall bIsi [mVar 0, mC (.ty "str")]))) (mtNot (mtVal (mChain oLe oLe (mC (.int 1)) (mCall bLen [mVar 0]) (mC (.int 6)))))) (msRet (mC (.bl false))) (msNx))
    (msRet (mOp oEq (mCall bLen [mLc (miSeq (mVar 0)) (gN 1) (mtVal (mOp oNotIn (mVar 1) (mC (.str (Str.ofString "abcdefghijklmnopqrstuvwxyz"))))) (mVar 1) [1]]) (mC (.int 0))))
def f_is_sign : MF := mFun 1 2 m_is_sign
def m_is_led : MS := msSeq (msIf (mtOr (mtNot (mtVal (mCall bIsi [mVar 0, mC (.ty "tuple")]))) (mtVal (mOp oNe (mCall bLen [mVar 0]) (mC (.int 2))))) (msRet (mC (.bl false))) (msNx))
    (msRet (mAnd (mCall (noE f_is_sign) [mOp oGet (mVar 0) (mC (.int 0))]) (mAnd (mCall (noE f_is_whole) [mOp oGet (mVar 0) (mC (.int 1))]) (mChain oLe oLt (mC (.int 0)) (mOp oGet (mVar 0) (mC (.int 1))) (mVar 1)))))
def f_is_led : MF := mFun 2 2 m_is_led
def m_is_room : MS := msSeq (msIf (mtOr (mtNot (mtVal (mCall bIsi [mVar 0, mC (.ty "tuple")]))) (mtVal (mOp oNe (mCall bLen [mVar 0]) (mC (.int 2))))) (msRet (mC (.bl false))) (msNx))
    (msSeq (msIf (mtOr (mtNot (mtVal (mCall bIsi [mOp oGet (mVar 0) (mC (.int 0)), mC (.ty "bool")]))) (mtNot (mtVal (mCall bIsi [mOp oGet (mVar 0) (mC (.int 1)), mC (.ty "tuple")])))) (msRet (mC (.bl false))) (msNx))
    (msSeq (msIf (mtNot (mtVal (mCall bAll [mLc (miSeq (mOp oGet (mVar 0) (mC (.int 1)))) (gN 5) (mtYes) (mCall (noE f_is_led) [mVar 5, mVar 1]) [5]]))) (msRet (mC (.bl false))) (msNx))
    (msSeq (msSet 2 (mLc (miSeq (mOp oGet (mVar 0) (mC (.int 1)))) (gT [gN 3, gN 4]) (mtYes) (mVar 3) [3, 4]))
    (msRet (mOp oEq (mVar 2) (mCall bSortSet [mVar 2]))))))
def f_is_room : MF := mFun 2 6 m_is_room
def m_alive : MS := msSeq (msSet 1 (mDisp []))
    (msSeq (msFor (miEnum (mVar 0)) (gT [gN 2, gN 3]) (msFor (miSeq (mOp oGet (mVar 3) (mC (.int 1)))) (gT [gN 4, gN 5]) (msExp (mMeth "list" tAppend (mMeth "dict" tSetd (mVar 1) [mVar 5, mLst []]) [mVar 2]))))
    (msSeq (msSet 6 (mLc (miEnum (mVar 0)) (gT [gN 2, gN 3]) (mtVal (mOp oGet (mVar 3) (mC (.int 0)))) (mVar 2) [2, 3]))
    (msSeq (msSet 7 (mCall bDict [mLc (miSeq (mVar 6)) (gN 2) (mtYes) (mTup [mVar 2, mC (.bl true)]) [2]]))
    (msSeq (msWhile (mtVal (mOp oNe (mVar 6) (mLst []))) (msFor (miSeq (mMeth "dict" tGet (mVar 1) [mMeth "list" tPop (mVar 6) [], mLst []])) (gN 2) (msIf (mtVal (mOp oNotIn (mVar 2) (mVar 7))) (msSeq (msPut oPut (mVar 7) (mVar 2) (mC (.bl true)))
    (msExp (mMeth "list" tAppend (mVar 6) [mVar 2]))) (msNx))))
    (msRet (mVar 7))))))
def f_alive : MF := mFun 1 8 m_alive
def m_reached : MS := msSeq (msSet 1 (mLst [mC (.int 0)]))
    (msSeq (msSet 2 (fun σ s => (mDisp [(mC (.int 0), mC (.bl true))] σ s).noEr))
    (msSeq (msSet 3 (mC (.int 0)))
    (msSeq (msWhile (mtVal (mOp oLt (mVar 3) (mCall bLen [mVar 1]))) (msSeq (msFor (miSeq (mOp oGet (mOp oGet (mVar 0) (mOp oGet (mVar 1) (mVar 3))) (mC (.int 1)))) (gT [gN 4, gN 5]) (msIf (mtVal (mOp oNotIn (mVar 5) (mVar 2))) (msSeq (msPut oPut (mVar 2) (mVar 5) (mC (.bl true)))
    (msExp (mMeth "list" tAppend (mVar 1) [mVar 5]))) (msNx)))
    (msSet 3 (mOp oAdd (mVar 3) (mC (.int 1))))))
    (msRet (mVar 1)))))
def f_reached : MF := mFun 1 6 m_reached
def m_is_machine : MS := msSeq (msIf (mtOr (mtNot (mtVal (mCall bIsi [mVar 0, mC (.ty "tuple")]))) (mtNot (mtVal (mChain oLe oLe (mC (.int 1)) (mCall bLen [mVar 0]) (mC (.int 200)))))) (msRet (mC (.bl false))) (msNx))
    (msSeq (msIf (mtNot (mtVal (mCall bAll [mLc (miSeq (mVar 0)) (gN 1) (mtYes) (mCall (noE f_is_room) [mVar 1, mCall bLen [mVar 0]]) [1]]))) (msRet (mC (.bl false))) (msNx))
    (msSeq (msSet 2 (mDisp []))
    (msSeq (msFor (miSeq (mVar 0)) (gN 1) (msExp (mMeth "dict" tUpdate (mVar 2) [mCall bDict [mOp oGet (mVar 1) (mC (.int 1))]])))
    (msSeq (msIf (mtVal (mOp oGt (mCall bLen [mVar 2]) (mC (.int 6)))) (msRet (mC (.bl false))) (msNx))
    (msRet (mAnd (mOp oEq (mCall bLen [mCall (noE f_reached) [mVar 0]]) (mCall bLen [mVar 0])) (mOp oEq (mCall bLen [mCall (noE f_alive) [mVar 0]]) (mCall bLen [mVar 0]))))))))
def f_is_machine : MF := mFun 1 3 m_is_machine
def m_runs : MS := msSeq (msSet 2 (mC (.int 0)))
    (msSeq (msFor (miSeq (mVar 1)) (gN 3) (msSeq (msSet 4 (mCall bDict [mOp oGet (mOp oGet (mVar 0) (mVar 2)) (mC (.int 1))]))
    (msSeq (msIf (mtVal (mOp oNotIn (mVar 3) (mVar 4))) (msRet (mC (.bl false))) (msNx))
    (msSet 2 (mOp oGet (mVar 4) (mVar 3))))))
    (msRet (mOp oGet (mOp oGet (mVar 0) (mVar 2)) (mC (.int 0)))))
def f_runs : MF := mFun 2 5 m_runs
def m_Heaps_lay : MS := msSeq (msFor (miSeq (mVar 1)) (gN 2) (msPut oPut (mUn (oFld [0] "heap_of") (mVar 0)) (mVar 2) (mCall bLen [mUn (oFld [0] "heaps") (mVar 0)])))
    (msSeq (msExp (mMeth "list" tAppend (mUn (oFld [0] "heaps") (mVar 0)) [mVar 1]))
    (msExp (mMeth "list" tAppend (mUn (oFld [0] "knives") (mVar 0)) [mVar 1])))
def f_Heaps_lay : MF := mFun 2 3 m_Heaps_lay
def m_Heaps_init : MS := msSeq (msFldC [0] "comers" (mVar 0) (mDisp []))
    (msSeq (msFldC [0] "words" (mVar 0) (mDisp []))
    (msSeq (msFor (miSeq (mVar 2)) (gN 3) (msFor (miSeq (mOp oGet (mOp oGet (mVar 1) (mVar 3)) (mC (.int 1)))) (gT [gN 4, gN 5]) (msSeq (msPut oPut (mUn (oFld [0] "words") (mVar 0)) (mVar 4) (mC (.bl true)))
    (msExp (mMeth "list" tAppend (mMeth "dict" tSetd (mUn (oFld [0] "comers") (mVar 0)) [mTup [mVar 4, mVar 5], mLst []]) [mVar 3])))))
    (msSeq (msFldC [0] "heaps" (mVar 0) (mLst []))
    (msSeq (msFldC [0] "heap_of" (mVar 0) (mDisp []))
    (msSeq (msFldC [0] "knives" (mVar 0) (mLst [mVar 2]))
    (msFor (miSeq (mTup [mC (.bl true), mC (.bl false)])) (gN 6) (msSeq (msSet 7 (mLc (miSeq (mVar 2)) (gN 3) (mtVal (mOp oEq (mOp oGet (mOp oGet (mVar 1) (mVar 3)) (mC (.int 0))) (mVar 6))) (mVar 3) [3]))
    (msIf (mtVal (mOp oNe (mVar 7) (mLst []))) (msExp (mMethC 0 "lay" f_Heaps_lay (mVar 0) [mVar 7])) (msNx)))))))))
def f_Heaps_init : MF := mFun 3 8 m_Heaps_init
def m_Heaps_cut : MS := msSeq (msSet 3 (mDisp []))
    (msSeq (msFor (miSeq (mVar 2)) (gN 4) (msFor (miSeq (mMeth "dict" tGet (mUn (oFld [0] "comers") (mVar 0)) [mTup [mVar 1, mVar 4], mLst []])) (gN 5) (msExp (mMeth "list" tAppend (mMeth "dict" tSetd (mVar 3) [mOp oGet (mUn (oFld [0] "heap_of") (mVar 0)) (mVar 5), mLst []]) [mVar 5]))))
    (msFor (miSeq (mCall bSorted [mVar 3])) (gN 6) (msIf (mtVal (mOp oLt (mCall bLen [mOp oGet (mVar 3) (mVar 6)]) (mCall bLen [mOp oGet (mUn (oFld [0] "heaps") (mVar 0)) (mVar 6)]))) (msSeq (msSet 7 (mCall bDict [mLc (miSeq (mOp oGet (mVar 3) (mVar 6))) (gN 5) (mtYes) (mTup [mVar 5, mC (.bl true)]) [5]]))
    (msSeq (msPut oPut (mUn (oFld [0] "heaps") (mVar 0)) (mVar 6) (mLc (miSeq (mOp oGet (mUn (oFld [0] "heaps") (mVar 0)) (mVar 6))) (gN 5) (mtVal (mOp oNotIn (mVar 5) (mVar 7))) (mVar 5) [5]))
    (msSeq (msExp (mMeth "list" tAppend (mUn (oFld [0] "knives") (mVar 0)) [mOp oGet (mUn (oFld [0] "heaps") (mVar 0)) (mVar 6)]))
    (msExp (mMethC 0 "lay" f_Heaps_lay (mVar 0) [mOp oGet (mVar 3) (mVar 6)]))))) (msNx))))
def f_Heaps_cut : MF := mFun 3 8 m_Heaps_cut
def m_Heaps_cut_all : MS := msWhile (mtVal (mOp oNe (mUn (oFld [0] "knives") (mVar 0)) (mLst []))) (msSeq (msSet 1 (mMeth "list" tPop (mUn (oFld [0] "knives") (mVar 0)) []))
    (msFor (miSeq (mCall bSorted [mUn (oFld [0] "words") (mVar 0)])) (gN 2) (msExp (mMethC 0 "cut" f_Heaps_cut (mVar 0) [mVar 2, mVar 1]))))
def f_Heaps_cut_all : MF := mFun 1 3 m_Heaps_cut_all
def m_numbered : MS := msSeq (msSet 2 (fun σ s => (mDisp [(mOp oGet (mVar 1) (mC (.int 0)), mC (.int 0))] σ s).noEr))
    (msSeq (msSet 3 (mLst [mC (.int 0)]))
    (msSeq (msSet 4 (mLst []))
    (msSeq (msWhile (mtVal (mOp oLt (mCall bLen [mVar 4]) (mCall bLen [mVar 3]))) (msSeq (msAsg (gT [gN 5, gN 6]) (mOp oGet (mVar 0) (mOp oGet (mVar 3) (mCall bLen [mVar 4]))))
    (msSeq (msSet 7 (mLst []))
    (msSeq (msFor (miSeq (mVar 6)) (gT [gN 8, gN 9]) (msIf (mtVal (mOp oIn (mVar 9) (mVar 1))) (msSeq (msIf (mtVal (mOp oNotIn (mOp oGet (mVar 1) (mVar 9)) (mVar 2))) (msSeq (msPut oPut (mVar 2) (mOp oGet (mVar 1) (mVar 9)) (mCall bLen [mVar 3]))
    (msExp (mMeth "list" tAppend (mVar 3) [mVar 9]))) (msNx))
    (msExp (mMeth "list" tAppend (mVar 7) [mTup [mVar 8, mOp oGet (mVar 2) (mOp oGet (mVar 1) (mVar 9))]]))) (msNx)))
    (msExp (mMeth "list" tAppend (mVar 4) [mTup [mVar 5, mCall bTuple [mVar 7]]]))))))
    (msRet (mCall bTuple [mVar 4])))))
def f_numbered : MF := mFun 2 10 m_numbered
def m_least_or_none : MS := msSeq (msSet 1 (mCall (noE f_alive) [mVar 0]))
    (msSeq (msIf (mtVal (mOp oNotIn (mC (.int 0)) (mVar 1))) (msRet (mC .non)) (msNx))
    (msSeq (msSet 2 (mCall (noE (mMake 0 f_Heaps_init)) [mVar 0, mLc (miSeq (mCall (noE f_reached) [mVar 0])) (gN 3) (mtVal (mOp oIn (mVar 3) (mVar 1))) (mVar 3) [3]]))
    (msSeq (msExp (mMethC 0 "cut_all" f_Heaps_cut_all (mVar 2) []))
    (msRet (mCall (noE f_numbered) [mVar 0, mUn (oFld [0] "heap_of") (mVar 2)])))))
def f_least_or_none : MF := mFun 1 4 m_least_or_none
def m_least_of : MS := msRet (mCall (noE f_least_or_none) [mVar 0])
def f_least_of : MF := mFun 1 1 m_least_of
def m_come_to : MS := msSeq (msSet 2 (fun σ s => (mDisp [(mVar 1, mC (.bl true))] σ s).noEr))
    (msSeq (msSet 3 (mLst [mVar 1]))
    (msSeq (msWhile (mtVal (mOp oGt (mCall bLen [mVar 3]) (mC (.int 0)))) (msFor (miSeq (mOp oGet (mOp oGet (mVar 0) (mMeth "list" tPop (mVar 3) [])) (mC (.int 1)))) (gT [gN 4, gN 5]) (msIf (mtVal (mOp oNotIn (mVar 5) (mVar 2))) (msSeq (msPut oPut (mVar 2) (mVar 5) (mC (.bl true)))
    (msExp (mMeth "list" tAppend (mVar 3) [mVar 5]))) (msNx))))
    (msRet (mVar 2))))
def f_come_to : MF := mFun 2 6 m_come_to
def m_orbits : MS := msSeq (msSet 2 (mLc (miRng1 (mCall bLen [mVar 0])) (gN 1) (mtYes) (mCall (noE f_come_to) [mVar 0, mVar 1]) [1]))
    (msSeq (msSet 3 (mDisp []))
    (msSeq (msSet 4 (mLst []))
    (msSeq (msFor (miRng1 (mCall bLen [mVar 0])) (gN 1) (msIf (mtVal (mOp oNotIn (mVar 1) (mVar 3))) (msSeq (msSet 5 (mLc (miSeq (mCall bSorted [mOp oGet (mVar 2) (mVar 1)])) (gN 6) (mtVal (mOp oIn (mVar 1) (mOp oGet (mVar 2) (mVar 6)))) (mVar 6) [6]))
    (msSeq (msExp (mMeth "dict" tUpdate (mVar 3) [mCall bDict [mLc (miSeq (mVar 5)) (gN 6) (mtYes) (mTup [mVar 6, mC (.bl true)]) [6]]]))
    (msExp (mMeth "list" tAppend (mVar 4) [mVar 5])))) (msNx)))
    (msRet (mVar 4)))))
def f_orbits : MF := mFun 1 7 m_orbits
def m_leads_out : MS := msSeq (msAsg (gT [gN 3, gN 4]) (mOp oGet (mVar 0) (mVar 2)))
    (msRet (mTup [mVar 3, mCall bTuple [mLc (miSeq (mVar 4)) (gN 5) (mtVal (mOp oNotIn (mOp oGet (mVar 5) (mC (.int 1))) (mVar 1))) (mVar 5) [5]]]))
def f_leads_out : MF := mFun 3 6 m_leads_out
def m_gates : MS := msRet (mLc (miSeq (mVar 1)) (gN 2) (mtVal (mOp oNe (mCall (noE f_leads_out) [mVar 0, mVar 1, mVar 2]) (mTup [mC (.bl false), mTup []]))) (mVar 2) [2])
def f_gates : MF := mFun 2 3 m_gates
def m_steady : MS := msSeq (msSet 1 (mLc (miSeq (mVar 0)) (gT [gN 2, gN 3]) (mtVal (mVar 2)) (mVar 3) [2, 3]))
    (msRet (mLc (miSeq (mOp oGet (mVar 1) (mC (.int 0)))) (gN 4) (mtVal (mCall bAll [mLc (miSeq (mVar 1)) (gN 3) (mtYes) (mOp oIn (mVar 4) (mVar 3)) [3]])) (mOp oGet (mVar 4) (mC (.int 0))) [4]))
def f_steady : MF := mFun 1 5 m_steady
def m_cut_machine : MS := msSeq (msSet 1 (mCall (noE f_steady) [mVar 0]))
    (msSeq (msSet 2 (mLst []))
    (msSeq (msFor (miSeq (mVar 0)) (gT [gN 3, gN 4]) (msExp (mMeth "list" tAppend (mVar 2) [mTup [mVar 3, mCall bTuple [mLc (miSeq (mVar 4)) (gN 5) (mtOr (mtNot (mtVal (mVar 3))) (mtVal (mOp oNotIn (mOp oGet (mVar 5) (mC (.int 0))) (mVar 1)))) (mVar 5) [5]]]])))
    (msRet (mCall bTuple [mVar 2]))))
def f_cut_machine : MF := mFun 1 6 m_cut_machine
def m_cut_orbits : MS := msRet (mCall (noE f_orbits) [mCall (noE f_cut_machine) [mVar 0]])
def f_cut_orbits : MF := mFun 1 1 m_cut_orbits
def m_cut_gates : MS := msRet (mCall (noE f_gates) [mCall (noE f_cut_machine) [mVar 0], mVar 1])
def f_cut_gates : MF := mFun 2 2 m_cut_gates
def m_orbit_of : MS := msRet (mOp oGet (mLc (miSeq (mCall (noE f_orbits) [mVar 0])) (gN 2) (mtVal (mOp oIn (mVar 1) (mVar 2))) (mVar 2) [2]) (mC (.int 0)))
def f_orbit_of : MF := mFun 2 3 m_orbit_of
def m_part_of : MS := msSeq (msSet 2 (mCall (noE f_cut_machine) [mVar 0]))
    (msSeq (msSet 3 (mCall (noE f_orbit_of) [mVar 2, mVar 1]))
    (msSeq (msSet 5 (mOp oAdd (mLst [mVar 1]) (mLc (miSeq (mVar 3)) (gN 4) (mtVal (mOp oNe (mVar 4) (mVar 1))) (mVar 4) [4])))
    (msSeq (msSet 6 (mCall bDict [mLc (miEnum (mVar 5)) (gT [gN 10, gN 4]) (mtYes) (mTup [mVar 4, mVar 10]) [10, 4]]))
    (msSeq (msSet 7 (mCall (noE f_gates) [mVar 2, mVar 3]))
    (msSeq (msSet 8 (mLst []))
    (msSeq (msFor (miSeq (mVar 5)) (gN 4) (msSeq (msSet 9 (mLc (miSeq (mOp oGet (mOp oGet (mVar 2) (mVar 4)) (mC (.int 1)))) (gT [gN 11, gN 12]) (mtVal (mOp oIn (mVar 12) (mVar 6))) (mTup [mVar 11, mOp oGet (mVar 6) (mVar 12)]) [11, 12]))
    (msExp (mMeth "list" tAppend (mVar 8) [mTup [mOp oIn (mVar 4) (mVar 7), mCall bTuple [mVar 9]]]))))
    (msRet (mCall (noE f_least_of) [mCall bTuple [mVar 8]]))))))))
def f_part_of : MF := mFun 2 13 m_part_of
def m_law_gpen : MS := msSeq (msSet 1 (mC (.int 7)))
    (msSeq (msFor (miSeq (mVar 0)) (gN 2) (msSet 1 (mOp oMod (mOp oAdd (mOp oAdd (mOp oMul (mVar 1) (mC (.int 48271))) (mOp oMod (mVar 2) (mC (.int 1000000007)))) (mC (.int 11))) (mC (.int 2147483629)))))
    (msRet (fun σ s => (mDisp [(mC (.str (Str.ofString "mixed")), mVar 1), (mC (.str (Str.ofString "turn")), mC (.int 0)), (mC (.str (Str.ofString "wide")), mLc (miSeq (mVar 0)) (gN 2) (mtVal (mOp oGe (mVar 2) (mOp oPow (mC (.int 10)) (mC (.int 15))))) (mVar 2) [2])] σ s).noEr)))
def f_law_gpen : MF := mFun 1 3 m_law_gpen
def m_law_gdraw : MS := msSeq (msIf (mtAnd (mtVal (mOp oGt (mCall bLen [mOp oGet (mVar 0) (mC (.str (Str.ofString "wide")))]) (mC (.int 0)))) (mtVal (mOp oLt (mOp oGet (mOp oGet (mVar 0) (mC (.str (Str.ofString "wide")))) (mC (.int 0))) (mVar 1)))) (msExp (mMeth "list" tPop (mOp oGet (mVar 0) (mC (.str (Str.ofString "wide")))) [mC (.int 0)])) (msNx))
    (msSeq (msIf (mtVal (mOp oGt (mCall bLen [mOp oGet (mVar 0) (mC (.str (Str.ofString "wide")))]) (mC (.int 0)))) (msSeq (msSet 2 (mOp oMod (mOp oGet (mOp oGet (mVar 0) (mC (.str (Str.ofString "wide")))) (mC (.int 0))) (mVar 1)))
    (msSeq (msPut oPut (mOp oGet (mVar 0) (mC (.str (Str.ofString "wide")))) (mC (.int 0)) (mOp oFdiv (mOp oGet (mOp oGet (mVar 0) (mC (.str (Str.ofString "wide")))) (mC (.int 0))) (mVar 1)))
    (msRet (mVar 2)))) (msNx))
    (msSeq (msPut oPut (mVar 0) (mC (.str (Str.ofString "turn"))) (mOp oAdd (mOp oGet (mVar 0) (mC (.str (Str.ofString "turn")))) (mC (.int 1))))
    (msSeq (msSet 3 (mOp oMod (mOp oAdd (mOp oGet (mVar 0) (mC (.str (Str.ofString "mixed")))) (mOp oMul (mOp oMul (mC (.int 7919)) (mOp oGet (mVar 0) (mC (.str (Str.ofString "turn"))))) (mOp oGet (mVar 0) (mC (.str (Str.ofString "turn")))))) (mC (.int 2147483629))))
    (msSeq (msSet 4 (mOp oMod (mOp oAdd (mOp oAdd (mOp oMul (mVar 3) (mVar 3)) (mOp oMul (mC (.int 40692)) (mOp oGet (mVar 0) (mC (.str (Str.ofString "turn")))))) (mC (.int 3))) (mC (.int 998244353))))
    (msRet (mOp oMod (mOp oFdiv (mOp oMod (mOp oAdd (mOp oMul (mVar 4) (mVar 4)) (mVar 3)) (mC (.int 2147483587))) (mC (.int 16))) (mVar 1)))))))
def f_law_gdraw : MF := mFun 2 5 m_law_gdraw
def m_law_gsigns : MS := msSeq (msSet 2 (mC (.str (Str.ofString "abcdefghijklmnopqrstuvwxyz"))))
    (msSeq (msSet 3 (mMeth "str" tJoin (mC (.str (Str.ofString ""))) [mLc (miRng1 (mOp oGet (mLst [mC (.int 0), mC (.int 0), mC (.int 1), mC (.int 2), mC (.int 5)]) (mCall (noE f_law_gdraw) [mVar 0, mC (.int 5)]))) (gN 5) (mtYes) (mOp oGet (mVar 2) (mCall (noE f_law_gdraw) [mVar 0, mC (.int 26)])) [5]]))
    (msSeq (msSet 4 (mCall (noE f_law_gdraw) [mVar 0, mC (.int 26)]))
    (msRet (mLc (miRng1 (mVar 1)) (gN 5) (mtYes) (mOp oAdd (mVar 3) (mOp oGet (mVar 2) (mOp oMod (mOp oAdd (mVar 4) (mOp oMul (mC (.int 7)) (mVar 5))) (mC (.int 26))))) [5]))))
def f_law_gsigns : MF := mFun 2 6 m_law_gsigns
def m_law_gto_end : MS := msSeq (msSet 2 (mLc (miRng1 (mCall bLen [mVar 0])) (gN 1) (mtVal (mOp oGet (mOp oGet (mVar 0) (mVar 1)) (mC (.int 0)))) (mVar 1) [1]))
    (msSeq (msFor (miRng1 (mCall bLen [mVar 0])) (gN 3) (msFor (miRng1 (mCall bLen [mVar 0])) (gN 1) (msIf (mtAnd (mtVal (mOp oNotIn (mVar 1) (mVar 2))) (mtVal (mCall bAny [mLc (miSeq (mOp oGet (mOp oGet (mVar 0) (mVar 1)) (mC (.int 1)))) (gT [gN 4, gN 5]) (mtYes) (mOp oIn (mVar 5) (mVar 2)) [4, 5]]))) (msExp (mMeth "list" tAppend (mVar 2) [mVar 1])) (msNx))))
    (msRet (mVar 2)))
def f_law_gto_end : MF := mFun 1 6 m_law_gto_end
def m_law_gtrim : MS := msSeq (msIf (mtVal (mOp oNotIn (mC (.int 0)) (mCall (noE f_law_gto_end) [mVar 0]))) (msSet 0 (mOp oAdd (mLst [mTup [mC (.bl true), mOp oGet (mOp oGet (mVar 0) (mC (.int 0))) (mC (.int 1))]]) (mSlice (mVar 0) (poS (mC (.int 1))) (poN)))) (msNx))
    (msSeq (msSet 1 (mCall (noE f_law_gto_end) [mVar 0]))
    (msSeq (msSet 2 (mLst [mC (.int 0)]))
    (msSeq (msSet 3 (mC (.int 0)))
    (msSeq (msWhile (mtVal (mOp oLt (mVar 3) (mCall bLen [mVar 2]))) (msSeq (msFor (miSeq (mOp oGet (mOp oGet (mVar 0) (mOp oGet (mVar 2) (mVar 3))) (mC (.int 1)))) (gT [gN 4, gN 5]) (msIf (mtAnd (mtVal (mOp oIn (mVar 5) (mVar 1))) (mtVal (mOp oNotIn (mVar 5) (mVar 2)))) (msExp (mMeth "list" tAppend (mVar 2) [mVar 5])) (msNx)))
    (msSet 3 (mOp oAdd (mVar 3) (mC (.int 1))))))
    (msSeq (msSet 6 (mLst []))
    (msSeq (msFor (miSeq (mVar 2)) (gN 7) (msSeq (msSet 8 (mLc (miSeq (mOp oGet (mOp oGet (mVar 0) (mVar 7)) (mC (.int 1)))) (gT [gN 4, gN 5]) (mtVal (mOp oIn (mVar 5) (mVar 1))) (mTup [mVar 4, mMeth "list" tIndex (mVar 2) [mVar 5]]) [4, 5]))
    (msExp (mMeth "list" tAppend (mVar 6) [mTup [mOp oGet (mOp oGet (mVar 0) (mVar 7)) (mC (.int 0)), mCall bTuple [mVar 8]]]))))
    (msRet (mCall bTuple [mVar 6]))))))))
def f_law_gtrim : MF := mFun 1 9 m_law_gtrim
def m_law_gmachine : MS := msSeq (msSet 3 (mOp oAdd (mC (.int 1)) (mCall (noE f_law_gdraw) [mVar 0, mVar 1])))
    (msSeq (msSet 4 (mOp oAdd (mC (.int 1)) (mCall (noE f_law_gdraw) [mVar 0, mC (.int 4)])))
    (msSeq (msSet 5 (mCall (noE f_law_gdraw) [mVar 0, mC (.int 2)]))
    (msSeq (msSet 6 (mLst []))
    (msSeq (msFor (miRng1 (mVar 3)) (gN 7) (msSeq (msSet 8 (mLst []))
    (msSeq (msFor (miSeq (mCall bSorted [mVar 2])) (gN 9) (msIf (mtVal (mOp oLt (mCall (noE f_law_gdraw) [mVar 0, mC (.int 4)]) (mVar 4))) (msExp (mMeth "list" tAppend (mVar 8) [mTup [mVar 9, mOp oGet (mLst [mCall (noE f_law_gdraw) [mVar 0, mVar 3], mOp oMod (mOp oAdd (mVar 7) (mCall (noE f_law_gdraw) [mVar 0, mC (.int 2)])) (mVar 3)]) (mVar 5)]])) (msNx)))
    (msExp (mMeth "list" tAppend (mVar 6) [mTup [mOp oEq (mCall (noE f_law_gdraw) [mVar 0, mC (.int 3)]) (mC (.int 0)), mCall bTuple [mVar 8]]])))))
    (msRet (mCall (noE f_law_gtrim) [mVar 6]))))))
def f_law_gmachine : MF := mFun 3 10 m_law_gmachine
def m_law_ggoal : MS := msRet (mLc (miSeq (mVar 0)) (gT [gN 2, gN 3]) (mtVal (mOp oEq (mVar 2) (mVar 1))) (mVar 3) [2, 3])
def f_law_ggoal : MF := mFun 2 4 m_law_ggoal
def m_law_gsame (fself : MF) : MS := msSeq (msIf (mtVal (mOp oIsN (mVar 1) (mC .non))) (msRet (mOp oIsN (mVar 0) (mC .non))) (msNx))
    (msSeq (msIf (mtVal (mCall bIsi [mVar 1, mC (.ty "bool")])) (msRet (mAnd (mCall bIsi [mVar 0, mC (.ty "bool")]) (mOp oEq (mVar 0) (mVar 1)))) (msNx))
    (msSeq (msIf (mtVal (mCall bIsi [mVar 1, mC (.ty "int")])) (msRet (mAnd (mCall bIsi [mVar 0, mC (.ty "int")]) (mAnd (mNot (mCall bIsi [mVar 0, mC (.ty "bool")])) (mOp oEq (mVar 0) (mVar 1))))) (msNx))
    (msSeq (msIf (mtVal (mCall bIsi [mVar 1, mC (.ty "str")])) (msRet (mAnd (mCall bIsi [mVar 0, mC (.ty "str")]) (mOp oEq (mVar 0) (mVar 1)))) (msNx))
    (msSeq (msIf (mtOr (mtVal (mOp oNe (mCall bIsi [mVar 1, mC (.ty "tuple")]) (mCall bIsi [mVar 0, mC (.ty "tuple")]))) (mtVal (mOp oNe (mCall bIsi [mVar 1, mC (.ty "list")]) (mCall bIsi [mVar 0, mC (.ty "list")])))) (msRet (mC (.bl false))) (msNx))
    (msRet (mAnd (mOp oEq (mCall bLen [mVar 0]) (mCall bLen [mVar 1])) (mCall bAll [mLc (miZip (mVar 0) (mVar 1)) (gT [gN 2, gN 3]) (mtYes) (mCall (noE fself) [mVar 2, mVar 3]) [2, 3]])))))))
def f_law_gsame : Nat → MF
  | 0 => fun _ _ => .bad
  | n + 1 => mFun 2 4 (m_law_gsame (f_law_gsame n))
def m_law_gstep : MS := msSeq (msSet 5 (mCall (noE f_law_ggoal) [mOp oGet (mOp oGet (mVar 0) (mVar 3)) (mC (.int 1)), mVar 4]))
    (msSeq (msIf (mtOr (mtVal (mOp oEq (mVar 5) (mLst []))) (mtOr (mtVal (mOp oNotIn (mOp oGet (mVar 5) (mC (.int 0))) (mVar 2))) (mtAnd (mtVal (mOp oGet (mOp oGet (mVar 0) (mVar 3)) (mC (.int 0)))) (mtVal (mOp oIn (mVar 4) (mVar 1)))))) (msRet (mC .non)) (msNx))
    (msRet (mOp oGet (mVar 5) (mC (.int 0)))))
def f_law_gstep : MF := mFun 5 6 m_law_gstep
def m_law_gends_so : MS := msSeq (msFor (miSeq (mVar 4)) (gN 5) (msIf (mtVal (mOp oNotN (mVar 3) (mC .non))) (msSet 3 (mCall (noE f_law_gstep) [mVar 0, mVar 1, mVar 2, mVar 3, mVar 5])) (msNx)))
    (msRet (mAnd (mOp oNotN (mVar 3) (mC .non)) (mOp oIn (mVar 3) (mCall (noE f_cut_gates) [mVar 0, mVar 2]))))
def f_law_gends_so : MF := mFun 5 6 m_law_gends_so
def m_law_grow : MS := msSeq (msSet 4 (mTup []))
    (msSeq (msFor (miRng1 (mCall (noE f_law_gdraw) [mVar 0, mC (.int 6)])) (gN 5) (msSeq (msSet 6 (mOp oGet (mVar 2) (mCall (noE f_law_gdraw) [mVar 0, mCall bLen [mVar 2]])))
    (msSeq (msSet 7 (mOp oGet (mOp oGet (mVar 1) (mVar 3)) (mC (.int 1))))
    (msSeq (msIf (mtAnd (mtVal (mOp oNe (mVar 7) (mTup []))) (mtVal (mOp oGt (mCall (noE f_law_gdraw) [mVar 0, mC (.int 4)]) (mC (.int 0))))) (msAsg (gT [gN 6, gN 3]) (mOp oGet (mVar 7) (mCall (noE f_law_gdraw) [mVar 0, mCall bLen [mVar 7]]))) (msNx))
    (msSet 4 (mOp oAdd (mVar 4) (mTup [mVar 6])))))))
    (msRet (mVar 4)))
def f_law_grow : MF := mFun 4 8 m_law_grow
def m_law_gpart_right : MS := msSeq (msSet 5 (mCall (noE f_steady) [mVar 1]))
    (msSeq (msSet 6 (mCall (noE f_part_of) [mVar 1, mVar 4]))
    (msSeq (msIf (mtVal (mOp oNotN (mCall (noE f_is_machine) [mVar 6]) (mC (.bl true)))) (msRet (mC (.bl false))) (msNx))
    (msSeq (msFor (miRng1 (mC (.int 4))) (gN 7) (msSeq (msSet 8 (mCall (noE f_law_grow) [mVar 0, mVar 1, mVar 2, mVar 4]))
    (msSeq (msIf (mtNot (mtVal (mCall (noE (f_law_gsame 8)) [mCall (noE f_runs) [mVar 6, mVar 8], mCall (noE f_law_gends_so) [mVar 1, mVar 5, mVar 3, mVar 4, mVar 8]]))) (msRet (mC (.bl false))) (msNx))
    (msSeq (msSet 9 (mIf (mtVal (mOp oEq (mVar 8) (mTup []))) (mC .non) (mCall (noE f_law_gstep) [mVar 1, mVar 5, mVar 3, mVar 4, mOp oGet (mVar 8) (mC (.int 0))])))
    (msIf (mtAnd (mtVal (mOp oNotN (mVar 9) (mC .non))) (mtVal (mOp oNe (mCall (noE f_runs) [mCall (noE f_part_of) [mVar 1, mVar 9], mSlice (mVar 8) (poS (mC (.int 1))) (poN)]) (mCall (noE f_runs) [mVar 6, mVar 8])))) (msRet (mC (.bl false))) (msNx))))))
    (msRet (mC (.bl true))))))
def f_law_gpart_right : MF := mFun 5 10 m_law_gpart_right
def m_law : MS := msSeq (msSet 1 (mCall (noE f_law_gpen) [mVar 0]))
    (msSeq (msFor (miRng1 (mC (.int 3))) (gN 2) (msSeq (msSet 3 (mCall (noE f_law_gsigns) [mVar 1, mOp oAdd (mC (.int 1)) (mCall (noE f_law_gdraw) [mVar 1, mC (.int 3)])]))
    (msSeq (msSet 4 (mCall (noE f_law_gmachine) [mVar 1, mC (.int 7), mVar 3]))
    (msFor (miSeq (mCall (noE f_cut_orbits) [mVar 4])) (gN 5) (msIf (mtNot (mtVal (mCall bAll [mLc (miSeq (mVar 5)) (gN 6) (mtYes) (mCall (noE f_law_gpart_right) [mVar 1, mVar 4, mVar 3, mVar 5, mVar 6]) [6]]))) (msRet (mC (.bl false))) (msNx))))))
    (msRet (mC (.bl true))))
def f_law : MF := mFun 1 7 m_law
end
end Mid
namespace Mid
open PySem PySem.Spec L2 Classical
open PyProof.Rows (envOfC)
namespace Tk83
def topS (i : Nat) : Stmt := PySem.Challenge.pw_soleway_k83_whole_rows_of_parts.main.body.getD i (.Pass ⟨0, 0, 0, 0⟩)
/-- the built-in names that the text doesn't take -/
structure Zs (mg : Str → Option Value) : Prop where
  z_all : mg "all" = none
  z_any : mg "any" = none
  z_bool : mg "bool" = none
  z_dict : mg "dict" = none
  z_enumerate : mg "enumerate" = none
  z_int : mg "int" = none
  z_isinstance : mg "isinstance" = none
  z_len : mg "len" = none
  z_list : mg "list" = none
  z_range : mg "range" = none
  z_set : mg "set" = none
  z_sorted : mg "sorted" = none
  z_str : mg "str" = none
  z_tuple : mg "tuple" = none
  z_zip : mg "zip" = none
  v_LONGEST_SIGN : ∃ u, mg "LONGEST_SIGN" = some u ∧ RelV (.int 6) u
  v_MOST_HELD : ∃ u, mg "MOST_HELD" = some u ∧ RelV (.int 200) u
  v_MOST_UNLIKE : ∃ u, mg "MOST_UNLIKE" = some u ∧ RelV (.int 6) u
  v_SMALL : ∃ u, mg "SMALL" = some u ∧ RelV (.str (Str.ofString "abcdefghijklmnopqrstuvwxyz")) u
/-- the attributes -/
structure As (K : PySem.W.Frag) (κ : Kap) : Prop where
  at_comers : Attr K κ [0] "comers"
  at_heap_of : Attr K κ [0] "heap_of"
  at_heaps : Attr K κ [0] "heaps"
  at_knives : Attr K κ [0] "knives"
  at_words : Attr K κ [0] "words"
section
variable {P : Program} {w : World} {K : PySem.W.Frag} {mg : Str → Option Value} {base : Heap} {κ : Kap}
abbrev s_is_whole : Stmt := topS 3
abbrev N_is_whole : List Str := ["thing"]
theorem sc_is_whole : FnScope N_is_whole ["thing"] (defScope s_is_whole) := ⟨rfl, rfl, rfl, by decide +kernel, rfl, by decide +kernel, by decide +kernel⟩
set_option maxHeartbeats 4000000 in
theorem fn_is_whole (KW : κ.w = w) {f : Addr} {fd : FuncData} (F : Fun K "is_whole" "is_whole" s_is_whole f fd) (Z : Zs mg) (At : As K κ) : FnOk P w K mg base CX0 1 f fd ["thing"] (spF0 K κ 1 f_is_whole) :=
  fn_ok (κ := κ) F sc_is_whole fun cdv A outer s H E hr => ls_one (ls_ret (le_and (le_callB call_isi L_isi (by rfl) Z.z_isinstance (by decide +kernel) (la_cons (le_var 0) (la_cons (le_c (pe_bltn (v := .ty "int") (by rfl) Z.z_int (by decide +kernel) rfl) (fun _ _ => by simp only [VR])) (la_nil)))) (le_one (le_not (le_callB call_isi L_isi (by rfl) Z.z_isinstance (by decide +kernel) (la_cons (le_var 0) (la_cons (le_c (pe_bltn (v := .ty "bool") (by rfl) Z.z_bool (by decide +kernel) rfl) (fun _ _ => by simp only [VR])) (la_nil))))))))
theorem ok_is_whole (KW : κ.w = w) {f : Addr} {fd : FuncData} (F : Fun K "is_whole" "is_whole" s_is_whole f fd) (G : mg "is_whole" = some (.ref f)) (Z : Zs mg) (At : As K κ) : Cal P w K mg base κ 1 "is_whole" 1 f_is_whole := ⟨f, fd, _, fn_is_whole KW F Z At, G, F.kp, F.binds (ps := ["thing"]) fun _ _ _ _ _ _ us hl => match us, hl with | [_], _ => rfl⟩
abbrev s_is_sign : Stmt := topS 4
abbrev N_is_sign : List Str := ["thing", "letter"]
theorem sc_is_sign : FnScope N_is_sign ["thing"] (defScope s_is_sign) := ⟨rfl, rfl, rfl, by decide +kernel, rfl, by decide +kernel, by decide +kernel⟩
set_option maxHeartbeats 4000000 in
theorem fn_is_sign (KW : κ.w = w) {f : Addr} {fd : FuncData} (F : Fun K "is_sign" "is_sign" s_is_sign f fd) (Z : Zs mg) (At : As K κ) : FnOk P w K mg base CX0 1 f fd ["thing"] (spF0 K κ 1 f_is_sign) :=
  fn_ok (κ := κ) F sc_is_sign fun cdv A outer s H E hr => ls_cons (ls_if (lt_w (lw_or (lt_not (lt_val (le_callB call_isi L_isi (by rfl) Z.z_isinstance (by decide +kernel) (la_cons (le_var 0) (la_cons (le_c (pe_bltn (v := .ty "str") (by rfl) Z.z_str (by decide +kernel) rfl) (fun _ _ => by simp only [VR])) (la_nil)))))) (lw_or1 (lt_not (lt_chain op_le L_le op_le L_le (le_int) (le_callB cr_len (L_len KW) (by rfl) Z.z_len (by decide +kernel) (la_cons (le_var 0) (la_nil))) (le_gv (by rfl) Z.v_LONGEST_SIGN (fun _ _ => by simp only [VR]))))))) (ls_one (ls_ret (le_bl))) (ls_nil))
    (ls_one (ls_ret (le_cmp (op_eqD hr.units) L_eq (le_callB cr_len (L_len KW) (by rfl) Z.z_len (by decide +kernel) (la_cons (le_lc rfl sc_is_sign.nd (li_any (le_var 0)) (blkOk_by (own := [("letter", 1)]) (N := N_is_sign) (sc := defScope s_is_sign) (by decide +kernel)) rfl (by decide) (fun _ _ _ _ _ => lg_name 1 sc_is_sign.nd) (fun _ _ _ _ _ => lts_one (lt_cmp (or_notIn (hu65 hr)) (L_notIn KW) (le_var 1) (le_gv (by rfl) Z.v_SMALL (fun _ _ => by simp only [VR])))) (fun _ _ _ _ _ => le_var 1)) (la_nil))) (le_int))))
theorem ok_is_sign (KW : κ.w = w) {f : Addr} {fd : FuncData} (F : Fun K "is_sign" "is_sign" s_is_sign f fd) (G : mg "is_sign" = some (.ref f)) (Z : Zs mg) (At : As K κ) : Cal P w K mg base κ 1 "is_sign" 1 f_is_sign := ⟨f, fd, _, fn_is_sign KW F Z At, G, F.kp, F.binds (ps := ["thing"]) fun _ _ _ _ _ _ us hl => match us, hl with | [_], _ => rfl⟩
abbrev s_is_led : Stmt := topS 8
abbrev N_is_led : List Str := ["thing", "many"]
theorem sc_is_led : FnScope N_is_led ["thing", "many"] (defScope s_is_led) := ⟨rfl, rfl, rfl, by decide +kernel, rfl, by decide +kernel, by decide +kernel⟩
set_option maxHeartbeats 4000000 in
theorem fn_is_led (KW : κ.w = w) {f : Addr} {fd : FuncData} (F : Fun K "is_led" "is_led" s_is_led f fd) (Z : Zs mg) (At : As K κ) (C_is_whole : Cal P w K mg base κ 1 "is_whole" 1 f_is_whole) (C_is_sign : Cal P w K mg base κ 1 "is_sign" 1 f_is_sign) : FnOk P w K mg base CX0 2 f fd ["thing", "many"] (spF0 K κ 2 f_is_led) :=
  fn_ok (κ := κ) F sc_is_led fun cdv A outer s H E hr => ls_cons (ls_if (lt_w (lw_or (lt_not (lt_val (le_callB call_isi L_isi (by rfl) Z.z_isinstance (by decide +kernel) (la_cons (le_var 0) (la_cons (le_c (pe_bltn (v := .ty "tuple") (by rfl) Z.z_tuple (by decide +kernel) rfl) (fun _ _ => by simp only [VR])) (la_nil)))))) (lw_or1 (lt_cmp (op_neD hr.units) L_ne (le_callB cr_len (L_len KW) (by rfl) Z.z_len (by decide +kernel) (la_cons (le_var 0) (la_nil))) (le_int))))) (ls_one (ls_ret (le_bl))) (ls_nil))
    (ls_one (ls_ret (le_and (le_calC C_is_sign (hr.mono (by decide)) (by rfl) (la_cons (le_ix (ix_any (hu65 hr)) (L_get KW) (le_var 0) (le_int) (fun _ _ => rfl)) (la_nil))) (le_and (le_calC C_is_whole (hr.mono (by decide)) (by rfl) (la_cons (le_ix (ix_any (hu65 hr)) (L_get KW) (le_var 0) (le_int) (fun _ _ => rfl)) (la_nil))) (le_one (le_chain op_le L_le op_lt L_lt (le_int) (le_ix (ix_any (hu65 hr)) (L_get KW) (le_var 0) (le_int) (fun _ _ => rfl)) (le_var 1)))))))
theorem ok_is_led (KW : κ.w = w) {f : Addr} {fd : FuncData} (F : Fun K "is_led" "is_led" s_is_led f fd) (G : mg "is_led" = some (.ref f)) (Z : Zs mg) (At : As K κ) (C_is_whole : Cal P w K mg base κ 1 "is_whole" 1 f_is_whole) (C_is_sign : Cal P w K mg base κ 1 "is_sign" 1 f_is_sign) : Cal P w K mg base κ 2 "is_led" 2 f_is_led := ⟨f, fd, _, fn_is_led KW F Z At C_is_whole C_is_sign, G, F.kp, F.binds (ps := ["thing", "many"]) fun _ _ _ _ _ _ us hl => match us, hl with | [_, _], _ => rfl⟩
abbrev s_is_room : Stmt := topS 9
abbrev N_is_room : List Str := ["thing", "many", "words", "sign", "there", "one"]
theorem sc_is_room : FnScope N_is_room ["thing", "many"] (defScope s_is_room) := ⟨rfl, rfl, rfl, by decide +kernel, rfl, by decide +kernel, by decide +kernel⟩
set_option maxHeartbeats 4000000 in
theorem fn_is_room (KW : κ.w = w) {f : Addr} {fd : FuncData} (F : Fun K "is_room" "is_room" s_is_room f fd) (Z : Zs mg) (At : As K κ) (C_is_led : Cal P w K mg base κ 2 "is_led" 2 f_is_led) : FnOk P w K mg base CX0 3 f fd ["thing", "many"] (spF0 K κ 2 f_is_room) :=
  fn_ok (κ := κ) F sc_is_room fun cdv A outer s H E hr => ls_cons (ls_if (lt_w (lw_or (lt_not (lt_val (le_callB call_isi L_isi (by rfl) Z.z_isinstance (by decide +kernel) (la_cons (le_var 0) (la_cons (le_c (pe_bltn (v := .ty "tuple") (by rfl) Z.z_tuple (by decide +kernel) rfl) (fun _ _ => by simp only [VR])) (la_nil)))))) (lw_or1 (lt_cmp (op_neD hr.units) L_ne (le_callB cr_len (L_len KW) (by rfl) Z.z_len (by decide +kernel) (la_cons (le_var 0) (la_nil))) (le_int))))) (ls_one (ls_ret (le_bl))) (ls_nil))
    (ls_cons (ls_if (lt_w (lw_or (lt_not (lt_val (le_callB call_isi L_isi (by rfl) Z.z_isinstance (by decide +kernel) (la_cons (le_ix (ix_any (hu65 hr)) (L_get KW) (le_var 0) (le_int) (fun _ _ => rfl)) (la_cons (le_c (pe_bltn (v := .ty "bool") (by rfl) Z.z_bool (by decide +kernel) rfl) (fun _ _ => by simp only [VR])) (la_nil)))))) (lw_or1 (lt_not (lt_val (le_callB call_isi L_isi (by rfl) Z.z_isinstance (by decide +kernel) (la_cons (le_ix (ix_any (hu65 hr)) (L_get KW) (le_var 0) (le_int) (fun _ _ => rfl)) (la_cons (le_c (pe_bltn (v := .ty "tuple") (by rfl) Z.z_tuple (by decide +kernel) rfl) (fun _ _ => by simp only [VR])) (la_nil))))))))) (ls_one (ls_ret (le_bl))) (ls_nil))
    (ls_cons (ls_if (lt_not (lt_val (le_callB (cr_all rfl) L_all (by rfl) Z.z_all (by decide +kernel) (la_cons (le_lc rfl sc_is_room.nd (li_any (le_ix (ix_any (hu65 hr)) (L_get KW) (le_var 0) (le_int) (fun _ _ => rfl))) (blkOk_by (own := [("one", 5)]) (N := N_is_room) (sc := defScope s_is_room) (by decide +kernel)) rfl (by decide) (fun _ _ _ _ _ => lg_name 5 sc_is_room.nd) (fun _ _ _ _ _ => lts_nil) (fun _ _ _ _ _ => le_calC C_is_led (hr.mono (by decide)) (by rfl) (la_cons (le_var 5) (la_cons (le_var 1) (la_nil))))) (la_nil))))) (ls_one (ls_ret (le_bl))) (ls_nil))
    (ls_cons (ls_setLc 2 rfl sc_is_room.nd (li_any (le_ix (ix_any (hu65 hr)) (L_get KW) (le_var 0) (le_int) (fun _ _ => rfl))) (blkOk_by (own := [("sign", 3), ("there", 4)]) (N := N_is_room) (sc := defScope s_is_room) (by decide +kernel)) rfl (by decide) (fun _ _ _ _ _ => lg_tup rfl (lgs_cons (lg_name 3 sc_is_room.nd) (lgs_cons (lg_name 4 sc_is_room.nd) (lgs_nil)))) (fun _ _ _ _ _ => lts_nil) (fun _ _ _ _ _ => le_var 3))
    (ls_one (ls_ret (le_cmp (op_eqD hr.units) L_eq (le_var 2) (le_sortSet rfl (by rfl) Z.z_sorted (by rfl) Z.z_set (le_var 2))))))))
theorem ok_is_room (KW : κ.w = w) {f : Addr} {fd : FuncData} (F : Fun K "is_room" "is_room" s_is_room f fd) (G : mg "is_room" = some (.ref f)) (Z : Zs mg) (At : As K κ) (C_is_led : Cal P w K mg base κ 2 "is_led" 2 f_is_led) : Cal P w K mg base κ 3 "is_room" 2 f_is_room := ⟨f, fd, _, fn_is_room KW F Z At C_is_led, G, F.kp, F.binds (ps := ["thing", "many"]) fun _ _ _ _ _ _ us hl => match us, hl with | [_, _], _ => rfl⟩
abbrev s_alive : Stmt := topS 12
abbrev N_alive : List Str := ["rooms", "comers", "here", "room", "sign", "there", "waiting", "met"]
theorem sc_alive : FnScope N_alive ["rooms"] (defScope s_alive) := ⟨rfl, rfl, rfl, by decide +kernel, rfl, by decide +kernel, by decide +kernel⟩
set_option maxHeartbeats 4000000 in
theorem fn_alive (KW : κ.w = w) {f : Addr} {fd : FuncData} (F : Fun K "alive" "alive" s_alive f fd) (Z : Zs mg) (At : As K κ) : FnOk P w K mg base CX0 1 f fd ["rooms"] (spF0 K κ 1 f_alive) :=
  fn_ok (κ := κ) F sc_alive fun cdv A outer s H E hr => ls_cons (ls_set 1 sc_alive.nd (le_dict0))
    (ls_cons (ls_for PassesOwn.never rfl (li_enum (by rfl) Z.z_enumerate (le_var 0)) (lg_tup rfl (lgs_cons (lg_name 2 sc_alive.nd) (lgs_cons (lg_name 3 sc_alive.nd) (lgs_nil)))) (ls_one (ls_for PassesOwn.never rfl (li_any (le_ix (ix_any (hu65 hr)) (L_get KW) (le_var 3) (le_int) (fun _ _ => rfl))) (lg_tup rfl (lgs_cons (lg_name 4 sc_alive.nd) (lgs_cons (lg_name 5 sc_alive.nd) (lgs_nil)))) (ls_one (ls_expr (le_meth PySem.F.plainAttrs_list PySem.F.slot_list_append PySem.F.type_list_append mt_append L_append (le_meth PySem.F.plainAttrs_dict PySem.F.slot_dict_setdefault PySem.F.type_dict_setdefault (mt_setd (hu65 hr)) (L_setd KW) (le_var 1) (la_cons (le_var 5) (la_cons (le_lst (la_nil)) (la_nil)))) (la_cons (le_var 2) (la_nil))))))))
    (ls_cons (ls_setLc 6 rfl sc_alive.nd (li_enum (by rfl) Z.z_enumerate (le_var 0)) (blkOk_by (own := [("here", 2), ("room", 3)]) (N := N_alive) (sc := defScope s_alive) (by decide +kernel)) rfl (by decide) (fun _ _ _ _ _ => lg_tup rfl (lgs_cons (lg_name 2 sc_alive.nd) (lgs_cons (lg_name 3 sc_alive.nd) (lgs_nil)))) (fun _ _ _ _ _ => lts_one (lt_val (le_ix (ix_any (hu65 hr)) (L_get KW) (le_var 3) (le_int) (fun _ _ => rfl)))) (fun _ _ _ _ _ => le_var 2))
    (ls_cons (ls_set 7 sc_alive.nd (le_callTy (cr_dictP rfl) (L_dict rfl) (by rfl) Z.z_dict (by decide +kernel) (la_cons (le_lc rfl sc_alive.nd (li_any (le_var 6)) (blkOk_by (own := [("here", 2)]) (N := N_alive) (sc := defScope s_alive) (by decide +kernel)) rfl (by decide) (fun _ _ _ _ _ => lg_name 2 sc_alive.nd) (fun _ _ _ _ _ => lts_nil) (fun _ _ _ _ _ => le_tup (la_cons (le_var 2) (la_cons (le_bl) (la_nil))))) (la_nil))))
    (ls_cons (ls_while PassesOwn.never (lt_cmp (op_neD hr.units) L_ne (le_var 6) (le_lst (la_nil))) (ls_one (ls_for PassesOwn.never rfl (li_any (le_meth PySem.F.plainAttrs_dict PySem.F.slot_dict_get PySem.F.type_dict_get (mt_get (hu65 hr)) (L_dget KW) (le_var 1) (la_cons (le_meth0 PySem.F.plainAttrs_list PySem.F.slot_list_pop PySem.F.type_list_pop mt_popA L_pop (le_var 6)) (la_cons (le_lst (la_nil)) (la_nil))))) (lg_name 2 sc_alive.nd) (ls_one (ls_if (lt_cmp (or_notIn (hu65 hr)) (L_notIn KW) (le_var 2) (le_var 7)) (ls_cons (ls_put (set_any (hu65 hr)) (L_put KW) (le_bl) (le_var 7) (le_var 2))
    (ls_one (ls_expr (le_meth PySem.F.plainAttrs_list PySem.F.slot_list_append PySem.F.type_list_append mt_append L_append (le_var 6) (la_cons (le_var 2) (la_nil)))))) (ls_nil))))))
    (ls_one (ls_ret (le_var 7)))))))
theorem ok_alive (KW : κ.w = w) {f : Addr} {fd : FuncData} (F : Fun K "alive" "alive" s_alive f fd) (G : mg "alive" = some (.ref f)) (Z : Zs mg) (At : As K κ) : Cal P w K mg base κ 1 "alive" 1 f_alive := ⟨f, fd, _, fn_alive KW F Z At, G, F.kp, F.binds (ps := ["rooms"]) fun _ _ _ _ _ _ us hl => match us, hl with | [_], _ => rfl⟩
abbrev s_reached : Stmt := topS 11
abbrev N_reached : List Str := ["rooms", "found", "met", "at", "sign", "there"]
theorem sc_reached : FnScope N_reached ["rooms"] (defScope s_reached) := ⟨rfl, rfl, rfl, by decide +kernel, rfl, by decide +kernel, by decide +kernel⟩
set_option maxHeartbeats 4000000 in
theorem fn_reached (KW : κ.w = w) {f : Addr} {fd : FuncData} (F : Fun K "reached" "reached" s_reached f fd) (Z : Zs mg) (At : As K κ) : FnOk P w K mg base CX0 1 f fd ["rooms"] (spF0 K κ 1 f_reached) :=
  fn_ok (κ := κ) F sc_reached fun cdv A outer s H E hr => ls_cons (ls_set 1 sc_reached.nd (le_lst (la_cons (le_int) (la_nil))))
    (ls_cons (ls_set 2 sc_reached.nd (le_disp (.cons (le_int) (le_bl) (.nil))))
    (ls_cons (ls_set 3 sc_reached.nd (le_int))
    (ls_cons (ls_while PassesOwn.never (lt_cmp op_lt L_lt (le_var 3) (le_callB cr_len (L_len KW) (by rfl) Z.z_len (by decide +kernel) (la_cons (le_var 1) (la_nil)))) (ls_cons (ls_for PassesOwn.never rfl (li_any (le_ix (ix_any (hu65 hr)) (L_get KW) (le_ix (ix_any (hu65 hr)) (L_get KW) (le_var 0) (le_ix (ix_any (hu65 hr)) (L_get KW) (le_var 1) (le_var 3) (fun _ _ => rfl)) (fun _ _ => rfl)) (le_int) (fun _ _ => rfl))) (lg_tup rfl (lgs_cons (lg_name 4 sc_reached.nd) (lgs_cons (lg_name 5 sc_reached.nd) (lgs_nil)))) (ls_one (ls_if (lt_cmp (or_notIn (hu65 hr)) (L_notIn KW) (le_var 5) (le_var 2)) (ls_cons (ls_put (set_any (hu65 hr)) (L_put KW) (le_bl) (le_var 2) (le_var 5))
    (ls_one (ls_expr (le_meth PySem.F.plainAttrs_list PySem.F.slot_list_append PySem.F.type_list_append mt_append L_append (le_var 1) (la_cons (le_var 5) (la_nil)))))) (ls_nil))))
    (ls_one (ls_set 3 sc_reached.nd (le_op or_add L_add (le_var 3) (le_int))))))
    (ls_one (ls_ret (le_var 1))))))
theorem ok_reached (KW : κ.w = w) {f : Addr} {fd : FuncData} (F : Fun K "reached" "reached" s_reached f fd) (G : mg "reached" = some (.ref f)) (Z : Zs mg) (At : As K κ) : Cal P w K mg base κ 1 "reached" 1 f_reached := ⟨f, fd, _, fn_reached KW F Z At, G, F.kp, F.binds (ps := ["rooms"]) fun _ _ _ _ _ _ us hl => match us, hl with | [_], _ => rfl⟩
abbrev s_is_machine : Stmt := topS 10
abbrev N_is_machine : List Str := ["thing", "room", "words"]
theorem sc_is_machine : FnScope N_is_machine ["thing"] (defScope s_is_machine) := ⟨rfl, rfl, rfl, by decide +kernel, rfl, by decide +kernel, by decide +kernel⟩
set_option maxHeartbeats 4000000 in
theorem fn_is_machine (KW : κ.w = w) {f : Addr} {fd : FuncData} (F : Fun K "is_machine" "is_machine" s_is_machine f fd) (Z : Zs mg) (At : As K κ) (C_is_room : Cal P w K mg base κ 3 "is_room" 2 f_is_room) (C_alive : Cal P w K mg base κ 1 "alive" 1 f_alive) (C_reached : Cal P w K mg base κ 1 "reached" 1 f_reached) : FnOk P w K mg base CX0 4 f fd ["thing"] (spF0 K κ 1 f_is_machine) :=
  fn_ok (κ := κ) F sc_is_machine fun cdv A outer s H E hr => ls_cons (ls_if (lt_w (lw_or (lt_not (lt_val (le_callB call_isi L_isi (by rfl) Z.z_isinstance (by decide +kernel) (la_cons (le_var 0) (la_cons (le_c (pe_bltn (v := .ty "tuple") (by rfl) Z.z_tuple (by decide +kernel) rfl) (fun _ _ => by simp only [VR])) (la_nil)))))) (lw_or1 (lt_not (lt_chain op_le L_le op_le L_le (le_int) (le_callB cr_len (L_len KW) (by rfl) Z.z_len (by decide +kernel) (la_cons (le_var 0) (la_nil))) (le_gv (by rfl) Z.v_MOST_HELD (fun _ _ => by simp only [VR]))))))) (ls_one (ls_ret (le_bl))) (ls_nil))
    (ls_cons (ls_if (lt_not (lt_val (le_callB (cr_all rfl) L_all (by rfl) Z.z_all (by decide +kernel) (la_cons (le_lc rfl sc_is_machine.nd (li_any (le_var 0)) (blkOk_by (own := [("room", 1)]) (N := N_is_machine) (sc := defScope s_is_machine) (by decide +kernel)) rfl (by decide) (fun _ _ _ _ _ => lg_name 1 sc_is_machine.nd) (fun _ _ _ _ _ => lts_nil) (fun _ _ _ _ _ => le_calC C_is_room (hr.mono (by decide)) (by rfl) (la_cons (le_var 1) (la_cons (le_callB cr_len (L_len KW) (by rfl) Z.z_len (by decide +kernel) (la_cons (le_var 0) (la_nil))) (la_nil))))) (la_nil))))) (ls_one (ls_ret (le_bl))) (ls_nil))
    (ls_cons (ls_set 2 sc_is_machine.nd (le_dict0))
    (ls_cons (ls_for PassesOwn.never rfl (li_any (le_var 0)) (lg_name 1 sc_is_machine.nd) (ls_one (ls_expr (le_meth PySem.F.plainAttrs_dict PySem.F.slot_dict_update PySem.F.type_dict_update mt_update L_update (le_var 2) (la_cons (le_callTy (cr_dictP rfl) (L_dict rfl) (by rfl) Z.z_dict (by decide +kernel) (la_cons (le_ix (ix_any (hu65 hr)) (L_get KW) (le_var 1) (le_int) (fun _ _ => rfl)) (la_nil))) (la_nil))))))
    (ls_cons (ls_if (lt_cmp op_gt L_gt (le_callB cr_len (L_len KW) (by rfl) Z.z_len (by decide +kernel) (la_cons (le_var 2) (la_nil))) (le_gv (by rfl) Z.v_MOST_UNLIKE (fun _ _ => by simp only [VR]))) (ls_one (ls_ret (le_bl))) (ls_nil))
    (ls_one (ls_ret (le_and (le_cmp (op_eqD hr.units) L_eq (le_callB cr_len (L_len KW) (by rfl) Z.z_len (by decide +kernel) (la_cons (le_calC C_reached (hr.mono (by decide)) (by rfl) (la_cons (le_var 0) (la_nil))) (la_nil))) (le_callB cr_len (L_len KW) (by rfl) Z.z_len (by decide +kernel) (la_cons (le_var 0) (la_nil)))) (le_one (le_cmp (op_eqD hr.units) L_eq (le_callB cr_len (L_len KW) (by rfl) Z.z_len (by decide +kernel) (la_cons (le_calC C_alive (hr.mono (by decide)) (by rfl) (la_cons (le_var 0) (la_nil))) (la_nil))) (le_callB cr_len (L_len KW) (by rfl) Z.z_len (by decide +kernel) (la_cons (le_var 0) (la_nil))))))))))))
theorem ok_is_machine (KW : κ.w = w) {f : Addr} {fd : FuncData} (F : Fun K "is_machine" "is_machine" s_is_machine f fd) (G : mg "is_machine" = some (.ref f)) (Z : Zs mg) (At : As K κ) (C_is_room : Cal P w K mg base κ 3 "is_room" 2 f_is_room) (C_alive : Cal P w K mg base κ 1 "alive" 1 f_alive) (C_reached : Cal P w K mg base κ 1 "reached" 1 f_reached) : Cal P w K mg base κ 4 "is_machine" 1 f_is_machine := ⟨f, fd, _, fn_is_machine KW F Z At C_is_room C_alive C_reached, G, F.kp, F.binds (ps := ["thing"]) fun _ _ _ _ _ _ us hl => match us, hl with | [_], _ => rfl⟩
abbrev s_runs : Stmt := topS 13
abbrev N_runs : List Str := ["machine", "row", "here", "sign", "led"]
theorem sc_runs : FnScope N_runs ["machine", "row"] (defScope s_runs) := ⟨rfl, rfl, rfl, by decide +kernel, rfl, by decide +kernel, by decide +kernel⟩
set_option maxHeartbeats 4000000 in
theorem fn_runs (KW : κ.w = w) {f : Addr} {fd : FuncData} (F : Fun K "runs" "runs" s_runs f fd) (Z : Zs mg) (At : As K κ) : FnOk P w K mg base CX0 1 f fd ["machine", "row"] (spF0 K κ 2 f_runs) :=
  fn_ok (κ := κ) F sc_runs fun cdv A outer s H E hr => ls_cons (ls_set 2 sc_runs.nd (le_int))
    (ls_cons (ls_for PassesOwn.never rfl (li_any (le_var 1)) (lg_name 3 sc_runs.nd) (ls_cons (ls_set 4 sc_runs.nd (le_callTy (cr_dictP rfl) (L_dict rfl) (by rfl) Z.z_dict (by decide +kernel) (la_cons (le_ix (ix_any (hu65 hr)) (L_get KW) (le_ix (ix_any (hu65 hr)) (L_get KW) (le_var 0) (le_var 2) (fun _ _ => rfl)) (le_int) (fun _ _ => rfl)) (la_nil))))
    (ls_cons (ls_if (lt_cmp (or_notIn (hu65 hr)) (L_notIn KW) (le_var 3) (le_var 4)) (ls_one (ls_ret (le_bl))) (ls_nil))
    (ls_one (ls_set 2 sc_runs.nd (le_ix (ix_any (hu65 hr)) (L_get KW) (le_var 4) (le_var 3) (fun _ _ => rfl)))))))
    (ls_one (ls_ret (le_ix (ix_any (hu65 hr)) (L_get KW) (le_ix (ix_any (hu65 hr)) (L_get KW) (le_var 0) (le_var 2) (fun _ _ => rfl)) (le_int) (fun _ _ => rfl)))))
theorem ok_runs (KW : κ.w = w) {f : Addr} {fd : FuncData} (F : Fun K "runs" "runs" s_runs f fd) (G : mg "runs" = some (.ref f)) (Z : Zs mg) (At : As K κ) : Cal P w K mg base κ 1 "runs" 2 f_runs := ⟨f, fd, _, fn_runs KW F Z At, G, F.kp, F.binds (ps := ["machine", "row"]) fun _ _ _ _ _ _ us hl => match us, hl with | [_, _], _ => rfl⟩
abbrev s_Heaps_lay : Stmt := inClass (topS 14) 1
abbrev N_Heaps_lay : List Str := ["self", "heap", "here"]
theorem sc_Heaps_lay : FnScope N_Heaps_lay ["self", "heap"] (defScope s_Heaps_lay) := ⟨rfl, rfl, rfl, by decide +kernel, rfl, by decide +kernel, by decide +kernel⟩
set_option maxHeartbeats 4000000 in
theorem fn_Heaps_lay (KW : κ.w = w) {f : Addr} {fd : FuncData} (F : Fun K "lay" "Heaps.lay" s_Heaps_lay f fd) (Z : Zs mg) (At : As K κ) : FnOk P w K mg base CX0 1 f fd ["self", "heap"] (spF0 K κ 2 f_Heaps_lay) :=
  fn_ok (κ := κ) F sc_Heaps_lay fun cdv A outer s H E hr => ls_cons (ls_for PassesOwn.never rfl (li_any (le_var 1)) (lg_name 2 sc_Heaps_lay.nd) (ls_one (ls_put (set_any (hu65 hr)) (L_put KW) (le_callB cr_len (L_len KW) (by rfl) Z.z_len (by decide +kernel) (la_cons (le_fld (le_var 0) At.at_heaps) (la_nil))) (le_fld (le_var 0) At.at_heap_of) (le_var 2))))
    (ls_cons (ls_expr (le_meth PySem.F.plainAttrs_list PySem.F.slot_list_append PySem.F.type_list_append mt_append L_append (le_fld (le_var 0) At.at_heaps) (la_cons (le_var 1) (la_nil))))
    (ls_one (ls_expr (le_meth PySem.F.plainAttrs_list PySem.F.slot_list_append PySem.F.type_list_append mt_append L_append (le_fld (le_var 0) At.at_knives) (la_cons (le_var 1) (la_nil))))))
theorem ok_Heaps_lay (KW : κ.w = w) {f : Addr} {fd : FuncData} (F : Fun K "lay" "Heaps.lay" s_Heaps_lay f fd) (G : Cls K (κ 0)) (G2 : Meth K (κ 0) "lay" f) (Z : Zs mg) (At : As K κ) : CalM P w K mg base κ 1 0 "lay" 2 f_Heaps_lay := ⟨f, fd, _, fn_Heaps_lay KW F Z At, G, G2, F.binds (ps := ["self", "heap"]) fun _ _ _ _ _ _ us hl => match us, hl with | [_, _], _ => rfl⟩
abbrev s_Heaps_init : Stmt := inClass (topS 14) 0
abbrev N_Heaps_init : List Str := ["self", "rooms", "some", "here", "sign", "there", "ending_ones", "heap"]
theorem sc_Heaps_init : FnScope N_Heaps_init ["self", "rooms", "some"] (defScope s_Heaps_init) := ⟨rfl, rfl, rfl, by decide +kernel, rfl, by decide +kernel, by decide +kernel⟩
set_option maxHeartbeats 4000000 in
theorem fn_Heaps_init (KW : κ.w = w) {f : Addr} {fd : FuncData} (F : Fun K "__init__" "Heaps.__init__" s_Heaps_init f fd) (Z : Zs mg) (At : As K κ) (C_Heaps_lay : CalM P w K mg base κ 1 0 "lay" 2 f_Heaps_lay) : FnOk P w K mg base CX0 2 f fd ["self", "rooms", "some"] (spF0 K κ 3 f_Heaps_init) :=
  fn_ok (κ := κ) F sc_Heaps_init fun cdv A outer s H E hr => ls_cons (ls_fldC (le_var 0) (le_dict0) At.at_comers)
    (ls_cons (ls_fldC (le_var 0) (le_dict0) At.at_words)
    (ls_cons (ls_for PassesOwn.never rfl (li_any (le_var 2)) (lg_name 3 sc_Heaps_init.nd) (ls_one (ls_for PassesOwn.never rfl (li_any (le_ix (ix_any (hu65 hr)) (L_get KW) (le_ix (ix_any (hu65 hr)) (L_get KW) (le_var 1) (le_var 3) (fun _ _ => rfl)) (le_int) (fun _ _ => rfl))) (lg_tup rfl (lgs_cons (lg_name 4 sc_Heaps_init.nd) (lgs_cons (lg_name 5 sc_Heaps_init.nd) (lgs_nil)))) (ls_cons (ls_put (set_any (hu65 hr)) (L_put KW) (le_bl) (le_fld (le_var 0) At.at_words) (le_var 4))
    (ls_one (ls_expr (le_meth PySem.F.plainAttrs_list PySem.F.slot_list_append PySem.F.type_list_append mt_append L_append (le_meth PySem.F.plainAttrs_dict PySem.F.slot_dict_setdefault PySem.F.type_dict_setdefault (mt_setd (hu65 hr)) (L_setd KW) (le_fld (le_var 0) At.at_comers) (la_cons (le_tup (la_cons (le_var 4) (la_cons (le_var 5) (la_nil)))) (la_cons (le_lst (la_nil)) (la_nil)))) (la_cons (le_var 3) (la_nil)))))))))
    (ls_cons (ls_fldC (le_var 0) (le_lst (la_nil)) At.at_heaps)
    (ls_cons (ls_fldC (le_var 0) (le_dict0) At.at_heap_of)
    (ls_cons (ls_fldC (le_var 0) (le_lst (la_cons (le_var 2) (la_nil))) At.at_knives)
    (ls_one (ls_for PassesOwn.never rfl (li_any (le_tup (la_cons (le_bl) (la_cons (le_bl) (la_nil))))) (lg_name 6 sc_Heaps_init.nd) (ls_cons (ls_setLc 7 rfl sc_Heaps_init.nd (li_any (le_var 2)) (blkOk_by (own := [("here", 3)]) (N := N_Heaps_init) (sc := defScope s_Heaps_init) (by decide +kernel)) rfl (by decide) (fun _ _ _ _ _ => lg_name 3 sc_Heaps_init.nd) (fun _ _ _ _ _ => lts_one (lt_cmp (op_eqD hr.units) L_eq (le_ix (ix_any (hu65 hr)) (L_get KW) (le_ix (ix_any (hu65 hr)) (L_get KW) (le_var 1) (le_var 3) (fun _ _ => rfl)) (le_int) (fun _ _ => rfl)) (le_var 6))) (fun _ _ _ _ _ => le_var 3))
    (ls_one (ls_if (lt_cmp (op_neD hr.units) L_ne (le_var 7) (le_lst (la_nil))) (ls_one (ls_expr (le_methM C_Heaps_lay (hr.mono (by decide)) (le_var 0) (la_cons (le_var 7) (la_nil))))) (ls_nil)))))))))))
theorem ok_Heaps_init (KW : κ.w = w) {f : Addr} {fd : FuncData} (F : Fun K "__init__" "Heaps.__init__" s_Heaps_init f fd) (G : Mk K (κ 0) f) (G2 : mg "Heaps" = some (.ref (κ 0))) (Z : Zs mg) (At : As K κ) (C_Heaps_lay : CalM P w K mg base κ 1 0 "lay" 2 f_Heaps_lay) : CalN P w K mg base κ 2 0 "Heaps" 3 f_Heaps_init := ⟨f, fd, _, fn_Heaps_init KW F Z At C_Heaps_lay, G, G2, F.binds (ps := ["self", "rooms", "some"]) fun _ _ _ _ _ _ us hl => match us, hl with | [_, _, _], _ => rfl⟩
abbrev s_Heaps_cut : Stmt := inClass (topS 14) 3
abbrev N_Heaps_cut : List Str := ["self", "sign", "knife", "hit", "there", "here", "number", "out"]
theorem sc_Heaps_cut : FnScope N_Heaps_cut ["self", "sign", "knife"] (defScope s_Heaps_cut) := ⟨rfl, rfl, rfl, by decide +kernel, rfl, by decide +kernel, by decide +kernel⟩
set_option maxHeartbeats 4000000 in
theorem fn_Heaps_cut (KW : κ.w = w) {f : Addr} {fd : FuncData} (F : Fun K "cut" "Heaps.cut" s_Heaps_cut f fd) (Z : Zs mg) (At : As K κ) (C_Heaps_lay : CalM P w K mg base κ 1 0 "lay" 2 f_Heaps_lay) : FnOk P w K mg base CX0 2 f fd ["self", "sign", "knife"] (spF0 K κ 3 f_Heaps_cut) :=
  fn_ok (κ := κ) F sc_Heaps_cut fun cdv A outer s H E hr => ls_cons (ls_set 3 sc_Heaps_cut.nd (le_dict0))
    (ls_cons (ls_for PassesOwn.never rfl (li_any (le_var 2)) (lg_name 4 sc_Heaps_cut.nd) (ls_one (ls_for PassesOwn.never rfl (li_any (le_meth PySem.F.plainAttrs_dict PySem.F.slot_dict_get PySem.F.type_dict_get (mt_get (hu65 hr)) (L_dget KW) (le_fld (le_var 0) At.at_comers) (la_cons (le_tup (la_cons (le_var 1) (la_cons (le_var 4) (la_nil)))) (la_cons (le_lst (la_nil)) (la_nil))))) (lg_name 5 sc_Heaps_cut.nd) (ls_one (ls_expr (le_meth PySem.F.plainAttrs_list PySem.F.slot_list_append PySem.F.type_list_append mt_append L_append (le_meth PySem.F.plainAttrs_dict PySem.F.slot_dict_setdefault PySem.F.type_dict_setdefault (mt_setd (hu65 hr)) (L_setd KW) (le_var 3) (la_cons (le_ix (ix_any (hu65 hr)) (L_get KW) (le_fld (le_var 0) At.at_heap_of) (le_var 5) (fun _ _ => rfl)) (la_cons (le_lst (la_nil)) (la_nil)))) (la_cons (le_var 5) (la_nil))))))))
    (ls_one (ls_for PassesOwn.never rfl (li_any (le_callB (cr_sortedA rfl) L_sorted (by rfl) Z.z_sorted (by decide +kernel) (la_cons (le_var 3) (la_nil)))) (lg_name 6 sc_Heaps_cut.nd) (ls_one (ls_if (lt_cmp op_lt L_lt (le_callB cr_len (L_len KW) (by rfl) Z.z_len (by decide +kernel) (la_cons (le_ix (ix_any (hu65 hr)) (L_get KW) (le_var 3) (le_var 6) (fun _ _ => rfl)) (la_nil))) (le_callB cr_len (L_len KW) (by rfl) Z.z_len (by decide +kernel) (la_cons (le_ix (ix_any (hu65 hr)) (L_get KW) (le_fld (le_var 0) At.at_heaps) (le_var 6) (fun _ _ => rfl)) (la_nil)))) (ls_cons (ls_set 7 sc_Heaps_cut.nd (le_callTy (cr_dictP rfl) (L_dict rfl) (by rfl) Z.z_dict (by decide +kernel) (la_cons (le_lc rfl sc_Heaps_cut.nd (li_any (le_ix (ix_any (hu65 hr)) (L_get KW) (le_var 3) (le_var 6) (fun _ _ => rfl))) (blkOk_by (own := [("here", 5)]) (N := N_Heaps_cut) (sc := defScope s_Heaps_cut) (by decide +kernel)) rfl (by decide) (fun _ _ _ _ _ => lg_name 5 sc_Heaps_cut.nd) (fun _ _ _ _ _ => lts_nil) (fun _ _ _ _ _ => le_tup (la_cons (le_var 5) (la_cons (le_bl) (la_nil))))) (la_nil))))
    (ls_cons (ls_put (set_any (hu65 hr)) (L_put KW) (le_lc rfl sc_Heaps_cut.nd (li_any (le_ix (ix_any (hu65 hr)) (L_get KW) (le_fld (le_var 0) At.at_heaps) (le_var 6) (fun _ _ => rfl))) (blkOk_by (own := [("here", 5)]) (N := N_Heaps_cut) (sc := defScope s_Heaps_cut) (by decide +kernel)) rfl (by decide) (fun _ _ _ _ _ => lg_name 5 sc_Heaps_cut.nd) (fun _ _ _ _ _ => lts_one (lt_cmp (or_notIn (hu65 hr)) (L_notIn KW) (le_var 5) (le_var 7))) (fun _ _ _ _ _ => le_var 5)) (le_fld (le_var 0) At.at_heaps) (le_var 6))
    (ls_cons (ls_expr (le_meth PySem.F.plainAttrs_list PySem.F.slot_list_append PySem.F.type_list_append mt_append L_append (le_fld (le_var 0) At.at_knives) (la_cons (le_ix (ix_any (hu65 hr)) (L_get KW) (le_fld (le_var 0) At.at_heaps) (le_var 6) (fun _ _ => rfl)) (la_nil))))
    (ls_one (ls_expr (le_methM C_Heaps_lay (hr.mono (by decide)) (le_var 0) (la_cons (le_ix (ix_any (hu65 hr)) (L_get KW) (le_var 3) (le_var 6) (fun _ _ => rfl)) (la_nil)))))))) (ls_nil))))))
theorem ok_Heaps_cut (KW : κ.w = w) {f : Addr} {fd : FuncData} (F : Fun K "cut" "Heaps.cut" s_Heaps_cut f fd) (G : Cls K (κ 0)) (G2 : Meth K (κ 0) "cut" f) (Z : Zs mg) (At : As K κ) (C_Heaps_lay : CalM P w K mg base κ 1 0 "lay" 2 f_Heaps_lay) : CalM P w K mg base κ 2 0 "cut" 3 f_Heaps_cut := ⟨f, fd, _, fn_Heaps_cut KW F Z At C_Heaps_lay, G, G2, F.binds (ps := ["self", "sign", "knife"]) fun _ _ _ _ _ _ us hl => match us, hl with | [_, _, _], _ => rfl⟩
abbrev s_Heaps_cut_all : Stmt := inClass (topS 14) 2
abbrev N_Heaps_cut_all : List Str := ["self", "knife", "sign"]
theorem sc_Heaps_cut_all : FnScope N_Heaps_cut_all ["self"] (defScope s_Heaps_cut_all) := ⟨rfl, rfl, rfl, by decide +kernel, rfl, by decide +kernel, by decide +kernel⟩
set_option maxHeartbeats 4000000 in
theorem fn_Heaps_cut_all (KW : κ.w = w) {f : Addr} {fd : FuncData} (F : Fun K "cut_all" "Heaps.cut_all" s_Heaps_cut_all f fd) (Z : Zs mg) (At : As K κ) (C_Heaps_cut : CalM P w K mg base κ 2 0 "cut" 3 f_Heaps_cut) : FnOk P w K mg base CX0 3 f fd ["self"] (spF0 K κ 1 f_Heaps_cut_all) :=
  fn_ok (κ := κ) F sc_Heaps_cut_all fun cdv A outer s H E hr => ls_one (ls_while PassesOwn.never (lt_cmp (op_neD hr.units) L_ne (le_fld (le_var 0) At.at_knives) (le_lst (la_nil))) (ls_cons (ls_set 1 sc_Heaps_cut_all.nd (le_meth0 PySem.F.plainAttrs_list PySem.F.slot_list_pop PySem.F.type_list_pop mt_popA L_pop (le_fld (le_var 0) At.at_knives)))
    (ls_one (ls_for PassesOwn.never rfl (li_any (le_callB (cr_sortedA rfl) L_sorted (by rfl) Z.z_sorted (by decide +kernel) (la_cons (le_fld (le_var 0) At.at_words) (la_nil)))) (lg_name 2 sc_Heaps_cut_all.nd) (ls_one (ls_expr (le_methM C_Heaps_cut (hr.mono (by decide)) (le_var 0) (la_cons (le_var 2) (la_cons (le_var 1) (la_nil))))))))))
theorem ok_Heaps_cut_all (KW : κ.w = w) {f : Addr} {fd : FuncData} (F : Fun K "cut_all" "Heaps.cut_all" s_Heaps_cut_all f fd) (G : Cls K (κ 0)) (G2 : Meth K (κ 0) "cut_all" f) (Z : Zs mg) (At : As K κ) (C_Heaps_cut : CalM P w K mg base κ 2 0 "cut" 3 f_Heaps_cut) : CalM P w K mg base κ 3 0 "cut_all" 1 f_Heaps_cut_all := ⟨f, fd, _, fn_Heaps_cut_all KW F Z At C_Heaps_cut, G, G2, F.binds (ps := ["self"]) fun _ _ _ _ _ _ us hl => match us, hl with | [_], _ => rfl⟩
abbrev s_numbered : Stmt := topS 15
abbrev N_numbered : List Str := ["rooms", "heap_of", "numbers", "firsts", "found", "ends", "led", "kept", "sign", "there"]
theorem sc_numbered : FnScope N_numbered ["rooms", "heap_of"] (defScope s_numbered) := ⟨rfl, rfl, rfl, by decide +kernel, rfl, by decide +kernel, by decide +kernel⟩
set_option maxHeartbeats 4000000 in
theorem fn_numbered (KW : κ.w = w) {f : Addr} {fd : FuncData} (F : Fun K "numbered" "numbered" s_numbered f fd) (Z : Zs mg) (At : As K κ) : FnOk P w K mg base CX0 1 f fd ["rooms", "heap_of"] (spF0 K κ 2 f_numbered) :=
  fn_ok (κ := κ) F sc_numbered fun cdv A outer s H E hr => ls_cons (ls_set 2 sc_numbered.nd (le_disp (.cons (le_ix (ix_any (hu65 hr)) (L_get KW) (le_var 1) (le_int) (fun _ _ => rfl)) (le_int) (.nil))))
    (ls_cons (ls_set 3 sc_numbered.nd (le_lst (la_cons (le_int) (la_nil))))
    (ls_cons (ls_set 4 sc_numbered.nd (le_lst (la_nil)))
    (ls_cons (ls_while PassesOwn.never (lt_cmp op_lt L_lt (le_callB cr_len (L_len KW) (by rfl) Z.z_len (by decide +kernel) (la_cons (le_var 4) (la_nil))) (le_callB cr_len (L_len KW) (by rfl) Z.z_len (by decide +kernel) (la_cons (le_var 3) (la_nil)))) (ls_cons (ls_asg (le_ix (ix_any (hu65 hr)) (L_get KW) (le_var 0) (le_ix (ix_any (hu65 hr)) (L_get KW) (le_var 3) (le_callB cr_len (L_len KW) (by rfl) Z.z_len (by decide +kernel) (la_cons (le_var 4) (la_nil))) (fun _ _ => rfl)) (fun _ _ => rfl)) (lg_tup rfl (lgs_cons (lg_name 5 sc_numbered.nd) (lgs_cons (lg_name 6 sc_numbered.nd) (lgs_nil)))))
    (ls_cons (ls_set 7 sc_numbered.nd (le_lst (la_nil)))
    (ls_cons (ls_for PassesOwn.never rfl (li_any (le_var 6)) (lg_tup rfl (lgs_cons (lg_name 8 sc_numbered.nd) (lgs_cons (lg_name 9 sc_numbered.nd) (lgs_nil)))) (ls_one (ls_if (lt_cmp (or_in (hu65 hr)) (L_in KW) (le_var 9) (le_var 1)) (ls_cons (ls_if (lt_cmp (or_notIn (hu65 hr)) (L_notIn KW) (le_ix (ix_any (hu65 hr)) (L_get KW) (le_var 1) (le_var 9) (fun _ _ => rfl)) (le_var 2)) (ls_cons (ls_put (set_any (hu65 hr)) (L_put KW) (le_callB cr_len (L_len KW) (by rfl) Z.z_len (by decide +kernel) (la_cons (le_var 3) (la_nil))) (le_var 2) (le_ix (ix_any (hu65 hr)) (L_get KW) (le_var 1) (le_var 9) (fun _ _ => rfl)))
    (ls_one (ls_expr (le_meth PySem.F.plainAttrs_list PySem.F.slot_list_append PySem.F.type_list_append mt_append L_append (le_var 3) (la_cons (le_var 9) (la_nil)))))) (ls_nil))
    (ls_one (ls_expr (le_meth PySem.F.plainAttrs_list PySem.F.slot_list_append PySem.F.type_list_append mt_append L_append (le_var 7) (la_cons (le_tup (la_cons (le_var 8) (la_cons (le_ix (ix_any (hu65 hr)) (L_get KW) (le_var 2) (le_ix (ix_any (hu65 hr)) (L_get KW) (le_var 1) (le_var 9) (fun _ _ => rfl)) (fun _ _ => rfl)) (la_nil)))) (la_nil)))))) (ls_nil))))
    (ls_one (ls_expr (le_meth PySem.F.plainAttrs_list PySem.F.slot_list_append PySem.F.type_list_append mt_append L_append (le_var 4) (la_cons (le_tup (la_cons (le_var 5) (la_cons (le_callTy call_tupleD L_tuple (by rfl) Z.z_tuple (by decide +kernel) (la_cons (le_var 7) (la_nil))) (la_nil)))) (la_nil)))))))))
    (ls_one (ls_ret (le_callTy call_tupleD L_tuple (by rfl) Z.z_tuple (by decide +kernel) (la_cons (le_var 4) (la_nil))))))))
theorem ok_numbered (KW : κ.w = w) {f : Addr} {fd : FuncData} (F : Fun K "numbered" "numbered" s_numbered f fd) (G : mg "numbered" = some (.ref f)) (Z : Zs mg) (At : As K κ) : Cal P w K mg base κ 1 "numbered" 2 f_numbered := ⟨f, fd, _, fn_numbered KW F Z At, G, F.kp, F.binds (ps := ["rooms", "heap_of"]) fun _ _ _ _ _ _ us hl => match us, hl with | [_, _], _ => rfl⟩
abbrev s_least_or_none : Stmt := topS 16
abbrev N_least_or_none : List Str := ["rooms", "living", "heaps", "here"]
theorem sc_least_or_none : FnScope N_least_or_none ["rooms"] (defScope s_least_or_none) := ⟨rfl, rfl, rfl, by decide +kernel, rfl, by decide +kernel, by decide +kernel⟩
set_option maxHeartbeats 4000000 in
theorem fn_least_or_none (KW : κ.w = w) {f : Addr} {fd : FuncData} (F : Fun K "least_or_none" "least_or_none" s_least_or_none f fd) (Z : Zs mg) (At : As K κ) (C_alive : Cal P w K mg base κ 1 "alive" 1 f_alive) (C_reached : Cal P w K mg base κ 1 "reached" 1 f_reached) (C_Heaps_init : CalN P w K mg base κ 2 0 "Heaps" 3 f_Heaps_init) (C_Heaps_cut_all : CalM P w K mg base κ 3 0 "cut_all" 1 f_Heaps_cut_all) (C_numbered : Cal P w K mg base κ 1 "numbered" 2 f_numbered) : FnOk P w K mg base CX0 4 f fd ["rooms"] (spF0 K κ 1 f_least_or_none) :=
  fn_ok (κ := κ) F sc_least_or_none fun cdv A outer s H E hr => ls_cons (ls_set 1 sc_least_or_none.nd (le_calC C_alive (hr.mono (by decide)) (by rfl) (la_cons (le_var 0) (la_nil))))
    (ls_cons (ls_if (lt_cmp (or_notIn (hu65 hr)) (L_notIn KW) (le_int) (le_var 1)) (ls_one (ls_ret (le_non))) (ls_nil))
    (ls_cons (ls_set 2 sc_least_or_none.nd (le_makeN C_Heaps_init (hr.mono (by decide)) (by rfl) (la_cons (le_var 0) (la_cons (le_lc rfl sc_least_or_none.nd (li_any (le_calC C_reached (hr.mono (by decide)) (by rfl) (la_cons (le_var 0) (la_nil)))) (blkOk_by (own := [("here", 3)]) (N := N_least_or_none) (sc := defScope s_least_or_none) (by decide +kernel)) rfl (by decide) (fun _ _ _ _ _ => lg_name 3 sc_least_or_none.nd) (fun _ _ _ _ _ => lts_one (lt_cmp (or_in (hu65 hr)) (L_in KW) (le_var 3) (le_var 1))) (fun _ _ _ _ _ => le_var 3)) (la_nil)))))
    (ls_cons (ls_expr (le_methM0 C_Heaps_cut_all (hr.mono (by decide)) (le_var 2)))
    (ls_one (ls_ret (le_calC C_numbered (hr.mono (by decide)) (by rfl) (la_cons (le_var 0) (la_cons (le_fld (le_var 2) At.at_heap_of) (la_nil)))))))))
theorem ok_least_or_none (KW : κ.w = w) {f : Addr} {fd : FuncData} (F : Fun K "least_or_none" "least_or_none" s_least_or_none f fd) (G : mg "least_or_none" = some (.ref f)) (Z : Zs mg) (At : As K κ) (C_alive : Cal P w K mg base κ 1 "alive" 1 f_alive) (C_reached : Cal P w K mg base κ 1 "reached" 1 f_reached) (C_Heaps_init : CalN P w K mg base κ 2 0 "Heaps" 3 f_Heaps_init) (C_Heaps_cut_all : CalM P w K mg base κ 3 0 "cut_all" 1 f_Heaps_cut_all) (C_numbered : Cal P w K mg base κ 1 "numbered" 2 f_numbered) : Cal P w K mg base κ 4 "least_or_none" 1 f_least_or_none := ⟨f, fd, _, fn_least_or_none KW F Z At C_alive C_reached C_Heaps_init C_Heaps_cut_all C_numbered, G, F.kp, F.binds (ps := ["rooms"]) fun _ _ _ _ _ _ us hl => match us, hl with | [_], _ => rfl⟩
abbrev s_least_of : Stmt := topS 17
abbrev N_least_of : List Str := ["machine"]
theorem sc_least_of : FnScope N_least_of ["machine"] (defScope s_least_of) := ⟨rfl, rfl, rfl, by decide +kernel, rfl, by decide +kernel, by decide +kernel⟩
set_option maxHeartbeats 4000000 in
theorem fn_least_of (KW : κ.w = w) {f : Addr} {fd : FuncData} (F : Fun K "least_of" "least_of" s_least_of f fd) (Z : Zs mg) (At : As K κ) (C_least_or_none : Cal P w K mg base κ 4 "least_or_none" 1 f_least_or_none) : FnOk P w K mg base CX0 5 f fd ["machine"] (spF0 K κ 1 f_least_of) :=
  fn_ok (κ := κ) F sc_least_of fun cdv A outer s H E hr => ls_one (ls_ret (le_calC C_least_or_none (hr.mono (by decide)) (by rfl) (la_cons (le_var 0) (la_nil))))
theorem ok_least_of (KW : κ.w = w) {f : Addr} {fd : FuncData} (F : Fun K "least_of" "least_of" s_least_of f fd) (G : mg "least_of" = some (.ref f)) (Z : Zs mg) (At : As K κ) (C_least_or_none : Cal P w K mg base κ 4 "least_or_none" 1 f_least_or_none) : Cal P w K mg base κ 5 "least_of" 1 f_least_of := ⟨f, fd, _, fn_least_of KW F Z At C_least_or_none, G, F.kp, F.binds (ps := ["machine"]) fun _ _ _ _ _ _ us hl => match us, hl with | [_], _ => rfl⟩
abbrev s_come_to : Stmt := topS 19
abbrev N_come_to : List Str := ["machine", "room", "found", "waiting", "sign", "there"]
theorem sc_come_to : FnScope N_come_to ["machine", "room"] (defScope s_come_to) := ⟨rfl, rfl, rfl, by decide +kernel, rfl, by decide +kernel, by decide +kernel⟩
set_option maxHeartbeats 4000000 in
theorem fn_come_to (KW : κ.w = w) {f : Addr} {fd : FuncData} (F : Fun K "come_to" "come_to" s_come_to f fd) (Z : Zs mg) (At : As K κ) : FnOk P w K mg base CX0 1 f fd ["machine", "room"] (spF0 K κ 2 f_come_to) :=
  fn_ok (κ := κ) F sc_come_to fun cdv A outer s H E hr => ls_cons (ls_set 2 sc_come_to.nd (le_disp (.cons (le_var 1) (le_bl) (.nil))))
    (ls_cons (ls_set 3 sc_come_to.nd (le_lst (la_cons (le_var 1) (la_nil))))
    (ls_cons (ls_while PassesOwn.never (lt_cmp op_gt L_gt (le_callB cr_len (L_len KW) (by rfl) Z.z_len (by decide +kernel) (la_cons (le_var 3) (la_nil))) (le_int)) (ls_one (ls_for PassesOwn.never rfl (li_any (le_ix (ix_any (hu65 hr)) (L_get KW) (le_ix (ix_any (hu65 hr)) (L_get KW) (le_var 0) (le_meth0 PySem.F.plainAttrs_list PySem.F.slot_list_pop PySem.F.type_list_pop mt_popA L_pop (le_var 3)) (fun _ _ => rfl)) (le_int) (fun _ _ => rfl))) (lg_tup rfl (lgs_cons (lg_name 4 sc_come_to.nd) (lgs_cons (lg_name 5 sc_come_to.nd) (lgs_nil)))) (ls_one (ls_if (lt_cmp (or_notIn (hu65 hr)) (L_notIn KW) (le_var 5) (le_var 2)) (ls_cons (ls_put (set_any (hu65 hr)) (L_put KW) (le_bl) (le_var 2) (le_var 5))
    (ls_one (ls_expr (le_meth PySem.F.plainAttrs_list PySem.F.slot_list_append PySem.F.type_list_append mt_append L_append (le_var 3) (la_cons (le_var 5) (la_nil)))))) (ls_nil))))))
    (ls_one (ls_ret (le_var 2)))))
theorem ok_come_to (KW : κ.w = w) {f : Addr} {fd : FuncData} (F : Fun K "come_to" "come_to" s_come_to f fd) (G : mg "come_to" = some (.ref f)) (Z : Zs mg) (At : As K κ) : Cal P w K mg base κ 1 "come_to" 2 f_come_to := ⟨f, fd, _, fn_come_to KW F Z At, G, F.kp, F.binds (ps := ["machine", "room"]) fun _ _ _ _ _ _ us hl => match us, hl with | [_, _], _ => rfl⟩
abbrev s_orbits : Stmt := topS 20
abbrev N_orbits : List Str := ["machine", "room", "reached", "placed", "found", "orbit", "other"]
theorem sc_orbits : FnScope N_orbits ["machine"] (defScope s_orbits) := ⟨rfl, rfl, rfl, by decide +kernel, rfl, by decide +kernel, by decide +kernel⟩
set_option maxHeartbeats 4000000 in
theorem fn_orbits (KW : κ.w = w) {f : Addr} {fd : FuncData} (F : Fun K "orbits" "orbits" s_orbits f fd) (Z : Zs mg) (At : As K κ) (C_come_to : Cal P w K mg base κ 1 "come_to" 2 f_come_to) : FnOk P w K mg base CX0 2 f fd ["machine"] (spF0 K κ 1 f_orbits) :=
  fn_ok (κ := κ) F sc_orbits fun cdv A outer s H E hr => ls_cons (ls_set 2 sc_orbits.nd (le_lc rfl sc_orbits.nd (li_rng1 (by rfl) Z.z_range (le_callB cr_len (L_len KW) (by rfl) Z.z_len (by decide +kernel) (la_cons (le_var 0) (la_nil)))) (blkOk_by (own := [("room", 1)]) (N := N_orbits) (sc := defScope s_orbits) (by decide +kernel)) rfl (by decide) (fun _ _ _ _ _ => lg_name 1 sc_orbits.nd) (fun _ _ _ _ _ => lts_nil) (fun _ _ _ _ _ => le_calC C_come_to (hr.mono (by decide)) (by rfl) (la_cons (le_var 0) (la_cons (le_var 1) (la_nil))))))
    (ls_cons (ls_set 3 sc_orbits.nd (le_dict0))
    (ls_cons (ls_set 4 sc_orbits.nd (le_lst (la_nil)))
    (ls_cons (ls_for PassesOwn.never rfl (li_rng1 (by rfl) Z.z_range (le_callB cr_len (L_len KW) (by rfl) Z.z_len (by decide +kernel) (la_cons (le_var 0) (la_nil)))) (lg_name 1 sc_orbits.nd) (ls_one (ls_if (lt_cmp (or_notIn (hu65 hr)) (L_notIn KW) (le_var 1) (le_var 3)) (ls_cons (ls_setLc 5 rfl sc_orbits.nd (li_any (le_callB (cr_sortedA rfl) L_sorted (by rfl) Z.z_sorted (by decide +kernel) (la_cons (le_ix (ix_any (hu65 hr)) (L_get KW) (le_var 2) (le_var 1) (fun _ _ => rfl)) (la_nil)))) (blkOk_by (own := [("other", 6)]) (N := N_orbits) (sc := defScope s_orbits) (by decide +kernel)) rfl (by decide) (fun _ _ _ _ _ => lg_name 6 sc_orbits.nd) (fun _ _ _ _ _ => lts_one (lt_cmp (or_in (hu65 hr)) (L_in KW) (le_var 1) (le_ix (ix_any (hu65 hr)) (L_get KW) (le_var 2) (le_var 6) (fun _ _ => rfl)))) (fun _ _ _ _ _ => le_var 6))
    (ls_cons (ls_expr (le_meth PySem.F.plainAttrs_dict PySem.F.slot_dict_update PySem.F.type_dict_update mt_update L_update (le_var 3) (la_cons (le_callTy (cr_dictP rfl) (L_dict rfl) (by rfl) Z.z_dict (by decide +kernel) (la_cons (le_lc rfl sc_orbits.nd (li_any (le_var 5)) (blkOk_by (own := [("other", 6)]) (N := N_orbits) (sc := defScope s_orbits) (by decide +kernel)) rfl (by decide) (fun _ _ _ _ _ => lg_name 6 sc_orbits.nd) (fun _ _ _ _ _ => lts_nil) (fun _ _ _ _ _ => le_tup (la_cons (le_var 6) (la_cons (le_bl) (la_nil))))) (la_nil))) (la_nil))))
    (ls_one (ls_expr (le_meth PySem.F.plainAttrs_list PySem.F.slot_list_append PySem.F.type_list_append mt_append L_append (le_var 4) (la_cons (le_var 5) (la_nil))))))) (ls_nil))))
    (ls_one (ls_ret (le_var 4))))))
theorem ok_orbits (KW : κ.w = w) {f : Addr} {fd : FuncData} (F : Fun K "orbits" "orbits" s_orbits f fd) (G : mg "orbits" = some (.ref f)) (Z : Zs mg) (At : As K κ) (C_come_to : Cal P w K mg base κ 1 "come_to" 2 f_come_to) : Cal P w K mg base κ 2 "orbits" 1 f_orbits := ⟨f, fd, _, fn_orbits KW F Z At C_come_to, G, F.kp, F.binds (ps := ["machine"]) fun _ _ _ _ _ _ us hl => match us, hl with | [_], _ => rfl⟩
abbrev s_leads_out : Stmt := topS 21
abbrev N_leads_out : List Str := ["machine", "orbit", "room", "ends", "some", "step"]
theorem sc_leads_out : FnScope N_leads_out ["machine", "orbit", "room"] (defScope s_leads_out) := ⟨rfl, rfl, rfl, by decide +kernel, rfl, by decide +kernel, by decide +kernel⟩
set_option maxHeartbeats 4000000 in
theorem fn_leads_out (KW : κ.w = w) {f : Addr} {fd : FuncData} (F : Fun K "leads_out" "leads_out" s_leads_out f fd) (Z : Zs mg) (At : As K κ) : FnOk P w K mg base CX0 1 f fd ["machine", "orbit", "room"] (spF0 K κ 3 f_leads_out) :=
  fn_ok (κ := κ) F sc_leads_out fun cdv A outer s H E hr => ls_cons (ls_asg (le_ix (ix_any (hu65 hr)) (L_get KW) (le_var 0) (le_var 2) (fun _ _ => rfl)) (lg_tup rfl (lgs_cons (lg_name 3 sc_leads_out.nd) (lgs_cons (lg_name 4 sc_leads_out.nd) (lgs_nil)))))
    (ls_one (ls_ret (le_tup (la_cons (le_var 3) (la_cons (le_callTy call_tupleD L_tuple (by rfl) Z.z_tuple (by decide +kernel) (la_cons (le_lc rfl sc_leads_out.nd (li_any (le_var 4)) (blkOk_by (own := [("step", 5)]) (N := N_leads_out) (sc := defScope s_leads_out) (by decide +kernel)) rfl (by decide) (fun _ _ _ _ _ => lg_name 5 sc_leads_out.nd) (fun _ _ _ _ _ => lts_one (lt_cmp (or_notIn (hu65 hr)) (L_notIn KW) (le_ix (ix_any (hu65 hr)) (L_get KW) (le_var 5) (le_int) (fun _ _ => rfl)) (le_var 1))) (fun _ _ _ _ _ => le_var 5)) (la_nil))) (la_nil))))))
theorem ok_leads_out (KW : κ.w = w) {f : Addr} {fd : FuncData} (F : Fun K "leads_out" "leads_out" s_leads_out f fd) (G : mg "leads_out" = some (.ref f)) (Z : Zs mg) (At : As K κ) : Cal P w K mg base κ 1 "leads_out" 3 f_leads_out := ⟨f, fd, _, fn_leads_out KW F Z At, G, F.kp, F.binds (ps := ["machine", "orbit", "room"]) fun _ _ _ _ _ _ us hl => match us, hl with | [_, _, _], _ => rfl⟩
abbrev s_gates : Stmt := topS 22
abbrev N_gates : List Str := ["machine", "orbit", "room"]
theorem sc_gates : FnScope N_gates ["machine", "orbit"] (defScope s_gates) := ⟨rfl, rfl, rfl, by decide +kernel, rfl, by decide +kernel, by decide +kernel⟩
set_option maxHeartbeats 4000000 in
theorem fn_gates (KW : κ.w = w) {f : Addr} {fd : FuncData} (F : Fun K "gates" "gates" s_gates f fd) (Z : Zs mg) (At : As K κ) (C_leads_out : Cal P w K mg base κ 1 "leads_out" 3 f_leads_out) : FnOk P w K mg base CX0 2 f fd ["machine", "orbit"] (spF0 K κ 2 f_gates) :=
  fn_ok (κ := κ) F sc_gates fun cdv A outer s H E hr => ls_one (ls_ret (le_lc rfl sc_gates.nd (li_any (le_var 1)) (blkOk_by (own := [("room", 2)]) (N := N_gates) (sc := defScope s_gates) (by decide +kernel)) rfl (by decide) (fun _ _ _ _ _ => lg_name 2 sc_gates.nd) (fun _ _ _ _ _ => lts_one (lt_cmp (op_neD hr.units) L_ne (le_calC C_leads_out (hr.mono (by decide)) (by rfl) (la_cons (le_var 0) (la_cons (le_var 1) (la_cons (le_var 2) (la_nil))))) (le_tup (la_cons (le_bl) (la_cons (le_tup (la_nil)) (la_nil)))))) (fun _ _ _ _ _ => le_var 2)))
theorem ok_gates (KW : κ.w = w) {f : Addr} {fd : FuncData} (F : Fun K "gates" "gates" s_gates f fd) (G : mg "gates" = some (.ref f)) (Z : Zs mg) (At : As K κ) (C_leads_out : Cal P w K mg base κ 1 "leads_out" 3 f_leads_out) : Cal P w K mg base κ 2 "gates" 2 f_gates := ⟨f, fd, _, fn_gates KW F Z At C_leads_out, G, F.kp, F.binds (ps := ["machine", "orbit"]) fun _ _ _ _ _ _ us hl => match us, hl with | [_, _], _ => rfl⟩
abbrev s_steady : Stmt := topS 23
abbrev N_steady : List Str := ["machine", "some", "ends", "leads", "step"]
theorem sc_steady : FnScope N_steady ["machine"] (defScope s_steady) := ⟨rfl, rfl, rfl, by decide +kernel, rfl, by decide +kernel, by decide +kernel⟩
set_option maxHeartbeats 4000000 in
theorem fn_steady (KW : κ.w = w) {f : Addr} {fd : FuncData} (F : Fun K "steady" "steady" s_steady f fd) (Z : Zs mg) (At : As K κ) : FnOk P w K mg base CX0 1 f fd ["machine"] (spF0 K κ 1 f_steady) :=
  fn_ok (κ := κ) F sc_steady fun cdv A outer s H E hr => ls_cons (ls_set 1 sc_steady.nd (le_lc rfl sc_steady.nd (li_any (le_var 0)) (blkOk_by (own := [("ends", 2), ("leads", 3)]) (N := N_steady) (sc := defScope s_steady) (by decide +kernel)) rfl (by decide) (fun _ _ _ _ _ => lg_tup rfl (lgs_cons (lg_name 2 sc_steady.nd) (lgs_cons (lg_name 3 sc_steady.nd) (lgs_nil)))) (fun _ _ _ _ _ => lts_one (lt_val (le_var 2))) (fun _ _ _ _ _ => le_var 3)))
    (ls_one (ls_ret (le_lc rfl sc_steady.nd (li_any (le_ix (ix_any (hu65 hr)) (L_get KW) (le_var 1) (le_int) (fun _ _ => rfl))) (blkOk_by (own := [("step", 4)]) (N := N_steady) (sc := defScope s_steady) (by decide +kernel)) rfl (by decide) (fun _ _ _ _ _ => lg_name 4 sc_steady.nd) (fun _ _ _ _ _ => lts_one (lt_val (le_callB (cr_all rfl) L_all (by rfl) Z.z_all (by decide +kernel) (la_cons (le_lc rfl sc_steady.nd (li_any (le_var 1)) (blkOk_in (blkOk_by (own := [("leads", 3)]) (N := N_steady) (by decide +kernel))) rfl (by decide) (fun _ _ _ _ _ => lg_name 3 sc_steady.nd) (fun _ _ _ _ _ => lts_nil) (fun _ _ _ _ _ => le_cmp (or_in (hu65 hr)) (L_in KW) (le_var 4) (le_var 3))) (la_nil))))) (fun _ _ _ _ _ => le_ix (ix_any (hu65 hr)) (L_get KW) (le_var 4) (le_int) (fun _ _ => rfl)))))
theorem ok_steady (KW : κ.w = w) {f : Addr} {fd : FuncData} (F : Fun K "steady" "steady" s_steady f fd) (G : mg "steady" = some (.ref f)) (Z : Zs mg) (At : As K κ) : Cal P w K mg base κ 1 "steady" 1 f_steady := ⟨f, fd, _, fn_steady KW F Z At, G, F.kp, F.binds (ps := ["machine"]) fun _ _ _ _ _ _ us hl => match us, hl with | [_], _ => rfl⟩
abbrev s_cut_machine : Stmt := topS 24
abbrev N_cut_machine : List Str := ["machine", "signs", "found", "ends", "leads", "step"]
theorem sc_cut_machine : FnScope N_cut_machine ["machine"] (defScope s_cut_machine) := ⟨rfl, rfl, rfl, by decide +kernel, rfl, by decide +kernel, by decide +kernel⟩
set_option maxHeartbeats 4000000 in
theorem fn_cut_machine (KW : κ.w = w) {f : Addr} {fd : FuncData} (F : Fun K "cut_machine" "cut_machine" s_cut_machine f fd) (Z : Zs mg) (At : As K κ) (C_steady : Cal P w K mg base κ 1 "steady" 1 f_steady) : FnOk P w K mg base CX0 2 f fd ["machine"] (spF0 K κ 1 f_cut_machine) :=
  fn_ok (κ := κ) F sc_cut_machine fun cdv A outer s H E hr => ls_cons (ls_set 1 sc_cut_machine.nd (le_calC C_steady (hr.mono (by decide)) (by rfl) (la_cons (le_var 0) (la_nil))))
    (ls_cons (ls_set 2 sc_cut_machine.nd (le_lst (la_nil)))
    (ls_cons (ls_for PassesOwn.never rfl (li_any (le_var 0)) (lg_tup rfl (lgs_cons (lg_name 3 sc_cut_machine.nd) (lgs_cons (lg_name 4 sc_cut_machine.nd) (lgs_nil)))) (ls_one (ls_expr (le_meth PySem.F.plainAttrs_list PySem.F.slot_list_append PySem.F.type_list_append mt_append L_append (le_var 2) (la_cons (le_tup (la_cons (le_var 3) (la_cons (le_callTy call_tupleD L_tuple (by rfl) Z.z_tuple (by decide +kernel) (la_cons (le_lc rfl sc_cut_machine.nd (li_any (le_var 4)) (blkOk_by (own := [("step", 5)]) (N := N_cut_machine) (sc := defScope s_cut_machine) (by decide +kernel)) rfl (by decide) (fun _ _ _ _ _ => lg_name 5 sc_cut_machine.nd) (fun _ _ _ _ _ => lts_one (lt_w (lw_or (lt_not (lt_val (le_var 3))) (lw_or1 (lt_cmp (or_notIn (hu65 hr)) (L_notIn KW) (le_ix (ix_any (hu65 hr)) (L_get KW) (le_var 5) (le_int) (fun _ _ => rfl)) (le_var 1)))))) (fun _ _ _ _ _ => le_var 5)) (la_nil))) (la_nil)))) (la_nil))))))
    (ls_one (ls_ret (le_callTy call_tupleD L_tuple (by rfl) Z.z_tuple (by decide +kernel) (la_cons (le_var 2) (la_nil)))))))
theorem ok_cut_machine (KW : κ.w = w) {f : Addr} {fd : FuncData} (F : Fun K "cut_machine" "cut_machine" s_cut_machine f fd) (G : mg "cut_machine" = some (.ref f)) (Z : Zs mg) (At : As K κ) (C_steady : Cal P w K mg base κ 1 "steady" 1 f_steady) : Cal P w K mg base κ 2 "cut_machine" 1 f_cut_machine := ⟨f, fd, _, fn_cut_machine KW F Z At C_steady, G, F.kp, F.binds (ps := ["machine"]) fun _ _ _ _ _ _ us hl => match us, hl with | [_], _ => rfl⟩
abbrev s_cut_orbits : Stmt := topS 25
abbrev N_cut_orbits : List Str := ["machine"]
theorem sc_cut_orbits : FnScope N_cut_orbits ["machine"] (defScope s_cut_orbits) := ⟨rfl, rfl, rfl, by decide +kernel, rfl, by decide +kernel, by decide +kernel⟩
set_option maxHeartbeats 4000000 in
theorem fn_cut_orbits (KW : κ.w = w) {f : Addr} {fd : FuncData} (F : Fun K "cut_orbits" "cut_orbits" s_cut_orbits f fd) (Z : Zs mg) (At : As K κ) (C_cut_machine : Cal P w K mg base κ 2 "cut_machine" 1 f_cut_machine) (C_orbits : Cal P w K mg base κ 2 "orbits" 1 f_orbits) : FnOk P w K mg base CX0 3 f fd ["machine"] (spF0 K κ 1 f_cut_orbits) :=
  fn_ok (κ := κ) F sc_cut_orbits fun cdv A outer s H E hr => ls_one (ls_ret (le_calC C_orbits (hr.mono (by decide)) (by rfl) (la_cons (le_calC C_cut_machine (hr.mono (by decide)) (by rfl) (la_cons (le_var 0) (la_nil))) (la_nil))))
theorem ok_cut_orbits (KW : κ.w = w) {f : Addr} {fd : FuncData} (F : Fun K "cut_orbits" "cut_orbits" s_cut_orbits f fd) (G : mg "cut_orbits" = some (.ref f)) (Z : Zs mg) (At : As K κ) (C_cut_machine : Cal P w K mg base κ 2 "cut_machine" 1 f_cut_machine) (C_orbits : Cal P w K mg base κ 2 "orbits" 1 f_orbits) : Cal P w K mg base κ 3 "cut_orbits" 1 f_cut_orbits := ⟨f, fd, _, fn_cut_orbits KW F Z At C_cut_machine C_orbits, G, F.kp, F.binds (ps := ["machine"]) fun _ _ _ _ _ _ us hl => match us, hl with | [_], _ => rfl⟩
abbrev s_cut_gates : Stmt := topS 26
abbrev N_cut_gates : List Str := ["machine", "orbit"]
theorem sc_cut_gates : FnScope N_cut_gates ["machine", "orbit"] (defScope s_cut_gates) := ⟨rfl, rfl, rfl, by decide +kernel, rfl, by decide +kernel, by decide +kernel⟩
set_option maxHeartbeats 4000000 in
theorem fn_cut_gates (KW : κ.w = w) {f : Addr} {fd : FuncData} (F : Fun K "cut_gates" "cut_gates" s_cut_gates f fd) (Z : Zs mg) (At : As K κ) (C_cut_machine : Cal P w K mg base κ 2 "cut_machine" 1 f_cut_machine) (C_gates : Cal P w K mg base κ 2 "gates" 2 f_gates) : FnOk P w K mg base CX0 3 f fd ["machine", "orbit"] (spF0 K κ 2 f_cut_gates) :=
  fn_ok (κ := κ) F sc_cut_gates fun cdv A outer s H E hr => ls_one (ls_ret (le_calC C_gates (hr.mono (by decide)) (by rfl) (la_cons (le_calC C_cut_machine (hr.mono (by decide)) (by rfl) (la_cons (le_var 0) (la_nil))) (la_cons (le_var 1) (la_nil)))))
theorem ok_cut_gates (KW : κ.w = w) {f : Addr} {fd : FuncData} (F : Fun K "cut_gates" "cut_gates" s_cut_gates f fd) (G : mg "cut_gates" = some (.ref f)) (Z : Zs mg) (At : As K κ) (C_cut_machine : Cal P w K mg base κ 2 "cut_machine" 1 f_cut_machine) (C_gates : Cal P w K mg base κ 2 "gates" 2 f_gates) : Cal P w K mg base κ 3 "cut_gates" 2 f_cut_gates := ⟨f, fd, _, fn_cut_gates KW F Z At C_cut_machine C_gates, G, F.kp, F.binds (ps := ["machine", "orbit"]) fun _ _ _ _ _ _ us hl => match us, hl with | [_, _], _ => rfl⟩
abbrev s_orbit_of : Stmt := topS 27
abbrev N_orbit_of : List Str := ["machine", "room", "orbit"]
theorem sc_orbit_of : FnScope N_orbit_of ["machine", "room"] (defScope s_orbit_of) := ⟨rfl, rfl, rfl, by decide +kernel, rfl, by decide +kernel, by decide +kernel⟩
set_option maxHeartbeats 4000000 in
theorem fn_orbit_of (KW : κ.w = w) {f : Addr} {fd : FuncData} (F : Fun K "orbit_of" "orbit_of" s_orbit_of f fd) (Z : Zs mg) (At : As K κ) (C_orbits : Cal P w K mg base κ 2 "orbits" 1 f_orbits) : FnOk P w K mg base CX0 3 f fd ["machine", "room"] (spF0 K κ 2 f_orbit_of) :=
  fn_ok (κ := κ) F sc_orbit_of fun cdv A outer s H E hr => ls_one (ls_ret (le_ix (ix_any (hu65 hr)) (L_get KW) (le_lc rfl sc_orbit_of.nd (li_any (le_calC C_orbits (hr.mono (by decide)) (by rfl) (la_cons (le_var 0) (la_nil)))) (blkOk_by (own := [("orbit", 2)]) (N := N_orbit_of) (sc := defScope s_orbit_of) (by decide +kernel)) rfl (by decide) (fun _ _ _ _ _ => lg_name 2 sc_orbit_of.nd) (fun _ _ _ _ _ => lts_one (lt_cmp (or_in (hu65 hr)) (L_in KW) (le_var 1) (le_var 2))) (fun _ _ _ _ _ => le_var 2)) (le_int) (fun _ _ => rfl)))
theorem ok_orbit_of (KW : κ.w = w) {f : Addr} {fd : FuncData} (F : Fun K "orbit_of" "orbit_of" s_orbit_of f fd) (G : mg "orbit_of" = some (.ref f)) (Z : Zs mg) (At : As K κ) (C_orbits : Cal P w K mg base κ 2 "orbits" 1 f_orbits) : Cal P w K mg base κ 3 "orbit_of" 2 f_orbit_of := ⟨f, fd, _, fn_orbit_of KW F Z At C_orbits, G, F.kp, F.binds (ps := ["machine", "room"]) fun _ _ _ _ _ _ us hl => match us, hl with | [_, _], _ => rfl⟩
abbrev s_part_of : Stmt := topS 28
abbrev N_part_of : List Str := ["machine", "room", "there", "orbit", "other", "order", "numbers", "some", "found", "leads", "number", "sign", "to"]
theorem sc_part_of : FnScope N_part_of ["machine", "room"] (defScope s_part_of) := ⟨rfl, rfl, rfl, by decide +kernel, rfl, by decide +kernel, by decide +kernel⟩
set_option maxHeartbeats 4000000 in
theorem fn_part_of (KW : κ.w = w) {f : Addr} {fd : FuncData} (F : Fun K "part_of" "part_of" s_part_of f fd) (Z : Zs mg) (At : As K κ) (C_cut_machine : Cal P w K mg base κ 2 "cut_machine" 1 f_cut_machine) (C_orbit_of : Cal P w K mg base κ 3 "orbit_of" 2 f_orbit_of) (C_gates : Cal P w K mg base κ 2 "gates" 2 f_gates) (C_least_of : Cal P w K mg base κ 5 "least_of" 1 f_least_of) : FnOk P w K mg base CX0 6 f fd ["machine", "room"] (spF0 K κ 2 f_part_of) :=
  fn_ok (κ := κ) F sc_part_of fun cdv A outer s H E hr => ls_cons (ls_set 2 sc_part_of.nd (le_calC C_cut_machine (hr.mono (by decide)) (by rfl) (la_cons (le_var 0) (la_nil))))
    (ls_cons (ls_set 3 sc_part_of.nd (le_calC C_orbit_of (hr.mono (by decide)) (by rfl) (la_cons (le_var 2) (la_cons (le_var 1) (la_nil)))))
    (ls_cons (ls_set 5 sc_part_of.nd (le_op or_add L_add (le_lst (la_cons (le_var 1) (la_nil))) (le_lc rfl sc_part_of.nd (li_any (le_var 3)) (blkOk_by (own := [("other", 4)]) (N := N_part_of) (sc := defScope s_part_of) (by decide +kernel)) rfl (by decide) (fun _ _ _ _ _ => lg_name 4 sc_part_of.nd) (fun _ _ _ _ _ => lts_one (lt_cmp (op_neD hr.units) L_ne (le_var 4) (le_var 1))) (fun _ _ _ _ _ => le_var 4))))
    (ls_cons (ls_set 6 sc_part_of.nd (le_callTy (cr_dictP rfl) (L_dict rfl) (by rfl) Z.z_dict (by decide +kernel) (la_cons (le_lc rfl sc_part_of.nd (li_enum (by rfl) Z.z_enumerate (le_var 5)) (blkOk_by (own := [("number", 10), ("other", 4)]) (N := N_part_of) (sc := defScope s_part_of) (by decide +kernel)) rfl (by decide) (fun _ _ _ _ _ => lg_tup rfl (lgs_cons (lg_name 10 sc_part_of.nd) (lgs_cons (lg_name 4 sc_part_of.nd) (lgs_nil)))) (fun _ _ _ _ _ => lts_nil) (fun _ _ _ _ _ => le_tup (la_cons (le_var 4) (la_cons (le_var 10) (la_nil))))) (la_nil))))
    (ls_cons (ls_set 7 sc_part_of.nd (le_calC C_gates (hr.mono (by decide)) (by rfl) (la_cons (le_var 2) (la_cons (le_var 3) (la_nil)))))
    (ls_cons (ls_set 8 sc_part_of.nd (le_lst (la_nil)))
    (ls_cons (ls_for PassesOwn.never rfl (li_any (le_var 5)) (lg_name 4 sc_part_of.nd) (ls_cons (ls_setLc 9 rfl sc_part_of.nd (li_any (le_ix (ix_any (hu65 hr)) (L_get KW) (le_ix (ix_any (hu65 hr)) (L_get KW) (le_var 2) (le_var 4) (fun _ _ => rfl)) (le_int) (fun _ _ => rfl))) (blkOk_by (own := [("sign", 11), ("to", 12)]) (N := N_part_of) (sc := defScope s_part_of) (by decide +kernel)) rfl (by decide) (fun _ _ _ _ _ => lg_tup rfl (lgs_cons (lg_name 11 sc_part_of.nd) (lgs_cons (lg_name 12 sc_part_of.nd) (lgs_nil)))) (fun _ _ _ _ _ => lts_one (lt_cmp (or_in (hu65 hr)) (L_in KW) (le_var 12) (le_var 6))) (fun _ _ _ _ _ => le_tup (la_cons (le_var 11) (la_cons (le_ix (ix_any (hu65 hr)) (L_get KW) (le_var 6) (le_var 12) (fun _ _ => rfl)) (la_nil)))))
    (ls_one (ls_expr (le_meth PySem.F.plainAttrs_list PySem.F.slot_list_append PySem.F.type_list_append mt_append L_append (le_var 8) (la_cons (le_tup (la_cons (le_cmp (or_in (hu65 hr)) (L_in KW) (le_var 4) (le_var 7)) (la_cons (le_callTy call_tupleD L_tuple (by rfl) Z.z_tuple (by decide +kernel) (la_cons (le_var 9) (la_nil))) (la_nil)))) (la_nil)))))))
    (ls_one (ls_ret (le_calC C_least_of (hr.mono (by decide)) (by rfl) (la_cons (le_callTy call_tupleD L_tuple (by rfl) Z.z_tuple (by decide +kernel) (la_cons (le_var 8) (la_nil))) (la_nil)))))))))))
theorem ok_part_of (KW : κ.w = w) {f : Addr} {fd : FuncData} (F : Fun K "part_of" "part_of" s_part_of f fd) (G : mg "part_of" = some (.ref f)) (Z : Zs mg) (At : As K κ) (C_cut_machine : Cal P w K mg base κ 2 "cut_machine" 1 f_cut_machine) (C_orbit_of : Cal P w K mg base κ 3 "orbit_of" 2 f_orbit_of) (C_gates : Cal P w K mg base κ 2 "gates" 2 f_gates) (C_least_of : Cal P w K mg base κ 5 "least_of" 1 f_least_of) : Cal P w K mg base κ 6 "part_of" 2 f_part_of := ⟨f, fd, _, fn_part_of KW F Z At C_cut_machine C_orbit_of C_gates C_least_of, G, F.kp, F.binds (ps := ["machine", "room"]) fun _ _ _ _ _ _ us hl => match us, hl with | [_, _], _ => rfl⟩
abbrev s_law_gpen : Stmt := topS 30
abbrev N_law_gpen : List Str := ["script", "mixed", "cell"]
theorem sc_law_gpen : FnScope N_law_gpen ["script"] (defScope s_law_gpen) := ⟨rfl, rfl, rfl, by decide +kernel, rfl, by decide +kernel, by decide +kernel⟩
set_option maxHeartbeats 4000000 in
theorem fn_law_gpen (KW : κ.w = w) {f : Addr} {fd : FuncData} (F : Fun K "_law_gpen" "_law_gpen" s_law_gpen f fd) (Z : Zs mg) (At : As K κ) : FnOk P w K mg base CX0 1 f fd ["script"] (spF0 K κ 1 f_law_gpen) :=
  fn_ok (κ := κ) F sc_law_gpen fun cdv A outer s H E hr => ls_cons (ls_set 1 sc_law_gpen.nd (le_int))
    (ls_cons (ls_for PassesOwn.never rfl (li_any (le_var 0)) (lg_name 2 sc_law_gpen.nd) (ls_one (ls_set 1 sc_law_gpen.nd (le_op op_mod L_mod (le_op or_add L_add (le_op or_add L_add (le_op or_mul L_mul (le_var 1) (le_int)) (le_op op_mod L_mod (le_var 2) (le_int))) (le_int)) (le_int)))))
    (ls_one (ls_ret (le_disp (.cons (le_str) (le_var 1) (.cons (le_str) (le_int) (.cons (le_str) (le_lc rfl sc_law_gpen.nd (li_any (le_var 0)) (blkOk_by (own := [("cell", 2)]) (N := N_law_gpen) (sc := defScope s_law_gpen) (by decide +kernel)) rfl (by decide) (fun _ _ _ _ _ => lg_name 2 sc_law_gpen.nd) (fun _ _ _ _ _ => lts_one (lt_cmp op_ge L_ge (le_var 2) (le_op op_pow L_pow (le_int) (le_int)))) (fun _ _ _ _ _ => le_var 2)) (.nil))))))))
theorem ok_law_gpen (KW : κ.w = w) {f : Addr} {fd : FuncData} (F : Fun K "_law_gpen" "_law_gpen" s_law_gpen f fd) (G : mg "_law_gpen" = some (.ref f)) (Z : Zs mg) (At : As K κ) : Cal P w K mg base κ 1 "_law_gpen" 1 f_law_gpen := ⟨f, fd, _, fn_law_gpen KW F Z At, G, F.kp, F.binds (ps := ["script"]) fun _ _ _ _ _ _ us hl => match us, hl with | [_], _ => rfl⟩
abbrev s_law_gdraw : Stmt := topS 31
abbrev N_law_gdraw : List Str := ["pen", "many", "found", "one", "two"]
theorem sc_law_gdraw : FnScope N_law_gdraw ["pen", "many"] (defScope s_law_gdraw) := ⟨rfl, rfl, rfl, by decide +kernel, rfl, by decide +kernel, by decide +kernel⟩
set_option maxHeartbeats 4000000 in
theorem fn_law_gdraw (KW : κ.w = w) {f : Addr} {fd : FuncData} (F : Fun K "_law_gdraw" "_law_gdraw" s_law_gdraw f fd) (Z : Zs mg) (At : As K κ) : FnOk P w K mg base CX0 1 f fd ["pen", "many"] (spF0 K κ 2 f_law_gdraw) :=
  fn_ok (κ := κ) F sc_law_gdraw fun cdv A outer s H E hr => ls_cons (ls_if (lt_w (lw_and (lt_cmp op_gt L_gt (le_callB cr_len (L_len KW) (by rfl) Z.z_len (by decide +kernel) (la_cons (le_ix (ix_any (hu65 hr)) (L_get KW) (le_var 0) (le_str) (fun _ _ => rfl)) (la_nil))) (le_int)) (lw_and1 (lt_cmp op_lt L_lt (le_ix (ix_any (hu65 hr)) (L_get KW) (le_ix (ix_any (hu65 hr)) (L_get KW) (le_var 0) (le_str) (fun _ _ => rfl)) (le_int) (fun _ _ => rfl)) (le_var 1))))) (ls_one (ls_expr (le_meth PySem.F.plainAttrs_list PySem.F.slot_list_pop PySem.F.type_list_pop mt_popA L_pop (le_ix (ix_any (hu65 hr)) (L_get KW) (le_var 0) (le_str) (fun _ _ => rfl)) (la_cons (le_int) (la_nil))))) (ls_nil))
    (ls_cons (ls_if (lt_cmp op_gt L_gt (le_callB cr_len (L_len KW) (by rfl) Z.z_len (by decide +kernel) (la_cons (le_ix (ix_any (hu65 hr)) (L_get KW) (le_var 0) (le_str) (fun _ _ => rfl)) (la_nil))) (le_int)) (ls_cons (ls_set 2 sc_law_gdraw.nd (le_op op_mod L_mod (le_ix (ix_any (hu65 hr)) (L_get KW) (le_ix (ix_any (hu65 hr)) (L_get KW) (le_var 0) (le_str) (fun _ _ => rfl)) (le_int) (fun _ _ => rfl)) (le_var 1)))
    (ls_cons (ls_put (set_any (hu65 hr)) (L_put KW) (le_op op_fdivW L_fdiv (le_ix (ix_any (hu65 hr)) (L_get KW) (le_ix (ix_any (hu65 hr)) (L_get KW) (le_var 0) (le_str) (fun _ _ => rfl)) (le_int) (fun _ _ => rfl)) (le_var 1)) (le_ix (ix_any (hu65 hr)) (L_get KW) (le_var 0) (le_str) (fun _ _ => rfl)) (le_int))
    (ls_one (ls_ret (le_var 2))))) (ls_nil))
    (ls_cons (ls_put (set_any (hu65 hr)) (L_put KW) (le_op or_add L_add (le_ix (ix_any (hu65 hr)) (L_get KW) (le_var 0) (le_str) (fun _ _ => rfl)) (le_int)) (le_var 0) (le_str))
    (ls_cons (ls_set 3 sc_law_gdraw.nd (le_op op_mod L_mod (le_op or_add L_add (le_ix (ix_any (hu65 hr)) (L_get KW) (le_var 0) (le_str) (fun _ _ => rfl)) (le_op or_mul L_mul (le_op or_mul L_mul (le_int) (le_ix (ix_any (hu65 hr)) (L_get KW) (le_var 0) (le_str) (fun _ _ => rfl))) (le_ix (ix_any (hu65 hr)) (L_get KW) (le_var 0) (le_str) (fun _ _ => rfl)))) (le_int)))
    (ls_cons (ls_set 4 sc_law_gdraw.nd (le_op op_mod L_mod (le_op or_add L_add (le_op or_add L_add (le_op or_mul L_mul (le_var 3) (le_var 3)) (le_op or_mul L_mul (le_int) (le_ix (ix_any (hu65 hr)) (L_get KW) (le_var 0) (le_str) (fun _ _ => rfl)))) (le_int)) (le_int)))
    (ls_one (ls_ret (le_op op_mod L_mod (le_op op_fdivW L_fdiv (le_op op_mod L_mod (le_op or_add L_add (le_op or_mul L_mul (le_var 4) (le_var 4)) (le_var 3)) (le_int)) (le_int)) (le_var 1))))))))
theorem ok_law_gdraw (KW : κ.w = w) {f : Addr} {fd : FuncData} (F : Fun K "_law_gdraw" "_law_gdraw" s_law_gdraw f fd) (G : mg "_law_gdraw" = some (.ref f)) (Z : Zs mg) (At : As K κ) : Cal P w K mg base κ 1 "_law_gdraw" 2 f_law_gdraw := ⟨f, fd, _, fn_law_gdraw KW F Z At, G, F.kp, F.binds (ps := ["pen", "many"]) fun _ _ _ _ _ _ us hl => match us, hl with | [_, _], _ => rfl⟩
abbrev s_law_gsigns : Stmt := topS 32
abbrev N_law_gsigns : List Str := ["pen", "many", "letters", "ahead", "first", "k"]
theorem sc_law_gsigns : FnScope N_law_gsigns ["pen", "many"] (defScope s_law_gsigns) := ⟨rfl, rfl, rfl, by decide +kernel, rfl, by decide +kernel, by decide +kernel⟩
set_option maxHeartbeats 4000000 in
theorem fn_law_gsigns (KW : κ.w = w) {f : Addr} {fd : FuncData} (F : Fun K "_law_gsigns" "_law_gsigns" s_law_gsigns f fd) (Z : Zs mg) (At : As K κ) (C_law_gdraw : Cal P w K mg base κ 1 "_law_gdraw" 2 f_law_gdraw) : FnOk P w K mg base CX0 2 f fd ["pen", "many"] (spF0 K κ 2 f_law_gsigns) :=
  fn_ok (κ := κ) F sc_law_gsigns fun cdv A outer s H E hr => ls_cons (ls_set 2 sc_law_gsigns.nd (le_str))
    (ls_cons (ls_set 3 sc_law_gsigns.nd (le_meth PySem.F.plainAttrs_str PySem.F.slot_str_join PySem.F.type_str_join mt_join L_join (le_str) (la_cons (le_lc rfl sc_law_gsigns.nd (li_rng1 (by rfl) Z.z_range (le_ix (ix_any (hu65 hr)) (L_get KW) (le_lst (la_cons (le_int) (la_cons (le_int) (la_cons (le_int) (la_cons (le_int) (la_cons (le_int) (la_nil))))))) (le_calC C_law_gdraw (hr.mono (by decide)) (by rfl) (la_cons (le_var 0) (la_cons (le_int) (la_nil)))) (fun _ _ => rfl))) (blkOk_by (own := [("k", 5)]) (N := N_law_gsigns) (sc := defScope s_law_gsigns) (by decide +kernel)) rfl (by decide) (fun _ _ _ _ _ => lg_name 5 sc_law_gsigns.nd) (fun _ _ _ _ _ => lts_nil) (fun _ _ _ _ _ => le_ix (ix_any (hu65 hr)) (L_get KW) (le_var 2) (le_calC C_law_gdraw (hr.mono (by decide)) (by rfl) (la_cons (le_var 0) (la_cons (le_int) (la_nil)))) (fun _ _ => rfl))) (la_nil))))
    (ls_cons (ls_set 4 sc_law_gsigns.nd (le_calC C_law_gdraw (hr.mono (by decide)) (by rfl) (la_cons (le_var 0) (la_cons (le_int) (la_nil)))))
    (ls_one (ls_ret (le_lc rfl sc_law_gsigns.nd (li_rng1 (by rfl) Z.z_range (le_var 1)) (blkOk_by (own := [("k", 5)]) (N := N_law_gsigns) (sc := defScope s_law_gsigns) (by decide +kernel)) rfl (by decide) (fun _ _ _ _ _ => lg_name 5 sc_law_gsigns.nd) (fun _ _ _ _ _ => lts_nil) (fun _ _ _ _ _ => le_op or_add L_add (le_var 3) (le_ix (ix_any (hu65 hr)) (L_get KW) (le_var 2) (le_op op_mod L_mod (le_op or_add L_add (le_var 4) (le_op or_mul L_mul (le_int) (le_var 5))) (le_int)) (fun _ _ => rfl))))))))
theorem ok_law_gsigns (KW : κ.w = w) {f : Addr} {fd : FuncData} (F : Fun K "_law_gsigns" "_law_gsigns" s_law_gsigns f fd) (G : mg "_law_gsigns" = some (.ref f)) (Z : Zs mg) (At : As K κ) (C_law_gdraw : Cal P w K mg base κ 1 "_law_gdraw" 2 f_law_gdraw) : Cal P w K mg base κ 2 "_law_gsigns" 2 f_law_gsigns := ⟨f, fd, _, fn_law_gsigns KW F Z At C_law_gdraw, G, F.kp, F.binds (ps := ["pen", "many"]) fun _ _ _ _ _ _ us hl => match us, hl with | [_, _], _ => rfl⟩
abbrev s_law_gto_end : Stmt := topS 33
abbrev N_law_gto_end : List Str := ["rooms", "k", "found", "turn", "sign", "there"]
theorem sc_law_gto_end : FnScope N_law_gto_end ["rooms"] (defScope s_law_gto_end) := ⟨rfl, rfl, rfl, by decide +kernel, rfl, by decide +kernel, by decide +kernel⟩
set_option maxHeartbeats 4000000 in
theorem fn_law_gto_end (KW : κ.w = w) {f : Addr} {fd : FuncData} (F : Fun K "_law_gto_end" "_law_gto_end" s_law_gto_end f fd) (Z : Zs mg) (At : As K κ) : FnOk P w K mg base CX0 1 f fd ["rooms"] (spF0 K κ 1 f_law_gto_end) :=
  fn_ok (κ := κ) F sc_law_gto_end fun cdv A outer s H E hr => ls_cons (ls_set 2 sc_law_gto_end.nd (le_lc rfl sc_law_gto_end.nd (li_rng1 (by rfl) Z.z_range (le_callB cr_len (L_len KW) (by rfl) Z.z_len (by decide +kernel) (la_cons (le_var 0) (la_nil)))) (blkOk_by (own := [("k", 1)]) (N := N_law_gto_end) (sc := defScope s_law_gto_end) (by decide +kernel)) rfl (by decide) (fun _ _ _ _ _ => lg_name 1 sc_law_gto_end.nd) (fun _ _ _ _ _ => lts_one (lt_val (le_ix (ix_any (hu65 hr)) (L_get KW) (le_ix (ix_any (hu65 hr)) (L_get KW) (le_var 0) (le_var 1) (fun _ _ => rfl)) (le_int) (fun _ _ => rfl)))) (fun _ _ _ _ _ => le_var 1)))
    (ls_cons (ls_for PassesOwn.never rfl (li_rng1 (by rfl) Z.z_range (le_callB cr_len (L_len KW) (by rfl) Z.z_len (by decide +kernel) (la_cons (le_var 0) (la_nil)))) (lg_name 3 sc_law_gto_end.nd) (ls_one (ls_for PassesOwn.never rfl (li_rng1 (by rfl) Z.z_range (le_callB cr_len (L_len KW) (by rfl) Z.z_len (by decide +kernel) (la_cons (le_var 0) (la_nil)))) (lg_name 1 sc_law_gto_end.nd) (ls_one (ls_if (lt_w (lw_and (lt_cmp (or_notIn (hu65 hr)) (L_notIn KW) (le_var 1) (le_var 2)) (lw_and1 (lt_val (le_callB (cr_any rfl) L_any (by rfl) Z.z_any (by decide +kernel) (la_cons (le_lc rfl sc_law_gto_end.nd (li_any (le_ix (ix_any (hu65 hr)) (L_get KW) (le_ix (ix_any (hu65 hr)) (L_get KW) (le_var 0) (le_var 1) (fun _ _ => rfl)) (le_int) (fun _ _ => rfl))) (blkOk_by (own := [("sign", 4), ("there", 5)]) (N := N_law_gto_end) (sc := defScope s_law_gto_end) (by decide +kernel)) rfl (by decide) (fun _ _ _ _ _ => lg_tup rfl (lgs_cons (lg_name 4 sc_law_gto_end.nd) (lgs_cons (lg_name 5 sc_law_gto_end.nd) (lgs_nil)))) (fun _ _ _ _ _ => lts_nil) (fun _ _ _ _ _ => le_cmp (or_in (hu65 hr)) (L_in KW) (le_var 5) (le_var 2))) (la_nil))))))) (ls_one (ls_expr (le_meth PySem.F.plainAttrs_list PySem.F.slot_list_append PySem.F.type_list_append mt_append L_append (le_var 2) (la_cons (le_var 1) (la_nil))))) (ls_nil))))))
    (ls_one (ls_ret (le_var 2))))
theorem ok_law_gto_end (KW : κ.w = w) {f : Addr} {fd : FuncData} (F : Fun K "_law_gto_end" "_law_gto_end" s_law_gto_end f fd) (G : mg "_law_gto_end" = some (.ref f)) (Z : Zs mg) (At : As K κ) : Cal P w K mg base κ 1 "_law_gto_end" 1 f_law_gto_end := ⟨f, fd, _, fn_law_gto_end KW F Z At, G, F.kp, F.binds (ps := ["rooms"]) fun _ _ _ _ _ _ us hl => match us, hl with | [_], _ => rfl⟩
abbrev s_law_gtrim : Stmt := topS 34
abbrev N_law_gtrim : List Str := ["rooms", "good", "order", "at", "sign", "there", "found", "k", "leads"]
theorem sc_law_gtrim : FnScope N_law_gtrim ["rooms"] (defScope s_law_gtrim) := ⟨rfl, rfl, rfl, by decide +kernel, rfl, by decide +kernel, by decide +kernel⟩
set_option maxHeartbeats 4000000 in
theorem fn_law_gtrim (KW : κ.w = w) {f : Addr} {fd : FuncData} (F : Fun K "_law_gtrim" "_law_gtrim" s_law_gtrim f fd) (Z : Zs mg) (At : As K κ) (C_law_gto_end : Cal P w K mg base κ 1 "_law_gto_end" 1 f_law_gto_end) : FnOk P w K mg base CX0 2 f fd ["rooms"] (spF0 K κ 1 f_law_gtrim) :=
  fn_ok (κ := κ) F sc_law_gtrim fun cdv A outer s H E hr => ls_cons (ls_if (lt_cmp (or_notIn (hu65 hr)) (L_notIn KW) (le_int) (le_calC C_law_gto_end (hr.mono (by decide)) (by rfl) (la_cons (le_var 0) (la_nil)))) (ls_one (ls_set 0 sc_law_gtrim.nd (le_op or_add L_add (le_lst (la_cons (le_tup (la_cons (le_bl) (la_cons (le_ix (ix_any (hu65 hr)) (L_get KW) (le_ix (ix_any (hu65 hr)) (L_get KW) (le_var 0) (le_int) (fun _ _ => rfl)) (le_int) (fun _ _ => rfl)) (la_nil)))) (la_nil))) (le_slice (le_var 0) (lo_some (le_int)) (lo_none))))) (ls_nil))
    (ls_cons (ls_set 1 sc_law_gtrim.nd (le_calC C_law_gto_end (hr.mono (by decide)) (by rfl) (la_cons (le_var 0) (la_nil))))
    (ls_cons (ls_set 2 sc_law_gtrim.nd (le_lst (la_cons (le_int) (la_nil))))
    (ls_cons (ls_set 3 sc_law_gtrim.nd (le_int))
    (ls_cons (ls_while PassesOwn.never (lt_cmp op_lt L_lt (le_var 3) (le_callB cr_len (L_len KW) (by rfl) Z.z_len (by decide +kernel) (la_cons (le_var 2) (la_nil)))) (ls_cons (ls_for PassesOwn.never rfl (li_any (le_ix (ix_any (hu65 hr)) (L_get KW) (le_ix (ix_any (hu65 hr)) (L_get KW) (le_var 0) (le_ix (ix_any (hu65 hr)) (L_get KW) (le_var 2) (le_var 3) (fun _ _ => rfl)) (fun _ _ => rfl)) (le_int) (fun _ _ => rfl))) (lg_tup rfl (lgs_cons (lg_name 4 sc_law_gtrim.nd) (lgs_cons (lg_name 5 sc_law_gtrim.nd) (lgs_nil)))) (ls_one (ls_if (lt_w (lw_and (lt_cmp (or_in (hu65 hr)) (L_in KW) (le_var 5) (le_var 1)) (lw_and1 (lt_cmp (or_notIn (hu65 hr)) (L_notIn KW) (le_var 5) (le_var 2))))) (ls_one (ls_expr (le_meth PySem.F.plainAttrs_list PySem.F.slot_list_append PySem.F.type_list_append mt_append L_append (le_var 2) (la_cons (le_var 5) (la_nil))))) (ls_nil))))
    (ls_one (ls_set 3 sc_law_gtrim.nd (le_op or_add L_add (le_var 3) (le_int))))))
    (ls_cons (ls_set 6 sc_law_gtrim.nd (le_lst (la_nil)))
    (ls_cons (ls_for PassesOwn.never rfl (li_any (le_var 2)) (lg_name 7 sc_law_gtrim.nd) (ls_cons (ls_setLc 8 rfl sc_law_gtrim.nd (li_any (le_ix (ix_any (hu65 hr)) (L_get KW) (le_ix (ix_any (hu65 hr)) (L_get KW) (le_var 0) (le_var 7) (fun _ _ => rfl)) (le_int) (fun _ _ => rfl))) (blkOk_by (own := [("sign", 4), ("there", 5)]) (N := N_law_gtrim) (sc := defScope s_law_gtrim) (by decide +kernel)) rfl (by decide) (fun _ _ _ _ _ => lg_tup rfl (lgs_cons (lg_name 4 sc_law_gtrim.nd) (lgs_cons (lg_name 5 sc_law_gtrim.nd) (lgs_nil)))) (fun _ _ _ _ _ => lts_one (lt_cmp (or_in (hu65 hr)) (L_in KW) (le_var 5) (le_var 1))) (fun _ _ _ _ _ => le_tup (la_cons (le_var 4) (la_cons (le_meth PySem.F.plainAttrs_list PySem.F.slot_list_index PySem.F.type_list_index (mt_indexD (hu65 hr)) L_index (le_var 2) (la_cons (le_var 5) (la_nil))) (la_nil)))))
    (ls_one (ls_expr (le_meth PySem.F.plainAttrs_list PySem.F.slot_list_append PySem.F.type_list_append mt_append L_append (le_var 6) (la_cons (le_tup (la_cons (le_ix (ix_any (hu65 hr)) (L_get KW) (le_ix (ix_any (hu65 hr)) (L_get KW) (le_var 0) (le_var 7) (fun _ _ => rfl)) (le_int) (fun _ _ => rfl)) (la_cons (le_callTy call_tupleD L_tuple (by rfl) Z.z_tuple (by decide +kernel) (la_cons (le_var 8) (la_nil))) (la_nil)))) (la_nil)))))))
    (ls_one (ls_ret (le_callTy call_tupleD L_tuple (by rfl) Z.z_tuple (by decide +kernel) (la_cons (le_var 6) (la_nil)))))))))))
theorem ok_law_gtrim (KW : κ.w = w) {f : Addr} {fd : FuncData} (F : Fun K "_law_gtrim" "_law_gtrim" s_law_gtrim f fd) (G : mg "_law_gtrim" = some (.ref f)) (Z : Zs mg) (At : As K κ) (C_law_gto_end : Cal P w K mg base κ 1 "_law_gto_end" 1 f_law_gto_end) : Cal P w K mg base κ 2 "_law_gtrim" 1 f_law_gtrim := ⟨f, fd, _, fn_law_gtrim KW F Z At C_law_gto_end, G, F.kp, F.binds (ps := ["rooms"]) fun _ _ _ _ _ _ us hl => match us, hl with | [_], _ => rfl⟩
abbrev s_law_gmachine : Stmt := topS 35
abbrev N_law_gmachine : List Str := ["pen", "most", "signs", "many", "often", "near", "rooms", "k", "leads", "sign"]
theorem sc_law_gmachine : FnScope N_law_gmachine ["pen", "most", "signs"] (defScope s_law_gmachine) := ⟨rfl, rfl, rfl, by decide +kernel, rfl, by decide +kernel, by decide +kernel⟩
set_option maxHeartbeats 4000000 in
theorem fn_law_gmachine (KW : κ.w = w) {f : Addr} {fd : FuncData} (F : Fun K "_law_gmachine" "_law_gmachine" s_law_gmachine f fd) (Z : Zs mg) (At : As K κ) (C_law_gdraw : Cal P w K mg base κ 1 "_law_gdraw" 2 f_law_gdraw) (C_law_gtrim : Cal P w K mg base κ 2 "_law_gtrim" 1 f_law_gtrim) : FnOk P w K mg base CX0 3 f fd ["pen", "most", "signs"] (spF0 K κ 3 f_law_gmachine) :=
  fn_ok (κ := κ) F sc_law_gmachine fun cdv A outer s H E hr => ls_cons (ls_set 3 sc_law_gmachine.nd (le_op or_add L_add (le_int) (le_calC C_law_gdraw (hr.mono (by decide)) (by rfl) (la_cons (le_var 0) (la_cons (le_var 1) (la_nil))))))
    (ls_cons (ls_set 4 sc_law_gmachine.nd (le_op or_add L_add (le_int) (le_calC C_law_gdraw (hr.mono (by decide)) (by rfl) (la_cons (le_var 0) (la_cons (le_int) (la_nil))))))
    (ls_cons (ls_set 5 sc_law_gmachine.nd (le_calC C_law_gdraw (hr.mono (by decide)) (by rfl) (la_cons (le_var 0) (la_cons (le_int) (la_nil)))))
    (ls_cons (ls_set 6 sc_law_gmachine.nd (le_lst (la_nil)))
    (ls_cons (ls_for PassesOwn.never rfl (li_rng1 (by rfl) Z.z_range (le_var 3)) (lg_name 7 sc_law_gmachine.nd) (ls_cons (ls_set 8 sc_law_gmachine.nd (le_lst (la_nil)))
    (ls_cons (ls_for PassesOwn.never rfl (li_any (le_callB (cr_sortedA rfl) L_sorted (by rfl) Z.z_sorted (by decide +kernel) (la_cons (le_var 2) (la_nil)))) (lg_name 9 sc_law_gmachine.nd) (ls_one (ls_if (lt_cmp op_lt L_lt (le_calC C_law_gdraw (hr.mono (by decide)) (by rfl) (la_cons (le_var 0) (la_cons (le_int) (la_nil)))) (le_var 4)) (ls_one (ls_expr (le_meth PySem.F.plainAttrs_list PySem.F.slot_list_append PySem.F.type_list_append mt_append L_append (le_var 8) (la_cons (le_tup (la_cons (le_var 9) (la_cons (le_ix (ix_any (hu65 hr)) (L_get KW) (le_lst (la_cons (le_calC C_law_gdraw (hr.mono (by decide)) (by rfl) (la_cons (le_var 0) (la_cons (le_var 3) (la_nil)))) (la_cons (le_op op_mod L_mod (le_op or_add L_add (le_var 7) (le_calC C_law_gdraw (hr.mono (by decide)) (by rfl) (la_cons (le_var 0) (la_cons (le_int) (la_nil))))) (le_var 3)) (la_nil)))) (le_var 5) (fun _ _ => rfl)) (la_nil)))) (la_nil))))) (ls_nil))))
    (ls_one (ls_expr (le_meth PySem.F.plainAttrs_list PySem.F.slot_list_append PySem.F.type_list_append mt_append L_append (le_var 6) (la_cons (le_tup (la_cons (le_cmp (op_eqD hr.units) L_eq (le_calC C_law_gdraw (hr.mono (by decide)) (by rfl) (la_cons (le_var 0) (la_cons (le_int) (la_nil)))) (le_int)) (la_cons (le_callTy call_tupleD L_tuple (by rfl) Z.z_tuple (by decide +kernel) (la_cons (le_var 8) (la_nil))) (la_nil)))) (la_nil))))))))
    (ls_one (ls_ret (le_calC C_law_gtrim (hr.mono (by decide)) (by rfl) (la_cons (le_var 6) (la_nil)))))))))
theorem ok_law_gmachine (KW : κ.w = w) {f : Addr} {fd : FuncData} (F : Fun K "_law_gmachine" "_law_gmachine" s_law_gmachine f fd) (G : mg "_law_gmachine" = some (.ref f)) (Z : Zs mg) (At : As K κ) (C_law_gdraw : Cal P w K mg base κ 1 "_law_gdraw" 2 f_law_gdraw) (C_law_gtrim : Cal P w K mg base κ 2 "_law_gtrim" 1 f_law_gtrim) : Cal P w K mg base κ 3 "_law_gmachine" 3 f_law_gmachine := ⟨f, fd, _, fn_law_gmachine KW F Z At C_law_gdraw C_law_gtrim, G, F.kp, F.binds (ps := ["pen", "most", "signs"]) fun _ _ _ _ _ _ us hl => match us, hl with | [_, _, _], _ => rfl⟩
abbrev s_law_ggoal : Stmt := topS 36
abbrev N_law_ggoal : List Str := ["leads", "sign", "one", "there"]
theorem sc_law_ggoal : FnScope N_law_ggoal ["leads", "sign"] (defScope s_law_ggoal) := ⟨rfl, rfl, rfl, by decide +kernel, rfl, by decide +kernel, by decide +kernel⟩
set_option maxHeartbeats 4000000 in
theorem fn_law_ggoal (KW : κ.w = w) {f : Addr} {fd : FuncData} (F : Fun K "_law_ggoal" "_law_ggoal" s_law_ggoal f fd) (Z : Zs mg) (At : As K κ) : FnOk P w K mg base CX0 1 f fd ["leads", "sign"] (spF0 K κ 2 f_law_ggoal) :=
  fn_ok (κ := κ) F sc_law_ggoal fun cdv A outer s H E hr => ls_one (ls_ret (le_lc rfl sc_law_ggoal.nd (li_any (le_var 0)) (blkOk_by (own := [("one", 2), ("there", 3)]) (N := N_law_ggoal) (sc := defScope s_law_ggoal) (by decide +kernel)) rfl (by decide) (fun _ _ _ _ _ => lg_tup rfl (lgs_cons (lg_name 2 sc_law_ggoal.nd) (lgs_cons (lg_name 3 sc_law_ggoal.nd) (lgs_nil)))) (fun _ _ _ _ _ => lts_one (lt_cmp (op_eqD hr.units) L_eq (le_var 2) (le_var 1))) (fun _ _ _ _ _ => le_var 3)))
theorem ok_law_ggoal (KW : κ.w = w) {f : Addr} {fd : FuncData} (F : Fun K "_law_ggoal" "_law_ggoal" s_law_ggoal f fd) (G : mg "_law_ggoal" = some (.ref f)) (Z : Zs mg) (At : As K κ) : Cal P w K mg base κ 1 "_law_ggoal" 2 f_law_ggoal := ⟨f, fd, _, fn_law_ggoal KW F Z At, G, F.kp, F.binds (ps := ["leads", "sign"]) fun _ _ _ _ _ _ us hl => match us, hl with | [_, _], _ => rfl⟩
abbrev s_law_gsame : Stmt := topS 37
abbrev N_law_gsame : List Str := ["found", "due", "one", "other"]
theorem sc_law_gsame : FnScope N_law_gsame ["found", "due"] (defScope s_law_gsame) := ⟨rfl, rfl, rfl, by decide +kernel, rfl, by decide +kernel, by decide +kernel⟩
set_option maxHeartbeats 4000000 in
theorem fn_law_gsame (KW : κ.w = w) {f : Addr} {fd : FuncData} (F : Fun K "_law_gsame" "_law_gsame" s_law_gsame f fd) (G : mg "_law_gsame" = some (.ref f)) (Z : Zs mg) (At : As K κ) : ∀ n : Nat, FnOk P w K mg base CX0 (0 + n) f fd ["found", "due"] (spF0 K κ 2 (f_law_gsame n))
  | 0 => fn_bad
  | n + 1 => by
    have C_law_gsame : Cal P w K mg base κ (0 + n) "_law_gsame" 2 (f_law_gsame n) := ⟨f, fd, _, fn_law_gsame KW F G Z At n, G, F.kp, F.binds (ps := ["found", "due"]) fun _ _ _ _ _ _ us hl => match us, hl with | [_, _], _ => rfl⟩
    exact fn_ok (κ := κ) F sc_law_gsame fun cdv A outer s H E hr => ls_cons (ls_if (lt_cmp or_is L_is (le_var 1) (le_non)) (ls_one (ls_ret (le_cmp or_is L_is (le_var 0) (le_non)))) (ls_nil))
        (ls_cons (ls_if (lt_val (le_callB call_isi L_isi (by rfl) Z.z_isinstance (by decide +kernel) (la_cons (le_var 1) (la_cons (le_c (pe_bltn (v := .ty "bool") (by rfl) Z.z_bool (by decide +kernel) rfl) (fun _ _ => by simp only [VR])) (la_nil))))) (ls_one (ls_ret (le_and (le_callB call_isi L_isi (by rfl) Z.z_isinstance (by decide +kernel) (la_cons (le_var 0) (la_cons (le_c (pe_bltn (v := .ty "bool") (by rfl) Z.z_bool (by decide +kernel) rfl) (fun _ _ => by simp only [VR])) (la_nil)))) (le_one (le_cmp (op_eqD hr.units) L_eq (le_var 0) (le_var 1)))))) (ls_nil))
        (ls_cons (ls_if (lt_val (le_callB call_isi L_isi (by rfl) Z.z_isinstance (by decide +kernel) (la_cons (le_var 1) (la_cons (le_c (pe_bltn (v := .ty "int") (by rfl) Z.z_int (by decide +kernel) rfl) (fun _ _ => by simp only [VR])) (la_nil))))) (ls_one (ls_ret (le_and (le_callB call_isi L_isi (by rfl) Z.z_isinstance (by decide +kernel) (la_cons (le_var 0) (la_cons (le_c (pe_bltn (v := .ty "int") (by rfl) Z.z_int (by decide +kernel) rfl) (fun _ _ => by simp only [VR])) (la_nil)))) (le_and (le_not (le_callB call_isi L_isi (by rfl) Z.z_isinstance (by decide +kernel) (la_cons (le_var 0) (la_cons (le_c (pe_bltn (v := .ty "bool") (by rfl) Z.z_bool (by decide +kernel) rfl) (fun _ _ => by simp only [VR])) (la_nil))))) (le_one (le_cmp (op_eqD hr.units) L_eq (le_var 0) (le_var 1))))))) (ls_nil))
        (ls_cons (ls_if (lt_val (le_callB call_isi L_isi (by rfl) Z.z_isinstance (by decide +kernel) (la_cons (le_var 1) (la_cons (le_c (pe_bltn (v := .ty "str") (by rfl) Z.z_str (by decide +kernel) rfl) (fun _ _ => by simp only [VR])) (la_nil))))) (ls_one (ls_ret (le_and (le_callB call_isi L_isi (by rfl) Z.z_isinstance (by decide +kernel) (la_cons (le_var 0) (la_cons (le_c (pe_bltn (v := .ty "str") (by rfl) Z.z_str (by decide +kernel) rfl) (fun _ _ => by simp only [VR])) (la_nil)))) (le_one (le_cmp (op_eqD hr.units) L_eq (le_var 0) (le_var 1)))))) (ls_nil))
        (ls_cons (ls_if (lt_w (lw_or (lt_cmp (op_neD hr.units) L_ne (le_callB call_isi L_isi (by rfl) Z.z_isinstance (by decide +kernel) (la_cons (le_var 1) (la_cons (le_c (pe_bltn (v := .ty "tuple") (by rfl) Z.z_tuple (by decide +kernel) rfl) (fun _ _ => by simp only [VR])) (la_nil)))) (le_callB call_isi L_isi (by rfl) Z.z_isinstance (by decide +kernel) (la_cons (le_var 0) (la_cons (le_c (pe_bltn (v := .ty "tuple") (by rfl) Z.z_tuple (by decide +kernel) rfl) (fun _ _ => by simp only [VR])) (la_nil))))) (lw_or1 (lt_cmp (op_neD hr.units) L_ne (le_callB call_isi L_isi (by rfl) Z.z_isinstance (by decide +kernel) (la_cons (le_var 1) (la_cons (le_c (pe_bltn (v := .ty "list") (by rfl) Z.z_list (by decide +kernel) rfl) (fun _ _ => by simp only [VR])) (la_nil)))) (le_callB call_isi L_isi (by rfl) Z.z_isinstance (by decide +kernel) (la_cons (le_var 0) (la_cons (le_c (pe_bltn (v := .ty "list") (by rfl) Z.z_list (by decide +kernel) rfl) (fun _ _ => by simp only [VR])) (la_nil)))))))) (ls_one (ls_ret (le_bl))) (ls_nil))
        (ls_one (ls_ret (le_and (le_cmp (op_eqD hr.units) L_eq (le_callB cr_len (L_len KW) (by rfl) Z.z_len (by decide +kernel) (la_cons (le_var 0) (la_nil))) (le_callB cr_len (L_len KW) (by rfl) Z.z_len (by decide +kernel) (la_cons (le_var 1) (la_nil)))) (le_one (le_callB (cr_all rfl) L_all (by rfl) Z.z_all (by decide +kernel) (la_cons (le_lc rfl sc_law_gsame.nd (li_zip (by rfl) Z.z_zip (le_var 0) (le_var 1)) (blkOk_by (own := [("one", 2), ("other", 3)]) (N := N_law_gsame) (sc := defScope s_law_gsame) (by decide +kernel)) rfl (by decide) (fun _ _ _ _ _ => lg_tup rfl (lgs_cons (lg_name 2 sc_law_gsame.nd) (lgs_cons (lg_name 3 sc_law_gsame.nd) (lgs_nil)))) (fun _ _ _ _ _ => lts_nil) (fun _ _ _ _ _ => le_calC C_law_gsame hr (by rfl) (la_cons (le_var 2) (la_cons (le_var 3) (la_nil))))) (la_nil)))))))))))
theorem ok_law_gsame (KW : κ.w = w) {f : Addr} {fd : FuncData} (F : Fun K "_law_gsame" "_law_gsame" s_law_gsame f fd) (G : mg "_law_gsame" = some (.ref f)) (Z : Zs mg) (At : As K κ) (n : Nat) : Cal P w K mg base κ (0 + n) "_law_gsame" 2 (f_law_gsame n) := ⟨f, fd, _, fn_law_gsame KW F G Z At n, G, F.kp, F.binds (ps := ["found", "due"]) fun _ _ _ _ _ _ us hl => match us, hl with | [_, _], _ => rfl⟩
abbrev s_law_gstep : Stmt := topS 38
abbrev N_law_gstep : List Str := ["machine", "signs", "orbit", "k", "sign", "goal"]
theorem sc_law_gstep : FnScope N_law_gstep ["machine", "signs", "orbit", "k", "sign"] (defScope s_law_gstep) := ⟨rfl, rfl, rfl, by decide +kernel, rfl, by decide +kernel, by decide +kernel⟩
set_option maxHeartbeats 4000000 in
theorem fn_law_gstep (KW : κ.w = w) {f : Addr} {fd : FuncData} (F : Fun K "_law_gstep" "_law_gstep" s_law_gstep f fd) (Z : Zs mg) (At : As K κ) (C_law_ggoal : Cal P w K mg base κ 1 "_law_ggoal" 2 f_law_ggoal) : FnOk P w K mg base CX0 2 f fd ["machine", "signs", "orbit", "k", "sign"] (spF0 K κ 5 f_law_gstep) :=
  fn_ok (κ := κ) F sc_law_gstep fun cdv A outer s H E hr => ls_cons (ls_set 5 sc_law_gstep.nd (le_calC C_law_ggoal (hr.mono (by decide)) (by rfl) (la_cons (le_ix (ix_any (hu65 hr)) (L_get KW) (le_ix (ix_any (hu65 hr)) (L_get KW) (le_var 0) (le_var 3) (fun _ _ => rfl)) (le_int) (fun _ _ => rfl)) (la_cons (le_var 4) (la_nil)))))
    (ls_cons (ls_if (lt_w (lw_or (lt_cmp (op_eqD hr.units) L_eq (le_var 5) (le_lst (la_nil))) (lw_or (lt_cmp (or_notIn (hu65 hr)) (L_notIn KW) (le_ix (ix_any (hu65 hr)) (L_get KW) (le_var 5) (le_int) (fun _ _ => rfl)) (le_var 2)) (lw_or1 (lt_w (lw_and (lt_val (le_ix (ix_any (hu65 hr)) (L_get KW) (le_ix (ix_any (hu65 hr)) (L_get KW) (le_var 0) (le_var 3) (fun _ _ => rfl)) (le_int) (fun _ _ => rfl))) (lw_and1 (lt_cmp (or_in (hu65 hr)) (L_in KW) (le_var 4) (le_var 1))))))))) (ls_one (ls_ret (le_non))) (ls_nil))
    (ls_one (ls_ret (le_ix (ix_any (hu65 hr)) (L_get KW) (le_var 5) (le_int) (fun _ _ => rfl)))))
theorem ok_law_gstep (KW : κ.w = w) {f : Addr} {fd : FuncData} (F : Fun K "_law_gstep" "_law_gstep" s_law_gstep f fd) (G : mg "_law_gstep" = some (.ref f)) (Z : Zs mg) (At : As K κ) (C_law_ggoal : Cal P w K mg base κ 1 "_law_ggoal" 2 f_law_ggoal) : Cal P w K mg base κ 2 "_law_gstep" 5 f_law_gstep := ⟨f, fd, _, fn_law_gstep KW F Z At C_law_ggoal, G, F.kp, F.binds (ps := ["machine", "signs", "orbit", "k", "sign"]) fun _ _ _ _ _ _ us hl => match us, hl with | [_, _, _, _, _], _ => rfl⟩
abbrev s_law_gends_so : Stmt := topS 39
abbrev N_law_gends_so : List Str := ["machine", "signs", "orbit", "k", "row", "sign"]
theorem sc_law_gends_so : FnScope N_law_gends_so ["machine", "signs", "orbit", "k", "row"] (defScope s_law_gends_so) := ⟨rfl, rfl, rfl, by decide +kernel, rfl, by decide +kernel, by decide +kernel⟩
set_option maxHeartbeats 4000000 in
theorem fn_law_gends_so (KW : κ.w = w) {f : Addr} {fd : FuncData} (F : Fun K "_law_gends_so" "_law_gends_so" s_law_gends_so f fd) (Z : Zs mg) (At : As K κ) (C_law_gstep : Cal P w K mg base κ 2 "_law_gstep" 5 f_law_gstep) (C_cut_gates : Cal P w K mg base κ 3 "cut_gates" 2 f_cut_gates) : FnOk P w K mg base CX0 4 f fd ["machine", "signs", "orbit", "k", "row"] (spF0 K κ 5 f_law_gends_so) :=
  fn_ok (κ := κ) F sc_law_gends_so fun cdv A outer s H E hr => ls_cons (ls_for PassesOwn.never rfl (li_any (le_var 4)) (lg_name 5 sc_law_gends_so.nd) (ls_one (ls_if (lt_cmp or_isnot L_isnot (le_var 3) (le_non)) (ls_one (ls_set 3 sc_law_gends_so.nd (le_calC C_law_gstep (hr.mono (by decide)) (by rfl) (la_cons (le_var 0) (la_cons (le_var 1) (la_cons (le_var 2) (la_cons (le_var 3) (la_cons (le_var 5) (la_nil))))))))) (ls_nil))))
    (ls_one (ls_ret (le_and (le_cmp or_isnot L_isnot (le_var 3) (le_non)) (le_one (le_cmp (or_in (hu65 hr)) (L_in KW) (le_var 3) (le_calC C_cut_gates (hr.mono (by decide)) (by rfl) (la_cons (le_var 0) (la_cons (le_var 2) (la_nil)))))))))
theorem ok_law_gends_so (KW : κ.w = w) {f : Addr} {fd : FuncData} (F : Fun K "_law_gends_so" "_law_gends_so" s_law_gends_so f fd) (G : mg "_law_gends_so" = some (.ref f)) (Z : Zs mg) (At : As K κ) (C_law_gstep : Cal P w K mg base κ 2 "_law_gstep" 5 f_law_gstep) (C_cut_gates : Cal P w K mg base κ 3 "cut_gates" 2 f_cut_gates) : Cal P w K mg base κ 4 "_law_gends_so" 5 f_law_gends_so := ⟨f, fd, _, fn_law_gends_so KW F Z At C_law_gstep C_cut_gates, G, F.kp, F.binds (ps := ["machine", "signs", "orbit", "k", "row"]) fun _ _ _ _ _ _ us hl => match us, hl with | [_, _, _, _, _], _ => rfl⟩
abbrev s_law_grow : Stmt := topS 40
abbrev N_law_grow : List Str := ["pen", "machine", "signs", "k", "row", "turn", "sign", "leads"]
theorem sc_law_grow : FnScope N_law_grow ["pen", "machine", "signs", "k"] (defScope s_law_grow) := ⟨rfl, rfl, rfl, by decide +kernel, rfl, by decide +kernel, by decide +kernel⟩
set_option maxHeartbeats 4000000 in
theorem fn_law_grow (KW : κ.w = w) {f : Addr} {fd : FuncData} (F : Fun K "_law_grow" "_law_grow" s_law_grow f fd) (Z : Zs mg) (At : As K κ) (C_law_gdraw : Cal P w K mg base κ 1 "_law_gdraw" 2 f_law_gdraw) : FnOk P w K mg base CX0 2 f fd ["pen", "machine", "signs", "k"] (spF0 K κ 4 f_law_grow) :=
  fn_ok (κ := κ) F sc_law_grow fun cdv A outer s H E hr => ls_cons (ls_set 4 sc_law_grow.nd (le_tup (la_nil)))
    (ls_cons (ls_for PassesOwn.never rfl (li_rng1 (by rfl) Z.z_range (le_calC C_law_gdraw (hr.mono (by decide)) (by rfl) (la_cons (le_var 0) (la_cons (le_int) (la_nil))))) (lg_name 5 sc_law_grow.nd) (ls_cons (ls_set 6 sc_law_grow.nd (le_ix (ix_any (hu65 hr)) (L_get KW) (le_var 2) (le_calC C_law_gdraw (hr.mono (by decide)) (by rfl) (la_cons (le_var 0) (la_cons (le_callB cr_len (L_len KW) (by rfl) Z.z_len (by decide +kernel) (la_cons (le_var 2) (la_nil))) (la_nil)))) (fun _ _ => rfl)))
    (ls_cons (ls_set 7 sc_law_grow.nd (le_ix (ix_any (hu65 hr)) (L_get KW) (le_ix (ix_any (hu65 hr)) (L_get KW) (le_var 1) (le_var 3) (fun _ _ => rfl)) (le_int) (fun _ _ => rfl)))
    (ls_cons (ls_if (lt_w (lw_and (lt_cmp (op_neD hr.units) L_ne (le_var 7) (le_tup (la_nil))) (lw_and1 (lt_cmp op_gt L_gt (le_calC C_law_gdraw (hr.mono (by decide)) (by rfl) (la_cons (le_var 0) (la_cons (le_int) (la_nil)))) (le_int))))) (ls_one (ls_asg (le_ix (ix_any (hu65 hr)) (L_get KW) (le_var 7) (le_calC C_law_gdraw (hr.mono (by decide)) (by rfl) (la_cons (le_var 0) (la_cons (le_callB cr_len (L_len KW) (by rfl) Z.z_len (by decide +kernel) (la_cons (le_var 7) (la_nil))) (la_nil)))) (fun _ _ => rfl)) (lg_tup rfl (lgs_cons (lg_name 6 sc_law_grow.nd) (lgs_cons (lg_name 3 sc_law_grow.nd) (lgs_nil)))))) (ls_nil))
    (ls_one (ls_set 4 sc_law_grow.nd (le_op or_add L_add (le_var 4) (le_tup (la_cons (le_var 6) (la_nil))))))))))
    (ls_one (ls_ret (le_var 4))))
theorem ok_law_grow (KW : κ.w = w) {f : Addr} {fd : FuncData} (F : Fun K "_law_grow" "_law_grow" s_law_grow f fd) (G : mg "_law_grow" = some (.ref f)) (Z : Zs mg) (At : As K κ) (C_law_gdraw : Cal P w K mg base κ 1 "_law_gdraw" 2 f_law_gdraw) : Cal P w K mg base κ 2 "_law_grow" 4 f_law_grow := ⟨f, fd, _, fn_law_grow KW F Z At C_law_gdraw, G, F.kp, F.binds (ps := ["pen", "machine", "signs", "k"]) fun _ _ _ _ _ _ us hl => match us, hl with | [_, _, _, _], _ => rfl⟩
abbrev s_law_gpart_right : Stmt := topS 41
abbrev N_law_gpart_right : List Str := ["pen", "machine", "signs", "orbit", "k", "still", "part", "again", "row", "to"]
theorem sc_law_gpart_right : FnScope N_law_gpart_right ["pen", "machine", "signs", "orbit", "k"] (defScope s_law_gpart_right) := ⟨rfl, rfl, rfl, by decide +kernel, rfl, by decide +kernel, by decide +kernel⟩
set_option maxHeartbeats 4000000 in
theorem fn_law_gpart_right (KW : κ.w = w) {f : Addr} {fd : FuncData} (F : Fun K "_law_gpart_right" "_law_gpart_right" s_law_gpart_right f fd) (Z : Zs mg) (At : As K κ) (C_steady : Cal P w K mg base κ 1 "steady" 1 f_steady) (C_part_of : Cal P w K mg base κ 6 "part_of" 2 f_part_of) (C_is_machine : Cal P w K mg base κ 4 "is_machine" 1 f_is_machine) (C_law_grow : Cal P w K mg base κ 2 "_law_grow" 4 f_law_grow) (C_runs : Cal P w K mg base κ 1 "runs" 2 f_runs) (C_law_gends_so : Cal P w K mg base κ 4 "_law_gends_so" 5 f_law_gends_so) (C_law_gsame : Cal P w K mg base κ 8 "_law_gsame" 2 (f_law_gsame 8)) (C_law_gstep : Cal P w K mg base κ 2 "_law_gstep" 5 f_law_gstep) : FnOk P w K mg base CX0 9 f fd ["pen", "machine", "signs", "orbit", "k"] (spF0 K κ 5 f_law_gpart_right) :=
  fn_ok (κ := κ) F sc_law_gpart_right fun cdv A outer s H E hr => ls_cons (ls_set 5 sc_law_gpart_right.nd (le_calC C_steady (hr.mono (by decide)) (by rfl) (la_cons (le_var 1) (la_nil))))
    (ls_cons (ls_set 6 sc_law_gpart_right.nd (le_calC C_part_of (hr.mono (by decide)) (by rfl) (la_cons (le_var 1) (la_cons (le_var 4) (la_nil)))))
    (ls_cons (ls_if (lt_cmp or_isnot L_isnot (le_calC C_is_machine (hr.mono (by decide)) (by rfl) (la_cons (le_var 6) (la_nil))) (le_bl)) (ls_one (ls_ret (le_bl))) (ls_nil))
    (ls_cons (ls_for PassesOwn.never rfl (li_rng1 (by rfl) Z.z_range (le_int)) (lg_name 7 sc_law_gpart_right.nd) (ls_cons (ls_set 8 sc_law_gpart_right.nd (le_calC C_law_grow (hr.mono (by decide)) (by rfl) (la_cons (le_var 0) (la_cons (le_var 1) (la_cons (le_var 2) (la_cons (le_var 4) (la_nil)))))))
    (ls_cons (ls_if (lt_not (lt_val (le_calC C_law_gsame (hr.mono (by decide)) (by rfl) (la_cons (le_calC C_runs (hr.mono (by decide)) (by rfl) (la_cons (le_var 6) (la_cons (le_var 8) (la_nil)))) (la_cons (le_calC C_law_gends_so (hr.mono (by decide)) (by rfl) (la_cons (le_var 1) (la_cons (le_var 5) (la_cons (le_var 3) (la_cons (le_var 4) (la_cons (le_var 8) (la_nil))))))) (la_nil)))))) (ls_one (ls_ret (le_bl))) (ls_nil))
    (ls_cons (ls_set 9 sc_law_gpart_right.nd (le_if (lt_cmp (op_eqD hr.units) L_eq (le_var 8) (le_tup (la_nil))) (le_non) (le_calC C_law_gstep (hr.mono (by decide)) (by rfl) (la_cons (le_var 1) (la_cons (le_var 5) (la_cons (le_var 3) (la_cons (le_var 4) (la_cons (le_ix (ix_any (hu65 hr)) (L_get KW) (le_var 8) (le_int) (fun _ _ => rfl)) (la_nil)))))))))
    (ls_one (ls_if (lt_w (lw_and (lt_cmp or_isnot L_isnot (le_var 9) (le_non)) (lw_and1 (lt_cmp (op_neD hr.units) L_ne (le_calC C_runs (hr.mono (by decide)) (by rfl) (la_cons (le_calC C_part_of (hr.mono (by decide)) (by rfl) (la_cons (le_var 1) (la_cons (le_var 9) (la_nil)))) (la_cons (le_slice (le_var 8) (lo_some (le_int)) (lo_none)) (la_nil)))) (le_calC C_runs (hr.mono (by decide)) (by rfl) (la_cons (le_var 6) (la_cons (le_var 8) (la_nil)))))))) (ls_one (ls_ret (le_bl))) (ls_nil)))))))
    (ls_one (ls_ret (le_bl))))))
theorem ok_law_gpart_right (KW : κ.w = w) {f : Addr} {fd : FuncData} (F : Fun K "_law_gpart_right" "_law_gpart_right" s_law_gpart_right f fd) (G : mg "_law_gpart_right" = some (.ref f)) (Z : Zs mg) (At : As K κ) (C_steady : Cal P w K mg base κ 1 "steady" 1 f_steady) (C_part_of : Cal P w K mg base κ 6 "part_of" 2 f_part_of) (C_is_machine : Cal P w K mg base κ 4 "is_machine" 1 f_is_machine) (C_law_grow : Cal P w K mg base κ 2 "_law_grow" 4 f_law_grow) (C_runs : Cal P w K mg base κ 1 "runs" 2 f_runs) (C_law_gends_so : Cal P w K mg base κ 4 "_law_gends_so" 5 f_law_gends_so) (C_law_gsame : Cal P w K mg base κ 8 "_law_gsame" 2 (f_law_gsame 8)) (C_law_gstep : Cal P w K mg base κ 2 "_law_gstep" 5 f_law_gstep) : Cal P w K mg base κ 9 "_law_gpart_right" 5 f_law_gpart_right := ⟨f, fd, _, fn_law_gpart_right KW F Z At C_steady C_part_of C_is_machine C_law_grow C_runs C_law_gends_so C_law_gsame C_law_gstep, G, F.kp, F.binds (ps := ["pen", "machine", "signs", "orbit", "k"]) fun _ _ _ _ _ _ us hl => match us, hl with | [_, _, _, _, _], _ => rfl⟩
abbrev s_law : Stmt := topS 42
abbrev N_law : List Str := ["script", "pen", "turn", "signs", "machine", "orbit", "k"]
theorem sc_law : FnScope N_law ["script"] (defScope s_law) := ⟨rfl, rfl, rfl, by decide +kernel, rfl, by decide +kernel, by decide +kernel⟩
set_option maxHeartbeats 4000000 in
theorem fn_law (KW : κ.w = w) {f : Addr} {fd : FuncData} (F : Fun K "law" "law" s_law f fd) (Z : Zs mg) (At : As K κ) (C_law_gpen : Cal P w K mg base κ 1 "_law_gpen" 1 f_law_gpen) (C_law_gdraw : Cal P w K mg base κ 1 "_law_gdraw" 2 f_law_gdraw) (C_law_gsigns : Cal P w K mg base κ 2 "_law_gsigns" 2 f_law_gsigns) (C_law_gmachine : Cal P w K mg base κ 3 "_law_gmachine" 3 f_law_gmachine) (C_cut_orbits : Cal P w K mg base κ 3 "cut_orbits" 1 f_cut_orbits) (C_law_gpart_right : Cal P w K mg base κ 9 "_law_gpart_right" 5 f_law_gpart_right) : FnOk P w K mg base CX0 10 f fd ["script"] (spF0 K κ 1 f_law) :=
  fn_ok (κ := κ) F sc_law fun cdv A outer s H E hr => ls_cons (ls_set 1 sc_law.nd (le_calC C_law_gpen (hr.mono (by decide)) (by rfl) (la_cons (le_var 0) (la_nil))))
    (ls_cons (ls_for PassesOwn.never rfl (li_rng1 (by rfl) Z.z_range (le_int)) (lg_name 2 sc_law.nd) (ls_cons (ls_set 3 sc_law.nd (le_calC C_law_gsigns (hr.mono (by decide)) (by rfl) (la_cons (le_var 1) (la_cons (le_op or_add L_add (le_int) (le_calC C_law_gdraw (hr.mono (by decide)) (by rfl) (la_cons (le_var 1) (la_cons (le_int) (la_nil))))) (la_nil)))))
    (ls_cons (ls_set 4 sc_law.nd (le_calC C_law_gmachine (hr.mono (by decide)) (by rfl) (la_cons (le_var 1) (la_cons (le_int) (la_cons (le_var 3) (la_nil))))))
    (ls_one (ls_for PassesOwn.never rfl (li_any (le_calC C_cut_orbits (hr.mono (by decide)) (by rfl) (la_cons (le_var 4) (la_nil)))) (lg_name 5 sc_law.nd) (ls_one (ls_if (lt_not (lt_val (le_callB (cr_all rfl) L_all (by rfl) Z.z_all (by decide +kernel) (la_cons (le_lc rfl sc_law.nd (li_any (le_var 5)) (blkOk_by (own := [("k", 6)]) (N := N_law) (sc := defScope s_law) (by decide +kernel)) rfl (by decide) (fun _ _ _ _ _ => lg_name 6 sc_law.nd) (fun _ _ _ _ _ => lts_nil) (fun _ _ _ _ _ => le_calC C_law_gpart_right (hr.mono (by decide)) (by rfl) (la_cons (le_var 1) (la_cons (le_var 4) (la_cons (le_var 3) (la_cons (le_var 5) (la_cons (le_var 6) (la_nil)))))))) (la_nil))))) (ls_one (ls_ret (le_bl))) (ls_nil))))))))
    (ls_one (ls_ret (le_bl))))
theorem ok_law (KW : κ.w = w) {f : Addr} {fd : FuncData} (F : Fun K "law" "law" s_law f fd) (G : mg "law" = some (.ref f)) (Z : Zs mg) (At : As K κ) (C_law_gpen : Cal P w K mg base κ 1 "_law_gpen" 1 f_law_gpen) (C_law_gdraw : Cal P w K mg base κ 1 "_law_gdraw" 2 f_law_gdraw) (C_law_gsigns : Cal P w K mg base κ 2 "_law_gsigns" 2 f_law_gsigns) (C_law_gmachine : Cal P w K mg base κ 3 "_law_gmachine" 3 f_law_gmachine) (C_cut_orbits : Cal P w K mg base κ 3 "cut_orbits" 1 f_cut_orbits) (C_law_gpart_right : Cal P w K mg base κ 9 "_law_gpart_right" 5 f_law_gpart_right) : Cal P w K mg base κ 10 "law" 1 f_law := ⟨f, fd, _, fn_law KW F Z At C_law_gpen C_law_gdraw C_law_gsigns C_law_gmachine C_cut_orbits C_law_gpart_right, G, F.kp, F.binds (ps := ["script"]) fun _ _ _ _ _ _ us hl => match us, hl with | [_], _ => rfl⟩
end
theorem all_ok {l : PySem.W.OpenLaw} {w : World} {K : PySem.W.Frag} {h : Heap} {mg : Str → Option Value} {fa : Addr} (X : K.In h) (G : h.Ns mainGlobals mg) (hfa : mg "law" = some (.ref fa))
    {C0 : Addr} (aC0 : PySem.W.nsIn K mainGlobals "Heaps" = some (some (.ref C0)))
    (pg0 : PySem.W.plainGet K C0 Str.empty = true) (hd0 : PySem.W.hasDictIn K C0 = true) (po0 : PySem.W.plainOver K C0 = true) (sa0 : PySem.W.findIn K (.ref C0) "__setattr__" = some (some (.builtin "object.__setattr__"))) (mk0 : PySem.W.makesIn K C0 = true) (kc0 : PySem.W.keepIn K (.ref C0) = true)
    (n0_comers : PySem.W.findIn K (.ref C0) "comers" = some none)
    (n0_heap_of : PySem.W.findIn K (.ref C0) "heap_of" = some none)
    (n0_heaps : PySem.W.findIn K (.ref C0) "heaps" = some none)
    (n0_knives : PySem.W.findIn K (.ref C0) "knives" = some none)
    (n0_words : PySem.W.findIn K (.ref C0) "words" = some none)
    {f0 : Addr} {od0 an0 : Option Addr} {sl0 : Array (Option Value)} {oc0 kV0 dc0 pm0 cd0 ct0 : Value}
    (a0 : PySem.W.nsIn K mainGlobals "is_whole" = some (some (.ref f0)))
    (l0 : K.lookup f0 = some ⟨oc0, od0, .func (PySem.W.fnOf "is_whole" "is_whole" (defArgs s_is_whole) (defBody s_is_whole) (defScope s_is_whole) .none kV0 dc0 pm0 an0 cd0 ct0), sl0⟩) (c0 : PySem.W.codeIn K cd0 "is_whole" = true) (k0 : PySem.W.keepIn K (.ref f0) = true)
    {f1 : Addr} {od1 an1 : Option Addr} {sl1 : Array (Option Value)} {oc1 kV1 dc1 pm1 cd1 ct1 : Value}
    (a1 : PySem.W.nsIn K mainGlobals "is_sign" = some (some (.ref f1)))
    (l1 : K.lookup f1 = some ⟨oc1, od1, .func (PySem.W.fnOf "is_sign" "is_sign" (defArgs s_is_sign) (defBody s_is_sign) (defScope s_is_sign) .none kV1 dc1 pm1 an1 cd1 ct1), sl1⟩) (c1 : PySem.W.codeIn K cd1 "is_sign" = true) (k1 : PySem.W.keepIn K (.ref f1) = true)
    {f2 : Addr} {od2 an2 : Option Addr} {sl2 : Array (Option Value)} {oc2 kV2 dc2 pm2 cd2 ct2 : Value}
    (a2 : PySem.W.nsIn K mainGlobals "is_led" = some (some (.ref f2)))
    (l2 : K.lookup f2 = some ⟨oc2, od2, .func (PySem.W.fnOf "is_led" "is_led" (defArgs s_is_led) (defBody s_is_led) (defScope s_is_led) .none kV2 dc2 pm2 an2 cd2 ct2), sl2⟩) (c2 : PySem.W.codeIn K cd2 "is_led" = true) (k2 : PySem.W.keepIn K (.ref f2) = true)
    {f3 : Addr} {od3 an3 : Option Addr} {sl3 : Array (Option Value)} {oc3 kV3 dc3 pm3 cd3 ct3 : Value}
    (a3 : PySem.W.nsIn K mainGlobals "is_room" = some (some (.ref f3)))
    (l3 : K.lookup f3 = some ⟨oc3, od3, .func (PySem.W.fnOf "is_room" "is_room" (defArgs s_is_room) (defBody s_is_room) (defScope s_is_room) .none kV3 dc3 pm3 an3 cd3 ct3), sl3⟩) (c3 : PySem.W.codeIn K cd3 "is_room" = true) (k3 : PySem.W.keepIn K (.ref f3) = true)
    {f4 : Addr} {od4 an4 : Option Addr} {sl4 : Array (Option Value)} {oc4 kV4 dc4 pm4 cd4 ct4 : Value}
    (a4 : PySem.W.nsIn K mainGlobals "alive" = some (some (.ref f4)))
    (l4 : K.lookup f4 = some ⟨oc4, od4, .func (PySem.W.fnOf "alive" "alive" (defArgs s_alive) (defBody s_alive) (defScope s_alive) .none kV4 dc4 pm4 an4 cd4 ct4), sl4⟩) (c4 : PySem.W.codeIn K cd4 "alive" = true) (k4 : PySem.W.keepIn K (.ref f4) = true)
    {f5 : Addr} {od5 an5 : Option Addr} {sl5 : Array (Option Value)} {oc5 kV5 dc5 pm5 cd5 ct5 : Value}
    (a5 : PySem.W.nsIn K mainGlobals "reached" = some (some (.ref f5)))
    (l5 : K.lookup f5 = some ⟨oc5, od5, .func (PySem.W.fnOf "reached" "reached" (defArgs s_reached) (defBody s_reached) (defScope s_reached) .none kV5 dc5 pm5 an5 cd5 ct5), sl5⟩) (c5 : PySem.W.codeIn K cd5 "reached" = true) (k5 : PySem.W.keepIn K (.ref f5) = true)
    {f6 : Addr} {od6 an6 : Option Addr} {sl6 : Array (Option Value)} {oc6 kV6 dc6 pm6 cd6 ct6 : Value}
    (a6 : PySem.W.nsIn K mainGlobals "is_machine" = some (some (.ref f6)))
    (l6 : K.lookup f6 = some ⟨oc6, od6, .func (PySem.W.fnOf "is_machine" "is_machine" (defArgs s_is_machine) (defBody s_is_machine) (defScope s_is_machine) .none kV6 dc6 pm6 an6 cd6 ct6), sl6⟩) (c6 : PySem.W.codeIn K cd6 "is_machine" = true) (k6 : PySem.W.keepIn K (.ref f6) = true)
    {f7 : Addr} {od7 an7 : Option Addr} {sl7 : Array (Option Value)} {oc7 kV7 dc7 pm7 cd7 ct7 : Value}
    (a7 : PySem.W.nsIn K mainGlobals "runs" = some (some (.ref f7)))
    (l7 : K.lookup f7 = some ⟨oc7, od7, .func (PySem.W.fnOf "runs" "runs" (defArgs s_runs) (defBody s_runs) (defScope s_runs) .none kV7 dc7 pm7 an7 cd7 ct7), sl7⟩) (c7 : PySem.W.codeIn K cd7 "runs" = true) (k7 : PySem.W.keepIn K (.ref f7) = true)
    {f8 : Addr} {od8 an8 : Option Addr} {sl8 : Array (Option Value)} {oc8 kV8 dc8 pm8 cd8 ct8 : Value}
    (a8 : PySem.W.findIn K (.ref C0) "lay" = some (some (.ref f8))) (i8 : PySem.W.isFn K (.ref f8) = true)
    (l8 : K.lookup f8 = some ⟨oc8, od8, .func (PySem.W.fnOf "lay" "Heaps.lay" (defArgs s_Heaps_lay) (defBody s_Heaps_lay) (defScope s_Heaps_lay) .none kV8 dc8 pm8 an8 cd8 ct8), sl8⟩) (c8 : PySem.W.codeIn K cd8 "Heaps.lay" = true) (k8 : PySem.W.keepIn K (.ref f8) = true)
    {f9 : Addr} {od9 an9 : Option Addr} {sl9 : Array (Option Value)} {oc9 kV9 dc9 pm9 cd9 ct9 : Value}
    (a9 : PySem.W.findIn K (.ref C0) "__init__" = some (some (.ref f9))) (i9 : PySem.W.isFn K (.ref f9) = true)
    (l9 : K.lookup f9 = some ⟨oc9, od9, .func (PySem.W.fnOf "__init__" "Heaps.__init__" (defArgs s_Heaps_init) (defBody s_Heaps_init) (defScope s_Heaps_init) .none kV9 dc9 pm9 an9 cd9 ct9), sl9⟩) (c9 : PySem.W.codeIn K cd9 "Heaps.__init__" = true) (k9 : PySem.W.keepIn K (.ref f9) = true)
    {f10 : Addr} {od10 an10 : Option Addr} {sl10 : Array (Option Value)} {oc10 kV10 dc10 pm10 cd10 ct10 : Value}
    (a10 : PySem.W.findIn K (.ref C0) "cut" = some (some (.ref f10))) (i10 : PySem.W.isFn K (.ref f10) = true)
    (l10 : K.lookup f10 = some ⟨oc10, od10, .func (PySem.W.fnOf "cut" "Heaps.cut" (defArgs s_Heaps_cut) (defBody s_Heaps_cut) (defScope s_Heaps_cut) .none kV10 dc10 pm10 an10 cd10 ct10), sl10⟩) (c10 : PySem.W.codeIn K cd10 "Heaps.cut" = true) (k10 : PySem.W.keepIn K (.ref f10) = true)
    {f11 : Addr} {od11 an11 : Option Addr} {sl11 : Array (Option Value)} {oc11 kV11 dc11 pm11 cd11 ct11 : Value}
    (a11 : PySem.W.findIn K (.ref C0) "cut_all" = some (some (.ref f11))) (i11 : PySem.W.isFn K (.ref f11) = true)
    (l11 : K.lookup f11 = some ⟨oc11, od11, .func (PySem.W.fnOf "cut_all" "Heaps.cut_all" (defArgs s_Heaps_cut_all) (defBody s_Heaps_cut_all) (defScope s_Heaps_cut_all) .none kV11 dc11 pm11 an11 cd11 ct11), sl11⟩) (c11 : PySem.W.codeIn K cd11 "Heaps.cut_all" = true) (k11 : PySem.W.keepIn K (.ref f11) = true)
    {f12 : Addr} {od12 an12 : Option Addr} {sl12 : Array (Option Value)} {oc12 kV12 dc12 pm12 cd12 ct12 : Value}
    (a12 : PySem.W.nsIn K mainGlobals "numbered" = some (some (.ref f12)))
    (l12 : K.lookup f12 = some ⟨oc12, od12, .func (PySem.W.fnOf "numbered" "numbered" (defArgs s_numbered) (defBody s_numbered) (defScope s_numbered) .none kV12 dc12 pm12 an12 cd12 ct12), sl12⟩) (c12 : PySem.W.codeIn K cd12 "numbered" = true) (k12 : PySem.W.keepIn K (.ref f12) = true)
    {f13 : Addr} {od13 an13 : Option Addr} {sl13 : Array (Option Value)} {oc13 kV13 dc13 pm13 cd13 ct13 : Value}
    (a13 : PySem.W.nsIn K mainGlobals "least_or_none" = some (some (.ref f13)))
    (l13 : K.lookup f13 = some ⟨oc13, od13, .func (PySem.W.fnOf "least_or_none" "least_or_none" (defArgs s_least_or_none) (defBody s_least_or_none) (defScope s_least_or_none) .none kV13 dc13 pm13 an13 cd13 ct13), sl13⟩) (c13 : PySem.W.codeIn K cd13 "least_or_none" = true) (k13 : PySem.W.keepIn K (.ref f13) = true)
    {f14 : Addr} {od14 an14 : Option Addr} {sl14 : Array (Option Value)} {oc14 kV14 dc14 pm14 cd14 ct14 : Value}
    (a14 : PySem.W.nsIn K mainGlobals "least_of" = some (some (.ref f14)))
    (l14 : K.lookup f14 = some ⟨oc14, od14, .func (PySem.W.fnOf "least_of" "least_of" (defArgs s_least_of) (defBody s_least_of) (defScope s_least_of) .none kV14 dc14 pm14 an14 cd14 ct14), sl14⟩) (c14 : PySem.W.codeIn K cd14 "least_of" = true) (k14 : PySem.W.keepIn K (.ref f14) = true)
    {f15 : Addr} {od15 an15 : Option Addr} {sl15 : Array (Option Value)} {oc15 kV15 dc15 pm15 cd15 ct15 : Value}
    (a15 : PySem.W.nsIn K mainGlobals "come_to" = some (some (.ref f15)))
    (l15 : K.lookup f15 = some ⟨oc15, od15, .func (PySem.W.fnOf "come_to" "come_to" (defArgs s_come_to) (defBody s_come_to) (defScope s_come_to) .none kV15 dc15 pm15 an15 cd15 ct15), sl15⟩) (c15 : PySem.W.codeIn K cd15 "come_to" = true) (k15 : PySem.W.keepIn K (.ref f15) = true)
    {f16 : Addr} {od16 an16 : Option Addr} {sl16 : Array (Option Value)} {oc16 kV16 dc16 pm16 cd16 ct16 : Value}
    (a16 : PySem.W.nsIn K mainGlobals "orbits" = some (some (.ref f16)))
    (l16 : K.lookup f16 = some ⟨oc16, od16, .func (PySem.W.fnOf "orbits" "orbits" (defArgs s_orbits) (defBody s_orbits) (defScope s_orbits) .none kV16 dc16 pm16 an16 cd16 ct16), sl16⟩) (c16 : PySem.W.codeIn K cd16 "orbits" = true) (k16 : PySem.W.keepIn K (.ref f16) = true)
    {f17 : Addr} {od17 an17 : Option Addr} {sl17 : Array (Option Value)} {oc17 kV17 dc17 pm17 cd17 ct17 : Value}
    (a17 : PySem.W.nsIn K mainGlobals "leads_out" = some (some (.ref f17)))
    (l17 : K.lookup f17 = some ⟨oc17, od17, .func (PySem.W.fnOf "leads_out" "leads_out" (defArgs s_leads_out) (defBody s_leads_out) (defScope s_leads_out) .none kV17 dc17 pm17 an17 cd17 ct17), sl17⟩) (c17 : PySem.W.codeIn K cd17 "leads_out" = true) (k17 : PySem.W.keepIn K (.ref f17) = true)
    {f18 : Addr} {od18 an18 : Option Addr} {sl18 : Array (Option Value)} {oc18 kV18 dc18 pm18 cd18 ct18 : Value}
    (a18 : PySem.W.nsIn K mainGlobals "gates" = some (some (.ref f18)))
    (l18 : K.lookup f18 = some ⟨oc18, od18, .func (PySem.W.fnOf "gates" "gates" (defArgs s_gates) (defBody s_gates) (defScope s_gates) .none kV18 dc18 pm18 an18 cd18 ct18), sl18⟩) (c18 : PySem.W.codeIn K cd18 "gates" = true) (k18 : PySem.W.keepIn K (.ref f18) = true)
    {f19 : Addr} {od19 an19 : Option Addr} {sl19 : Array (Option Value)} {oc19 kV19 dc19 pm19 cd19 ct19 : Value}
    (a19 : PySem.W.nsIn K mainGlobals "steady" = some (some (.ref f19)))
    (l19 : K.lookup f19 = some ⟨oc19, od19, .func (PySem.W.fnOf "steady" "steady" (defArgs s_steady) (defBody s_steady) (defScope s_steady) .none kV19 dc19 pm19 an19 cd19 ct19), sl19⟩) (c19 : PySem.W.codeIn K cd19 "steady" = true) (k19 : PySem.W.keepIn K (.ref f19) = true)
    {f20 : Addr} {od20 an20 : Option Addr} {sl20 : Array (Option Value)} {oc20 kV20 dc20 pm20 cd20 ct20 : Value}
    (a20 : PySem.W.nsIn K mainGlobals "cut_machine" = some (some (.ref f20)))
    (l20 : K.lookup f20 = some ⟨oc20, od20, .func (PySem.W.fnOf "cut_machine" "cut_machine" (defArgs s_cut_machine) (defBody s_cut_machine) (defScope s_cut_machine) .none kV20 dc20 pm20 an20 cd20 ct20), sl20⟩) (c20 : PySem.W.codeIn K cd20 "cut_machine" = true) (k20 : PySem.W.keepIn K (.ref f20) = true)
    {f21 : Addr} {od21 an21 : Option Addr} {sl21 : Array (Option Value)} {oc21 kV21 dc21 pm21 cd21 ct21 : Value}
    (a21 : PySem.W.nsIn K mainGlobals "cut_orbits" = some (some (.ref f21)))
    (l21 : K.lookup f21 = some ⟨oc21, od21, .func (PySem.W.fnOf "cut_orbits" "cut_orbits" (defArgs s_cut_orbits) (defBody s_cut_orbits) (defScope s_cut_orbits) .none kV21 dc21 pm21 an21 cd21 ct21), sl21⟩) (c21 : PySem.W.codeIn K cd21 "cut_orbits" = true) (k21 : PySem.W.keepIn K (.ref f21) = true)
    {f22 : Addr} {od22 an22 : Option Addr} {sl22 : Array (Option Value)} {oc22 kV22 dc22 pm22 cd22 ct22 : Value}
    (a22 : PySem.W.nsIn K mainGlobals "cut_gates" = some (some (.ref f22)))
    (l22 : K.lookup f22 = some ⟨oc22, od22, .func (PySem.W.fnOf "cut_gates" "cut_gates" (defArgs s_cut_gates) (defBody s_cut_gates) (defScope s_cut_gates) .none kV22 dc22 pm22 an22 cd22 ct22), sl22⟩) (c22 : PySem.W.codeIn K cd22 "cut_gates" = true) (k22 : PySem.W.keepIn K (.ref f22) = true)
    {f23 : Addr} {od23 an23 : Option Addr} {sl23 : Array (Option Value)} {oc23 kV23 dc23 pm23 cd23 ct23 : Value}
    (a23 : PySem.W.nsIn K mainGlobals "orbit_of" = some (some (.ref f23)))
    (l23 : K.lookup f23 = some ⟨oc23, od23, .func (PySem.W.fnOf "orbit_of" "orbit_of" (defArgs s_orbit_of) (defBody s_orbit_of) (defScope s_orbit_of) .none kV23 dc23 pm23 an23 cd23 ct23), sl23⟩) (c23 : PySem.W.codeIn K cd23 "orbit_of" = true) (k23 : PySem.W.keepIn K (.ref f23) = true)
    {f24 : Addr} {od24 an24 : Option Addr} {sl24 : Array (Option Value)} {oc24 kV24 dc24 pm24 cd24 ct24 : Value}
    (a24 : PySem.W.nsIn K mainGlobals "part_of" = some (some (.ref f24)))
    (l24 : K.lookup f24 = some ⟨oc24, od24, .func (PySem.W.fnOf "part_of" "part_of" (defArgs s_part_of) (defBody s_part_of) (defScope s_part_of) .none kV24 dc24 pm24 an24 cd24 ct24), sl24⟩) (c24 : PySem.W.codeIn K cd24 "part_of" = true) (k24 : PySem.W.keepIn K (.ref f24) = true)
    {f25 : Addr} {od25 an25 : Option Addr} {sl25 : Array (Option Value)} {oc25 kV25 dc25 pm25 cd25 ct25 : Value}
    (a25 : PySem.W.nsIn K mainGlobals "_law_gpen" = some (some (.ref f25)))
    (l25 : K.lookup f25 = some ⟨oc25, od25, .func (PySem.W.fnOf "_law_gpen" "_law_gpen" (defArgs s_law_gpen) (defBody s_law_gpen) (defScope s_law_gpen) .none kV25 dc25 pm25 an25 cd25 ct25), sl25⟩) (c25 : PySem.W.codeIn K cd25 "_law_gpen" = true) (k25 : PySem.W.keepIn K (.ref f25) = true)
    {f26 : Addr} {od26 an26 : Option Addr} {sl26 : Array (Option Value)} {oc26 kV26 dc26 pm26 cd26 ct26 : Value}
    (a26 : PySem.W.nsIn K mainGlobals "_law_gdraw" = some (some (.ref f26)))
    (l26 : K.lookup f26 = some ⟨oc26, od26, .func (PySem.W.fnOf "_law_gdraw" "_law_gdraw" (defArgs s_law_gdraw) (defBody s_law_gdraw) (defScope s_law_gdraw) .none kV26 dc26 pm26 an26 cd26 ct26), sl26⟩) (c26 : PySem.W.codeIn K cd26 "_law_gdraw" = true) (k26 : PySem.W.keepIn K (.ref f26) = true)
    {f27 : Addr} {od27 an27 : Option Addr} {sl27 : Array (Option Value)} {oc27 kV27 dc27 pm27 cd27 ct27 : Value}
    (a27 : PySem.W.nsIn K mainGlobals "_law_gsigns" = some (some (.ref f27)))
    (l27 : K.lookup f27 = some ⟨oc27, od27, .func (PySem.W.fnOf "_law_gsigns" "_law_gsigns" (defArgs s_law_gsigns) (defBody s_law_gsigns) (defScope s_law_gsigns) .none kV27 dc27 pm27 an27 cd27 ct27), sl27⟩) (c27 : PySem.W.codeIn K cd27 "_law_gsigns" = true) (k27 : PySem.W.keepIn K (.ref f27) = true)
    {f28 : Addr} {od28 an28 : Option Addr} {sl28 : Array (Option Value)} {oc28 kV28 dc28 pm28 cd28 ct28 : Value}
    (a28 : PySem.W.nsIn K mainGlobals "_law_gto_end" = some (some (.ref f28)))
    (l28 : K.lookup f28 = some ⟨oc28, od28, .func (PySem.W.fnOf "_law_gto_end" "_law_gto_end" (defArgs s_law_gto_end) (defBody s_law_gto_end) (defScope s_law_gto_end) .none kV28 dc28 pm28 an28 cd28 ct28), sl28⟩) (c28 : PySem.W.codeIn K cd28 "_law_gto_end" = true) (k28 : PySem.W.keepIn K (.ref f28) = true)
    {f29 : Addr} {od29 an29 : Option Addr} {sl29 : Array (Option Value)} {oc29 kV29 dc29 pm29 cd29 ct29 : Value}
    (a29 : PySem.W.nsIn K mainGlobals "_law_gtrim" = some (some (.ref f29)))
    (l29 : K.lookup f29 = some ⟨oc29, od29, .func (PySem.W.fnOf "_law_gtrim" "_law_gtrim" (defArgs s_law_gtrim) (defBody s_law_gtrim) (defScope s_law_gtrim) .none kV29 dc29 pm29 an29 cd29 ct29), sl29⟩) (c29 : PySem.W.codeIn K cd29 "_law_gtrim" = true) (k29 : PySem.W.keepIn K (.ref f29) = true)
    {f30 : Addr} {od30 an30 : Option Addr} {sl30 : Array (Option Value)} {oc30 kV30 dc30 pm30 cd30 ct30 : Value}
    (a30 : PySem.W.nsIn K mainGlobals "_law_gmachine" = some (some (.ref f30)))
    (l30 : K.lookup f30 = some ⟨oc30, od30, .func (PySem.W.fnOf "_law_gmachine" "_law_gmachine" (defArgs s_law_gmachine) (defBody s_law_gmachine) (defScope s_law_gmachine) .none kV30 dc30 pm30 an30 cd30 ct30), sl30⟩) (c30 : PySem.W.codeIn K cd30 "_law_gmachine" = true) (k30 : PySem.W.keepIn K (.ref f30) = true)
    {f31 : Addr} {od31 an31 : Option Addr} {sl31 : Array (Option Value)} {oc31 kV31 dc31 pm31 cd31 ct31 : Value}
    (a31 : PySem.W.nsIn K mainGlobals "_law_ggoal" = some (some (.ref f31)))
    (l31 : K.lookup f31 = some ⟨oc31, od31, .func (PySem.W.fnOf "_law_ggoal" "_law_ggoal" (defArgs s_law_ggoal) (defBody s_law_ggoal) (defScope s_law_ggoal) .none kV31 dc31 pm31 an31 cd31 ct31), sl31⟩) (c31 : PySem.W.codeIn K cd31 "_law_ggoal" = true) (k31 : PySem.W.keepIn K (.ref f31) = true)
    {f32 : Addr} {od32 an32 : Option Addr} {sl32 : Array (Option Value)} {oc32 kV32 dc32 pm32 cd32 ct32 : Value}
    (a32 : PySem.W.nsIn K mainGlobals "_law_gsame" = some (some (.ref f32)))
    (l32 : K.lookup f32 = some ⟨oc32, od32, .func (PySem.W.fnOf "_law_gsame" "_law_gsame" (defArgs s_law_gsame) (defBody s_law_gsame) (defScope s_law_gsame) .none kV32 dc32 pm32 an32 cd32 ct32), sl32⟩) (c32 : PySem.W.codeIn K cd32 "_law_gsame" = true) (k32 : PySem.W.keepIn K (.ref f32) = true)
    {f33 : Addr} {od33 an33 : Option Addr} {sl33 : Array (Option Value)} {oc33 kV33 dc33 pm33 cd33 ct33 : Value}
    (a33 : PySem.W.nsIn K mainGlobals "_law_gstep" = some (some (.ref f33)))
    (l33 : K.lookup f33 = some ⟨oc33, od33, .func (PySem.W.fnOf "_law_gstep" "_law_gstep" (defArgs s_law_gstep) (defBody s_law_gstep) (defScope s_law_gstep) .none kV33 dc33 pm33 an33 cd33 ct33), sl33⟩) (c33 : PySem.W.codeIn K cd33 "_law_gstep" = true) (k33 : PySem.W.keepIn K (.ref f33) = true)
    {f34 : Addr} {od34 an34 : Option Addr} {sl34 : Array (Option Value)} {oc34 kV34 dc34 pm34 cd34 ct34 : Value}
    (a34 : PySem.W.nsIn K mainGlobals "_law_gends_so" = some (some (.ref f34)))
    (l34 : K.lookup f34 = some ⟨oc34, od34, .func (PySem.W.fnOf "_law_gends_so" "_law_gends_so" (defArgs s_law_gends_so) (defBody s_law_gends_so) (defScope s_law_gends_so) .none kV34 dc34 pm34 an34 cd34 ct34), sl34⟩) (c34 : PySem.W.codeIn K cd34 "_law_gends_so" = true) (k34 : PySem.W.keepIn K (.ref f34) = true)
    {f35 : Addr} {od35 an35 : Option Addr} {sl35 : Array (Option Value)} {oc35 kV35 dc35 pm35 cd35 ct35 : Value}
    (a35 : PySem.W.nsIn K mainGlobals "_law_grow" = some (some (.ref f35)))
    (l35 : K.lookup f35 = some ⟨oc35, od35, .func (PySem.W.fnOf "_law_grow" "_law_grow" (defArgs s_law_grow) (defBody s_law_grow) (defScope s_law_grow) .none kV35 dc35 pm35 an35 cd35 ct35), sl35⟩) (c35 : PySem.W.codeIn K cd35 "_law_grow" = true) (k35 : PySem.W.keepIn K (.ref f35) = true)
    {f36 : Addr} {od36 an36 : Option Addr} {sl36 : Array (Option Value)} {oc36 kV36 dc36 pm36 cd36 ct36 : Value}
    (a36 : PySem.W.nsIn K mainGlobals "_law_gpart_right" = some (some (.ref f36)))
    (l36 : K.lookup f36 = some ⟨oc36, od36, .func (PySem.W.fnOf "_law_gpart_right" "_law_gpart_right" (defArgs s_law_gpart_right) (defBody s_law_gpart_right) (defScope s_law_gpart_right) .none kV36 dc36 pm36 an36 cd36 ct36), sl36⟩) (c36 : PySem.W.codeIn K cd36 "_law_gpart_right" = true) (k36 : PySem.W.keepIn K (.ref f36) = true)
    {f37 : Addr} {od37 an37 : Option Addr} {sl37 : Array (Option Value)} {oc37 kV37 dc37 pm37 cd37 ct37 : Value}
    (a37 : PySem.W.nsIn K mainGlobals "law" = some (some (.ref f37)))
    (l37 : K.lookup f37 = some ⟨oc37, od37, .func (PySem.W.fnOf "law" "law" (defArgs s_law) (defBody s_law) (defScope s_law) .none kV37 dc37 pm37 an37 cd37 ct37), sl37⟩) (c37 : PySem.W.codeIn K cd37 "law" = true) (k37 : PySem.W.keepIn K (.ref f37) = true)
    (z_all : PySem.W.nsIn K mainGlobals "all" = some none)
    (z_any : PySem.W.nsIn K mainGlobals "any" = some none)
    (z_bool : PySem.W.nsIn K mainGlobals "bool" = some none)
    (z_dict : PySem.W.nsIn K mainGlobals "dict" = some none)
    (z_enumerate : PySem.W.nsIn K mainGlobals "enumerate" = some none)
    (z_int : PySem.W.nsIn K mainGlobals "int" = some none)
    (z_isinstance : PySem.W.nsIn K mainGlobals "isinstance" = some none)
    (z_len : PySem.W.nsIn K mainGlobals "len" = some none)
    (z_list : PySem.W.nsIn K mainGlobals "list" = some none)
    (z_range : PySem.W.nsIn K mainGlobals "range" = some none)
    (z_set : PySem.W.nsIn K mainGlobals "set" = some none)
    (z_sorted : PySem.W.nsIn K mainGlobals "sorted" = some none)
    (z_str : PySem.W.nsIn K mainGlobals "str" = some none)
    (z_tuple : PySem.W.nsIn K mainGlobals "tuple" = some none)
    (z_zip : PySem.W.nsIn K mainGlobals "zip" = some none)
    {u_LONGEST_SIGN : Value} (v_LONGEST_SIGN : PySem.W.nsIn K mainGlobals "LONGEST_SIGN" = some (some u_LONGEST_SIGN)) (r_LONGEST_SIGN : RelV (.int 6) u_LONGEST_SIGN)
    {u_MOST_HELD : Value} (v_MOST_HELD : PySem.W.nsIn K mainGlobals "MOST_HELD" = some (some u_MOST_HELD)) (r_MOST_HELD : RelV (.int 200) u_MOST_HELD)
    {u_MOST_UNLIKE : Value} (v_MOST_UNLIKE : PySem.W.nsIn K mainGlobals "MOST_UNLIKE" = some (some u_MOST_UNLIKE)) (r_MOST_UNLIKE : RelV (.int 6) u_MOST_UNLIKE)
    {u_SMALL : Value} (v_SMALL : PySem.W.nsIn K mainGlobals "SMALL" = some (some u_SMALL)) (r_SMALL : RelV (.str (Str.ofString "abcdefghijklmnopqrstuvwxyz")) u_SMALL)
    : ∃ fd : FuncData, (∀ (s : Shared) (v : Value), BindsTo s fd ⟨[v], []⟩ [("script", v)]) ∧ ∀ base : Heap, K.In base → base.Ns mainGlobals mg → FnOk l.prog w K mg base CX0 10 fa fd ["script"] (spFX K w 1 f_law) := by
  have Z : Zs mg := ⟨PySem.W.mg_none_of X G z_all, PySem.W.mg_none_of X G z_any, PySem.W.mg_none_of X G z_bool, PySem.W.mg_none_of X G z_dict, PySem.W.mg_none_of X G z_enumerate, PySem.W.mg_none_of X G z_int, PySem.W.mg_none_of X G z_isinstance, PySem.W.mg_none_of X G z_len, PySem.W.mg_none_of X G z_list, PySem.W.mg_none_of X G z_range, PySem.W.mg_none_of X G z_set, PySem.W.mg_none_of X G z_sorted, PySem.W.mg_none_of X G z_str, PySem.W.mg_none_of X G z_tuple, PySem.W.mg_none_of X G z_zip, ⟨_, PySem.W.mg_of X G v_LONGEST_SIGN, r_LONGEST_SIGN⟩, ⟨_, PySem.W.mg_of X G v_MOST_HELD, r_MOST_HELD⟩, ⟨_, PySem.W.mg_of X G v_MOST_UNLIKE, r_MOST_UNLIKE⟩, ⟨_, PySem.W.mg_of X G v_SMALL, r_SMALL⟩⟩
  let κ : Kap := ⟨fun n => match n with | 0 => C0 | _ => 0, w⟩
  have cl0 : Cls K (κ 0) := ⟨pg0, hd0, po0, sa0⟩
  have At : As K κ := ⟨⟨fun C hC => by simp only [List.mem_cons, List.not_mem_nil, or_false] at hC; rcases hC with rfl; · exact ⟨cl0, n0_comers⟩⟩, ⟨fun C hC => by simp only [List.mem_cons, List.not_mem_nil, or_false] at hC; rcases hC with rfl; · exact ⟨cl0, n0_heap_of⟩⟩, ⟨fun C hC => by simp only [List.mem_cons, List.not_mem_nil, or_false] at hC; rcases hC with rfl; · exact ⟨cl0, n0_heaps⟩⟩, ⟨fun C hC => by simp only [List.mem_cons, List.not_mem_nil, or_false] at hC; rcases hC with rfl; · exact ⟨cl0, n0_knives⟩⟩, ⟨fun C hC => by simp only [List.mem_cons, List.not_mem_nil, or_false] at hC; rcases hC with rfl; · exact ⟨cl0, n0_words⟩⟩⟩
  have F0 := fun_mk (st := s_is_whole) l0 c0 k0
  have g0 := PySem.W.mg_of X G a0
  have F1 := fun_mk (st := s_is_sign) l1 c1 k1
  have g1 := PySem.W.mg_of X G a1
  have F2 := fun_mk (st := s_is_led) l2 c2 k2
  have g2 := PySem.W.mg_of X G a2
  have F3 := fun_mk (st := s_is_room) l3 c3 k3
  have g3 := PySem.W.mg_of X G a3
  have F4 := fun_mk (st := s_alive) l4 c4 k4
  have g4 := PySem.W.mg_of X G a4
  have F5 := fun_mk (st := s_reached) l5 c5 k5
  have g5 := PySem.W.mg_of X G a5
  have F6 := fun_mk (st := s_is_machine) l6 c6 k6
  have g6 := PySem.W.mg_of X G a6
  have F7 := fun_mk (st := s_runs) l7 c7 k7
  have g7 := PySem.W.mg_of X G a7
  have F8 := fun_mk (st := s_Heaps_lay) l8 c8 k8
  have F9 := fun_mk (st := s_Heaps_init) l9 c9 k9
  have F10 := fun_mk (st := s_Heaps_cut) l10 c10 k10
  have F11 := fun_mk (st := s_Heaps_cut_all) l11 c11 k11
  have F12 := fun_mk (st := s_numbered) l12 c12 k12
  have g12 := PySem.W.mg_of X G a12
  have F13 := fun_mk (st := s_least_or_none) l13 c13 k13
  have g13 := PySem.W.mg_of X G a13
  have F14 := fun_mk (st := s_least_of) l14 c14 k14
  have g14 := PySem.W.mg_of X G a14
  have F15 := fun_mk (st := s_come_to) l15 c15 k15
  have g15 := PySem.W.mg_of X G a15
  have F16 := fun_mk (st := s_orbits) l16 c16 k16
  have g16 := PySem.W.mg_of X G a16
  have F17 := fun_mk (st := s_leads_out) l17 c17 k17
  have g17 := PySem.W.mg_of X G a17
  have F18 := fun_mk (st := s_gates) l18 c18 k18
  have g18 := PySem.W.mg_of X G a18
  have F19 := fun_mk (st := s_steady) l19 c19 k19
  have g19 := PySem.W.mg_of X G a19
  have F20 := fun_mk (st := s_cut_machine) l20 c20 k20
  have g20 := PySem.W.mg_of X G a20
  have F21 := fun_mk (st := s_cut_orbits) l21 c21 k21
  have g21 := PySem.W.mg_of X G a21
  have F22 := fun_mk (st := s_cut_gates) l22 c22 k22
  have g22 := PySem.W.mg_of X G a22
  have F23 := fun_mk (st := s_orbit_of) l23 c23 k23
  have g23 := PySem.W.mg_of X G a23
  have F24 := fun_mk (st := s_part_of) l24 c24 k24
  have g24 := PySem.W.mg_of X G a24
  have F25 := fun_mk (st := s_law_gpen) l25 c25 k25
  have g25 := PySem.W.mg_of X G a25
  have F26 := fun_mk (st := s_law_gdraw) l26 c26 k26
  have g26 := PySem.W.mg_of X G a26
  have F27 := fun_mk (st := s_law_gsigns) l27 c27 k27
  have g27 := PySem.W.mg_of X G a27
  have F28 := fun_mk (st := s_law_gto_end) l28 c28 k28
  have g28 := PySem.W.mg_of X G a28
  have F29 := fun_mk (st := s_law_gtrim) l29 c29 k29
  have g29 := PySem.W.mg_of X G a29
  have F30 := fun_mk (st := s_law_gmachine) l30 c30 k30
  have g30 := PySem.W.mg_of X G a30
  have F31 := fun_mk (st := s_law_ggoal) l31 c31 k31
  have g31 := PySem.W.mg_of X G a31
  have F32 := fun_mk (st := s_law_gsame) l32 c32 k32
  have g32 := PySem.W.mg_of X G a32
  have F33 := fun_mk (st := s_law_gstep) l33 c33 k33
  have g33 := PySem.W.mg_of X G a33
  have F34 := fun_mk (st := s_law_gends_so) l34 c34 k34
  have g34 := PySem.W.mg_of X G a34
  have F35 := fun_mk (st := s_law_grow) l35 c35 k35
  have g35 := PySem.W.mg_of X G a35
  have F36 := fun_mk (st := s_law_gpart_right) l36 c36 k36
  have g36 := PySem.W.mg_of X G a36
  have F37 := fun_mk (st := s_law) l37 c37 k37
  have g37 := PySem.W.mg_of X G a37
  have gC0 := PySem.W.mg_of X G aC0
  have e := hfa.symm.trans g37
  cases e
  refine ⟨PySem.W.fnOf "law" "law" (defArgs s_law) (defBody s_law) (defScope s_law) .none kV37 dc37 pm37 an37 cd37 ct37, fun s v => .of_eq rfl, fun base _ _ => ?_⟩
  have C_is_whole := ok_is_whole (P := l.prog) (w := w) (base := base) (κ := κ) rfl F0 g0 Z At
  have C_is_sign := ok_is_sign (P := l.prog) (w := w) (base := base) (κ := κ) rfl F1 g1 Z At
  have C_is_led := ok_is_led (P := l.prog) (w := w) (base := base) (κ := κ) rfl F2 g2 Z At C_is_whole C_is_sign
  have C_is_room := ok_is_room (P := l.prog) (w := w) (base := base) (κ := κ) rfl F3 g3 Z At C_is_led
  have C_alive := ok_alive (P := l.prog) (w := w) (base := base) (κ := κ) rfl F4 g4 Z At
  have C_reached := ok_reached (P := l.prog) (w := w) (base := base) (κ := κ) rfl F5 g5 Z At
  have C_is_machine := ok_is_machine (P := l.prog) (w := w) (base := base) (κ := κ) rfl F6 g6 Z At C_is_room C_alive C_reached
  have C_runs := ok_runs (P := l.prog) (w := w) (base := base) (κ := κ) rfl F7 g7 Z At
  have C_Heaps_lay := ok_Heaps_lay (P := l.prog) (w := w) (base := base) (κ := κ) rfl F8 cl0 ⟨a8, i8, k8⟩ Z At
  have C_Heaps_init := ok_Heaps_init (P := l.prog) (w := w) (base := base) (κ := κ) rfl F9 ⟨mk0, a9, i9, kc0⟩ gC0 Z At C_Heaps_lay
  have C_Heaps_cut := ok_Heaps_cut (P := l.prog) (w := w) (base := base) (κ := κ) rfl F10 cl0 ⟨a10, i10, k10⟩ Z At C_Heaps_lay
  have C_Heaps_cut_all := ok_Heaps_cut_all (P := l.prog) (w := w) (base := base) (κ := κ) rfl F11 cl0 ⟨a11, i11, k11⟩ Z At C_Heaps_cut
  have C_numbered := ok_numbered (P := l.prog) (w := w) (base := base) (κ := κ) rfl F12 g12 Z At
  have C_least_or_none := ok_least_or_none (P := l.prog) (w := w) (base := base) (κ := κ) rfl F13 g13 Z At C_alive C_reached C_Heaps_init C_Heaps_cut_all C_numbered
  have C_least_of := ok_least_of (P := l.prog) (w := w) (base := base) (κ := κ) rfl F14 g14 Z At C_least_or_none
  have C_come_to := ok_come_to (P := l.prog) (w := w) (base := base) (κ := κ) rfl F15 g15 Z At
  have C_orbits := ok_orbits (P := l.prog) (w := w) (base := base) (κ := κ) rfl F16 g16 Z At C_come_to
  have C_leads_out := ok_leads_out (P := l.prog) (w := w) (base := base) (κ := κ) rfl F17 g17 Z At
  have C_gates := ok_gates (P := l.prog) (w := w) (base := base) (κ := κ) rfl F18 g18 Z At C_leads_out
  have C_steady := ok_steady (P := l.prog) (w := w) (base := base) (κ := κ) rfl F19 g19 Z At
  have C_cut_machine := ok_cut_machine (P := l.prog) (w := w) (base := base) (κ := κ) rfl F20 g20 Z At C_steady
  have C_cut_orbits := ok_cut_orbits (P := l.prog) (w := w) (base := base) (κ := κ) rfl F21 g21 Z At C_cut_machine C_orbits
  have C_cut_gates := ok_cut_gates (P := l.prog) (w := w) (base := base) (κ := κ) rfl F22 g22 Z At C_cut_machine C_gates
  have C_orbit_of := ok_orbit_of (P := l.prog) (w := w) (base := base) (κ := κ) rfl F23 g23 Z At C_orbits
  have C_part_of := ok_part_of (P := l.prog) (w := w) (base := base) (κ := κ) rfl F24 g24 Z At C_cut_machine C_orbit_of C_gates C_least_of
  have C_law_gpen := ok_law_gpen (P := l.prog) (w := w) (base := base) (κ := κ) rfl F25 g25 Z At
  have C_law_gdraw := ok_law_gdraw (P := l.prog) (w := w) (base := base) (κ := κ) rfl F26 g26 Z At
  have C_law_gsigns := ok_law_gsigns (P := l.prog) (w := w) (base := base) (κ := κ) rfl F27 g27 Z At C_law_gdraw
  have C_law_gto_end := ok_law_gto_end (P := l.prog) (w := w) (base := base) (κ := κ) rfl F28 g28 Z At
  have C_law_gtrim := ok_law_gtrim (P := l.prog) (w := w) (base := base) (κ := κ) rfl F29 g29 Z At C_law_gto_end
  have C_law_gmachine := ok_law_gmachine (P := l.prog) (w := w) (base := base) (κ := κ) rfl F30 g30 Z At C_law_gdraw C_law_gtrim
  have C_law_ggoal := ok_law_ggoal (P := l.prog) (w := w) (base := base) (κ := κ) rfl F31 g31 Z At
  have C_law_gsame := ok_law_gsame (P := l.prog) (w := w) (base := base) (κ := κ) rfl F32 g32 Z At 8
  have C_law_gstep := ok_law_gstep (P := l.prog) (w := w) (base := base) (κ := κ) rfl F33 g33 Z At C_law_ggoal
  have C_law_gends_so := ok_law_gends_so (P := l.prog) (w := w) (base := base) (κ := κ) rfl F34 g34 Z At C_law_gstep C_cut_gates
  have C_law_grow := ok_law_grow (P := l.prog) (w := w) (base := base) (κ := κ) rfl F35 g35 Z At C_law_gdraw
  have C_law_gpart_right := ok_law_gpart_right (P := l.prog) (w := w) (base := base) (κ := κ) rfl F36 g36 Z At C_steady C_part_of C_is_machine C_law_grow C_runs C_law_gends_so C_law_gsame C_law_gstep
  have C_law := fn_law (P := l.prog) (w := w) (base := base) (κ := κ) rfl F37 Z At C_law_gpen C_law_gdraw C_law_gsigns C_law_gmachine C_cut_orbits C_law_gpart_right
  exact C_law.imp fun vs H Q E q => q κ.at'
end Tk83
end Mid
namespace Mid
open PySem
abbrev Mach := List (Bool × List (Str × Nat))
def iD (k : Nat) : Dv := .int k
def stepD (p : Str × Nat) : Dv := .tup [.str p.1, iD p.2]
def roomD (r : Bool × List (Str × Nat)) : Dv := .tup [.bl r.1, .tup (r.2.map stepD)]
def mD (M : Mach) : Dv := .tup (M.map roomD)
def keysD (ks : List Nat) : List (KeyQ × Dv) := ks.map fun k : Nat => (Sum.inl (k : Int), Dv.bl true)
def succs (M : Mach) (k : Nat) : List Nat := match M[k]? with
  | some r => r.2.map (·.2)
  | none => []
inductive Rch (M : Mach) : Nat → Nat → Prop where
  | refl (i : Nat) : Rch M i i
  | tail {i j k : Nat} : Rch M i j → k ∈ succs M j → Rch M i k
def Wf (M : Mach) : Prop := ∀ i j, j ∈ succs M i → j < M.length

theorem iD_eq {a b : Nat} : iD a = iD b ↔ a = b := by unfold iD; simp only [Dv.int.injEq]; omega
theorem succs_of {M : Mach} {k : Nat} {r : Bool × List (Str × Nat)} (h : M[k]? = some r) : succs M k = r.2.map (·.2) := by unfold succs; rw [h]
theorem keysD_mem {ks : List Nat} {k : Nat} : (kval (keysD ks) (Sum.inl (k : Int))).isSome = decide (k ∈ ks) := by
  rw [Bool.eq_iff_iff, kval_some, decide_eq_true_iff]
  unfold keysD
  rw [List.map_map]
  simp only [Function.comp_def, List.mem_map, Sum.inl.injEq]
  exact ⟨fun ⟨a, h, e⟩ => by rw [← Int.ofNat_inj.mp e]; exact h, fun h => ⟨k, h, rfl⟩⟩
theorem keysD_put {ks : List Nat} {k : Nat} (h : k ∉ ks) : kput (keysD ks) (Sum.inl (k : Int)) (.bl true) = keysD (ks ++ [k]) := by
  rw [kput_new]
  · simp [keysD]
  · unfold keysD
    rw [List.map_map]
    simp only [Function.comp_def, List.mem_map, Sum.inl.injEq]
    rintro ⟨a, h', e⟩
    exact h (by rw [← Int.ofNat_inj.mp e]; exact h')
theorem keysD_len (ks : List Nat) : (keysD ks).length = ks.length := by simp [keysD]
theorem nodup_len {ks : List Nat} {n : Nat} (nd : ks.Nodup) (h : ∀ j ∈ ks, j < n) : ks.length ≤ n := by
  have : ∀ (n : Nat) (ks : List Nat), ks.Nodup → (∀ j ∈ ks, j < n) → ks.length ≤ n := by
    intro n
    induction n with
    | zero => intro ks _ h; cases ks with
      | nil => exact Nat.le_refl _
      | cons a r => exact absurd (h a List.mem_cons_self) (Nat.not_lt_zero _)
    | succ n ih =>
      intro ks nd h
      have h1 : (ks.erase n).length ≤ n := ih _ (nd.erase n) fun j hj => by
        have := (List.Nodup.mem_erase_iff nd).mp hj
        have := h j this.2
        omega
      rw [List.length_erase] at h1
      split at h1 <;> omega
  exact this n ks nd h
/-- what holds between two turns of come_to's loops -/
structure CT (M : Mach) (r : Nat) (ks ws : List Nat) : Prop where
  nd : ks.Nodup
  rch : ∀ j ∈ ks, Rch M r j
  lt : ∀ j ∈ ks, j < M.length
  sub : ∀ j ∈ ws, j ∈ ks
  root : r ∈ ks
  ndw : ws.Nodup
theorem come_to_ok {M : Mach} {s : Mst} {r : Nat} {Q : Dv → Mst → Prop} (wf : Wf M) (hr : r < M.length) (hM : M.length ≤ 1000)
    (q : ∀ s' ks, Fr [] s s' → s'[s.length]? = some (.dK (keysD ks)) → ks.Nodup → (∀ j, j ∈ ks ↔ Rch M r j) → Q (.loc s.length) s') : (f_come_to [mD M, iD r] s).to Q := by
  unfold f_come_to
  refine fun_to rfl ?_
  unfold m_come_to
  simp [mStart, dispQ, keyQ, iD]
  refine while_m (fun m σ s1 => ∃ ks ws x y, σ = [some (mD M), some (iD r), some (.loc s.length), some (.loc (s.length + 1)), x, y] ∧ s1 = s ++ [.dK (keysD ks), .lst (ws.map iD)] ∧ CT M r ks ws ∧
      (∀ i ∈ ks, i ∉ ws → ∀ j ∈ succs M i, j ∈ ks) ∧ m = 2 * (M.length - ks.length) + ws.length)
    ⟨_, [r], [r], none, none, rfl, rfl, ⟨by simp, by simpa using .refl r, by simpa using hr, by simp, by simp, by simp⟩, by simp, rfl⟩ ?_
  rintro m σ s1 ⟨ks, ws, x, y, rfl, rfl, h, hcl, rfl⟩
  have lw : (s ++ [MO.dK (keysD ks), .lst (ws.map iD)])[s.length + 1]? = some (.lst (ws.map iD)) := by simp
  simp only [w_tval, w_op, vS, v0, w_call, w_argsS, w_args0, to_ok, bLen_seq (seqOf_lst lw), mC_eq, oGt_int, toB_bl, List.length_map]
  rcases List.eq_nil_or_concat ws with rfl | ⟨ws', k, e⟩
  · simp only [List.length_nil, Int.natCast_zero, Int.lt_irrefl, decide_false, Bool.false_eq_true, if_false, w_ret, vS, v0, to_ok]
    refine q _ ks Fr.app (by simp) h.nd fun j => ⟨h.rch j, fun hj => ?_⟩
    induction hj with
    | refl => exact h.root
    | tail a b ih => exact hcl _ ih (by simp) _ b
  · rw [List.concat_eq_append] at e
    subst e
    have hpos : (0 : Int) < ((ws' ++ [k]).length : Nat) := by rw [List.length_append, List.length_singleton]; omega
    rw [decide_eq_true hpos, if_pos rfl]
    have hkk : k ∈ ks := h.sub k (by simp)
    have hkl := h.lt k hkk
    obtain ⟨r0, hr0⟩ : ∃ r0, M[k]? = some r0 := ⟨_, List.getElem?_eq_getElem hkl⟩
    have lw2 : (s ++ [MO.dK (keysD ks), .lst ((ws' ++ [k]).map iD)])[s.length + 1]? = some (.lst (ws'.map iD ++ [iD k])) := by simp
    have lm : (M.map roomD)[k]? = some (roomD r0) := by rw [List.getElem?_map, hr0]; rfl
    simp only [w_for, w_iseq, w_op, vS, v0, w_meth, to_ok, tyQ_lst lw2, true_and, w_args0, tPop_lst lw2, mC_eq, mD]
    rw [show iD k = .int (k : Int) from rfl, oGet_tup lm]
    simp only [to_ok, roomD, oGet_tup1, itSeq_tup]
    refine for_by (fun i σ s1 => ∃ ks2 ws2 x y, σ = [some (mD M), some (iD r), some (.loc s.length), some (.loc (s.length + 1)), x, y] ∧ s1 = s ++ [.dK (keysD ks2), .lst (ws2.map iD)] ∧ CT M r ks2 ws2 ∧
      (∀ i ∈ ks2, i ∉ ws2 → i ≠ k → ∀ j ∈ succs M i, j ∈ ks2) ∧ k ∈ ks2 ∧ (∀ j ∈ (r0.2.take i).map (·.2), j ∈ ks2) ∧ 2 * (M.length - ks2.length) + ws2.length ≤ 2 * (M.length - ks.length) + ws'.length)
      ⟨ks, ws', x, y, rfl, by simp, ⟨h.nd, h.rch, h.lt, fun j hj => h.sub j (by simp [hj]), h.root, by have := h.ndw; simp [List.nodup_append] at this; exact this.1⟩,
        fun i hi hw hne => hcl i hi (by simp [hw, hne]), hkk, by simp, Nat.le_refl _⟩ (fun _ _ _ _ => trivial) ?_ ?_
    · rintro i z σ s1 hz ⟨ks2, ws2, x, y, rfl, rfl, h2, hcl2, hk2, ht, hm⟩
      rw [List.getElem?_map] at hz
      cases q0 : r0.2[i]? with
      | none => rw [q0] at hz; cases hz
      | some p =>
        rw [q0] at hz
        cases hz
        have hs : p.2 ∈ succs M k := by rw [succs_of hr0]; exact List.mem_map.mpr ⟨p, List.mem_of_getElem? q0, rfl⟩
        have ht' : ∀ ks3 : List Nat, (∀ j ∈ ks2, j ∈ ks3) → p.2 ∈ ks3 → ∀ j ∈ (r0.2.take (i + 1)).map (·.2), j ∈ ks3 := fun ks3 h3 h4 j hj => by
          rw [List.take_add_one, q0, List.map_append, List.mem_append] at hj
          rcases hj with hj | hj
          · exact h3 j (ht j hj)
          · simp at hj; rw [hj]; exact h4
        have ld : (s ++ [MO.dK (keysD ks2), .lst (ws2.map iD)])[s.length]? = some (.dK (keysD ks2)) := by simp
        simp only [stepD, w_gT, w_gES, w_gE0, w_gN, List.length_cons, List.length_nil, true_and, List.set_cons_succ, List.set_cons_zero, w_if, w_tval, w_op, vS, v0, to_ok]
        rw [oNotIn_dict ld (show keyQ (iD p.2) = some (Sum.inl (p.2 : Int)) from rfl), keysD_mem]
        simp only [to_ok, toB_bl]
        by_cases hp : p.2 ∈ ks2
        · simp only [hp, decide_true, Bool.not_true, Bool.false_eq_true, if_false, w_nx]
          exact ⟨ks2, ws2, _, _, rfl, rfl, h2, hcl2, hk2, ht' ks2 (fun _ z => z) hp, hm⟩
        · simp only [hp, decide_false, Bool.not_false, if_true, w_seq, w_put, mC_eq, to_ok, vS, v0]
          have hlen : ks2.length < M.length := by
            have h5 : (ks2 ++ [p.2]).length ≤ M.length := nodup_len (by
              rw [List.nodup_append]
              exact ⟨h2.nd, by simp, fun a ha b hb e => hp (by simp at hb; rw [← hb, ← e]; exact ha)⟩) fun j hj => by
                rcases List.mem_append.mp hj with hj | hj
                · exact h2.lt j hj
                · simp at hj; rw [hj]; exact wf _ _ hs
            rw [List.length_append, List.length_singleton] at h5; omega
          rw [oPut_dict ld (show keyQ (iD p.2) = some (Sum.inl (p.2 : Int)) from rfl) (by rw [keysD_len]; omega), keysD_put hp]
          have lw3 : (s ++ [MO.dK (keysD (ks2 ++ [p.2])), .lst (ws2.map iD)])[s.length + 1]? = some (.lst (ws2.map iD)) := by simp
          have hwl : ws2.length < 2 ^ 24 := by
            have := nodup_len h2.ndw fun j hj => h2.lt j (h2.sub j hj)
            omega
          simp only [to_ok, w_exp, w_meth, vS, v0, set_new0, List.set_cons_zero, tyQ_lst lw3, true_and, w_argsS, w_args0, tAppend_lst lw3 (by rw [List.length_map]; exact hwl), set_newS, List.set_cons_succ]
          refine ⟨ks2 ++ [p.2], ws2 ++ [p.2], _, _, rfl, by simp, ⟨?_, ?_, ?_, ?_, by simp [h2.root], ?_⟩, ?_, by simp [hk2], ht' _ (fun j hj => by simp [hj]) (by simp), by simp; omega⟩
          · rw [List.nodup_append]
            exact ⟨h2.nd, by simp, fun a ha b hb e => hp (by simp at hb; rw [← hb, ← e]; exact ha)⟩
          · intro j hj
            rcases List.mem_append.mp hj with hj | hj
            · exact h2.rch j hj
            · simp at hj; rw [hj]; exact .tail (h2.rch k hk2) hs
          · intro j hj
            rcases List.mem_append.mp hj with hj | hj
            · exact h2.lt j hj
            · simp at hj; rw [hj]; exact wf _ _ hs
          · intro j hj
            rcases List.mem_append.mp hj with hj | hj
            · simp [h2.sub j hj]
            · simp at hj; simp [hj]
          · rw [List.nodup_append]
            exact ⟨h2.ndw, by simp, fun a ha b hb e => hp (by simp at hb; rw [← hb, ← e]; exact h2.sub a ha)⟩
          · intro a ha hw hne j hj
            rw [List.mem_append] at hw
            rcases List.mem_append.mp ha with ha | ha
            · simp [hcl2 a ha (fun z => hw (.inl z)) hne j hj]
            · exact absurd ha fun z => hw (.inr z)
    · rintro σ s1 ⟨ks2, ws2, x, y, rfl, rfl, h2, hcl2, hk2, ht, hm⟩
      refine ⟨_, ?_, ks2, ws2, x, y, rfl, rfl, h2, fun i hi hw j hj => ?_, rfl⟩
      · simp; omega
      · by_cases hik : i = k
        · subst hik
          refine ht j ?_
          rw [List.length_map, List.take_length, ← succs_of hr0]
          exact hj
        · exact hcl2 i hi hw hik j hj
end Mid
namespace Mid
open PySem
noncomputable section
variable {M : Mach} {s : Mst} {Q : Dv → Mst → Prop}
def rchB (M : Mach) (i j : Nat) : Bool := @decide (Rch M i j) (Classical.propDecidable _)
theorem rchB_iff {i j : Nat} : rchB M i j = true ↔ Rch M i j := by unfold rchB; exact @decide_eq_true_iff _ (Classical.propDecidable _)
def eqvB (M : Mach) (i j : Nat) : Bool := rchB M i j && rchB M j i
def orbitOf (M : Mach) (k : Nat) : List Nat := (List.range M.length).filter (eqvB M k)
def rootB (M : Mach) (k : Nat) : Bool := (List.range k).all fun j => !eqvB M j k
def orbs (M : Mach) (m : Nat) : List (List Nat) := ((List.range m).filter (rootB M)).map (orbitOf M)
theorem Rch.trans {i j k : Nat} (h : Rch M i j) (g : Rch M j k) : Rch M i k := by induction g with
  | refl => exact h
  | tail _ b ih => exact .tail ih b
theorem eqvB_iff {i j : Nat} : eqvB M i j = true ↔ Rch M i j ∧ Rch M j i := by unfold eqvB; rw [Bool.and_eq_true, rchB_iff, rchB_iff]
theorem eqv_refl (i : Nat) : eqvB M i i = true := eqvB_iff.mpr ⟨.refl _, .refl _⟩
theorem eqv_symm {i j : Nat} (h : eqvB M i j = true) : eqvB M j i = true := by rw [eqvB_iff] at *; exact h.symm
theorem eqv_trans {i j k : Nat} (h : eqvB M i j = true) (g : eqvB M j k = true) : eqvB M i k = true := by rw [eqvB_iff] at *; exact ⟨h.1.trans g.1, g.2.trans h.2⟩
theorem rch_lt {i j : Nat} (wf : Wf M) (hi : i < M.length) (h : Rch M i j) : j < M.length := by cases h with
  | refl => exact hi
  | tail _ b => exact wf _ _ b
theorem mem_orbit {k j : Nat} : j ∈ orbitOf M k ↔ j < M.length ∧ eqvB M k j = true := by unfold orbitOf; rw [List.mem_filter, List.mem_range]
theorem orbs_succ (i : Nat) : orbs M (i + 1) = orbs M i ++ (if rootB M i = true then [orbitOf M i] else []) := by
  unfold orbs
  rw [List.range_succ, List.filter_append, List.map_append]
  by_cases h : rootB M i = true <;> simp [h]
theorem root_iff {k : Nat} : rootB M k = true ↔ ∀ j, j < k → eqvB M j k = false := by
  unfold rootB; rw [List.all_eq_true]; simp
/-- the keys of a dict of numbers, sorted -/
theorem srt_nat {ks : List Nat} {n : Nat} {p : Nat → Bool} (nd : ks.Nodup) (h : ∀ j, j ∈ ks ↔ j < n ∧ p j = true) : srtI (ks.map fun k : Nat => (k : Int)) = ((List.range n).filter p).map fun k : Nat => (k : Int) := by
  refine (srtI_one (List.Perm.map _ ?_) ?_).symm
  · refine (List.perm_ext_iff_of_nodup (List.nodup_range.filter _) nd).mpr fun j => ?_
    rw [h, List.mem_filter, List.mem_range]
  · rw [List.pairwise_map]
    exact (List.pairwise_lt_range.filter _).imp fun h => by omega
theorem keysD_keys (ks : List Nat) : (keysD ks).map (·.1) = (ks.map fun k : Nat => (k : Int)).map Sum.inl := by simp [keysD]
theorem pairsQ_true (l : List Nat) : pairsQ (l.map fun k => .tup [nD k, .bl true]) = some (keysD l) := by
  induction l with
  | nil => rfl
  | cons k r ih => rw [List.map_cons]; unfold pairsQ; rw [ih]; rfl
theorem kputs_keysD (ks more : List Nat) (nd : more.Nodup) (h : ∀ j ∈ more, j ∉ ks) : kputs (keysD ks) (keysD more) = keysD (ks ++ more) := by
  induction more generalizing ks with
  | nil => simp [keysD, kputs]
  | cons a r ih =>
    have h1 : kputs (keysD ks) (keysD (a :: r)) = kputs (kput (keysD ks) (Sum.inl (a : Int)) (.bl true)) (keysD r) := rfl
    rw [h1, keysD_put (h a (by simp)), ih _ (List.nodup_cons.mp nd).2]
    · simp
    · intro j hj hm
      rcases List.mem_append.mp hm with q | q
      · exact h j (by simp [hj]) q
      · simp at q; subst q; exact (List.nodup_cons.mp nd).1 hj
/-- a dict that come_to made -/
def CTs (M : Mach) (L : Nat) (s : Mst) (d : Dv) (r : Nat) : Prop := ∃ n ks, d = .loc n ∧ n < L ∧ s[n]? = some (.dK (keysD ks)) ∧ ks.Nodup ∧ ∀ j, j ∈ ks ↔ Rch M r j
theorem orbits_ok (wf : Wf M) (hM : M.length ≤ 1000)
    (q : ∀ d s', Fr [] s s' → NLL.rep (fun n => n < s.length) s' d (orbs M M.length) → Q d s') : (f_orbits [mD M] s).to Q := by
  unfold f_orbits
  refine fun_at [some (mD M), none, none, none, none, none, none] rfl rfl ?_
  unfold m_orbits
  have len : ∀ s, bLen [mD M] s = .ok (.int M.length) s := fun s => by rw [mD, bLen_seq seqOf_tup, List.length_map]
  simp only [w_seq, w_set, w_lc, w_irng1, w_call, w_argsS, w_args0, v0, vS, to_ok, len, toI_int, wipe0, wipeS, List.set_cons_zero, List.set_cons_succ]
  refine ⟨r62 (by omega), ?_⟩
  rw [Int.toNat_natCast, rng0]
  refine lc_by (fun i ds s' => Fr [] s s' ∧ ds.length = i ∧ ∀ k d, ds[k]? = some d → CTs M s'.length s' d k) ⟨.refl, rfl, by simp⟩ (fun _ _ _ _ => trivial) ?_ ?_
  · rintro i x ds s' hx ⟨hf, hl, hd⟩
    rw [List.getElem?_map] at hx
    cases h : (List.range M.length)[i]? with
    | none => rw [h] at hx; cases hx
    | some a =>
      rw [h] at hx; cases hx
      obtain ⟨rfl, ha⟩ := range_at h
      simp only [w_gN, w_tyes, if_true, w_call, w_argsS, w_args0, vS, v0, to_ok, w_noE, List.set_cons_succ, List.set_cons_zero]
      refine come_to_ok wf ha hM fun s2 ks f2 h2 nd hk => ?_
      refine ⟨hf.trans f2, by simp [hl], fun k d hk' => ?_⟩
      rw [List.getElem?_append] at hk'
      split at hk'
      · obtain ⟨n, ks', e, hn, h3, h4, h5⟩ := hd k d hk'
        exact ⟨n, ks', e, Nat.lt_of_lt_of_le hn f2.1, f2.get h3 (by simp), h4, h5⟩
      · rename_i hlt
        have : k - ds.length = 0 := by
          have := (List.getElem?_eq_some_iff.mp hk').1
          simp at this; omega
        rw [this] at hk'
        cases hk'
        have : k = ds.length := by omega
        subst this
        rw [hl]
        exact ⟨_, ks, rfl, lt_of h2, h2, nd, hk⟩
  · rintro ds s1 ⟨hf, hl, hd⟩
    simp only [List.length_map, List.length_range] at hl ⊢
    refine ⟨by omega, ?_⟩
    have e0 : ∀ (σ : Men) (s : Mst), (mDisp [] σ s) = .ok (.loc s.length) (s ++ [.dK []]) := fun _ _ => rfl
    have e1 : ∀ (σ : Men) (s : Mst), (mLst [] σ s) = .ok (.loc s.length) (s ++ [.lst []]) := fun _ _ => rfl
    simp only [e0, e1, to_ok, w_for, w_irng1, w_call, w_argsS, w_args0, v0, vS, len, toI_int]
    refine ⟨r62 (by omega), ?_⟩
    rw [Int.toNat_natCast, rng0]
    refine for_map _ _ (fun i σ s' => ∃ y5 y6 y1 pl fs, σ = [some (mD M), y1, some (.loc s1.length), some (.loc (s1.length + 1)), some (.loc (s1.length + 2)), y5, y6] ∧ Fr [] s s' ∧ s1.length + 3 ≤ s'.length ∧
      s'[s1.length]? = some (.lst ds) ∧ (∀ k d, ds[k]? = some d → CTs M s1.length s' d k) ∧
      s'[s1.length + 1]? = some (.dK (keysD pl)) ∧ pl.Nodup ∧ (∀ j, j ∈ pl ↔ j < M.length ∧ ∃ k, k < i ∧ eqvB M k j = true) ∧
      s'[s1.length + 2]? = some (.lst fs) ∧ All2 (NL.rep (fun n => n < s1.length + 3) s') fs (orbs M i))
      ⟨none, none, none, [], [], by simp, hf.trans ((Fr.app (t := [.lst ds])).trans (Fr.app.trans Fr.app)), by simp, by simp, ?_, by simp [keysD], by simp, by simp, by simp, by simpa [orbs] using .nil⟩ (fun _ _ _ _ => trivial) ?_ ?_
    · intro k d hk
      obtain ⟨n, ks, e, hn, h3, h4⟩ := hd k d hk
      exact ⟨n, ks, e, hn, look_app (look_app (look_app h3)), h4⟩
    · rintro i a σ s2 ha ⟨y5, y6, y1, pl, fs, rfl, hf2, hl2, hds, hct, hpl, ndp, hpm, hfs, ho⟩
      obtain ⟨rfl, ha⟩ := range_at ha
      simp only [w_gN, List.set_cons_succ, List.set_cons_zero, w_if, w_tval, w_op, vS, v0, to_ok]
      have kq : keyQ (nD a) = some (Sum.inl (a : Int)) := rfl
      have hroot : rootB M a = true ↔ a ∉ pl := by
        rw [hpm, root_iff]
        exact ⟨fun h ⟨_, k, hk, he⟩ => (by rw [h k hk] at he; cases he), fun h j hj => by
          cases q : eqvB M j a with
          | false => rfl
          | true => exact absurd ⟨ha, j, hj, q⟩ h⟩
      have hpm' : ∀ pl' : List Nat, (∀ j, j ∈ pl' ↔ j ∈ pl ∨ j ∈ orbitOf M a) → ∀ j, j ∈ pl' ↔ j < M.length ∧ ∃ k, k < a + 1 ∧ eqvB M k j = true := fun pl' h j => by
        rw [h, hpm, mem_orbit]
        constructor
        · rintro (⟨h1, k, hk, he⟩ | ⟨h1, he⟩)
          · exact ⟨h1, k, by omega, he⟩
          · exact ⟨h1, a, by omega, he⟩
        · rintro ⟨h1, k, hk, he⟩
          rcases Nat.lt_succ_iff_lt_or_eq.mp hk with h2 | rfl
          · exact .inl ⟨h1, k, h2, he⟩
          · exact .inr ⟨h1, he⟩
      rw [oNotIn_dict hpl kq, keysD_mem]
      simp only [to_ok, toB_bl]
      by_cases hin : a ∈ pl
      · simp only [hin, decide_true, Bool.not_true, Bool.false_eq_true, if_false, w_nx]
        refine ⟨y5, y6, _, pl, fs, rfl, hf2, hl2, hds, hct, hpl, ndp, hpm' pl fun j => ⟨.inl, fun h => ?_⟩, hfs, ?_⟩
        · rcases h with h | h
          · exact h
          · obtain ⟨_, k, hk, he⟩ := (hpm a).mp hin
            rw [mem_orbit] at h
            exact (hpm j).mpr ⟨h.1, k, hk, eqv_trans he h.2⟩
        · rw [orbs_succ, if_neg (fun z => hroot.mp z hin), List.append_nil]; exact ho
      · have hr := hroot.mpr hin
        simp only [hin, decide_false, Bool.not_false, if_true, w_seq, w_set, w_lc, w_iseq, w_call, w_argsS, w_args0, w_op, vS, v0, to_ok]
        obtain ⟨d0, hd0⟩ : ∃ d0, ds[a]? = some d0 := ⟨_, List.getElem?_eq_getElem (by omega)⟩
        obtain ⟨n0, ks, rfl, hn0, hk0, ndk, hkm⟩ := hct a d0 hd0
        rw [show nD a = .int (a : Int) from rfl, oGet_lst hds hd0]
        simp only [to_ok]
        rw [bSorted_keys hk0 (keysD_keys ks), srt_nat (p := rchB M a) (n := M.length) ndk fun j => by rw [hkm, rchB_iff]; exact ⟨fun h => ⟨rch_lt wf ha h, h⟩, fun h => h.2⟩]
        simp only [to_ok]
        generalize hrs : (List.range M.length).filter (rchB M a) = rs
        have horb : rs.filter (fun j => rchB M j a) = orbitOf M a := by
          rw [← hrs, List.filter_filter]
          unfold orbitOf
          congr 1
          funext j
          unfold eqvB
          rw [Bool.and_comm]
        have hmem : ∀ j ∈ rs, j < M.length := fun j hj => by rw [← hrs] at hj; exact List.mem_range.mp (List.mem_filter.mp hj).1
        have hlr : rs.length ≤ M.length := by rw [← hrs]; exact Nat.le_trans (List.length_filter_le _ _) (by simp)
        have hlo : (orbitOf M a).length ≤ M.length := by rw [← horb]; exact Nat.le_trans (List.length_filter_le _ _) hlr
        have hfs' := hfs
        rw [show (rs.map fun k : Nat => (k : Int)).map Dv.int = rs.map nD by rw [List.map_map]; rfl, itSeq_lst (l := rs.map nD) (by simp)]
        simp only [to_ok, wipeS, wipe0, List.set_cons_succ, List.set_cons_zero]
        refine lc_pure rs nD (fun j => rchB M j a) nD ⟨by simp, trivial⟩ ?_ ?_
        · intro j hj
          obtain ⟨dj, hdj⟩ : ∃ dj, ds[j]? = some dj := ⟨_, List.getElem?_eq_getElem (by have := hmem j hj; omega)⟩
          obtain ⟨nj, kj, rfl, hnj, hkj, ndj, hkmj⟩ := hct j dj hdj
          simp only [w_gN, w_tval, w_op, vS, v0, to_ok, List.set_cons_succ, List.set_cons_zero]
          rw [show nD j = .int (j : Int) from rfl, oGet_lst (look_app hds) hdj]
          simp only [to_ok]
          rw [oIn_dict (look_app hkj) (show keyQ (.int (a : Int)) = some (Sum.inl (a : Int)) from rfl), keysD_mem]
          simp only [to_ok, toB_bl]
          refine ⟨?_, fun _ => by simp, fun _ => by simp⟩
          rw [Bool.eq_iff_iff, decide_eq_true_iff, hkmj, rchB_iff]
        · rw [horb, List.length_map]
          refine ⟨by omega, ?_⟩
          simp only [w_exp, w_meth, vS, v0, to_ok, List.length_append, List.length_cons, List.length_nil, w_argsS, w_args0, w_call, w_lc, w_iseq, List.append_assoc, List.cons_append, List.nil_append]
          have hpl1 : ∀ t, (s2 ++ t)[s1.length + 1]? = some (.dK (keysD pl)) := fun t => look_app hpl
          refine ⟨tyQ_dict (hpl1 _), ?_⟩
          rw [itSeq_lst (l := (orbitOf M a).map nD) (by simp)]
          simp only [to_ok, wipeS, wipe0, List.set_cons_succ, List.set_cons_zero]
          refine lc_pure (orbitOf M a) nD (fun _ => true) (fun j => .tup [nD j, .bl true]) ⟨by simp, trivial⟩ ?_ ?_
          · intro j hj
            simp only [w_gN, w_tyes, w_tup, w_argsS, w_args0, vS, v0, mC_eq, to_ok, List.set_cons_succ, List.set_cons_zero]
            exact ⟨trivial, fun _ => ⟨trivial, trivial⟩, fun h => nomatch h⟩
          · rw [List.length_map]
            refine ⟨by omega, ?_⟩
            rw [show (orbitOf M a).filter (fun _ => true) = orbitOf M a from List.filter_eq_self.mpr fun _ _ => rfl]
            have hndo : (orbitOf M a).Nodup := List.nodup_range.filter _
            have hdis : ∀ j ∈ orbitOf M a, j ∉ pl := fun j hj hp => by
              obtain ⟨_, k, hk, he⟩ := (hpm j).mp hp
              rw [mem_orbit] at hj
              exact hin ((hpm a).mpr ⟨ha, k, hk, eqv_trans he (eqv_symm hj.2)⟩)
            have hpll : pl.length ≤ M.length := nodup_len ndp fun j hj => ((hpm j).mp hj).1
            rw [bDict_pairs (l := (orbitOf M a).map fun j => .tup [nD j, .bl true]) (by simp) (pairsQ_true _)]
            simp only [to_ok]
            have e2 : kputs [] (keysD (orbitOf M a)) = keysD (orbitOf M a) := by
              have := kputs_keysD [] (orbitOf M a) hndo (fun _ _ => by simp)
              simpa [keysD] using this
            rw [e2, tUpdate_dict (kvs := keysD pl) (more := keysD (orbitOf M a)) (by rw [List.append_assoc, List.append_assoc]; exact hpl1 _) (by simp) (by simp; omega) (by rw [keysD_len, keysD_len]; omega), kputs_keysD pl _ hndo hdis]
            simp only [to_ok]
            generalize hT : (s2 ++ [MO.lst (rs.map nD), .lst ((orbitOf M a).map nD)] ++ [MO.lst ((orbitOf M a).map fun j => .tup [nD j, .bl true])] ++ [MO.dK (keysD (orbitOf M a))]) = s5
            have hT' : s5 = s2 ++ [MO.lst (rs.map nD), .lst ((orbitOf M a).map nD), MO.lst ((orbitOf M a).map fun j => .tup [nD j, .bl true]), MO.dK (keysD (orbitOf M a))] := by rw [← hT]; simp
            have f5 : Fr [] s2 s5 := by rw [hT']; exact .app
            have ho5 : s5[s2.length + 1]? = some (.lst ((orbitOf M a).map nD)) := by rw [hT']; simp
            have l5 : s2.length + 4 = s5.length := by rw [hT']; simp
            have hfs5 : (s5.set (s1.length + 1) (.dK (keysD (pl ++ orbitOf M a))))[s1.length + 2]? = some (.lst fs) := look_ne (f5.get hfs (by simp)) (by omega)
            have hfl : fs.length ≤ M.length := by
              rw [ho.len]
              unfold orbs
              rw [List.length_map]
              refine Nat.le_trans (List.length_filter_le _ _) ?_
              rw [List.length_range]; omega
            refine ⟨tyQ_lst hfs5, ?_⟩
            rw [tAppend_lst hfs5 (by omega)]
            simp only [to_ok]
            have f6 : Fr [s1.length + 1, s1.length + 2] s2 ((s5.set (s1.length + 1) (.dK (keysD (pl ++ orbitOf M a)))).set (s1.length + 2) (.lst (fs ++ [.loc (s2.length + 1)]))) :=
              ((f5.mono (Y := [s1.length + 1, s1.length + 2]) (by simp)).put (.inl (by simp))).put (.inl (by simp))
            refine ⟨_, _, _, pl ++ orbitOf M a, _, rfl, hf2.trans2 f6 ?_, ?_, f6.get hds (by simp), ?_, look_ne (look_put (f5.get hpl (by simp))) (by omega), ?_, ?_, look_put hfs5, ?_⟩
            · have := hf.1
              simp; omega
            · simp; omega
            · intro k d hk
              obtain ⟨n, ks, e, hn, h3, h4⟩ := hct k d hk
              exact ⟨n, ks, e, hn, f6.get h3 (by simp; omega), h4⟩
            · rw [List.nodup_append]
              exact ⟨ndp, hndo, fun a ha b hb e => hdis b hb (by rw [← e]; exact ha)⟩
            · exact hpm' _ fun j => List.mem_append
            · rw [orbs_succ, if_pos hr]
              refine (ho.imp fun _ _ _ _ z => NL.fr z f6 (by simp)).snoc (nl_iff.mpr ⟨_, rfl, by omega, ?_⟩)
              exact look_ne (look_ne ho5 (by omega)) (by omega)
    · rintro σ s2 ⟨y5, y6, y1, pl, fs, rfl, hf2, hl2, hds, hct, hpl, ndp, hpm, hfs, ho⟩
      simp only [w_ret, vS, v0, to_ok]
      rw [List.length_range] at ho
      exact q _ _ hf2 (NLL.mono (P := fun n => n < s1.length + 2) ⟨_, fs, rfl, by omega, hfs, ho.imp fun _ _ _ _ z => NL.mono z fun n hn => .inl (by omega)⟩ fun n hn => .inl (by have := hf.1; omega))
end
end Mid
namespace Mid
open PySem
noncomputable section
variable {M : Mach} {s : Mst} {Q : Dv → Mst → Prop}
/-- texts that stand -/
def Sok (M : Mach) : Prop := ∀ r ∈ M, ∀ p ∈ r.2, PyData.strOk p.1 = true
abbrev STE : Enc (Str × Nat) := .pair .str .nat
abbrev ROE : Enc (Bool × List (Str × Nat)) := .pair .bool (.tupOf STE)
def loV (M : Mach) (o : List Nat) (k : Nat) : Bool × List (Str × Nat) := match M[k]? with
  | some r => (r.1, r.2.filter fun p => !decide (p.2 ∈ o))
  | none => (false, [])
theorem ste_rep {P : Nat → Prop} {p : Str × Nat} (h : PyData.strOk p.1 = true) : STE.rep P s (stepD p) p := ⟨_, _, rfl, ⟨rfl, h⟩, rfl⟩
theorem roe_rep {P : Nat → Prop} {r : Bool × List (Str × Nat)} (h : ∀ p ∈ r.2, PyData.strOk p.1 = true) : ROE.rep P s (roomD r) r :=
  ⟨_, _, rfl, rfl, _, rfl, .of_map fun p hp => ste_rep (h p hp)⟩
theorem lo_sok {o : List Nat} {k : Nat} (h : Sok M) : ∀ p ∈ (loV M o k).2, PyData.strOk p.1 = true := by
  intro p hp
  unfold loV at hp
  cases q : M[k]? with
  | none => rw [q] at hp; cases hp
  | some r => rw [q] at hp; exact h r (List.mem_of_getElem? q) p (List.mem_filter.mp hp).1
theorem roomQ {k : Nat} {r : Bool × List (Str × Nat)} (h : M[k]? = some r) : oGet (mD M) (nD k) s = .ok (roomD r) s :=
  oGet_tup (b := k) (by rw [List.getElem?_map, h]; rfl)
def Sml (M : Mach) : Prop := ∀ r ∈ M, r.2.length < 2 ^ 24
theorem leads_out_ok {o : List Nat} {n k : Nat} (ho : s[n]? = some (.lst (o.map nD))) (hk : k < M.length) (sm : Sml M)
    (q : ∀ s', Fr [] s s' → Q (roomD (loV M o k)) s') : (f_leads_out [mD M, .loc n, nD k] s).to Q := by
  unfold f_leads_out
  refine fun_at [some (mD M), some (.loc n), some (nD k), none, none, none] rfl rfl ?_
  unfold m_leads_out
  obtain ⟨r, hr⟩ : ∃ r, M[k]? = some r := ⟨_, List.getElem?_eq_getElem hk⟩
  simp only [w_seq, w_asg, w_op, vS, v0, to_ok, roomQ hr, roomD, w_gT, w_gES, w_gE0, w_gN, List.length_cons, List.length_nil, true_and, List.set_cons_succ, List.set_cons_zero, w_ret, w_tup, w_argsS, w_args0, w_call, w_lc, w_iseq, itSeq_tup, wipeS, wipe0]
  refine lc_pure r.2 stepD (fun p => !decide (p.2 ∈ o)) stepD trivial ?_ ?_
  · intro p hp
    simp only [w_gN, w_tval, w_op, vS, v0, to_ok, mC_eq, List.set_cons_succ, List.set_cons_zero, stepD, oGet_tup1]
    rw [show iD p.2 = nD p.2 from rfl, oNotIn_nat ho]
    simp only [to_ok, toB_bl]
    exact ⟨trivial, fun _ => by simp, fun _ => by simp⟩
  · rw [List.length_map]
    refine ⟨sm r (List.mem_of_getElem? hr), ?_⟩
    rw [bTuple_seq (l := (r.2.filter fun p => !decide (p.2 ∈ o)).map stepD) (seqOf_lst (by simp))]
    simp only [to_ok]
    have e : roomD (loV M o k) = .tup [.bl r.1, .tup ((r.2.filter fun p => !decide (p.2 ∈ o)).map stepD)] := by
      unfold loV; rw [hr]; rfl
    rw [← e]
    exact q _ .app
def gateB (M : Mach) (o : List Nat) (k : Nat) : Bool := !decide (loV M o k = (false, []))
theorem gates_ok {o : List Nat} {n : Nat} (ho : s[n]? = some (.lst (o.map nD))) (hk : ∀ k ∈ o, k < M.length) (sm : Sml M) (so : Sok M) (hl : o.length < 2 ^ 24)
    (q : ∀ d s', Fr [] s s' → NL.rep (fun n => n < s.length) s' d (o.filter (gateB M o)) → Q d s') : (f_gates [mD M, .loc n] s).to Q := by
  unfold f_gates
  refine fun_at [some (mD M), some (.loc n), none] rfl rfl ?_
  unfold m_gates
  simp only [w_ret, w_lc, w_iseq, vS, v0, to_ok, itSeq_lst ho, wipeS, wipe0, List.set_cons_succ, List.set_cons_zero]
  refine lc_new (P := noP) .nat o nD (gateB M o) (fun k => k) (fun s' f => ⟨f.get ho (by simp), trivial⟩) ?_ ?_
  · intro k hk' s' f
    simp only [w_gN, w_tval, w_op, vS, v0, to_ok, List.set_cons_succ, List.set_cons_zero, w_call, w_argsS, w_args0, w_noE]
    refine leads_out_ok (f.get ho (by simp)) (hk k hk') sm fun s2 f2 => ?_
    simp only [w_tup, w_argsS, w_args0, mC_eq, to_ok]
    rw [oNe_enc ROE (P := noP) (P' := noP) (roe_rep (lo_sok so)) (b := (false, [])) ⟨_, _, rfl, rfl, _, rfl, .nil⟩ (by decide)]
    simp only [to_ok, toB_bl]
    exact ⟨rfl, f2, fun _ => ⟨.refl, rfl⟩⟩
  · intro ds s' f h
    rw [List.length_map]
    refine ⟨hl, ?_⟩
    rw [nat_of h, List.map_id'']
    · exact q _ _ (f.trans .app) (nl_iff.mpr ⟨_, rfl, by have := f.1; omega, by simp⟩)
    · intro x; rfl
def bareV (M : Mach) (o : List Nat) : Bool := match o with
  | [k] => !decide (k ∈ succs M k)
  | _ => false
def evenV (M : Mach) (o : List Nat) : Bool := match o.filter (gateB M o) with
  | [] => true
  | k :: r => r.all fun j => decide (loV M o j = loV M o k)
end
end Mid
namespace Mid
open PySem
noncomputable section
variable {M : Mach} {s : Mst} {Q : Dv → Mst → Prop}
abbrev GOE : Enc (Bool × List (Str × Nat)) := .pair .bool (.lstOf STE)
/-- how often -/
theorem tCount_enc {α : Type} [DecidableEq α] (A : Enc α) {P P' : Nat → Prop} {d e : Dv} {a : α} {l : List α} (h : A.rep P s d a) (g : A.lstOf.rep P' s e l) (hd : A.dep < 64) : tCount [e, d] s = .ok (.int (l.countP fun z => decide (z = a) : Nat)) s := by
  obtain ⟨n, ds, rfl, hp, hs, hl⟩ := g
  have g' : A.lstOf.rep P' s (.loc n) l := ⟨n, ds, rfl, hp, hs, hl⟩
  have sh := A.lstOf.shaped g' (show A.dep + 1 ≤ 64 from hd)
  show (match bAny.lstQ (.loc n) s with | some l => _ | none => _) = _
  rw [lstQ_loc hs]
  simp only
  rw [A.dat h (by omega), datA_all2 hl (by omega)]
  simp only [A.shaped h (by omega), true_and]
  rw [if_pos (show SeqAt.shaped (.list (l.map A.py)) = true from sh), List.countP_map]
  congr 4
  funext z
  rw [Function.comp_apply, Bool.eq_iff_iff, A.eqv, decide_eq_true_iff]
end
end Mid
namespace Mid
open PySem
noncomputable section
variable {M : Mach} {s : Mst} {Q : Dv → Mst → Prop}
theorem snoc_nodup {ks : List Nat} {j : Nat} (h : ks.Nodup) (n : j ∉ ks) : (ks ++ [j]).Nodup := by
  rw [List.nodup_append]
  exact ⟨h, by simp, fun a ha b hb e => n (by simp at hb; rw [← hb, ← e]; exact ha)⟩
theorem root_of (j : Nat) : ∃ k, k ≤ j ∧ rootB M k = true ∧ eqvB M k j = true := by
  induction j using Nat.strongRecOn with
  | _ j ih =>
    cases q : rootB M j with
    | true => exact ⟨j, Nat.le_refl _, q, eqv_refl j⟩
    | false =>
      have : ¬ ∀ k, k < j → eqvB M k j = false := fun h => by rw [root_iff.mpr h] at q; cases q
      have : ∃ k, k < j ∧ eqvB M k j = true := by
        refine Classical.byContradiction fun z => this fun k hk => ?_
        cases w : eqvB M k j with
        | false => rfl
        | true => exact absurd ⟨k, hk, w⟩ z
      obtain ⟨k, hk, he⟩ := this
      obtain ⟨i, hi, hr, hei⟩ := ih k hk
      exact ⟨i, by omega, hr, eqv_trans hei he⟩
theorem orbit_eq {i j : Nat} (h : eqvB M i j = true) : orbitOf M i = orbitOf M j := by
  unfold orbitOf
  congr 1
  funext k
  rw [Bool.eq_iff_iff]
  exact ⟨fun g => eqv_trans (eqv_symm h) g, fun g => eqv_trans h g⟩
theorem orbit_in {a : Nat} (ha : a < M.length) : orbitOf M a ∈ orbs M a ↔ rootB M a = false := by
  unfold orbs
  rw [List.mem_map]
  constructor
  · rintro ⟨k, hk, e⟩
    rw [List.mem_filter, List.mem_range] at hk
    have : a ∈ orbitOf M k := by rw [e, mem_orbit]; exact ⟨ha, eqv_refl a⟩
    rw [mem_orbit] at this
    cases q : rootB M a with
    | false => rfl
    | true => rw [root_iff.mp q k hk.1] at this; cases this.2
  · intro h
    obtain ⟨k, hk, hr, he⟩ := root_of (M := M) a
    have : k ≠ a := fun e => by rw [e, h] at hr; cases hr
    exact ⟨k, List.mem_filter.mpr ⟨List.mem_range.mpr (by omega), hr⟩, orbit_eq he⟩
end
end Mid
namespace Mid
open PySem
noncomputable section
variable {s s' : Mst} {Q : Dv → Mst → Prop} {p w c : Nat}
def penD (a t : Int) (w : Nat) : List (KeyQ × Dv) := [(.inr (Str.ofString "mixed"), .int a), (.inr (Str.ofString "turn"), .int t), (.inr (Str.ofString "wide"), .loc w)]
theorem pen_mixed (a t : Int) (w : Nat) : kval (penD a t w) (.inr (Str.ofString "mixed")) = some (.int a) := by
  simp [kval, penD]
theorem pen_turn (a t : Int) (w : Nat) : kval (penD a t w) (.inr (Str.ofString "turn")) = some (.int t) := by
  have h : Str.ofString "mixed" ≠ Str.ofString "turn" := by decide
  simp [kval, penD, List.find?_cons, h]
theorem pen_wide (a t : Int) (w : Nat) : kval (penD a t w) (.inr (Str.ofString "wide")) = some (.loc w) := by
  have h : Str.ofString "mixed" ≠ Str.ofString "wide" := by decide
  have h2 : Str.ofString "turn" ≠ Str.ofString "wide" := by decide
  simp [kval, penD, List.find?_cons, h, h2]
theorem pen_put (a t u : Int) (w : Nat) : kput (penD a t w) (.inr (Str.ofString "turn")) (.int u) = penD a u w := by
  have h : Str.ofString "mixed" ≠ Str.ofString "turn" := by decide
  have h2 : Str.ofString "wide" ≠ Str.ofString "turn" := by decide
  simp [kput, penD, h, h2]
/-- a pen: its dict and its list of wide numbers -/
def PenR (p w c : Nat) (s : Mst) : Prop := ∃ a t ws, s[p]? = some (.dK (penD a t w)) ∧ s[w]? = some (.lst (List.map Dv.int ws)) ∧ p ≠ w ∧ 0 ≤ a ∧ a < 2147483629 ∧ 0 ≤ t ∧ t ≤ (c : Int) ∧ ∀ z ∈ ws, (0 : Int) ≤ z
theorem PenR.fr (h : PenR p w c s) {X : List Nat} (f : Fr X s s') (hp : p ∉ X) (hw : w ∉ X) : PenR p w c s' := by
  obtain ⟨a, t, ws, h1, h2, h3⟩ := h
  exact ⟨a, t, ws, f.get h1 hp, f.get h2 hw, h3⟩
theorem PenR.fr0 (h : PenR p w c s) (f : Fr [] s s') : PenR p w c s' := h.fr f (by simp) (by simp)
theorem PenR.le {c' : Nat} (h : PenR p w c s) (hc : c ≤ c') : PenR p w c' s := by
  obtain ⟨a, t, ws, h1, h2, h3, h4, h5, h6, h7, h8⟩ := h
  exact ⟨a, t, ws, h1, h2, h3, h4, h5, h6, by omega, h8⟩
theorem PenR.lt (h : PenR p w c s) : p < s.length ∧ w < s.length := by
  obtain ⟨a, t, ws, h1, h2, _⟩ := h
  exact ⟨lt_of h1, lt_of h2⟩
theorem log2_le {i : Int} {n k : Nat} (h : i.natAbs ≤ n) (g : n < 2 ^ k) : i.natAbs.log2 ≤ k := by
  by_cases z : i.natAbs = 0
  · rw [z]; simp
  · exact Nat.le_of_lt (Nat.log2_lt z |>.mpr (by omega))
theorem gpen_ok {ns : List Int} (hl : ns.length < 2 ^ 24)
    (q : ∀ s' p w, Fr [] s s' → PenR p w 0 s' → s.length ≤ p → s.length ≤ w → Q (.loc p) s') : (f_law_gpen [.clst (ns.map .int)] s).to Q := by
  unfold f_law_gpen
  refine fun_at [some (.clst (ns.map .int)), none, none] rfl rfl ?_
  unfold m_law_gpen
  simp only [w_seq, w_set, mC_eq, to_ok, List.set_cons_succ, List.set_cons_zero, w_for, w_iseq, vS, v0, itSeq_clst]
  refine for_map ns Dv.int (fun i σ s' => s' = s ∧ ∃ (a : Int) (y : Option Dv), σ = [some (.clst (ns.map .int)), some (.int a), y] ∧ 0 ≤ a ∧ a < 2147483629) ⟨rfl, 7, none, rfl, by decide, by decide⟩ (fun _ _ _ _ => trivial) ?_ ?_
  · rintro i z σ s' hz ⟨rfl, a, y, rfl, h1, h2⟩
    simp only [w_gN, List.set_cons_succ, List.set_cons_zero, w_set, w_op, vS, v0, mC_eq, to_ok]
    rw [oMul_int (by
      have := log2_le (i := a) (n := 2147483629) (k := 32) (by omega) (by decide)
      have : (48271 : Int).natAbs.log2 ≤ 16 := log2_le (n := 48271) (by decide) (by decide)
      omega)]
    simp only [to_ok]
    rw [oMod_int (by decide)]
    simp only [to_ok, oAdd_int]
    rw [oMod_int (by decide)]
    simp only [to_ok]
    exact ⟨trivial, _, _, rfl, Int.emod_nonneg _ (by decide), Int.emod_lt_of_pos _ (by decide)⟩
  · rintro σ s' ⟨rfl, a, y, rfl, h1, h2⟩
    simp only [w_ret, to_noEr, w_disp, w_pairsS, w_pairs0, mC_eq, vS, v0, to_ok, w_lc, w_iseq, itSeq_clst, wipeS, wipe0, List.set_cons_succ, List.set_cons_zero]
    refine lc_pure ns Dv.int (fun z => decide (10 ^ 15 ≤ z)) Dv.int trivial ?_ ?_
    · intro z hz
      simp only [w_gN, List.set_cons_succ, List.set_cons_zero, w_tval, w_op, vS, v0, mC_eq, to_ok]
      rw [oPow_int (by decide)]
      simp only [to_ok, oGe_int, toB_bl]
      exact ⟨rfl, fun _ => ⟨trivial, trivial⟩, fun _ => trivial⟩
    · rw [List.length_map]
      refine ⟨hl, _, rfl, ?_⟩
      have e : kputs [] [(Sum.inr (Str.ofString "mixed"), Dv.int a), (Sum.inr (Str.ofString "turn"), Dv.int 0), (Sum.inr (Str.ofString "wide"), Dv.loc s'.length)] = penD a 0 s'.length := by
        have h : Str.ofString "mixed" ≠ Str.ofString "turn" := by decide
        have h2 : Str.ofString "mixed" ≠ Str.ofString "wide" := by decide
        have h3 : Str.ofString "turn" ≠ Str.ofString "wide" := by decide
        simp [kputs, kput, penD, h, h2, h3]
      rw [e]
      refine q _ _ s'.length (Fr.app.trans .app) ⟨a, 0, ns.filter fun z => decide (10 ^ 15 ≤ z), by simp, by simp, by simp, h1, h2, by decide, by decide, fun z hz => ?_⟩ (by simp) (Nat.le_refl _)
      have := of_decide_eq_true (List.mem_filter.mp hz).2
      have e : (10 : Int) ^ 15 = 1000000000000000 := by decide
      rw [e] at this
      omega
theorem natAbs_bound {i : Int} {n : Nat} (h : 0 ≤ i) (g : i ≤ n) : i.natAbs ≤ n := by omega
theorem gdraw_ok {many : Nat} (h : PenR p w c s) (hm : 0 < many) (hm2 : many < 2 ^ 20) (hc : c < 10 ^ 9)
    (q : ∀ s' r, Fr [p, w] s s' → PenR p w (c + 1) s' → r < many → Q (nD r) s') : (f_law_gdraw [.loc p, nD many] s).to Q := by
  obtain ⟨a, t, ws, h1, h2, hne, ha, ha2, ht, ht2, hw⟩ := h
  unfold f_law_gdraw
  refine fun_at [some (.loc p), some (nD many), none, none, none] rfl rfl ?_
  unfold m_law_gdraw
  have kw : keyQ (.str (Str.ofString "wide")) = some (.inr (Str.ofString "wide")) := rfl
  have kt : keyQ (.str (Str.ofString "turn")) = some (.inr (Str.ofString "turn")) := rfl
  have km : keyQ (.str (Str.ofString "mixed")) = some (.inr (Str.ofString "mixed")) := rfl
  have gw : ∀ {s : Mst} {t : Int}, s[p]? = some (.dK (penD a t w)) → oGet (.loc p) (.str (Str.ofString "wide")) s = .ok (.loc w) s := fun h => oGet_dict h kw (pen_wide _ _ _)
  have gt : ∀ {s : Mst} {t : Int}, s[p]? = some (.dK (penD a t w)) → oGet (.loc p) (.str (Str.ofString "turn")) s = .ok (.int t) s := fun h => oGet_dict h kt (pen_turn _ _ _)
  have gm : ∀ {s : Mst} {t : Int}, s[p]? = some (.dK (penD a t w)) → oGet (.loc p) (.str (Str.ofString "mixed")) s = .ok (.int a) s := fun h => oGet_dict h km (pen_mixed _ _ _)
  have hmi : (0 : Int) < (many : Int) := by omega
  have hml : (many : Int).natAbs.log2 < 9000 := by
    have := log2_le (i := (many : Int)) (n := 2 ^ 20) (k := 21) (by omega) (by decide)
    omega
  -- behind the first if
  have step : ∀ (ws1 : List Int) (s1 : Mst), Fr [p, w] s s1 → s1[p]? = some (.dK (penD a t w)) → s1[w]? = some (.lst (ws1.map .int)) → (∀ z ∈ ws1, (0 : Int) ≤ z) →
      ((msSeq (msIf (mtVal (mOp oGt (mCall bLen [mOp oGet (mVar 0) (mC (.str (Str.ofString "wide")))]) (mC (.int 0)))) (msSeq (msSet 2 (mOp oMod (mOp oGet (mOp oGet (mVar 0) (mC (.str (Str.ofString "wide")))) (mC (.int 0))) (mVar 1)))
    (msSeq (msPut oPut (mOp oGet (mVar 0) (mC (.str (Str.ofString "wide")))) (mC (.int 0)) (mOp oFdiv (mOp oGet (mOp oGet (mVar 0) (mC (.str (Str.ofString "wide")))) (mC (.int 0))) (mVar 1)))
    (msRet (mVar 2)))) (msNx))
    (msSeq (msPut oPut (mVar 0) (mC (.str (Str.ofString "turn"))) (mOp oAdd (mOp oGet (mVar 0) (mC (.str (Str.ofString "turn")))) (mC (.int 1))))
    (msSeq (msSet 3 (mOp oMod (mOp oAdd (mOp oGet (mVar 0) (mC (.str (Str.ofString "mixed")))) (mOp oMul (mOp oMul (mC (.int 7919)) (mOp oGet (mVar 0) (mC (.str (Str.ofString "turn"))))) (mOp oGet (mVar 0) (mC (.str (Str.ofString "turn")))))) (mC (.int 2147483629))))
    (msSeq (msSet 4 (mOp oMod (mOp oAdd (mOp oAdd (mOp oMul (mVar 3) (mVar 3)) (mOp oMul (mC (.int 40692)) (mOp oGet (mVar 0) (mC (.str (Str.ofString "turn")))))) (mC (.int 3))) (mC (.int 998244353))))
    (msRet (mOp oMod (mOp oFdiv (mOp oMod (mOp oAdd (mOp oMul (mVar 4) (mVar 4)) (mVar 3)) (mC (.int 2147483587))) (mC (.int 16))) (mVar 1))))))) [some (.loc p), some (nD many), none, none, none] s1).to (fun _ s => Q .non s) Q (fun _ _ => False) (fun _ _ => False) := by
    intro ws1 s1 f1 hp1 hw1 hz1
    simp only [w_seq, w_if, w_tval, w_op, w_call, w_argsS, w_args0, vS, v0, mC_eq, to_ok, gw hp1, bLen_seq (seqOf_lst hw1), oGt_int, toB_bl, List.length_map]
    cases ws1 with
    | cons z0 r0 =>
      rw [show decide ((0 : Int) < ((z0 :: r0).length : Nat)) = true by rw [decide_eq_true_iff, List.length_cons]; omega]
      have g0 : oGet (.loc w) (.int 0) s1 = .ok (.int z0) s1 := oGet_lst hw1 (b := 0) rfl
      simp only [if_true, w_set, w_op, vS, v0, mC_eq, to_ok, gw hp1, g0, nD]
      rw [oMod_int hmi]
      simp only [to_ok, List.set_cons_succ, List.set_cons_zero, w_put, w_op, vS, v0, mC_eq, gw hp1, g0]
      rw [oFdiv_int hmi hml]
      have pu : oPut (.loc w) (.int 0) (.int (z0 / (many : Int))) s1 = .ok () (s1.set w (.lst (((z0 :: r0).map Dv.int).set 0 (.int (z0 / (many : Int)))))) := oPut_lst (k := 0) hw1 (by simp)
      simp only [to_ok, gw hp1, pu, w_ret, vS, v0]
      have hz0 := hz1 z0 (by simp)
      have e : z0 % (many : Int) = ((z0 % (many : Int)).toNat : Nat) := (Int.toNat_of_nonneg (Int.emod_nonneg _ (by omega))).symm
      rw [e]
      refine q _ _ (f1.put (.inl (by simp))) ⟨a, t, z0 / (many : Int) :: r0, look_ne hp1 (fun e => hne e.symm), by rw [look_put hw1]; rfl, hne, ha, ha2, ht, by omega, ?_⟩ ?_
      · intro z hz
        rcases List.mem_cons.mp hz with rfl | hz
        · exact Int.ediv_nonneg hz0 (by omega)
        · exact hz1 z (by simp [hz])
      · have := Int.emod_lt_of_pos z0 hmi
        have := Int.emod_nonneg z0 (b := many) (by omega)
        omega
    | nil =>
      rw [show decide ((0 : Int) < (([] : List Int).length : Nat)) = false from rfl]
      simp only [Bool.false_eq_true, if_false, w_nx, w_put, w_op, vS, v0, mC_eq, to_ok, gt hp1, oAdd_int]
      rw [oPut_dict hp1 kt (by simp [penD]), pen_put]
      have hp2 : (s1.set p (.dK (penD a (t + 1) w)))[p]? = some (.dK (penD a (t + 1) w)) := look_put hp1
      have l1 : (7919 : Int).natAbs.log2 ≤ 13 := log2_le (n := 7919) (by decide) (by decide)
      have l2 : (t + 1).natAbs.log2 ≤ 30 := log2_le (n := 10 ^ 9) (by omega) (by decide)
      have l3 : (7919 * (t + 1)).natAbs.log2 ≤ 43 := log2_le (n := 7919 * 10 ^ 9) (by omega) (by decide)
      have l4 : (40692 : Int).natAbs.log2 ≤ 16 := log2_le (n := 40692) (by decide) (by decide)
      simp only [to_ok, w_set, w_op, vS, v0, mC_eq, gm hp2, gt hp2]
      rw [oMul_int (by omega)]
      simp only [to_ok, gt hp2]
      rw [oMul_int (by omega)]
      simp only [to_ok, oAdd_int]
      rw [oMod_int (by decide)]
      generalize ho : (a + 7919 * (t + 1) * (t + 1)) % 2147483629 = one
      have b1 : 0 ≤ one := by rw [← ho]; exact Int.emod_nonneg _ (by decide)
      have b2 : one < 2147483629 := by rw [← ho]; exact Int.emod_lt_of_pos _ (by decide)
      have l5 : one.natAbs.log2 ≤ 32 := log2_le (n := 2147483629) (by omega) (by decide)
      simp only [to_ok, List.set_cons_succ, List.set_cons_zero, vS, v0]
      rw [oMul_int (by omega)]
      simp only [to_ok, gt hp2]
      rw [oMul_int (by omega)]
      simp only [to_ok, oAdd_int]
      rw [oMod_int (by decide)]
      generalize hw2 : (one * one + 40692 * (t + 1) + 3) % 998244353 = two
      have b3 : 0 ≤ two := by rw [← hw2]; exact Int.emod_nonneg _ (by decide)
      have b4 : two < 998244353 := by rw [← hw2]; exact Int.emod_lt_of_pos _ (by decide)
      have l6 : two.natAbs.log2 ≤ 32 := log2_le (n := 998244353) (by omega) (by decide)
      simp only [to_ok, List.set_cons_succ, List.set_cons_zero, w_ret, w_op, vS, v0, mC_eq]
      rw [oMul_int (by omega)]
      simp only [to_ok, oAdd_int]
      rw [oMod_int (by decide)]
      simp only [to_ok]
      rw [oFdiv_int (by decide) (by decide)]
      simp only [to_ok, nD]
      rw [oMod_int hmi]
      simp only [to_ok]
      generalize (two * two + one) % 2147483587 / 16 = v
      have e : v % (many : Int) = ((v % (many : Int)).toNat : Nat) := (Int.toNat_of_nonneg (Int.emod_nonneg _ (by omega))).symm
      rw [e]
      refine q _ _ (f1.put (.inl (by simp))) ⟨a, t + 1, [], hp2, look_ne hw1 hne, hne, ha, ha2, by omega, by omega, by simp⟩ ?_
      have := Int.emod_lt_of_pos v hmi
      have := Int.emod_nonneg v (b := many) (by omega)
      omega
  rw [w_seq]
  simp only [w_if, w_tand, w_tval, w_op, w_call, w_argsS, w_args0, vS, v0, mC_eq, to_ok, gw h1, bLen_seq (seqOf_lst h2), oGt_int, toB_bl, List.length_map]
  cases ws with
  | nil =>
    rw [show decide ((0 : Int) < (([] : List Int).length : Nat)) = false from rfl]
    simp only [Bool.false_eq_true, if_false, w_nx]
    exact step [] s .refl h1 h2 (by simp)
  | cons z0 r0 =>
    rw [show decide ((0 : Int) < ((z0 :: r0).length : Nat)) = true by rw [decide_eq_true_iff, List.length_cons]; omega]
    have g0 : oGet (.loc w) (.int 0) s = .ok (.int z0) s := oGet_lst h2 (b := 0) rfl
    simp only [if_true, gw h1, to_ok, g0, nD, oLt_int, toB_bl]
    by_cases hlt : z0 < (many : Int)
    · simp only [hlt, decide_true, if_true, w_exp, w_meth, w_op, w_argsS, w_args0, vS, v0, mC_eq, to_ok, gw h1]
      refine ⟨tyQ_lst h2, ?_⟩
      have e : tPop [.loc w, .int 0] s = .ok (.int z0) (s.set w (.lst (r0.map .int))) := by
        unfold tPop onLst
        simp only [h2]
        simp [ixQ]
      rw [e]
      simp only [to_ok]
      exact step r0 _ (Fr.refl.put (.inl (by simp))) (look_ne h1 (fun e => hne e.symm)) (look_put h2) fun z hz => hw z (by simp [hz])
    · simp only [hlt, decide_false, Bool.false_eq_true, if_false, w_nx]
      exact step _ s .refl h1 h2 hw
end
end Mid
namespace Mid
open PySem
noncomputable section
variable {s s' : Mst} {Q : Dv → Mst → Prop} {p w c : Nat}
theorem strOk_app {x y : Str} (h : PyData.strOk x = true) (g : PyData.strOk y = true) : PyData.strOk (x ++ y) = true := by
  unfold PyData.strOk at *
  rw [Array.all_eq_true'] at *
  intro z hz
  have : (x ++ y).cps = x.cps ++ y.cps := rfl
  rw [this, Array.mem_append] at hz
  rcases hz with hz | hz
  · exact h z hz
  · exact g z hz
theorem strOk_none : PyData.strOk (Str.ofString "") = true := by
  have : (Str.ofString "").cps = #[] := rfl
  simp [PyData.strOk, this]
theorem strOk_join {ys : List Str} (h : ∀ y ∈ ys, PyData.strOk y = true) : PyData.strOk (Str.join (Str.ofString "") ys) = true := by
  induction ys with
  | nil => exact strOk_none
  | cons a r ih =>
    cases r with
    | nil => exact h a (by simp)
    | cons b r => exact strOk_app (strOk_app (h a (by simp)) strOk_none) (ih fun y hy => h y (by simp [hy]))
theorem join_len {ys : List Str} {k : Nat} (h : ∀ y ∈ ys, y.length = 1) : (Str.join (Str.ofString "") ys).length = ys.length := by
  have la : ∀ x y : Str, (x ++ y).length = x.length + y.length := fun x y => Array.size_append
  induction ys with
  | nil => rfl
  | cons a r ih =>
    cases r with
    | nil => exact h a (by simp)
    | cons b r =>
      have e : Str.join (Str.ofString "") (a :: b :: r) = a ++ Str.ofString "" ++ Str.join (Str.ofString "") (b :: r) := rfl
      rw [e, la, la, ih fun y hy => h y (by simp [hy]), h a (by simp)]
      have : (Str.ofString "").length = 0 := rfl
      simp [this]; omega
def abcS : Str := Str.ofString "abcdefghijklmnopqrstuvwxyz"
def chD (k : Nat) : Str := ⟨#[97 + k]⟩
theorem abc_at {k : Nat} (h : k < 26) : oGet (.str abcS) (nD k) s = .ok (.str (chD k)) s := by
  have e : abcS.cps.toList = (List.range 26).map (97 + ·) := by decide
  have : getQ (.str abcS) (nD k) s = some (.str (chD k)) := by
    unfold getQ nD
    simp only
    rw [if_pos (by decide), atQ_nat (b := k) (z := 97 + k) (by rw [e, List.getElem?_map, List.getElem?_range h]; rfl)]
    rfl
  unfold oGet
  rw [this]; rfl
theorem chD_ok {k : Nat} (h : k < 26) : PyData.strOk (chD k) = true := by
  unfold PyData.strOk chD
  simp
  omega
theorem chD_inj {a b : Nat} (h : chD a = chD b) : a = b := by
  unfold chD at h
  have := congrArg (fun x : Str => x.cps[0]?) h
  simp at this
  exact this
theorem str_cancel {x y z : Str} (h : x ++ y = x ++ z) : y = z := by
  have h2 : x.cps ++ y.cps = x.cps ++ z.cps := congrArg Str.cps h
  have h3 : y.cps = z.cps := by
    have := congrArg Array.toList h2
    rw [Array.toList_append, Array.toList_append] at this
    exact Array.toList_inj.mp (List.append_cancel_left this)
  cases y; cases z
  simp only [Str.mk.injEq]
  exact h3
theorem signs_nd {x : Str} {a many : Nat} (h : many ≤ 26) : ((List.range many).map fun k => x ++ chD ((a + 7 * k) % 26)).Nodup := by
  refine List.pairwise_map.mpr ?_
  refine List.Pairwise.imp_of_mem ?_ (List.pairwise_lt_range (n := many))
  intro i j hi hj hij e
  have hi := List.mem_range.mp hi
  have hj := List.mem_range.mp hj
  have := chD_inj (str_cancel e)
  omega
theorem gsigns_nd_ok {many : Nat} (h : PenR p w c s) (hm : 0 < many) (hm2 : many < 2 ^ 20) (hc : c < 10 ^ 8)
    (q : ∀ s' n sg, Fr [p, w] s s' → PenR p w (c + 10) s' → s.length ≤ n → s'[n]? = some (.lst (List.map Dv.str sg)) → sg.length = many → (∀ x ∈ sg, PyData.strOk x = true) → (many ≤ 26 → sg.Nodup) → Q (.loc n) s') : (f_law_gsigns [.loc p, nD many] s).to Q := by
  unfold f_law_gsigns
  refine fun_at [some (.loc p), some (nD many), none, none, none, none] rfl rfl ?_
  unfold m_law_gsigns
  simp only [w_seq, w_set, mC_eq, to_ok, List.set_cons_succ, List.set_cons_zero, w_meth, tyQ_str, true_and, w_argsS, w_args0, w_lc, w_irng1, w_op, w_lst, w_call, w_noE, vS, v0]
  have h0 : PenR p w c (s ++ [.lst [.int 0, .int 0, .int 1, .int 2, .int 5]]) := h.fr0 .app
  refine gdraw_ok (many := 5) h0 (by decide) (by decide) (by omega) fun s1 r f1 h1 hr => ?_
  have f01 : Fr [p, w] s s1 := Fr.app.trans f1
  have hne := h.lt
  have hl1 : s1[s.length]? = some (.lst [.int 0, .int 0, .int 1, .int 2, .int 5]) := f1.get (by simp) (by simp; omega)
  obtain ⟨k, hk, hk5⟩ : ∃ k : Nat, [Dv.int 0, .int 0, .int 1, .int 2, .int 5][r]? = some (nD k) ∧ k ≤ 5 := by
    rcases r with _ | _ | _ | _ | _ | r
    · exact ⟨0, rfl, by omega⟩
    · exact ⟨0, rfl, by omega⟩
    · exact ⟨1, rfl, by omega⟩
    · exact ⟨2, rfl, by omega⟩
    · exact ⟨5, rfl, by omega⟩
    · omega
  rw [show nD r = .int (r : Int) from rfl, oGet_lst hl1 hk]
  simp only [to_ok, nD, toI_int]
  refine ⟨r62 (by omega), ?_⟩
  rw [Int.toNat_natCast, rng0]
  simp only [wipeS, wipe0, List.set_cons_succ, List.set_cons_zero]
  refine lc_by (fun i ds s' => Fr [p, w] s s' ∧ PenR p w (c + 1 + i) s' ∧ ∃ ys : List Str, ds = ys.map Dv.str ∧ ys.length = i ∧ (∀ y ∈ ys, y.length = 1) ∧ ∀ y ∈ ys, PyData.strOk y = true)
    ⟨f01, h1, [], rfl, rfl, by simp, by simp⟩ (fun _ _ _ _ => trivial) ?_ ?_
  · rintro i x ds s2 hx ⟨f2, h2, ys, rfl, hl, h3, h4⟩
    have hi : i < k := by
      have := (List.getElem?_eq_some_iff.mp hx).1
      simpa using this
    simp only [w_gN, w_tyes, if_true, w_op, w_call, w_argsS, w_args0, w_noE, vS, v0, to_ok, mC_eq, List.set_cons_succ, List.set_cons_zero]
    refine gdraw_ok (many := 26) h2 (by decide) (by decide) (by omega) fun s3 r3 f3 h5 hr3 => ?_
    rw [show Str.ofString "abcdefghijklmnopqrstuvwxyz" = abcS from rfl, abc_at hr3]
    simp only [to_ok]
    refine ⟨f2.trans f3, h5.le (by omega), ys ++ [chD r3], by simp, by simp [hl], ?_, ?_⟩
    · intro y hy
      rcases List.mem_append.mp hy with hy | hy
      · exact h3 y hy
      · simp at hy; rw [hy]; rfl
    · intro y hy
      rcases List.mem_append.mp hy with hy | hy
      · exact h4 y hy
      · simp at hy; rw [hy]; exact chD_ok hr3
  · rintro ds s2 ⟨f2, h2, ys, rfl, hl, h3, h4⟩
    simp only [List.length_map, List.length_range] at hl h2 ⊢
    refine ⟨by omega, ?_⟩
    have ej : tJoin [.str (Str.ofString ""), .loc s2.length] (s2 ++ [.lst (ys.map Dv.str)]) = .ok (.str (Str.join (Str.ofString "") ys)) (s2 ++ [.lst (ys.map Dv.str)]) := by
      show (match Dv.str (Str.ofString ""), (seqOf (.loc s2.length) (s2 ++ [.lst (ys.map Dv.str)])).bind strsQ with | .str z, some ys => _ | _, _ => _) = _
      rw [seqOf_lst (l := ys.map Dv.str) (by simp), Option.bind_some, strsQ_map]
      refine if_pos ?_
      have : (ys.map (·.length)).sum = ys.length := by
        clear hl h4
        induction ys with
        | nil => rfl
        | cons a r ih => rw [List.map_cons, List.sum_cons, ih fun y hy => h3 y (by simp [hy]), h3 a (by simp), List.length_cons]; omega
      have e0 : (Str.ofString "").length = 0 := rfl
      rw [this, e0]; omega
    rw [ej]
    have h2' : PenR p w (c + 1 + k) (s2 ++ [.lst (ys.map Dv.str)]) := h2.fr0 .app
    simp only [to_ok]
    refine gdraw_ok (many := 26) h2' (by decide) (by decide) (by omega) fun s3 r3 f3 h5 hr3 => ?_
    simp only [List.set_cons_succ, List.set_cons_zero, w_ret, w_lc, w_irng1, vS, v0, to_ok, toI_int, wipeS, wipe0]
    have hm3 : many < 2 ^ 24 := by omega
    refine ⟨r62 (by omega), ?_⟩
    rw [Int.toNat_natCast, rng0]
    have hjl : (Str.join (Str.ofString "") ys).length = ys.length := join_len (k := 0) h3
    refine lc_pure (List.range many) nD (fun _ => true) (fun k => .str (Str.join (Str.ofString "") ys ++ chD ((r3 + 7 * k) % 26))) trivial ?_ ?_
    · intro k hk
      simp only [w_gN, w_tyes, w_op, vS, v0, to_ok, mC_eq, List.set_cons_succ, List.set_cons_zero, nD]
      have hk2 : k < 2 ^ 20 := by have := List.mem_range.mp hk; omega
      rw [oMul_int (by
        have := log2_le (i := (k : Int)) (n := 2 ^ 20) (k := 21) (by omega) (by decide)
        have : (7 : Int).natAbs.log2 ≤ 3 := log2_le (n := 7) (by decide) (by decide)
        omega)]
      simp only [to_ok, oAdd_int]
      rw [oMod_int (by decide)]
      simp only [to_ok]
      have e : ((r3 : Int) + 7 * (k : Int)) % 26 = ((r3 + 7 * k) % 26 : Nat) := by omega
      rw [e, show Str.ofString "abcdefghijklmnopqrstuvwxyz" = abcS from rfl]
      rw [show oGet (.str abcS) (.int ((r3 + 7 * k) % 26 : Nat)) s3 = .ok (.str (chD ((r3 + 7 * k) % 26))) s3 from abc_at (Nat.mod_lt _ (by decide))]
      simp only [to_ok]
      rw [oAdd_str (by rw [hjl]; have : (chD ((r3 + 7 * k) % 26)).length = 1 := rfl; omega)]
      exact ⟨trivial, fun _ => ⟨rfl, rfl⟩, fun _ => trivial⟩
    · rw [List.length_map, List.length_range]
      refine ⟨by omega, ?_⟩
      have F : Fr [p, w] s (s3 ++ [.lst ((List.map (fun k => Dv.str (Str.join (Str.ofString "") ys ++ chD ((r3 + 7 * k) % 26))) (List.filter (fun _ => true) (List.range many))))]) := f2.trans ((Fr.app (t := [.lst (ys.map Dv.str)])).trans (f3.trans .app))
      refine q _ _ ((List.range many).map fun k => Str.join (Str.ofString "") ys ++ chD ((r3 + 7 * k) % 26)) F ((h5.fr0 .app).le (by omega)) ?_ ?_ (by simp) ?_ signs_nd
      · have := f2.1
        have := f3.1
        simp at this
        omega
      · rw [List.filter_eq_self.mpr fun _ _ => rfl]; simp
      · intro x hx
        obtain ⟨k, hk, e⟩ := List.mem_map.mp hx
        rw [← e]
        exact strOk_app (strOk_join h4) (chD_ok (Nat.mod_lt _ (by decide)))
theorem gsigns_ok {many : Nat} (h : PenR p w c s) (hm : 0 < many) (hm2 : many < 2 ^ 20) (hc : c < 10 ^ 8)
    (q : ∀ s' n sg, Fr [p, w] s s' → PenR p w (c + 10) s' → s.length ≤ n → s'[n]? = some (.lst (List.map Dv.str sg)) → sg.length = many → (∀ x ∈ sg, PyData.strOk x = true) → Q (.loc n) s') : (f_law_gsigns [.loc p, nD many] s).to Q :=
  gsigns_nd_ok h hm hm2 hc fun s' n sg a b c d e f _ => q s' n sg a b c d e f
end
end Mid
namespace Mid
open PySem
noncomputable section
variable {M : Mach} {s s' : Mst} {Q : Dv → Mst → Prop}
def endB (M : Mach) (k : Nat) : Bool := match M[k]? with
  | some r => r.1
  | none => false
/-- rooms within g from which an end is come to within g -/
inductive Alv (M : Mach) (g : List Nat) : Nat → Prop where
  | fin {k : Nat} : k ∈ g → endB M k = true → Alv M g k
  | step {k j : Nat} : k ∈ g → j ∈ succs M k → Alv M g j → Alv M g k
theorem Alv.mono {g g' : List Nat} {k : Nat} (h : Alv M g k) (f : ∀ j ∈ g, j ∈ g') : Alv M g' k := by induction h with
  | fin a b => exact .fin (f _ a) b
  | step a b _ ih => exact .step (f _ a) b ih
theorem room_lst {n k : Nat} {r : Bool × List (Str × Nat)} (h : s[n]? = some (.lst (M.map roomD))) (hr : M[k]? = some r) : oGet (.loc n) (nD k) s = .ok (roomD r) s :=
  oGet_lst (b := k) h (by rw [List.getElem?_map, hr]; rfl)
structure GoodR (M : Mach) (g : List Nat) : Prop where
  nd : g.Nodup
  lt : ∀ k ∈ g, k < M.length
  ends : ∀ k, endB M k = true → k ∈ g
  alv : ∀ k ∈ g, Alv M g k
/-- closed backwards -/
def ClB (M : Mach) (g : List Nat) : Prop := ∀ k, k < M.length → ∀ j, j ∈ succs M k → j ∈ g → k ∈ g
theorem all_in {g : List Nat} {n : Nat} (nd : g.Nodup) (lt : ∀ k ∈ g, k < n) (h : n ≤ g.length) : ∀ k, k < n → k ∈ g := by
  intro k hk
  refine Classical.byContradiction fun z => ?_
  have h1 : (g ++ [k]).length ≤ n := nodup_len (snoc_nodup nd z) fun j hj => by
    rcases List.mem_append.mp hj with hj | hj
    · exact lt j hj
    · simp at hj; omega
  rw [List.length_append, List.length_singleton] at h1
  omega
theorem clb_alv {g g' : List Nat} {k : Nat} (he : ∀ k, endB M k = true → k ∈ g') (hc : ClB M g') (lt : ∀ k ∈ g, k < M.length) (h : Alv M g k) : k ∈ g' := by induction h with
  | fin _ b => exact he _ b
  | step a b _ ih => exact hc _ (lt _ a) _ b ih
theorem gto_end_ok {n : Nat} (hs : s[n]? = some (.lst (M.map roomD))) (hM : M.length ≤ 1000) (sm : Sml M)
    (q : ∀ m s' g, Fr [] s s' → s.length ≤ m → s'[m]? = some (.lst (g.map nD)) → GoodR M g → ClB M g → Q (.loc m) s') : (f_law_gto_end [.loc n] s).to Q := by
  unfold f_law_gto_end
  refine fun_at [some (.loc n), none, none, none, none, none] rfl rfl ?_
  unfold m_law_gto_end
  have len : ∀ {s : Mst}, s[n]? = some (.lst (M.map roomD)) → bLen [.loc n] s = .ok (.int M.length) s := fun h => by rw [bLen_seq (seqOf_lst h), List.length_map]
  simp only [w_seq, w_set, w_lc, w_irng1, w_call, w_argsS, w_args0, vS, v0, to_ok, len hs, toI_int]
  refine ⟨r62 (by omega), ?_⟩
  rw [Int.toNat_natCast, rng0]
  simp only [wipeS, wipe0, List.set_cons_succ, List.set_cons_zero]
  refine lc_pure (List.range M.length) nD (endB M) nD trivial ?_ ?_
  · intro k hk
    have hk := List.mem_range.mp hk
    obtain ⟨r, hr⟩ : ∃ r, M[k]? = some r := ⟨_, List.getElem?_eq_getElem hk⟩
    have e : endB M k = r.1 := by unfold endB; rw [hr]
    simp only [w_gN, w_tval, w_op, vS, v0, mC_eq, to_ok, List.set_cons_succ, List.set_cons_zero, room_lst hs hr, roomD, oGet_tup0, toB_bl]
    exact ⟨e.symm, fun _ => ⟨trivial, trivial⟩, fun _ => trivial⟩
  · rw [List.length_map, List.length_range]
    refine ⟨by omega, ?_⟩
    generalize hg0 : (List.range M.length).filter (endB M) = g0
    have hs1 : (s ++ [MO.lst (g0.map nD)])[n]? = some (.lst (M.map roomD)) := look_app hs
    have hnl := lt_of hs
    simp only [w_for, w_irng1, w_call, w_argsS, w_args0, vS, v0, to_ok, len hs1, toI_int]
    refine ⟨r62 (by omega), ?_⟩
    rw [Int.toNat_natCast, rng0]
    have I0 : GoodR M g0 := by
      refine ⟨?_, ?_, ?_, ?_⟩
      · rw [← hg0]; exact List.nodup_range.filter _
      · intro k hk; rw [← hg0] at hk; exact List.mem_range.mp (List.mem_filter.mp hk).1
      · intro k hk
        rw [← hg0, List.mem_filter, List.mem_range]
        refine ⟨?_, hk⟩
        unfold endB at hk
        cases q : M[k]? with
        | none => rw [q] at hk; cases hk
        | some r => exact (List.getElem?_eq_some_iff.mp q).1
      · intro k hk
        have hk' := hk
        rw [← hg0, List.mem_filter] at hk'
        exact .fin hk hk'.2
    refine for_map _ _ (fun i σ s' => ∃ g y1 y3 y4 y5, σ = [some (.loc n), y1, some (.loc s.length), y3, y4, y5] ∧ Fr [] s s' ∧ s'[s.length]? = some (.lst (g.map nD)) ∧ GoodR M g ∧ (ClB M g ∨ i ≤ g.length)) ⟨g0, none, none, none, none, rfl, .app, by simp, I0, .inr (by omega)⟩ (fun _ _ _ _ => trivial) ?_ ?_
    · rintro i a σ s1 ha ⟨gi, y1, y3, y4, y5, rfl, f, hg, G, hcl⟩
      simp only [w_gN, List.set_cons_succ, List.set_cons_zero, w_for, w_irng1, w_call, w_argsS, w_args0, vS, v0, to_ok, len (f.get hs (by simp)), toI_int]
      refine ⟨r62 (by omega), ?_⟩
      rw [Int.toNat_natCast, rng0]
      refine for_map _ _ (fun k σ s' => ∃ g y1 y3 y4 y5, σ = [some (.loc n), y1, some (.loc s.length), y3, y4, y5] ∧ Fr [] s s' ∧ s'[s.length]? = some (.lst (g.map nD)) ∧ GoodR M g ∧ ((g = gi ∧ ∀ k', k' < k → ∀ j, j ∈ succs M k' → j ∈ g → k' ∈ g) ∨ (gi.length < g.length ∧ ¬ ClB M gi)))
        ⟨gi, _, _, y4, y5, rfl, f, hg, G, .inl ⟨rfl, fun _ h => absurd h (Nat.not_lt_zero _)⟩⟩ (fun _ _ _ _ => trivial) ?_ ?_
      rotate_left
      · rintro σ s2 ⟨g, y1, y3, y4, y5, rfl, f2, hg, G2, hc⟩
        refine ⟨g, _, _, _, _, rfl, f2, hg, G2, ?_⟩
        rcases hc with ⟨rfl, hc⟩ | ⟨hc, hn⟩
        · rw [List.length_range] at hc; exact .inl hc
        · exact hcl.elim (fun h => absurd h hn) fun h => .inr (by omega)
      rintro i k σ s2 hk ⟨g, y1, y3, y4, y5, rfl, f2, hg, G, hc⟩
      obtain ⟨rfl, hk⟩ := range_at hk
      obtain ⟨r, hr⟩ : ∃ r, M[k]? = some r := ⟨_, List.getElem?_eq_getElem hk⟩
      simp only [w_gN, List.set_cons_succ, List.set_cons_zero, w_if, w_tand, w_tval, w_op, vS, v0, to_ok, oNotIn_nat hg, toB_bl]
      by_cases hin : k ∈ g
      · simp only [hin, decide_true, Bool.not_true, Bool.false_eq_true, if_false, w_nx]
        exact ⟨g, _, _, y4, y5, rfl, f2, hg, G, hc.imp (fun h => ⟨h.1, fun k' hk' j hj hjg => (Nat.lt_succ_iff_lt_or_eq.mp hk').elim (fun h' => h.2 k' h' j hj hjg) (fun e => e ▸ hin)⟩) id⟩
      · simp only [hin, decide_false, Bool.not_false, if_true, w_call, w_argsS, w_args0, w_lc, w_iseq, w_op, vS, v0, to_ok, mC_eq, room_lst (f2.get hs (by simp)) hr, roomD, oGet_tup1, itSeq_tup, wipeS, wipe0, List.set_cons_succ, List.set_cons_zero]
        refine lc_pure r.2 stepD (fun _ => true) (fun p => .bl (decide (p.2 ∈ g))) trivial ?_ ?_
        · intro p hp
          simp only [stepD, w_gT, w_gES, w_gE0, w_gN, List.length_cons, List.length_nil, true_and, w_tyes, w_op, vS, v0, to_ok, List.set_cons_succ, List.set_cons_zero]
          rw [show iD p.2 = nD p.2 from rfl, oIn_nat hg]
          exact ⟨fun _ => ⟨rfl, rfl⟩, fun h => nomatch h⟩
        · rw [List.length_map, List.filter_eq_self.mpr fun _ _ => rfl]
          refine ⟨sm r (List.mem_of_getElem? hr), ?_⟩
          rw [bAny_lst (bs := r.2.map fun p => decide (p.2 ∈ g)) (by simp)]
          simp only [to_ok, toB_bl]
          have F := f2.trans (Fr.app (t := [.lst (r.2.map fun p => Dv.bl (decide (p.2 ∈ g)))]))
          have hg' : (s2 ++ [MO.lst (r.2.map fun p => Dv.bl (decide (p.2 ∈ g)))])[s.length]? = some (.lst (g.map nD)) := look_app hg
          cases hany : (r.2.map fun p => decide (p.2 ∈ g)).any id with
          | false =>
            simp only [Bool.false_eq_true, if_false, w_nx]
            refine ⟨g, _, _, y4, y5, rfl, F, hg', G, hc.imp (fun h => ⟨h.1, fun k' hk' j hj hjg => (Nat.lt_succ_iff_lt_or_eq.mp hk').elim (fun h' => h.2 k' h' j hj hjg) (fun e => ?_)⟩) id⟩
            subst e
            rw [succs_of hr] at hj
            obtain ⟨p, hp, e⟩ := List.mem_map.mp hj
            rw [List.any_eq_false] at hany
            exact absurd rfl (hany true (List.mem_map.mpr ⟨p, hp, by rw [decide_eq_true_iff, e]; exact hjg⟩))
          | true =>
            simp only [if_true, w_exp, w_meth, w_argsS, w_args0, vS, v0, to_ok]
            have hgl := nodup_len G.nd G.lt
            refine ⟨tyQ_lst hg', ?_⟩
            rw [tAppend_lst hg' (by rw [List.length_map]; omega)]
            simp only [to_ok]
            refine ⟨g ++ [k], _, _, y4, y5, rfl, F.put (.inr (Nat.le_refl _)), by rw [look_put hg']; simp, ⟨snoc_nodup G.nd hin, ?_, fun j hj => by simp [G.ends j hj], ?_⟩, .inr ?_⟩
            · intro j hj
              rcases List.mem_append.mp hj with hj | hj
              · exact G.lt j hj
              · simp at hj; rw [hj]; exact hk
            · intro j hj
              rcases List.mem_append.mp hj with hj | hj
              · exact (G.alv j hj).mono fun _ z => by simp [z]
              · simp at hj
                subst hj
                rw [List.any_eq_true] at hany
                obtain ⟨b, hb, hb2⟩ := hany
                obtain ⟨p, hp, e⟩ := List.mem_map.mp hb
                have hpg : p.2 ∈ g := by
                  have : b = true := hb2
                  rw [this] at e
                  exact of_decide_eq_true e
                refine .step (j := p.2) (by simp) ?_ ((G.alv _ hpg).mono fun _ z => by simp [z])
                rw [succs_of hr]; exact List.mem_map.mpr ⟨p, hp, rfl⟩
            · rw [List.any_eq_true] at hany
              obtain ⟨b, hb, hb2⟩ := hany
              obtain ⟨p, hp, e⟩ := List.mem_map.mp hb
              have hpg : p.2 ∈ g := by
                have : b = true := hb2
                rw [this] at e
                exact of_decide_eq_true e
              rw [List.length_append, List.length_singleton]
              rcases hc with ⟨rfl, _⟩ | ⟨h1, h2⟩
              · exact ⟨by omega, fun h => hin (h k hk p.2 (by rw [succs_of hr]; exact List.mem_map.mpr ⟨p, hp, rfl⟩) hpg)⟩
              · exact ⟨by omega, h2⟩
    · rintro σ s1 ⟨g, y1, y3, y4, y5, rfl, f, hg, G, hc⟩
      simp only [w_ret, vS, v0, to_ok]
      rw [List.length_range] at hc
      exact q _ _ g f (Nat.le_refl _) hg G (hc.elim id fun h k hk _ _ _ => all_in G.nd G.lt h k hk)
end
end Mid
namespace Mid
open PySem
noncomputable section
variable {M : Mach} {s s' : Mst} {Q : Dv → Mst → Prop}
theorem findE_nat (j : Nat) (l : List Nat) (h : j ∈ l) : findE (Enc.nat.py j) (l.map Enc.nat.py) = some (l.idxOf j) := by
  induction l with
  | nil => cases h
  | cons a r ih =>
    rw [List.map_cons]
    unfold findE
    by_cases e : a = j
    · subst e; rw [if_pos ((Enc.nat.eqv _ _).mpr rfl)]; simp
    · rw [if_neg (fun z => e ((Enc.nat.eqv _ _).mp z)), ih ((List.mem_cons.mp h).resolve_left fun z => e z.symm), List.idxOf_cons]
      have : (a == j) = false := by simpa using e
      rw [this]; rfl
theorem tIndex_nat {n j : Nat} {l : List Nat} (hs : s[n]? = some (.lst (l.map nD))) (h : j ∈ l) : tIndex [.loc n, nD j] s = .ok (nD (l.idxOf j)) s := by
  have g' : NL.rep noP s (.loc n) l := nl_iff.mpr ⟨n, rfl, id, hs⟩
  have sh := NL.shaped g' (by decide)
  have ha : All2 (Enc.nat.rep noP s) (l.map nD) l := nat_all
  show (match bAny.lstQ (.loc n) s with | some l => _ | none => _) = _
  rw [lstQ_loc hs]
  simp only
  rw [Enc.nat.dat (P := noP) (s := s) (d := nD j) (a := j) rfl (by decide), datA_all2 ha (by decide)]
  simp only
  rw [if_pos ⟨Enc.nat.shaped (P := noP) (s := s) (d := nD j) rfl (by decide), sh⟩, findE_nat j l h]
  rfl
theorem cutQ_from {l : List Dv} (h : 0 < l.length) : cutQ l (some 1) none = l.drop 1 := by
  unfold cutQ sIxQ
  simp only
  rw [if_neg (by decide)]
  have : min (1 : Int).toNat l.length = 1 := by
    have : (1 : Int).toNat = 1 := rfl
    rw [this]; omega
  rw [this, List.take_of_length_le (by rw [List.length_drop]; omega)]
def trR (M : Mach) (g od : List Nat) (r : Bool × List (Str × Nat)) : Bool × List (Str × Nat) := (r.1, (r.2.filter fun p => decide (p.2 ∈ g)).map fun p => (p.1, od.idxOf p.2))
/-- what trimming makes of M -/
structure Trm (M : Mach) (g od : List Nat) (M' : Mach) : Prop where
  G : GoodR M g
  nd : od.Nodup
  sub : ∀ k ∈ od, k ∈ g
  root : od[0]? = some 0
  cl : ∀ k ∈ od, ∀ j ∈ succs M k, j ∈ g → j ∈ od
  par : ∀ i, 0 < i → i < od.length → ∃ i' k k', i' < i ∧ od[i']? = some k' ∧ od[i]? = some k ∧ k ∈ succs M k'
  len : M'.length = od.length
  at' : ∀ (i k : Nat) (r : Bool × List (Str × Nat)), od[i]? = some k → M[k]? = some r → M'[i]? = some (trR M g od r)
def m_trim_rest : MS := msSeq (msSet 1 (mCall (noE f_law_gto_end) [mVar 0]))
    (msSeq (msSet 2 (mLst [mC (.int 0)]))
    (msSeq (msSet 3 (mC (.int 0)))
    (msSeq (msWhile (mtVal (mOp oLt (mVar 3) (mCall bLen [mVar 2]))) (msSeq (msFor (miSeq (mOp oGet (mOp oGet (mVar 0) (mOp oGet (mVar 2) (mVar 3))) (mC (.int 1)))) (gT [gN 4, gN 5]) (msIf (mtAnd (mtVal (mOp oIn (mVar 5) (mVar 1))) (mtVal (mOp oNotIn (mVar 5) (mVar 2)))) (msExp (mMeth "list" tAppend (mVar 2) [mVar 5])) (msNx)))
    (msSet 3 (mOp oAdd (mVar 3) (mC (.int 1))))))
    (msSeq (msSet 6 (mLst []))
    (msSeq (msFor (miSeq (mVar 2)) (gN 7) (msSeq (msSet 8 (mLc (miSeq (mOp oGet (mOp oGet (mVar 0) (mVar 7)) (mC (.int 1)))) (gT [gN 4, gN 5]) (mtVal (mOp oIn (mVar 5) (mVar 1))) (mTup [mVar 4, mMeth "list" tIndex (mVar 2) [mVar 5]]) [4, 5]))
    (msExp (mMeth "list" tAppend (mVar 6) [mTup [mOp oGet (mOp oGet (mVar 0) (mVar 7)) (mC (.int 0)), mCall bTuple [mVar 8]]]))))
    (msRet (mCall bTuple [mVar 6])))))))
theorem trim_rest_ok {n : Nat} {R : Dv → Mst → Prop} (hs : s[n]? = some (.lst (M.map roomD))) (hM : M.length ≤ 1000) (sm : Sml M) (wf : Wf M)
    (q : ∀ s' g od M', Fr [] s s' → Trm M g od M' → R (mD M') s') (h0 : endB M 0 = true ∨ ∀ g, GoodR M g → ClB M g → 0 ∈ g) :
    (m_trim_rest [some (.loc n), none, none, none, none, none, none, none, none] s).to (fun _ s => R .non s) R (fun _ _ => False) (fun _ _ => False) := by
  unfold m_trim_rest
  simp only [w_seq, w_set, w_call, w_argsS, w_args0, vS, v0, to_ok, w_noE]
  refine gto_end_ok hs hM sm fun m s1 g f1 hm hg G hcb => ?_
  have z0 : 0 ∈ g := by
    rcases h0 with h | h
    · exact G.ends 0 h
    · exact h g G hcb
  simp only [List.set_cons_succ, List.set_cons_zero, w_lst, w_argsS, w_args0, mC_eq, to_ok]
  have hs1 := f1.get hs (by simp)
  have hml := lt_of hg
  have hgl := nodup_len G.nd G.lt
  refine while_m (fun mm σ s2 => ∃ at' od x y, σ = [some (.loc n), some (.loc m), some (.loc s1.length), some (nD at'), x, y, none, none, none] ∧ s2 = s1 ++ [.lst (od.map nD)] ∧ od.Nodup ∧ (∀ k ∈ od, k ∈ g) ∧ od[0]? = some 0 ∧ at' ≤ od.length ∧
      (∀ k ∈ od.take at', ∀ j ∈ succs M k, j ∈ g → j ∈ od) ∧ (∀ i, 0 < i → i < od.length → ∃ i' k k', i' < i ∧ od[i']? = some k' ∧ od[i]? = some k ∧ k ∈ succs M k') ∧ mm = M.length - at')
    ⟨_, 0, [0], none, none, rfl, rfl, by simp, by simpa using z0, rfl, by simp, by simp, fun i h1 h2 => absurd h2 (by simp; omega), rfl⟩ ?_
  rintro mm σ s2 ⟨a, od, x, y, rfl, rfl, nd, sub, root, hle, cl, par, rfl⟩
  have lw : (s1 ++ [MO.lst (od.map nD)])[s1.length]? = some (.lst (od.map nD)) := by simp
  have hodl : od.length ≤ M.length := nodup_len nd fun j hj => G.lt j (sub j hj)
  simp only [w_tval, w_op, vS, v0, w_call, w_argsS, w_args0, to_ok, bLen_seq (seqOf_lst lw), nD, oLt_int, toB_bl]
  by_cases hlt : a < od.length
  · obtain ⟨k, hk⟩ : ∃ k, od[a]? = some k := ⟨_, List.getElem?_eq_getElem hlt⟩
    have hkk := List.mem_of_getElem? hk
    have hkl := G.lt k (sub k hkk)
    obtain ⟨r0, hr0⟩ : ∃ r0, M[k]? = some r0 := ⟨_, List.getElem?_eq_getElem hkl⟩
    rw [show decide ((a : Int) < ((od.map nD).length : Nat)) = true by rw [decide_eq_true_iff, List.length_map]; omega]
    simp only [if_true, w_seq, w_for, w_iseq, w_op, vS, v0, to_ok, mC_eq]
    rw [oGet_lst (b := a) (z := nD k) lw (by rw [List.getElem?_map, hk]; rfl)]
    simp only [to_ok, room_lst (look_app hs1) hr0, roomD, oGet_tup1, itSeq_tup]
    refine for_map r0.2 stepD (fun i σ s2 => ∃ od2 x y, σ = [some (.loc n), some (.loc m), some (.loc s1.length), some (nD a), x, y, none, none, none] ∧ s2 = s1 ++ [.lst (od2.map nD)] ∧ od2.Nodup ∧ (∀ k ∈ od2, k ∈ g) ∧ (∃ t, od2 = od ++ t) ∧
        (∀ i, 0 < i → i < od2.length → ∃ i' k k', i' < i ∧ od2[i']? = some k' ∧ od2[i]? = some k ∧ k ∈ succs M k') ∧ (∀ j ∈ (r0.2.take i).map (·.2), j ∈ g → j ∈ od2))
      ⟨od, x, y, rfl, rfl, nd, sub, ⟨[], by simp⟩, par, by simp⟩ (fun _ _ _ _ => trivial) ?_ ?_
    · rintro i p σ s2 hp ⟨od2, x, y, rfl, rfl, nd2, sub2, ⟨t, ht⟩, par2, hd⟩
      have hsu : p.2 ∈ succs M k := by rw [succs_of hr0]; exact List.mem_map.mpr ⟨p, List.mem_of_getElem? hp, rfl⟩
      have ht' : ∀ od3 : List Nat, (∀ j ∈ od2, j ∈ od3) → (p.2 ∈ g → p.2 ∈ od3) → ∀ j ∈ (r0.2.take (i + 1)).map (·.2), j ∈ g → j ∈ od3 := fun od3 h3 h4 j hj hjg => by
        rw [List.take_add_one, hp, List.map_append, List.mem_append] at hj
        rcases hj with hj | hj
        · exact h3 j (hd j hj hjg)
        · simp at hj; rw [hj] at hjg ⊢; exact h4 hjg
      have lw2 : (s1 ++ [MO.lst (od2.map nD)])[s1.length]? = some (.lst (od2.map nD)) := by simp
      have hg2 : (s1 ++ [MO.lst (od2.map nD)])[m]? = some (.lst (g.map nD)) := look_app hg
      simp only [stepD, w_gT, w_gES, w_gE0, w_gN, List.length_cons, List.length_nil, true_and, List.set_cons_succ, List.set_cons_zero, w_if, w_tand, w_tval, w_op, vS, v0, to_ok]
      rw [show iD p.2 = nD p.2 from rfl, oIn_nat hg2]
      simp only [to_ok, toB_bl]
      by_cases hpg : p.2 ∈ g
      · simp only [hpg, decide_true, if_true, oNotIn_nat lw2, to_ok, toB_bl]
        by_cases hin : p.2 ∈ od2
        · simp only [hin, decide_true, Bool.not_true, Bool.false_eq_true, if_false, w_nx]
          exact ⟨od2, _, _, rfl, rfl, nd2, sub2, ⟨t, ht⟩, par2, ht' od2 (fun _ z => z) fun _ => hin⟩
        · simp only [hin, decide_false, Bool.not_false, if_true, w_exp, w_meth, vS, v0, to_ok, w_argsS, w_args0]
          refine ⟨tyQ_lst lw2, ?_⟩
          have hl2 : od2.length ≤ M.length := nodup_len nd2 fun j hj => G.lt j (sub2 j hj)
          rw [tAppend_lst lw2 (by rw [List.length_map]; omega)]
          simp only [to_ok]
          refine ⟨od2 ++ [p.2], _, _, rfl, by simp, snoc_nodup nd2 hin, ?_, ⟨t ++ [p.2], by rw [ht]; simp⟩, ?_, ht' _ (fun j hj => by simp [hj]) (by simp)⟩
          · intro j hj
            rcases List.mem_append.mp hj with hj | hj
            · exact sub2 j hj
            · simp at hj; rw [hj]; exact hpg
          · intro i h1 h2
            by_cases h3 : i < od2.length
            · obtain ⟨i', k1, k', h4, h5, h6, h7⟩ := par2 i h1 h3
              exact ⟨i', k1, k', h4, by rw [List.getElem?_append_left (by omega)]; exact h5, by rw [List.getElem?_append_left (by omega)]; exact h6, h7⟩
            · have : i = od2.length := by simp at h2; omega
              subst this
              have hao : a < od2.length := by rw [ht]; simp; omega
              refine ⟨a, p.2, k, hao, ?_, by simp, hsu⟩
              rw [List.getElem?_append_left hao, ht, List.getElem?_append_left hlt]; exact hk
      · simp only [hpg, decide_false, Bool.false_eq_true, if_false, w_nx]
        exact ⟨od2, _, _, rfl, rfl, nd2, sub2, ⟨t, ht⟩, par2, ht' od2 (fun _ z => z) fun h => absurd h hpg⟩
    · rintro σ s2 ⟨od2, x, y, rfl, rfl, nd2, sub2, ⟨t, ht⟩, par2, hd⟩
      simp only [w_set, w_op, vS, v0, mC_eq, to_ok, nD, oAdd_int, List.set_cons_succ, List.set_cons_zero]
      refine ⟨M.length - (a + 1), by omega, a + 1, od2, x, y, by simp [nD], rfl, nd2, sub2, ?_, by rw [ht, List.length_append]; omega, fun i hi j hj hjg => ?_, par2, rfl⟩
      · rw [ht, List.getElem?_append_left (by omega)]; exact root
      · rw [ht, List.take_append_of_le_length (by omega), List.take_add_one, hk, List.mem_append] at hi
        rcases hi with hi | hi
        · rw [ht]; exact List.mem_append_left _ (cl i hi j hj hjg)
        · simp at hi
          subst hi
          refine hd j ?_ hjg
          rw [List.take_length, ← succs_of hr0]
          exact hj
  · rw [show decide ((a : Int) < ((od.map nD).length : Nat)) = false by rw [decide_eq_false_iff_not, List.length_map]; omega]
    have : a = od.length := by omega
    subst this
    rw [List.take_length] at cl
    simp only [Bool.false_eq_true, if_false, w_seq, w_set, w_lst, w_args0, w_for, w_iseq, vS, v0, to_ok, List.set_cons_succ, List.set_cons_zero]
    rw [itSeq_lst (look_app lw)]
    simp only [to_ok]
    have hs2 : (s1 ++ [MO.lst (od.map nD)] ++ [MO.lst []])[n]? = some (.lst (M.map roomD)) := look_app (look_app hs1)
    have hg2 : (s1 ++ [MO.lst (od.map nD)] ++ [MO.lst []])[m]? = some (.lst (g.map nD)) := look_app (look_app hg)
    have lw2 := look_app (t := [MO.lst []]) lw
    have hlast : (s1 ++ [MO.lst (od.map nD)] ++ [MO.lst []])[(s1 ++ [MO.lst (od.map nD)]).length]? = some (.lst []) := by simp
    have hfr : Fr [] s (s1 ++ [MO.lst (od.map nD)] ++ [MO.lst []]) := f1.trans (Fr.app.trans .app)
    have hL : s1.length + 1 = (s1 ++ [MO.lst (od.map nD)]).length := by simp
    have hnl := lt_of hs1
    generalize (s1 ++ [MO.lst (od.map nD)]).length = L at hlast hL
    generalize (s1 ++ [MO.lst (od.map nD)] ++ [MO.lst []]) = s2 at hs2 hg2 lw2 hlast hfr
    refine for_map od nD (fun i σ s' => ∃ (M' : Mach) (x4 x5 x7 x8 : Option Dv), σ = [some (.loc n), some (.loc m), some (.loc s1.length), some (nD od.length), x4, x5, some (.loc L), x7, x8] ∧ Fr [L] s2 s' ∧ s'[L]? = some (.lst (M'.map roomD)) ∧ M'.length = i ∧
        ∀ (i' k : Nat) (r : Bool × List (Str × Nat)), i' < i → od[i']? = some k → M[k]? = some r → M'[i']? = some (trR M g od r))
      ⟨[], _, _, _, _, rfl, .refl, hlast, rfl, fun _ _ _ h => absurd h (Nat.not_lt_zero _)⟩ (fun i σ s' ⟨_, _, _, _, _, _, f, _⟩ => ⟨f.get lw2 (by simp; omega), trivial⟩) ?_ ?_
    · rintro i k σ s3 hk ⟨M', x4, x5, x7, x8, rfl, f, hL3, hlen, hat⟩
      have hkk := List.mem_of_getElem? hk
      have hkl := G.lt k (sub k hkk)
      obtain ⟨r0, hr0⟩ : ∃ r0, M[k]? = some r0 := ⟨_, List.getElem?_eq_getElem hkl⟩
      have hs3 : s3[n]? = some (.lst (M.map roomD)) := f.get hs2 (by simp; omega)
      have hg3 : s3[m]? = some (.lst (g.map nD)) := f.get hg2 (by simp; omega)
      have lw3 : s3[s1.length]? = some (.lst (od.map nD)) := f.get lw2 (by simp; omega)
      simp only [w_gN, List.set_cons_succ, List.set_cons_zero, w_seq, w_set, w_lc, w_iseq, w_op, vS, v0, mC_eq, to_ok, room_lst hs3 hr0, roomD, oGet_tup1, itSeq_tup, wipeS, wipe0]
      refine lc_pure r0.2 stepD (fun p => decide (p.2 ∈ g)) (fun p => stepD (p.1, od.idxOf p.2)) trivial ?_ ?_
      · intro p hp
        have hsu : p.2 ∈ succs M k := by rw [succs_of hr0]; exact List.mem_map.mpr ⟨p, hp, rfl⟩
        simp only [stepD, w_gT, w_gES, w_gE0, w_gN, List.length_cons, List.length_nil, true_and, w_tval, w_op, vS, v0, to_ok, List.set_cons_succ, List.set_cons_zero]
        rw [show iD p.2 = nD p.2 from rfl, oIn_nat hg3]
        simp only [to_ok, toB_bl]
        refine ⟨trivial, fun hpg => ?_, fun _ => trivial⟩
        simp only [w_tup, w_argsS, w_args0, w_meth, vS, v0, to_ok]
        refine ⟨tyQ_lst lw3, ?_⟩
        rw [tIndex_nat lw3 (cl k hkk _ hsu (of_decide_eq_true hpg))]
        exact ⟨rfl, rfl⟩
      · rw [List.length_map]
        refine ⟨sm r0 (List.mem_of_getElem? hr0), ?_⟩
        have F : ∀ t, Fr [L] s2 (s3 ++ t) := fun t => f.trans .app
        have hL4 : ∀ t, (s3 ++ t)[L]? = some (.lst (M'.map roomD)) := fun t => look_app hL3
        simp only [w_exp, w_meth, w_argsS, w_args0, w_tup, w_op, w_call, vS, v0, mC_eq, to_ok, List.set_cons_succ, List.set_cons_zero, room_lst (look_app hs3) hr0, roomD, oGet_tup0]
        refine ⟨tyQ_lst (hL4 _), ?_⟩
        rw [bTuple_seq (l := (r0.2.filter fun p => decide (p.2 ∈ g)).map fun p => stepD (p.1, od.idxOf p.2)) (seqOf_lst (by simp))]
        simp only [to_ok]
        have hi : i < od.length := (List.getElem?_eq_some_iff.mp hk).1
        rw [tAppend_lst (hL4 _) (by rw [List.length_map]; omega)]
        simp only [to_ok]
        refine ⟨M' ++ [trR M g od r0], _, _, _, _, rfl, (F _).put (.inl (by simp)), ?_, by simp [hlen], ?_⟩
        · rw [look_put (hL4 _)]
          simp [trR, roomD, Function.comp_def]
        · intro i' k' r h1 h2 h3
          by_cases h4 : i' < i
          · rw [List.getElem?_append_left (by omega)]; exact hat i' k' r h4 h2 h3
          · have : i' = i := by omega
            subst this
            rw [hk] at h2; cases h2
            rw [hr0] at h3; cases h3
            rw [List.getElem?_append_right (by omega), hlen, Nat.sub_self]; rfl
    · rintro σ s3 ⟨M', x4, x5, x7, x8, rfl, f, hL3, hlen, hat⟩
      simp only [w_ret, w_call, w_argsS, w_args0, vS, v0, to_ok]
      rw [bTuple_seq (seqOf_lst hL3)]
      simp only [to_ok]
      refine q _ g od M' ?_ ⟨G, nd, sub, root, cl, par, hlen, fun i k r h1 h2 => hat i k r (List.getElem?_eq_some_iff.mp h1).1 h1 h2⟩
      exact hfr.trans2 f (by have := f1.1; simp; omega)
end
end Mid
namespace Mid
open PySem
noncomputable section
variable {M : Mach} {s s' : Mst} {Q : Dv → Mst → Prop} {p w c : Nat}
theorem trm_room {M M' : Mach} {g od : List Nat} (T : Trm M g od M') {i : Nat} {r' : Bool × List (Str × Nat)} (h : M'[i]? = some r') : ∃ k r, od[i]? = some k ∧ M[k]? = some r ∧ r' = trR M g od r := by
  have hi : i < od.length := by rw [← T.len]; exact (List.getElem?_eq_some_iff.mp h).1
  obtain ⟨k, hk⟩ : ∃ k, od[i]? = some k := ⟨_, List.getElem?_eq_getElem hi⟩
  obtain ⟨r, hr⟩ : ∃ r, M[k]? = some r := ⟨_, List.getElem?_eq_getElem (T.G.lt k (T.sub k (List.mem_of_getElem? hk)))⟩
  have := T.at' i k r hk hr
  rw [h] at this
  exact ⟨k, r, hk, hr, Option.some.inj this⟩
theorem trm_wf {M M' : Mach} {g od : List Nat} (T : Trm M g od M') : Wf M' := by
  intro i j hj
  unfold succs at hj
  cases q : M'[i]? with
  | none => rw [q] at hj; cases hj
  | some r' =>
    rw [q] at hj
    obtain ⟨k, r, hk, hr, rfl⟩ := trm_room T q
    simp only [trR, List.map_map, List.mem_map, List.mem_filter] at hj
    obtain ⟨p, ⟨hp, hpg⟩, e⟩ := hj
    have : p.2 ∈ od := T.cl k (List.mem_of_getElem? hk) _ (by rw [succs_of hr]; exact List.mem_map.mpr ⟨p, hp, rfl⟩) (of_decide_eq_true hpg)
    rw [T.len, ← e]
    exact List.idxOf_lt_length_of_mem this
theorem trm_len {M M' : Mach} {g od : List Nat} (T : Trm M g od M') : 0 < M'.length ∧ M'.length ≤ M.length := by
  rw [T.len]
  exact ⟨(List.getElem?_eq_some_iff.mp T.root).1, nodup_len T.nd fun j hj => T.G.lt j (T.sub j hj)⟩
/-- the steps' signs stand as in xs -/
def Sgn (xs : List Str) (M : Mach) : Prop := ∀ r ∈ M, (r.2.map (·.1)).Sublist xs
theorem trm_sgn {M M' : Mach} {g od : List Nat} {xs : List Str} (T : Trm M g od M') (h : Sgn xs M) : Sgn xs M' := by
  intro r' hr'
  obtain ⟨i, hi⟩ := List.mem_iff_getElem?.mp hr'
  obtain ⟨k, r, hk, hr, rfl⟩ := trm_room T hi
  refine List.Sublist.trans ?_ (h r (List.mem_of_getElem? hr))
  simp only [trR, List.map_map]
  exact List.Sublist.map _ List.filter_sublist
theorem sgn_sok {xs : List Str} (h : Sgn xs M) (hx : ∀ x ∈ xs, PyData.strOk x = true) : Sok M := fun r hr p hp => hx _ ((h r hr).subset (List.mem_map.mpr ⟨p, hp, rfl⟩))
theorem sgn_sml {xs : List Str} (h : Sgn xs M) (hx : xs.length < 2 ^ 24) : Sml M := fun r hr => by
  have := (h r hr).length_le
  rw [List.length_map] at this
  omega
def endIt (M : Mach) : Mach := match M with
  | [] => []
  | r :: m => (true, r.2) :: m
theorem gtrim_ok {n : Nat} (hs : s[n]? = some (.lst (M.map roomD))) (hM : M.length ≤ 1000) (hM0 : 0 < M.length) (sm : Sml M) (wf : Wf M)
    (q : ∀ s' M1 g od M', Fr [] s s' → (M1 = M ∨ M1 = endIt M) → Trm M1 g od M' → Q (mD M') s') : (f_law_gtrim [.loc n] s).to Q := by
  unfold f_law_gtrim
  refine fun_at [some (.loc n), none, none, none, none, none, none, none, none] rfl rfl ?_
  show ((msSeq (msIf (mtVal (mOp oNotIn (mC (.int 0)) (mCall (noE f_law_gto_end) [mVar 0]))) (msSet 0 (mOp oAdd (mLst [mTup [mC (.bl true), mOp oGet (mOp oGet (mVar 0) (mC (.int 0))) (mC (.int 1))]]) (mSlice (mVar 0) (poS (mC (.int 1))) (poN)))) (msNx)) m_trim_rest) [some (.loc n), none, none, none, none, none, none, none, none] s).to _ _ _ _
  simp only [w_seq, w_if, w_tval, w_op, w_call, w_argsS, w_args0, vS, v0, mC_eq, to_ok, w_noE]
  refine gto_end_ok hs hM sm fun m s1 g f1 hm hg G hcb => ?_
  rw [show oNotIn (.int 0) (.loc m) s1 = _ from oNotIn_nat (k := 0) hg]
  simp only [to_ok, toB_bl]
  have hs1 := f1.get hs (by simp)
  by_cases hin : 0 ∈ g
  · simp only [hin, decide_true, Bool.not_true, Bool.false_eq_true, if_false, w_nx]
    have hall : ∀ {g' : List Nat}, GoodR M g' → ClB M g' → 0 ∈ g' := fun G' C' => clb_alv G'.ends C' G.lt (G.alv 0 hin)
    refine trim_rest_ok hs1 hM sm wf (fun s' g' od M' f T => q s' M g' od M' (f1.trans f) (.inl rfl) T) (.inr fun g' G' C' => hall G' C')
  · simp only [hin, decide_false, Bool.not_false, if_true, w_set, w_op, w_lst, w_tup, w_argsS, w_args0, vS, v0, mC_eq, to_ok]
    cases M with
    | nil => simp at hM0
    | cons r0 m0 =>
      have e0 : oGet (.loc n) (.int 0) s1 = .ok (roomD r0) s1 := oGet_lst hs1 (b := 0) rfl
      simp only [e0, to_ok, roomD, oGet_tup1, w_slice, vS, v0, w_poS, w_poN, mC_eq, toI_int]
      have es : ∀ t, slQ (.loc n) (some 1) none (s1 ++ t) = .ok (.loc (s1 ++ t).length) (s1 ++ t ++ [.lst (m0.map roomD)]) := fun t => by
        unfold slQ
        simp only [look_app hs1]
        rw [cutQ_from (by simp)]
        rfl
      rw [es]
      simp only [to_ok]
      rw [oAdd_lst (l := [.tup [.bl true, .tup (r0.2.map stepD)]]) (m := m0.map roomD) (look_app (by simp)) (by simp) (by simp at hM ⊢; omega)]
      simp only [to_ok, List.set_cons_succ, List.set_cons_zero]
      have hwf : Wf (endIt (r0 :: m0)) := by
        intro i j hj
        have : succs (endIt (r0 :: m0)) i = succs (r0 :: m0) i := by
          unfold endIt succs
          cases i <;> rfl
        rw [this] at hj
        exact wf i j hj
      refine trim_rest_ok (M := endIt (r0 :: m0)) (by simp [endIt, roomD]) (by simpa [endIt] using hM) ?_ hwf (fun s' g' od M' f T => q s' _ g' od M' (f1.trans (Fr.app.trans (Fr.app.trans (Fr.app.trans f)))) (.inr rfl) T) (.inl rfl)
      intro r hr
      unfold endIt at hr
      rcases List.mem_cons.mp hr with rfl | hr
      · exact sm r0 (by simp)
      · exact sm r (by simp [hr])
end
end Mid
namespace Mid
open PySem
noncomputable section
variable {M : Mach} {s s' : Mst} {Q : Dv → Mst → Prop} {p w c : Nat}
theorem sub_take {xs ys : List Str} {j : Nat} {x : Str} (h : ys.Sublist (xs.take j)) (hx : xs[j]? = some x) : (ys ++ [x]).Sublist (xs.take (j + 1)) := by
  rw [List.take_add_one, hx]
  exact h.append (List.Sublist.refl _)
theorem sub_skip {xs ys : List Str} {j : Nat} (h : ys.Sublist (xs.take j)) : ys.Sublist (xs.take (j + 1)) := by
  rw [List.take_add_one]
  exact h.trans (List.sublist_append_left _ _)
theorem gmachine_ok {n most : Nat} {sg : List Str} (h : PenR p w c s) (hs : s[n]? = some (.lst (List.map Dv.str sg))) (hnp : n ≠ p ∧ n ≠ w) (hsl : sg.length ≤ 10) (hm : 0 < most) (hm2 : most ≤ 20) (hc : c < 10 ^ 6)
    (q : ∀ s' M1 M0 g od M', Fr [p, w] s s' → PenR p w (c + 5000) s' → M0.length ≤ most → Wf M0 → Sgn (srtS sg) M0 → (M1 = M0 ∨ M1 = endIt M0) → Trm M1 g od M' → Q (mD M') s') : (f_law_gmachine [.loc p, nD most, .loc n] s).to Q := by
  unfold f_law_gmachine
  refine fun_at [some (.loc p), some (nD most), some (.loc n), none, none, none, none, none, none, none] rfl rfl ?_
  unfold m_law_gmachine
  simp only [w_seq, w_set, w_op, w_call, w_argsS, w_args0, vS, v0, mC_eq, to_ok, w_noE]
  refine gdraw_ok h hm (by omega) (by omega) fun s1 r1 f1 h1 hr1 => ?_
  simp only [nD, oAdd_int, to_ok, List.set_cons_succ, List.set_cons_zero, vS, v0]
  have e1 : (1 : Int) + (r1 : Int) = ((1 + r1 : Nat) : Int) := by omega
  rw [e1]
  generalize hmany : 1 + r1 = many
  have hma : 0 < many := by omega
  have hmb : many ≤ most := by omega
  refine gdraw_ok (many := 4) h1 (by decide) (by decide) (by omega) fun s2 r2 f2 h2 hr2 => ?_
  simp only [nD, oAdd_int, to_ok, List.set_cons_succ, List.set_cons_zero, vS, v0]
  refine gdraw_ok (many := 2) h2 (by decide) (by decide) (by omega) fun s3 near f3 h3 hnear => ?_
  simp only [List.set_cons_succ, List.set_cons_zero, w_lst, w_args0, w_for, w_irng1, vS, v0, to_ok, toI_int]
  refine ⟨r62 (by omega), ?_⟩
  rw [Int.toNat_natCast, rng0]
  have F3 := (f1.trans f2).trans f3
  have hpl := h.lt
  have hnl := lt_of hs
  have hL : s.length ≤ s3.length := F3.1
  generalize hLL : s3.length = L at hL ⊢
  have hL0 : (s3 ++ [MO.lst []])[L]? = some (.lst []) := by rw [← hLL]; simp
  have hlen : (srtS sg).length = sg.length := (srtS_perm sg).length_eq
  refine for_map (List.range many) nD (fun i σ s' => ∃ (Mr : Mach) (x7 x8 x9 : Option Dv), σ = [some (.loc p), some (.int most), some (.loc n), some (.int many), some (.int (1 + (r2 : Int))), some (nD near), some (.loc L), x7, x8, x9] ∧ Fr [p, w] s s' ∧ PenR p w (c + 3 + 100 * i) s' ∧ s'[L]? = some (.lst (Mr.map roomD)) ∧ Mr.length = i ∧ Sgn (srtS sg) Mr ∧ (∀ r ∈ Mr, ∀ p ∈ r.2, p.2 < many))
    ⟨[], none, none, none, by simp [nD], F3.trans .app, (h3.fr0 .app).le (by omega), hL0, rfl, by simp [Sgn], by simp⟩ (fun _ _ _ _ => trivial) ?_ ?_
  · rintro i k σ s4 hk ⟨Mr, x7, x8, x9, rfl, f4, h4, hL4, hil, hsg, htg⟩
    obtain ⟨rfl, hk⟩ := range_at hk
    simp only [w_gN, List.set_cons_succ, List.set_cons_zero, w_seq, w_set, w_lst, w_args0, w_for, w_iseq, w_call, w_argsS, vS, v0, to_ok]
    have hs4 : s4[n]? = some (.lst (sg.map .str)) := f4.get hs (by simp; omega)
    rw [bSorted_strs (look_app hs4) (by omega)]
    simp only [to_ok]
    rw [itSeq_lst (l := (srtS sg).map .str) (by simp)]
    simp only [to_ok]
    have hL4' : (s4 ++ [MO.lst []] ++ [MO.lst ((srtS sg).map .str)])[L]? = some (.lst (Mr.map roomD)) := look_app (look_app hL4)
    have f4' : Fr [p, w] s (s4 ++ [MO.lst []] ++ [MO.lst ((srtS sg).map .str)]) := f4.trans (Fr.app.trans .app)
    have h4' : PenR p w (c + 3 + 100 * k) (s4 ++ [MO.lst []] ++ [MO.lst ((srtS sg).map .str)]) := (h4.fr0 .app).fr0 .app
    have hA : (s4 ++ [MO.lst []] ++ [MO.lst ((srtS sg).map .str)])[s4.length]? = some (.lst []) := look_app (by simp)
    have hB : (s4 ++ [MO.lst []] ++ [MO.lst ((srtS sg).map .str)])[(s4 ++ [MO.lst []]).length]? = some (.lst ((srtS sg).map .str)) := by simp
    have hAl : s.length ≤ s4.length := f4.1
    have hLA : L < s4.length := lt_of hL4
    have hBA : (s4 ++ [MO.lst []]).length = s4.length + 1 := by simp
    generalize (s4 ++ [MO.lst []]).length = B at hB hBA ⊢
    generalize (s4 ++ [MO.lst []] ++ [MO.lst ((srtS sg).map .str)]) = s5 at hL4' f4' h4' hA hB ⊢
    generalize s4.length = A at hA hAl hLA hBA ⊢
    refine for_map (srtS sg) Dv.str (fun j σ s' => ∃ (ld : List (Str × Nat)) (x9 : Option Dv), σ = [some (.loc p), some (.int most), some (.loc n), some (.int many), some (.int (1 + (r2 : Int))), some (nD near), some (.loc L), some (nD k), some (.loc A), x9] ∧ Fr [p, w] s s' ∧ PenR p w (c + 3 + 100 * k + 4 * j) s' ∧ s'[L]? = some (.lst (Mr.map roomD)) ∧ s'[A]? = some (.lst (ld.map stepD)) ∧ s'[B]? = some (.lst ((srtS sg).map .str)) ∧ (ld.map (·.1)).Sublist ((srtS sg).take j) ∧ (∀ p ∈ ld, p.2 < many))
      ⟨[], x9, rfl, f4', h4', hL4', hA, hB, by simp, fun _ h => nomatch h⟩ (fun j σ s' ⟨_, _, _, _, _, _, _, hB, _⟩ => ⟨hB, trivial⟩) ?_ ?_
    · rintro j x σ s6 hx ⟨ld, x9, rfl, f6, h6, hL6, hA6, hB6, hsub, htg6⟩
      have hjl : j < 10 := by
        have := (List.getElem?_eq_some_iff.mp hx).1
        omega
      simp only [w_gN, List.set_cons_succ, List.set_cons_zero, w_if, w_tval, w_op, w_call, w_argsS, w_args0, vS, v0, mC_eq, to_ok, w_noE]
      refine gdraw_ok (many := 4) h6 (by decide) (by decide) (by omega) fun s7 r7 f7 h7 hr7 => ?_
      have hL7 := f7.get hL6 (by simp; omega)
      have hA7 := f7.get hA6 (by simp; omega)
      have hB7 := f7.get hB6 (by simp; omega)
      simp only [nD, oLt_int, to_ok, toB_bl]
      by_cases hlt : (r7 : Int) < 1 + (r2 : Int)
      · simp only [hlt, decide_true, if_true, w_exp, w_meth, w_argsS, w_args0, w_tup, w_op, w_lst, w_call, w_noE, vS, v0, mC_eq, to_ok]
        refine ⟨tyQ_lst hA7, ?_⟩
        refine gdraw_ok (many := many) h7 (by omega) (by omega) (by omega) fun s8 r8 f8 h8 hr8 => ?_
        have hkm : k < 2 ^ 20 := by omega
        refine gdraw_ok (many := 2) h8 (by decide) (by decide) (by omega) fun s9 r9 f9 h9 hr9 => ?_
        have f79 := f8.trans f9
        have hL9 := f79.get hL7 (by simp; omega)
        have hA9 := f79.get hA7 (by simp; omega)
        have hB9 := f79.get hB7 (by simp; omega)
        simp only [nD, oAdd_int, to_ok]
        rw [oMod_int (by omega)]
        have e2 : ((k : Int) + (r9 : Int)) % (many : Int) = ((k + r9) % many : Nat) := by rw [Int.natCast_emod, Int.natCast_add]
        rw [e2]
        simp only [to_ok]
        have hpick : ∃ t : Nat, t < many ∧ [Dv.int (r8 : Int), Dv.int (((k + r9) % many : Nat) : Int)][near]? = some (nD t) := by
          rcases near with _ | _ | near
          · exact ⟨r8, hr8, rfl⟩
          · exact ⟨_, Nat.mod_lt _ hma, rfl⟩
          · omega
        obtain ⟨t, ht, hpt⟩ := hpick
        rw [oGet_lst (b := near) (s := s9 ++ [MO.lst [Dv.int (r8 : Int), Dv.int (((k + r9) % many : Nat) : Int)]]) (by simp) hpt]
        simp only [to_ok]
        have hA10 := look_app (t := [MO.lst [Dv.int (r8 : Int), Dv.int (((k + r9) % many : Nat) : Int)]]) hA9
        have hll : ld.length ≤ 10 := by
          have := hsub.length_le
          simp at this
          omega
        rw [tAppend_lst hA10 (by rw [List.length_map]; omega)]
        simp only [to_ok]
        have F : Fr [p, w] s (s9 ++ [MO.lst [Dv.int (r8 : Int), Dv.int (((k + r9) % many : Nat) : Int)]]) := f6.trans (f7.trans (f79.trans .app))
        have hP : PenR p w (c + 3 + 100 * k + 4 * (j + 1)) (s9 ++ [MO.lst [Dv.int (r8 : Int), Dv.int (((k + r9) % many : Nat) : Int)]]) := (h9.fr0 .app).le (by omega)
        refine ⟨ld ++ [(x, t)], _, rfl, F.put (.inr hAl), hP.fr (Fr.refl.put (X := [A]) (.inl (by simp))) (by simp; omega) (by simp; omega), look_ne (look_app hL9) (by omega), ?_, look_ne (look_app hB9) (by omega), ?_, ?_⟩
        · rw [look_put hA10]; simp [stepD, nD, iD]
        · rw [List.map_append]; exact sub_take hsub hx
        · intro y hy
          rcases List.mem_append.mp hy with hy | hy
          · exact htg6 y hy
          · simp at hy; rw [hy]; exact ht
      · simp only [hlt, decide_false, Bool.false_eq_true, if_false, w_nx]
        exact ⟨ld, _, rfl, f6.trans f7, h7.le (by omega), hL7, hA7, hB7, sub_skip hsub, htg6⟩
    · rintro σ s6 ⟨ld, x9, rfl, f6, h6, hL6, hA6, hB6, hsub, htg6⟩
      rw [List.take_length] at hsub
      simp only [w_exp, w_meth, w_argsS, w_args0, w_tup, w_op, w_call, w_noE, vS, v0, mC_eq, to_ok]
      refine ⟨tyQ_lst hL6, ?_⟩
      refine gdraw_ok (many := 3) h6 (by decide) (by decide) (by omega) fun s7 r7 f7 h7 hr7 => ?_
      have hL7 := f7.get hL6 (by simp; omega)
      have hA7 := f7.get hA6 (by simp; omega)
      simp only [nD, oEq_int, to_ok]
      rw [bTuple_seq (seqOf_lst hA7)]
      simp only [to_ok]
      rw [tAppend_lst hL7 (by rw [List.length_map]; omega)]
      simp only [to_ok]
      refine ⟨Mr ++ [(decide ((r7 : Int) = 0), ld)], _, _, _, rfl, (f6.trans f7).put (.inr hL), (h7.fr (Fr.refl.put (X := [L]) (.inl (by simp))) (by simp; omega) (by simp; omega)).le (by omega), by rw [look_put hL7]; simp [roomD], by simp [hil], ?_, ?_⟩
      · intro r hr
        rcases List.mem_append.mp hr with hr | hr
        · exact hsg r hr
        · simp at hr; rw [hr]; exact hsub
      · intro r hr
        rcases List.mem_append.mp hr with hr | hr
        · exact htg r hr
        · simp at hr; rw [hr]; exact htg6
  · rintro σ s4 ⟨Mr, x7, x8, x9, rfl, f4, h4, hL4, hil, hsg, htg⟩
    rw [List.length_range] at hil
    simp only [w_ret, w_call, w_argsS, w_args0, vS, v0, to_ok, w_noE]
    have wf : Wf Mr := fun i j hj => by
      unfold succs at hj
      cases e : Mr[i]? with
      | none => rw [e] at hj; cases hj
      | some r =>
        rw [e] at hj
        obtain ⟨y, hy, e2⟩ := List.mem_map.mp hj
        rw [hil, ← e2]
        exact htg r (List.mem_of_getElem? e) y hy
    refine gtrim_ok hL4 (by omega) (by omega) (sgn_sml hsg (by omega)) wf fun s5 M1 g od M' f5 h5 T => ?_
    refine q s5 M1 Mr g od M' (f4.trans (f5.mono (by simp))) ((h4.fr0 f5).le ?_) (by omega) wf hsg h5 T
    rw [List.length_range]; omega
end
end Mid
namespace Mid
open PySem
noncomputable section
variable {s s' : Mst} {Q : Dv → Mst → Prop} {α : Type} {P P' : Nat → Prop} {x y : Dv}
theorem noN_of {T : String} (h : tyQ x s = T) (hd : T ≠ "dict") : noN x s = true := by
  unfold noN
  cases x with
  | loc n =>
    simp only
    split
    · rename_i o q
      unfold tyQ at h
      simp only [q] at h
      exact absurd h.symm hd
    · rfl
  | _ => rfl
theorem bIsi_of {T n : String} (h : tyQ x s = T) (hk : T ∈ kinds) (ha : n ∈ asked) (hd : T ≠ "dict" := by decide) : bIsi [x, .ty n] s = .ok (.bl (isiQ T n)) s := by
  show (if tyQ x s ∈ kinds ∧ n ∈ asked ∧ noN x s = true then _ else _) = _
  rw [if_pos (by rw [h]; exact ⟨hk, ha, noN_of h hd⟩), h]
/-- gsame finds equal data of a type the same -/
def Same (f : MF) (A : Enc α) (ok : α → Prop) : Prop := ∀ (P P' : Nat → Prop) (s : Mst) (x y : Dv) (a : α) (Q : Dv → Mst → Prop), ok a → A.rep P s x a → A.rep P' s y a → (∀ s', Fr [] s s' → Q (.bl true) s') → (f [x, y] s).to Q
theorem same_nat (n : Nat) : Same (f_law_gsame (n + 1)) .nat (fun _ => True) := by
  rintro P P' s x y a Q - rfl rfl q
  unfold f_law_gsame
  refine fun_at [some (.int a), some (.int a), none, none] rfl rfl ?_
  unfold m_law_gsame
  simp only [w_seq, w_if, w_tval, w_op, w_call, w_argsS, w_args0, vS, v0, mC_eq, to_ok, oIsN_non, isNonQ_int, toB_bl, Bool.false_eq_true, if_false, w_nx, w_ret]
  rw [bIsi_of (T := "int") rfl (by decide) (by decide)]
  simp only [to_ok, toB_bl, show isiQ "int" "bool" = false from rfl, Bool.false_eq_true, if_false]
  rw [bIsi_of (T := "int") rfl (by decide) (by decide)]
  simp only [to_ok, toB_bl, show isiQ "int" "int" = true from rfl, if_true, w_and, w_call, w_argsS, w_args0, vS, v0, mC_eq, w_not, w_op]
  rw [bIsi_of (T := "int") rfl (by decide) (by decide)]
  simp only [to_ok, toB_bl, show isiQ "int" "int" = true from rfl, if_true]
  rw [bIsi_of (T := "int") rfl (by decide) (by decide)]
  simp only [to_ok, toB_bl, show isiQ "int" "bool" = false from rfl, Bool.not_false, if_true, oEq_int, decide_true]
  exact q s .refl
theorem same_bool (n : Nat) : Same (f_law_gsame (n + 1)) .bool (fun _ => True) := by
  rintro P P' s x y a Q - rfl rfl q
  unfold f_law_gsame
  refine fun_at [some (.bl a), some (.bl a), none, none] rfl rfl ?_
  unfold m_law_gsame
  simp only [w_seq, w_if, w_tval, w_op, w_call, w_argsS, w_args0, vS, v0, mC_eq, to_ok, oIsN_non, isNonQ_bl, toB_bl, Bool.false_eq_true, if_false, w_nx, w_ret]
  rw [bIsi_of (T := "bool") rfl (by decide) (by decide)]
  simp only [to_ok, toB_bl, show isiQ "bool" "bool" = true from rfl, if_true, w_and, w_call, w_argsS, w_args0, vS, v0, mC_eq, w_op]
  rw [bIsi_of (T := "bool") rfl (by decide) (by decide)]
  simp only [to_ok, toB_bl, show isiQ "bool" "bool" = true from rfl, if_true, oEq_bl, beq_self_eq_true]
  exact q s .refl
theorem all2_zip {β γ δ : Type} {R : β → γ → Prop} {R' : δ → γ → Prop} {l : List β} {m : List δ} {k : List γ} (h : All2 R l k) (g : All2 R' m k) : ∀ p ∈ l.zip m, ∃ a, a ∈ k ∧ R p.1 a ∧ R' p.2 a := by
  induction h generalizing m with
  | nil => intro p hp; simp at hp
  | cons a _ ih => cases g with
    | cons b g =>
      intro p hp
      rw [List.zip_cons_cons] at hp
      rcases List.mem_cons.mp hp with rfl | hp
      · exact ⟨_, by simp, a, b⟩
      · obtain ⟨z, hz, h⟩ := ih g p hp
        exact ⟨z, by simp [hz], h⟩
theorem same_lst {A : Enc α} {n : Nat} {ok : α → Prop} (hA : Same (f_law_gsame n) A ok) : Same (f_law_gsame (n + 1)) A.lstOf (fun l => l.length < 2 ^ 24 ∧ ∀ a ∈ l, ok a) := by
  rintro P P' s x y l Q ⟨hlen, hok⟩ ⟨i, ds, rfl, hi, hsi, hd⟩ ⟨j, es, rfl, hj, hsj, he⟩ q
  unfold f_law_gsame
  refine fun_at [some (.loc i), some (.loc j), none, none] rfl rfl ?_
  unfold m_law_gsame
  simp only [w_seq, w_if, w_tval, w_tor, w_op, w_call, w_argsS, w_args0, vS, v0, mC_eq, to_ok, oIsN_non, isNonQ_loc, toB_bl, Bool.false_eq_true, if_false, w_nx, w_ret]
  have ti := tyQ_lst hsi
  have tj := tyQ_lst hsj
  have k1 : "list" ∈ kinds := by decide
  simp only [bIsi_of ti k1 (show "bool" ∈ asked by decide), bIsi_of tj k1 (show "bool" ∈ asked by decide), bIsi_of ti k1 (show "int" ∈ asked by decide), bIsi_of tj k1 (show "int" ∈ asked by decide), bIsi_of ti k1 (show "str" ∈ asked by decide), bIsi_of tj k1 (show "str" ∈ asked by decide), bIsi_of ti k1 (show "tuple" ∈ asked by decide), bIsi_of tj k1 (show "tuple" ∈ asked by decide), bIsi_of ti k1 (show "list" ∈ asked by decide), bIsi_of tj k1 (show "list" ∈ asked by decide), to_ok, toB_bl,
    show isiQ "list" "bool" = false from rfl, show isiQ "list" "int" = false from rfl, show isiQ "list" "str" = false from rfl, show isiQ "list" "tuple" = false from rfl, show isiQ "list" "list" = true from rfl, Bool.false_eq_true, if_false, oNe_bl, beq_self_eq_true, Bool.not_true, w_and, w_op, w_call, w_argsS, w_args0, vS, v0, bLen_seq (seqOf_lst hsi), bLen_seq (seqOf_lst hsj), oEq_int]
  rw [show decide ((ds.length : Int) = es.length) = true by rw [decide_eq_true_iff, hd.len, he.len]]
  simp only [if_true, w_lc, w_izip, vS, v0, to_ok]
  refine ⟨false, ds, [(i, ds)], es, [(j, es)], by unfold zipQ; simp only [hsi], by unfold zipQ; simp only [hsj], ?_⟩
  have ez : List.zipWith (fun x y => Dv.ptup [x, y]) ds es = (ds.zip es).map fun p => .ptup [p.1, p.2] := by
    rw [List.map_zip_eq_zipWith]; rfl
  rw [ez]
  simp only [wipeS, wipe0, List.set_cons_succ, List.set_cons_zero]
  refine lc_new (P := noP) .bool (ds.zip es) (fun p => .ptup [p.1, p.2]) (fun _ => true) (fun _ => true) (fun s' f => ⟨f.get hsi (by simp), f.get hsj (by simp), trivial⟩) ?_ ?_
  · intro p hp s' f
    obtain ⟨a, ha, h1, h2⟩ := all2_zip hd he p hp
    simp only [w_gT, w_gTp, w_gES, w_gE0, w_gN, List.length_cons, List.length_nil, true_and, w_tyes, w_call, w_argsS, w_args0, w_noE, vS, v0, to_ok, List.set_cons_succ, List.set_cons_zero]
    refine ⟨.refl, fun _ => ?_⟩
    exact hA _ _ _ _ _ a _ (hok a ha) (A.fr0 h1 f) (A.fr0 h2 f) fun s2 f2 => ⟨f2, rfl⟩
  · intro bs s' f h
    rw [List.length_map, List.length_zip]
    have := hd.len
    refine ⟨by omega, ?_⟩
    have hb : bs = ((ds.zip es).map fun _ => true).map Dv.bl := by
      rw [List.filter_eq_self.mpr fun _ _ => rfl] at h
      exact h.to_map fun _ _ _ _ z => z
    rw [bAll_lst (bs := (ds.zip es).map fun _ => true) (by rw [hb]; simp)]
    simp only [to_ok]
    have : ((ds.zip es).map fun _ => true).all id = true := by simp
    rw [this]
    exact q _ (f.trans .app)
end
end Mid
namespace Mid
open PySem
noncomputable section
variable {M : Mach} {s s' : Mst} {Q : Dv → Mst → Prop} {p w c : Nat}
def endsOf (M : Mach) : List (List (Str × Nat)) := (M.filter (·.1)).map (·.2)
def steadyP (M : Mach) : List (Str × Nat) := match endsOf M with
  | [] => []
  | l :: _ => l.filter fun p => (endsOf M).all fun m => decide (p ∈ m)
def steadyV (M : Mach) : List Str := (steadyP M).map (·.1)
theorem ends_sub {m : List (Str × Nat)} (h : m ∈ endsOf M) : ∃ r ∈ M, m = r.2 := by
  unfold endsOf at h
  obtain ⟨r, hr, e⟩ := List.mem_map.mp h
  exact ⟨r, (List.mem_filter.mp hr).1, e.symm⟩
theorem steady_sok (so : Sok M) : ∀ x ∈ steadyV M, PyData.strOk x = true := by
  intro x hx
  unfold steadyV steadyP at hx
  obtain ⟨p, hp, rfl⟩ := List.mem_map.mp hx
  cases q : endsOf M with
  | nil => rw [q] at hp; cases hp
  | cons l r =>
    rw [q] at hp
    obtain ⟨r', hr', e⟩ := ends_sub (M := M) (m := l) (by rw [q]; simp)
    exact so r' hr' p (by rw [← e]; exact (List.mem_filter.mp hp).1)
def tupsD (m : List (Str × Nat)) : Dv := .tup (m.map stepD)
theorem tups_rep {P : Nat → Prop} {m : List (Str × Nat)} (h : ∀ p ∈ m, PyData.strOk p.1 = true) : (Enc.tupOf STE).rep P s (tupsD m) m := ⟨_, rfl, .of_map fun p hp => ste_rep (h p hp)⟩
theorem steady_ok (so : Sok M) (sm : Sml M) (hM : M.length ≤ 1000) (hne : endsOf M ≠ [])
    (q : ∀ n s', Fr [] s s' → s.length ≤ n → s'[n]? = some (.lst ((steadyV M).map .str)) → Q (.loc n) s') : (f_steady [mD M] s).to Q := by
  unfold f_steady
  refine fun_at [some (mD M), none, none, none, none] rfl rfl ?_
  unfold m_steady
  simp only [w_seq, w_set, w_lc, w_iseq, vS, v0, to_ok, mD, itSeq_tup, wipeS, wipe0, List.set_cons_succ, List.set_cons_zero]
  refine lc_pure M roomD (·.1) (fun r => tupsD r.2) trivial ?_ ?_
  · intro r hr
    simp only [roomD, w_gT, w_gES, w_gE0, w_gN, List.length_cons, List.length_nil, true_and, List.set_cons_succ, List.set_cons_zero, w_tval, vS, v0, to_ok, toB_bl]
    exact ⟨fun _ => ⟨rfl, trivial⟩, fun _ => trivial⟩
  · rw [List.length_map]
    refine ⟨by omega, ?_⟩
    have e1 : (M.filter (·.1)).map (fun r => tupsD r.2) = (endsOf M).map tupsD := by unfold endsOf; rw [List.map_map]; rfl
    rw [e1]
    simp only [w_ret, w_lc, w_iseq, w_op, vS, v0, mC_eq, to_ok]
    have hel : (endsOf M).length ≤ M.length := by
      unfold endsOf; rw [List.length_map]; exact List.length_filter_le _ _
    cases hq : endsOf M with
    | nil => exact absurd hq hne
    | cons l r =>
      obtain ⟨r', hr', el⟩ := ends_sub (M := M) (m := l) (by rw [hq]; simp)
      have hok : ∀ m ∈ endsOf M, ∀ p ∈ m, PyData.strOk p.1 = true := fun m hm p hp => by
        obtain ⟨r', hr', e⟩ := ends_sub hm
        exact so r' hr' p (by rw [← e]; exact hp)
      have hll : l.length < 2 ^ 24 := by rw [el]; exact sm r' hr'
      rw [← hq]
      have hs1 : (s ++ [MO.lst ((endsOf M).map tupsD)])[s.length]? = some (.lst ((endsOf M).map tupsD)) := by simp
      rw [show oGet (.loc s.length) (.int 0) (s ++ [MO.lst ((endsOf M).map tupsD)]) = .ok (tupsD l) _ from oGet_lst (b := 0) hs1 (by rw [hq]; rfl)]
      simp only [to_ok, tupsD, itSeq_tup, wipeS, wipe0, List.set_cons_succ, List.set_cons_zero]
      refine lc_new (P := noP) .str l stepD (fun p => (endsOf M).all fun m => decide (p ∈ m)) (·.1) (fun _ _ => trivial) ?_ ?_
      · intro p hp s2 f2
        have hs2 := f2.get hs1 (by simp)
        have hpo : PyData.strOk p.1 = true := hok l (by rw [hq]; simp) p hp
        simp only [w_gN, List.set_cons_succ, List.set_cons_zero, w_tval, w_call, w_argsS, w_args0, w_lc, w_iseq, vS, v0, to_ok]
        rw [itSeq_lst (l := (endsOf M).map tupsD) hs2]
        simp only [to_ok, wipeS, wipe0, List.set_cons_succ, List.set_cons_zero]
        refine lc_pure (endsOf M) tupsD (fun _ => true) (fun m => .bl (decide (p ∈ m))) ⟨hs2, trivial⟩ ?_ ?_
        · intro m hm
          simp only [w_gN, w_tyes, w_op, vS, v0, to_ok, List.set_cons_succ, List.set_cons_zero]
          rw [oIn_tupE STE (P := noP) (P' := noP) (ste_rep hpo) (tups_rep (hok m hm)) (by decide)]
          exact ⟨trivial, fun _ => ⟨congrArg Dv.bl (decide_eq_decide.mpr Iff.rfl), rfl⟩, fun h => nomatch h⟩
        · rw [List.length_map, List.filter_eq_self.mpr fun _ _ => rfl]
          refine ⟨by omega, ?_⟩
          rw [bAll_lst (bs := (endsOf M).map fun m => decide (p ∈ m)) (by simp)]
          simp only [to_ok, toB_bl, w_op, vS, v0, mC_eq, stepD, oGet_tup0]
          refine ⟨by rw [List.all_map]; rfl, .app, fun _ => ⟨.refl, rfl, hpo⟩⟩
      · intro ds s2 f2 ha
        rw [List.length_map]
        refine ⟨hll, ?_⟩
        have e2 : (l.filter fun p => (endsOf M).all fun m => decide (p ∈ m)).map (·.1) = steadyV M := by
          unfold steadyV steadyP; rw [hq]
        rw [e2] at ha
        rw [str_of ha]
        exact q _ _ (Fr.app.trans (f2.trans .app)) (by have := f2.1; simp at this; omega) (by simp)
def cutV (M : Mach) (sg : List Str) : Mach := M.map fun r => (r.1, r.2.filter fun p => !r.1 || !decide (p.1 ∈ sg))
theorem cut_at {sg : List Str} {k : Nat} : (cutV M sg)[k]? = M[k]?.map fun r => (r.1, r.2.filter fun p => !r.1 || !decide (p.1 ∈ sg)) := by unfold cutV; rw [List.getElem?_map]
theorem cut_len {sg : List Str} : (cutV M sg).length = M.length := by simp [cutV]
theorem cut_mem {sg : List Str} {r : Bool × List (Str × Nat)} (h : r ∈ cutV M sg) : ∃ r0 ∈ M, r.1 = r0.1 ∧ r.2.Sublist r0.2 := by
  unfold cutV at h
  obtain ⟨r0, h0, rfl⟩ := List.mem_map.mp h
  exact ⟨r0, h0, rfl, List.filter_sublist⟩
theorem cut_sok {sg : List Str} (so : Sok M) : Sok (cutV M sg) := fun r hr p hp => by
  obtain ⟨r0, h0, _, hs⟩ := cut_mem hr
  exact so r0 h0 p (hs.subset hp)
theorem cut_sml {sg : List Str} (sm : Sml M) : Sml (cutV M sg) := fun r hr => by
  obtain ⟨r0, h0, _, hs⟩ := cut_mem hr
  exact Nat.lt_of_le_of_lt hs.length_le (sm r0 h0)
theorem cut_wf {sg : List Str} (wf : Wf M) : Wf (cutV M sg) := fun i j hj => by
  rw [cut_len]
  refine wf i j ?_
  unfold succs at hj ⊢
  rw [cut_at] at hj
  cases q : M[i]? with
  | none => rw [q] at hj; cases hj
  | some r =>
    rw [q] at hj
    obtain ⟨p, hp, e⟩ := List.mem_map.mp hj
    exact List.mem_map.mpr ⟨p, (List.mem_filter.mp hp).1, e⟩
theorem cut_rest_ok {n : Nat} {sg : List Str} {R : Dv → Mst → Prop} {x3 x4 x5 : Option Dv} (hs : s[n]? = some (.lst (sg.map .str))) (hso : ∀ x ∈ sg, PyData.strOk x = true) (so : Sok M) (sm : Sml M) (hM : M.length ≤ 1000) (q : ∀ s', Fr [] s s' → R (mD (cutV M sg)) s') :
    (msSeq (msSet 2 (mLst []))
    (msSeq (msFor (miSeq (mVar 0)) (gT [gN 3, gN 4]) (msExp (mMeth "list" tAppend (mVar 2) [mTup [mVar 3, mCall bTuple [mLc (miSeq (mVar 4)) (gN 5) (mtOr (mtNot (mtVal (mVar 3))) (mtVal (mOp oNotIn (mOp oGet (mVar 5) (mC (.int 0))) (mVar 1)))) (mVar 5) [5]]]])))
    (msRet (mCall bTuple [mVar 2]))) [some (mD M), some (.loc n), none, x3, x4, x5] s).to (fun _ s => R .non s) R (fun _ _ => False) (fun _ _ => False) := by
  simp only [w_seq, w_set, w_lst, w_args0, w_for, w_iseq, vS, v0, to_ok, List.set_cons_succ, List.set_cons_zero]
  rw [mD, itSeq_tup]
  simp only [to_ok]
  have hnl := lt_of hs
  refine for_map M roomD (fun i σ s' => ∃ x3 x4 x5, σ = [some (mD M), some (.loc n), some (.loc s.length), x3, x4, x5] ∧ Fr [] s s' ∧ s'[s.length]? = some (.lst (((cutV M sg).take i).map roomD)))
    ⟨_, _, _, rfl, .app, by simp⟩ (fun _ _ _ _ => trivial) ?_ ?_
  · rintro i r σ s2 hr ⟨x3, x4, x5, rfl, f, hl⟩
    have hrm := List.mem_of_getElem? hr
    simp only [roomD, w_gT, w_gES, w_gE0, w_gN, List.length_cons, List.length_nil, true_and, List.set_cons_succ, List.set_cons_zero, w_exp, w_meth, w_argsS, w_args0, w_tup, w_call, w_lc, w_iseq, vS, v0, to_ok, itSeq_tup, wipeS, wipe0]
    refine ⟨tyQ_lst hl, ?_⟩
    have hs2 := f.get hs (by simp)
    refine lc_pure r.2 stepD (fun p => !r.1 || !decide (p.1 ∈ sg)) stepD trivial ?_ ?_
    · intro p hp
      simp only [w_gN, w_tor, w_tnot, w_tval, w_op, vS, v0, mC_eq, to_ok, toB_bl, stepD, oGet_tup0, List.set_cons_succ, List.set_cons_zero, oNotIn_str hs2 (so r hrm p hp) hso]
      cases r.1 with
      | true => simp [stepD]
      | false => simp [stepD]
    · rw [List.length_map]
      refine ⟨sm r hrm, ?_⟩
      rw [bTuple_seq (l := (r.2.filter fun p => !r.1 || !decide (p.1 ∈ sg)).map stepD) (seqOf_lst (by simp))]
      simp only [to_ok]
      have hi := (List.getElem?_eq_some_iff.mp hr).1
      rw [tAppend_lst (look_app hl) (by rw [List.length_map, List.length_take]; omega)]
      simp only [to_ok]
      refine ⟨_, _, _, rfl, (f.trans .app).put (.inr (Nat.le_refl _)), ?_⟩
      rw [look_put (look_app hl), List.take_add_one, cut_at, hr]
      simp [roomD]
  · rintro σ s2 ⟨x3, x4, x5, rfl, f, hl⟩
    simp only [w_ret, w_call, w_argsS, w_args0, vS, v0, to_ok]
    rw [bTuple_seq (seqOf_lst hl)]
    simp only [to_ok]
    rw [List.take_of_length_le (by rw [cut_len]; exact Nat.le_refl _)]
    exact q _ f
theorem cut_machine_ok (so : Sok M) (sm : Sml M) (hM : M.length ≤ 1000) (hne : endsOf M ≠ []) (q : ∀ s', Fr [] s s' → Q (mD (cutV M (steadyV M))) s') : (f_cut_machine [mD M] s).to Q := by
  unfold f_cut_machine
  refine fun_at [some (mD M), none, none, none, none, none] rfl rfl ?_
  unfold m_cut_machine
  rw [w_seq, w_set]
  simp only [w_call, w_argsS, w_args0, vS, v0, to_ok, w_noE]
  refine steady_ok so sm hM hne fun n s1 f1 hn hs1 => ?_
  exact cut_rest_ok hs1 (steady_sok so) so sm hM fun s2 f2 => q s2 (f1.trans f2)
abbrev cutM (M : Mach) : Mach := cutV M (steadyV M)
theorem cut_orbits_ok (wf : Wf M) (so : Sok M) (sm : Sml M) (hM : M.length ≤ 1000) (hne : endsOf M ≠ [])
    (q : ∀ d s', Fr [] s s' → NLL.rep (fun n => n < s.length) s' d (orbs (cutM M) M.length) → Q d s') : (f_cut_orbits [mD M] s).to Q := by
  unfold f_cut_orbits
  refine fun_at [some (mD M)] rfl rfl ?_
  unfold m_cut_orbits
  simp only [w_ret, w_call, w_argsS, w_args0, vS, v0, to_ok, w_noE]
  refine cut_machine_ok so sm hM hne fun s1 f1 => ?_
  refine orbits_ok (cut_wf wf) (by rw [cut_len]; exact hM) fun d s2 f2 h => ?_
  rw [cut_len] at h
  exact q d s2 (f1.trans f2) (NLL.mono h fun n hn => .inl (Nat.lt_of_lt_of_le hn f1.1))
theorem cut_gates_ok {o : List Nat} {n : Nat} (ho : s[n]? = some (.lst (o.map nD))) (hk : ∀ k ∈ o, k < M.length) (so : Sok M) (sm : Sml M) (hM : M.length ≤ 1000) (hne : endsOf M ≠ []) (hl : o.length < 2 ^ 24)
    (q : ∀ d s', Fr [] s s' → NL.rep (fun n => n < s.length) s' d (o.filter (gateB (cutM M) o)) → Q d s') : (f_cut_gates [mD M, .loc n] s).to Q := by
  unfold f_cut_gates
  refine fun_at [some (mD M), some (.loc n)] rfl rfl ?_
  unfold m_cut_gates
  simp only [w_ret, w_call, w_argsS, w_args0, vS, v0, to_ok, w_noE]
  refine cut_machine_ok so sm hM hne fun s1 f1 => ?_
  exact gates_ok (f1.get ho (by simp)) (by rw [cut_len]; exact hk) (cut_sml sm) (cut_sok so) hl fun d s2 f2 h => q d s2 (f1.trans f2) (NL.mono h fun n hn => .inl (Nat.lt_of_lt_of_le hn f1.1))
end
end Mid
namespace Mid
open PySem
noncomputable section
variable {M : Mach} {s s' : Mst} {Q : Dv → Mst → Prop} {p w c : Nat}
theorem srtS_self {l : List Str} (h : l.Pairwise leS) : srtS l = l := perm_one leS_anti (srtS_perm l) (srtS_rising l) h
/-- each room's signs rise -/
def Srt (M : Mach) : Prop := ∀ r ∈ M, (r.2.map (·.1)).Pairwise fun x y => leS x y ∧ x ≠ y
theorem srt_of {sg : List Str} (h : Sgn (srtS sg) M) (nd : sg.Nodup) : Srt M := fun r hr => by
  have h1 : (srtS sg).Pairwise fun x y => leS x y ∧ x ≠ y := (srtS_rising sg).and ((srtS_perm sg).nodup_iff.mpr nd)
  exact h1.sublist (h r hr)
def goalV (m : List (Str × Nat)) (x : Str) : List Nat := (m.filter fun p => decide (p.1 = x)).map (·.2)
theorem goal_of {m : List (Str × Nat)} {a : Str × Nat} (nd : (m.map (·.1)).Nodup) (h : a ∈ m) : goalV m a.1 = [a.2] := by
  induction m with
  | nil => cases h
  | cons b r ih =>
    rw [List.map_cons, List.nodup_cons] at nd
    have none : ∀ x, x ∉ r.map (·.1) → goalV r x = [] := fun x hx => by
      unfold goalV
      rw [List.filter_eq_nil_iff.mpr fun y hy => ?_]
      · rfl
      · rw [decide_eq_true_iff]
        rintro rfl
        exact hx (List.mem_map.mpr ⟨y, hy, rfl⟩)
    rcases List.mem_cons.mp h with rfl | h
    · have : goalV (a :: r) a.1 = a.2 :: goalV r a.1 := by simp [goalV]
      rw [this, none _ nd.1]
    · have hne : b.1 ≠ a.1 := fun e => nd.1 (by rw [e]; exact List.mem_map.mpr ⟨a, h, rfl⟩)
      have : goalV (b :: r) a.1 = goalV r a.1 := by simp [goalV, hne]
      rw [this]
      exact ih nd.2 h
theorem goal_iff {l m : List (Str × Nat)} {a : Str × Nat} (ndl : (l.map (·.1)).Nodup) (ndm : (m.map (·.1)).Nodup) (h : a ∈ l) : goalV m a.1 = goalV l a.1 ↔ a ∈ m := by
  rw [goal_of ndl h]
  constructor
  · intro e
    have : a.2 ∈ goalV m a.1 := by rw [e]; simp
    unfold goalV at this
    obtain ⟨b, hb, e2⟩ := List.mem_map.mp this
    rw [List.mem_filter, decide_eq_true_iff] at hb
    have : b = a := Prod.ext hb.2 e2
    rw [← this]; exact hb.1
  · exact goal_of ndm
theorem ggoal_ok {m : List (Str × Nat)} {x : Str} (hm : ∀ p ∈ m, PyData.strOk p.1 = true) (hx : PyData.strOk x = true) (hl : m.length < 2 ^ 24)
    (q : ∀ d s', Fr [] s s' → NL.rep (fun n => n < s.length) s' d (goalV m x) → Q d s') : (f_law_ggoal [tupsD m, .str x] s).to Q := by
  unfold f_law_ggoal
  refine fun_at [some (tupsD m), some (.str x), none, none] rfl rfl ?_
  unfold m_law_ggoal
  simp only [w_ret, w_lc, w_iseq, vS, v0, to_ok, tupsD, itSeq_tup, wipeS, wipe0, List.set_cons_succ, List.set_cons_zero]
  refine lc_pure m stepD (fun p => decide (p.1 = x)) (fun p => nD p.2) trivial ?_ ?_
  · intro a ha
    simp only [stepD, w_gT, w_gES, w_gE0, w_gN, List.length_cons, List.length_nil, true_and, w_tval, w_op, vS, v0, to_ok, List.set_cons_succ, List.set_cons_zero]
    rw [oEq_enc Enc.str (P := noP) (P' := noP) ⟨rfl, hm a ha⟩ ⟨rfl, hx⟩ (by decide)]
    simp only [to_ok, toB_bl]
    exact ⟨trivial, fun _ => ⟨rfl, trivial⟩, fun _ => trivial⟩
  · rw [List.length_map]
    refine ⟨hl, q _ _ .app (nl_iff.mpr ⟨_, rfl, by omega, ?_⟩)⟩
    unfold goalV
    rw [List.map_map]
    simp [Function.comp_def]
end
end Mid
namespace Mid
open PySem
noncomputable section
variable {M : Mach} {s s' : Mst} {Q : Dv → Mst → Prop} {p w c : Nat}
structure GM (xs : List Str) (M : Mach) : Prop where
  wf : Wf M
  sgn : Sgn xs M
  ends : endsOf M ≠ []
  pos : 0 < M.length
  le : M.length ≤ 9
theorem alv_mem {g : List Nat} {k : Nat} (h : Alv M g k) : k ∈ g := by cases h <;> assumption
theorem alv_end {M' : Mach} {g od : List Nat} (T : Trm M g od M') {k : Nat} (h : Alv M g k) (hk : k ∈ od) : ∃ e ∈ od, endB M e = true := by
  induction h with
  | fin a b => exact ⟨_, hk, b⟩
  | step a b c ih => exact ih (T.cl _ hk _ b (alv_mem c))
theorem endB_mem {k : Nat} (h : endB M k = true) : ∃ r, M[k]? = some r ∧ r.1 = true := by
  unfold endB at h
  cases q : M[k]? with
  | none => rw [q] at h; cases h
  | some r => rw [q] at h; exact ⟨r, rfl, h⟩
theorem ends_ne {k : Nat} {r : Bool × List (Str × Nat)} (h : M[k]? = some r) (e : r.1 = true) : endsOf M ≠ [] := by
  intro z
  have : r.2 ∈ endsOf M := by
    unfold endsOf
    exact List.mem_map.mpr ⟨r, List.mem_filter.mpr ⟨List.mem_of_getElem? h, e⟩, rfl⟩
  rw [z] at this; cases this
theorem gm_of {M' : Mach} {g od : List Nat} {xs : List Str} (T : Trm M g od M') (h : Sgn xs M) (hl : M.length ≤ 9) : GM xs M' := by
  have h0 := List.mem_of_getElem? T.root
  obtain ⟨e, he, heb⟩ := alv_end T (T.G.alv 0 (T.sub 0 h0)) h0
  obtain ⟨r, hr, hr1⟩ := endB_mem heb
  obtain ⟨i, hi⟩ := List.mem_iff_getElem?.mp he
  obtain ⟨h1, h2⟩ := trm_len T
  exact ⟨trm_wf T, trm_sgn T h, ends_ne (T.at' i e r hi hr) hr1, h1, by omega⟩
theorem endIt_len : (endIt M).length = M.length := by cases M <;> rfl
theorem endIt_sgn {xs : List Str} (h : Sgn xs M) : Sgn xs (endIt M) := by
  cases M with
  | nil => exact h
  | cons r m => exact fun r' hr' => (List.mem_cons.mp hr').elim (fun e => by rw [e]; exact h r (by simp)) fun h' => h r' (by simp [h'])
end
end Mid
namespace Mid
open PySem
noncomputable section
variable {M : Mach} {s s' : Mst} {Q : Dv → Mst → Prop} {p w c : Nat}
theorem lt_ext {l m : List Nat} (hl : l.Pairwise (· < ·)) (hm : m.Pairwise (· < ·)) (h : ∀ j, j ∈ l ↔ j ∈ m) : l = m :=
  perm_one (r := (· ≤ ·)) (fun _ _ => Nat.le_antisymm) ((List.perm_ext_iff_of_nodup (hl.imp Nat.ne_of_lt) (hm.imp Nat.ne_of_lt)).mpr h) (hl.imp Nat.le_of_lt) (hm.imp Nat.le_of_lt)
def genR (x : Str) (many : Nat) (e : Nat → Bool) : Mach := (List.range many).map fun k => (e k, [(x, (k + 1) % many)])
section
variable {x : Str} {many : Nat} {e : Nat → Bool}
theorem gen_len : (genR x many e).length = many := by simp [genR]
theorem gen_at {k : Nat} (h : k < many) : (genR x many e)[k]? = some (e k, [(x, (k + 1) % many)]) := by
  unfold genR; rw [List.getElem?_map, List.getElem?_range h]; rfl
theorem gen_none {k : Nat} (h : many ≤ k) : (genR x many e)[k]? = none := List.getElem?_eq_none (by rw [gen_len]; exact h)
theorem gen_wf (h : 0 < many) : Wf (genR x many e) := fun i j hj => by
  rw [gen_len]
  unfold succs at hj
  by_cases hi : i < many
  · rw [gen_at hi] at hj
    simp at hj; rw [hj]; exact Nat.mod_lt _ h
  · rw [gen_none (by omega)] at hj; cases hj
theorem gen_mem {r : Bool × List (Str × Nat)} (h : r ∈ genR x many e) : ∃ k, r = (e k, [(x, (k + 1) % many)]) := by
  unfold genR at h
  obtain ⟨k, _, rfl⟩ := List.mem_map.mp h
  exact ⟨k, rfl⟩
theorem gen_sml : Sml (genR x many e) := fun r hr => by
  obtain ⟨k, rfl⟩ := gen_mem hr
  rw [List.length_singleton]; omega
theorem gen_sok (hx : PyData.strOk x = true) : Sok (genR x many e) := fun r hr q hq => by
  obtain ⟨k, rfl⟩ := gen_mem hr
  simp at hq; rw [hq]; exact hx
theorem gen_ends : endsOf (genR x many e) = ((List.range many).filter e).map fun k => [(x, (k + 1) % many)] := by
  unfold endsOf genR
  rw [List.filter_map, List.map_map]; rfl
theorem gen_in {k : Nat} (hk : k < many) (he : e k = true) : [(x, (k + 1) % many)] ∈ endsOf (genR x many e) := by
  rw [gen_ends]; exact List.mem_map.mpr ⟨k, List.mem_filter.mpr ⟨List.mem_range.mpr hk, he⟩, rfl⟩
theorem steadyP_in {a : Str × Nat} (h : a ∈ steadyP M) : ∀ m ∈ endsOf M, a ∈ m := by
  unfold steadyP at h
  cases q : endsOf M with
  | nil => exact fun m hm => nomatch hm
  | cons l r =>
    rw [q] at h
    have := (List.mem_filter.mp h).2
    rw [List.all_eq_true] at this
    exact fun m hm => of_decide_eq_true (this m hm)
theorem cutV_nil : cutV M [] = M := by
  unfold cutV
  conv => rhs; rw [← List.map_id M]
  refine List.map_congr_left fun r _ => ?_
  rw [List.filter_eq_self.mpr fun p _ => by simp]; rfl
/-! one end -/
abbrev oneM (x : Str) (many : Nat) : Mach := genR x many fun k => decide (k = many - 1)
theorem one_steady (h : 0 < many) : steadyP (oneM x many) = [(x, 0)] := by
  have h1 : (List.range many).filter (fun k => decide (k = many - 1)) = [many - 1] := by
    refine lt_ext (List.pairwise_lt_range.filter _) (by simp) fun j => ?_
    rw [List.mem_filter, List.mem_range, decide_eq_true_iff, List.mem_singleton]; omega
  have h2 : endsOf (oneM x many) = [[(x, 0)]] := by
    rw [gen_ends, h1, List.map_singleton]
    have : (many - 1 + 1) % many = 0 := by
      rw [show many - 1 + 1 = many by omega, Nat.mod_self]
    rw [this]
  unfold steadyP
  rw [h2]
  simp
theorem one_cut {k : Nat} (h : 0 < many) (hk : k < many) : (cutM (oneM x many))[k]? = some (decide (k = many - 1), if k = many - 1 then [] else [(x, k + 1)]) := by
  unfold cutM
  rw [cut_at, gen_at hk]
  have : steadyV (oneM x many) = [x] := by unfold steadyV; rw [one_steady h]; rfl
  rw [this]
  by_cases e : k = many - 1
  · simp [e]
  · have : (k + 1) % many = k + 1 := Nat.mod_eq_of_lt (by omega)
    simp [e, this]
theorem one_succ (h : 0 < many) {i j : Nat} (hj : j ∈ succs (cutM (oneM x many)) i) : j = i + 1 := by
  unfold succs at hj
  by_cases hi : i < many
  · rw [one_cut h hi] at hj
    by_cases e : i = many - 1
    · simp [e] at hj
    · simp [e] at hj; exact hj
  · rw [List.getElem?_eq_none (by rw [cut_len, gen_len]; omega)] at hj; cases hj
theorem one_rch (h : 0 < many) {i j : Nat} (g : Rch (cutM (oneM x many)) i j) : i ≤ j := by
  induction g with
  | refl => exact Nat.le_refl _
  | tail _ b ih => have := one_succ h b; omega
theorem one_eqv (h : 0 < many) {i j : Nat} : eqvB (cutM (oneM x many)) i j = true ↔ i = j := by
  rw [eqvB_iff]
  constructor
  · rintro ⟨a, b⟩
    have := one_rch h a
    have := one_rch h b
    omega
  · rintro rfl; exact ⟨.refl _, .refl _⟩
theorem one_orbs (h : 0 < many) : orbs (cutM (oneM x many)) many = (List.range many).map fun k => [k] := by
  unfold orbs
  rw [List.filter_eq_self.mpr fun k _ => root_iff.mpr fun j hj => by
    cases q : eqvB (cutM (oneM x many)) j k with
    | false => rfl
    | true => have := (one_eqv h).mp q; omega]
  refine List.map_congr_left fun k hk => ?_
  have hk := List.mem_range.mp hk
  refine lt_ext (List.pairwise_lt_range.filter _) (by simp) fun j => ?_
  rw [mem_orbit, one_eqv h, cut_len, gen_len, List.mem_singleton]; omega
theorem one_gate (h : 0 < many) {k : Nat} (hk : k < many) : [k].filter (gateB (cutM (oneM x many)) [k]) = [k] := by
  have : gateB (cutM (oneM x many)) [k] k = true := by
    unfold gateB loV
    rw [one_cut h hk]
    by_cases e : k = many - 1
    · simp [e]
    · simp [e]
  simp [this]
theorem one_even (h : 0 < many) {k : Nat} (hk : k < many) : evenV (cutM (oneM x many)) [k] = true := by
  unfold evenV
  rw [one_gate h hk]; rfl
/-! two ends -/
abbrev twoM (x : Str) (many en : Nat) : Mach := genR x many fun k => decide (k = 0) || decide (k = en)
theorem two_steady {en : Nat} (h : 3 ≤ many) (h1 : 0 < en) (h2 : en < many) : steadyV (twoM x many en) = [] := by
  unfold steadyV
  cases q : steadyP (twoM x many en) with
  | nil => rfl
  | cons a r =>
    have ha : a ∈ steadyP (twoM x many en) := by rw [q]; simp
    have g0 := steadyP_in ha _ (gen_in (k := 0) (by omega) (by simp))
    have g1 := steadyP_in ha _ (gen_in (k := en) h2 (by simp))
    rw [List.mem_singleton] at g0 g1
    rw [g0] at g1
    simp only [Prod.mk.injEq, true_and, Nat.zero_add] at g1
    rw [Nat.mod_eq_of_lt (show 1 < many by omega)] at g1
    by_cases e : en + 1 < many
    · rw [Nat.mod_eq_of_lt e] at g1; omega
    · rw [show en + 1 = many by omega, Nat.mod_self] at g1; omega
theorem two_cut {en : Nat} (h : 3 ≤ many) (h1 : 0 < en) (h2 : en < many) : cutM (twoM x many en) = twoM x many en := by
  unfold cutM; rw [two_steady h h1 h2, cutV_nil]
theorem gen_fw (h : 0 < many) {i j : Nat} (hij : i ≤ j) (hj : j < many) : Rch (genR x many e) i j := by
  induction j with
  | zero =>
    have : i = 0 := by omega
    rw [this]; exact .refl _
  | succ j ih =>
    by_cases q : i = j + 1
    · rw [q]; exact .refl _
    · refine .tail (ih (by omega) (by omega)) ?_
      rw [succs_of (gen_at (by omega))]
      simp [Nat.mod_eq_of_lt hj]
theorem gen_all (h : 0 < many) {i j : Nat} (hi : i < many) (hj : j < many) : Rch (genR x many e) i j := by
  refine ((gen_fw h (Nat.le_sub_one_of_lt hi) (by omega)).tail (k := 0) ?_).trans (gen_fw h (Nat.zero_le _) hj)
  rw [succs_of (gen_at (by omega))]
  rw [show many - 1 + 1 = many by omega, Nat.mod_self]; simp
theorem gen_orbs (h : 0 < many) : orbs (genR x many e) many = [List.range many] := by
  have ev : ∀ i j, i < many → j < many → eqvB (genR x many e) i j = true := fun i j hi hj => eqvB_iff.mpr ⟨gen_all h hi hj, gen_all h hj hi⟩
  have h1 : (List.range many).filter (rootB (genR x many e)) = [0] := by
    refine lt_ext (List.pairwise_lt_range.filter _) (by simp) fun j => ?_
    rw [List.mem_filter, List.mem_range, root_iff, List.mem_singleton]
    constructor
    · rintro ⟨a, b⟩
      refine Classical.byContradiction fun z => ?_
      have := b 0 (by omega)
      rw [ev 0 j h a] at this; cases this
    · rintro rfl; exact ⟨h, fun _ z => absurd z (Nat.not_lt_zero _)⟩
  unfold orbs
  rw [h1, List.map_singleton]
  congr 1
  refine lt_ext (List.pairwise_lt_range.filter _) List.pairwise_lt_range fun j => ?_
  rw [mem_orbit, gen_len, List.mem_range]
  exact ⟨fun a => a.1, fun a => ⟨a, ev 0 j h a⟩⟩
theorem gen_lo (h : 0 < many) {k : Nat} (hk : k < many) : loV (genR x many e) (List.range many) k = (e k, []) := by
  unfold loV
  rw [gen_at hk]
  have : (k + 1) % many < many := Nat.mod_lt _ h
  simp [this]
theorem two_gates {en : Nat} (h1 : 0 < en) (h2 : en < many) : (List.range many).filter (gateB (twoM x many en) (List.range many)) = [0, en] := by
  refine lt_ext (List.pairwise_lt_range.filter _) (by simp [h1]) fun j => ?_
  rw [List.mem_filter, List.mem_range]
  constructor
  · rintro ⟨a, b⟩
    unfold gateB at b
    rw [gen_lo (by omega) a] at b
    simp at b
    simpa using b
  · intro hj
    have hjm : j < many := by simp at hj; omega
    refine ⟨hjm, ?_⟩
    unfold gateB
    rw [gen_lo (by omega) hjm]
    simp at hj ⊢
    exact hj
theorem two_even {en : Nat} (h1 : 0 < en) (h2 : en < many) : evenV (twoM x many en) (List.range many) = true := by
  unfold evenV
  rw [two_gates h1 h2]
  simp [gen_lo (show 0 < many by omega) (show 0 < many by omega), gen_lo (show 0 < many by omega) h2]
end
/-! the same, for texts and for lists of two kinds -/
theorem same_str (n : Nat) : Same (f_law_gsame (n + 1)) .str (fun _ => True) := by
  rintro P P' s x y a Q - ⟨rfl, ha⟩ ⟨rfl, _⟩ q
  unfold f_law_gsame
  refine fun_at [some (.str a), some (.str a), none, none] rfl rfl ?_
  unfold m_law_gsame
  simp only [w_seq, w_if, w_tval, w_op, w_call, w_argsS, w_args0, vS, v0, mC_eq, to_ok, oIsN_non, isNonQ_str, toB_bl, Bool.false_eq_true, if_false, w_nx, w_ret]
  have k1 : "str" ∈ kinds := by decide
  have t1 : tyQ (.str a) s = "str" := rfl
  simp only [bIsi_of t1 k1 (show "bool" ∈ asked by decide), bIsi_of t1 k1 (show "int" ∈ asked by decide), bIsi_of t1 k1 (show "str" ∈ asked by decide), to_ok, toB_bl, show isiQ "str" "bool" = false from rfl, show isiQ "str" "int" = false from rfl, show isiQ "str" "str" = true from rfl, Bool.false_eq_true, if_false, if_true, w_and, w_call, w_op, w_argsS, w_args0, vS, v0, mC_eq]
  rw [oEq_enc Enc.str (P := noP) (P' := noP) ⟨rfl, ha⟩ ⟨rfl, ha⟩ (by decide)]
  simp only [to_ok, decide_true]
  exact q s .refl
theorem same_two {α β : Type} {A : Enc α} {B : Enc β} {n : Nat} {okA : α → Prop} {okB : β → Prop} (hA : Same (f_law_gsame n) A okA) (hB : Same (f_law_gsame n) B okB) : Same (f_law_gsame (n + 1)) (A.two B) (fun l => okA l.1 ∧ okB l.2) := by
  rintro P P' s x y l Q ⟨hok1, hok2⟩ ⟨i, d1, d2, rfl, hi, hsi, r1, r2⟩ ⟨j, e1, e2, rfl, hj, hsj, u1, u2⟩ q
  unfold f_law_gsame
  refine fun_at [some (.loc i), some (.loc j), none, none] rfl rfl ?_
  unfold m_law_gsame
  simp only [w_seq, w_if, w_tval, w_tor, w_op, w_call, w_argsS, w_args0, vS, v0, mC_eq, to_ok, oIsN_non, isNonQ_loc, toB_bl, Bool.false_eq_true, if_false, w_nx, w_ret]
  have ti := tyQ_lst hsi
  have tj := tyQ_lst hsj
  have k1 : "list" ∈ kinds := by decide
  simp only [bIsi_of ti k1 (show "bool" ∈ asked by decide), bIsi_of tj k1 (show "bool" ∈ asked by decide), bIsi_of ti k1 (show "int" ∈ asked by decide), bIsi_of tj k1 (show "int" ∈ asked by decide), bIsi_of ti k1 (show "str" ∈ asked by decide), bIsi_of tj k1 (show "str" ∈ asked by decide), bIsi_of ti k1 (show "tuple" ∈ asked by decide), bIsi_of tj k1 (show "tuple" ∈ asked by decide), bIsi_of ti k1 (show "list" ∈ asked by decide), bIsi_of tj k1 (show "list" ∈ asked by decide), to_ok, toB_bl,
    show isiQ "list" "bool" = false from rfl, show isiQ "list" "int" = false from rfl, show isiQ "list" "str" = false from rfl, show isiQ "list" "tuple" = false from rfl, show isiQ "list" "list" = true from rfl, Bool.false_eq_true, if_false, oNe_bl, beq_self_eq_true, Bool.not_true, w_and, w_op, w_call, w_argsS, w_args0, vS, v0, bLen_seq (seqOf_lst hsi), bLen_seq (seqOf_lst hsj), oEq_int, List.length_cons, List.length_nil, decide_true]
  simp only [if_true, w_lc, w_izip, vS, v0, to_ok]
  refine ⟨false, [d1, d2], [(i, [d1, d2])], [e1, e2], [(j, [e1, e2])], by unfold zipQ; simp only [hsi], by unfold zipQ; simp only [hsj], ?_⟩
  simp only [wipeS, wipe0, List.set_cons_succ, List.set_cons_zero]
  refine lc_new (P := noP) .bool [(d1, e1, true), (d2, e2, false)] (fun p => .ptup [p.1, p.2.1]) (fun _ => true) (fun _ => true) (fun s' f => ⟨f.get hsi (by simp), f.get hsj (by simp), trivial⟩) ?_ ?_
  · intro p hp s' f
    simp only [w_gT, w_gTp, w_gES, w_gE0, w_gN, List.length_cons, List.length_nil, true_and, w_tyes, w_call, w_argsS, w_args0, w_noE, vS, v0, to_ok, List.set_cons_succ, List.set_cons_zero]
    refine ⟨.refl, fun _ => ?_⟩
    rcases List.mem_cons.mp hp with rfl | hp
    · exact hA _ _ _ _ _ l.1 _ hok1 (A.fr0 r1 f) (A.fr0 u1 f) fun s2 f2 => ⟨f2, rfl⟩
    · simp at hp; subst hp
      exact hB _ _ _ _ _ l.2 _ hok2 (B.fr0 r2 f) (B.fr0 u2 f) fun s2 f2 => ⟨f2, rfl⟩
  · intro bs s' f h
    have hb : bs = [true, true].map Dv.bl := h.to_map fun _ _ _ _ z => z
    refine ⟨by simp, ?_⟩
    rw [bAll_lst (bs := [true, true]) (by rw [hb]; simp)]
    exact q _ (f.trans .app)
end
end Mid
namespace Mid
open PySem
noncomputable section
variable {M : Mach} {s s' : Mst} {Q : Dv → Mst → Prop} {p w c : Nat}
theorem same_sl : Same (f_law_gsame 7) SL (fun l => l.length < 2 ^ 24 ∧ ∀ a ∈ l, True) := same_lst (same_str 5)
theorem same_nll7 : Same (f_law_gsame 7) NLL (fun l => l.length < 2 ^ 24 ∧ ∀ a ∈ l, a.length < 2 ^ 24 ∧ ∀ b ∈ a, True) := same_lst (same_lst (same_nat 4))
theorem same_sn : Same (f_law_gsame 8) (SL.two NLL) (fun l => (l.1.length < 2 ^ 24 ∧ ∀ a ∈ l.1, True) ∧ (l.2.length < 2 ^ 24 ∧ ∀ a ∈ l.2, a.length < 2 ^ 24 ∧ ∀ b ∈ a, True)) := same_two same_sl same_nll7
end
end Mid
namespace Mid
open PySem
noncomputable section
variable {M : Mach} {f g c : Nat → Nat}
/-! ### rooms by classes -/
def stepsOf (M : Mach) (k : Nat) : List (Str × Nat) := match M[k]? with
  | some r => r.2
  | none => []
theorem steps_of {k : Nat} {r : Bool × List (Str × Nat)} (h : M[k]? = some r) : stepsOf M k = r.2 := by unfold stepsOf; rw [h]
def sig (M : Mach) (f : Nat → Nat) (k : Nat) : List (Str × Nat) := (stepsOf M k).map fun p => (p.1, f p.2)
/-- rooms of one class end alike and lead alike -/
def Stb (M : Mach) (f : Nat → Nat) : Prop := ∀ x y, x < M.length → y < M.length → f x = f y → endB M x = endB M y ∧ sig M f x = sig M f y
/-- .. and no wider classes are so -/
def Coa (M : Mach) (f : Nat → Nat) : Prop := ∀ g, Stb M g → ∀ x y, x < M.length → y < M.length → g x = g y → f x = f y
/-- the first room of a class -/
def cn (f : Nat → Nat) (x : Nat) : Nat := ((List.range (x + 1)).find? fun y => decide (f y = f x)).getD x
theorem cn_spec (f : Nat → Nat) (x : Nat) : cn f x ≤ x ∧ f (cn f x) = f x ∧ ∀ y, y < cn f x → f y ≠ f x := by
  unfold cn
  cases e : (List.range (x + 1)).find? fun y => decide (f y = f x) with
  | none =>
    rw [List.find?_eq_none] at e
    exact absurd (decide_eq_true rfl) (e x (by simp))
  | some y =>
    have h1 := List.find?_some e
    have h2 := List.mem_of_find?_eq_some e
    simp only [List.mem_range, decide_eq_true_eq] at h1 h2
    refine ⟨by simp; omega, by simpa using h1, fun z hz hf => ?_⟩
    simp only [Option.getD_some] at hz
    rw [List.find?_range_eq_some] at e
    have := e.2.2 z hz
    simp [hf] at this
theorem cn_of {x y : Nat} (hy : y ≤ x) (h1 : f y = f x) (h2 : ∀ z, z < y → f z ≠ f x) : cn f x = y := by
  obtain ⟨a, b, d⟩ := cn_spec f x
  rcases Nat.lt_trichotomy (cn f x) y with h | h | h
  · exact absurd b (h2 _ h)
  · exact h
  · exact absurd h1 (d _ h)
theorem cn_eq {x y : Nat} (h : f x = f y) : cn f x = cn f y := by
  obtain ⟨a, b, d⟩ := cn_spec f x
  obtain ⟨a', b', d'⟩ := cn_spec f y
  rcases Nat.lt_trichotomy (cn f x) (cn f y) with q | q | q
  · exact absurd (b.trans h) (d' _ q)
  · exact q
  · exact absurd (b'.trans h.symm) (d _ q)
theorem cn_iff {x y : Nat} : cn f x = cn f y ↔ f x = f y := ⟨fun h => by rw [← (cn_spec f x).2.1, h, (cn_spec f y).2.1], cn_eq⟩
theorem cn_idem {x : Nat} : cn f (cn f x) = cn f x := cn_eq (cn_spec f x).2.1
theorem cn_same {n x : Nat} (h : ∀ x y, x < n → y < n → (f x = f y ↔ g x = g y)) (hx : x < n) : cn f x = cn g x := by
  obtain ⟨a, b, d⟩ := cn_spec g x
  exact cn_of a ((h _ _ (by omega) hx).mpr b) fun z hz e => d z hz ((h _ _ (by omega) hx).mp e)
theorem idxOf_le_at {l : List Nat} {a j : Nat} (h : l[j]? = some a) : l.idxOf a ≤ j := by
  induction l generalizing j with
  | nil => cases h
  | cons b r ih =>
    rw [List.idxOf_cons]
    by_cases e : b = a
    · simp [e]
    · have : (b == a) = false := by simpa using e
      rw [this]
      cases j with
      | zero => simp at h; exact absurd h e
      | succ j => simp at h; have := ih h; simp; omega
theorem idx_cn {n x : Nat} (hx : x < n) : ((List.range n).map f).idxOf (f x) = cn f x := by
  obtain ⟨a, b, d⟩ := cn_spec f x
  have hl : cn f x < ((List.range n).map f).length := by simp; omega
  have h1 : ((List.range n).map f).idxOf (f x) ≤ cn f x := idxOf_le_at (by rw [List.getElem?_eq_getElem hl]; simp [b])
  have h2 : ((List.range n).map f).idxOf (f x) < ((List.range n).map f).length := by omega
  have h3 : f (((List.range n).map f).idxOf (f x)) = f x := by
    have h4 := List.getElem_idxOf h2
    rw [List.getElem_map, List.getElem_range] at h4
    exact h4
  rcases Nat.lt_or_eq_of_le h1 with q | q
  · exact absurd h3 (d _ q)
  · exact q
theorem stb_cn (h : Stb M f) (wf : Wf M) : Stb M (cn f) := fun x y hx hy e => by
  obtain ⟨h1, h2⟩ := h x y hx hy (cn_iff.mp e)
  refine ⟨h1, ?_⟩
  have q : ∀ z, sig M (cn f) z = (sig M f z).map fun p => (p.1, ((List.range M.length).map f).idxOf p.2) := fun z => by
    unfold sig
    rw [List.map_map]
    refine List.map_congr_left fun p hp => ?_
    have : p.2 < M.length := by
      unfold stepsOf at hp
      cases e : M[z]? with
      | none => rw [e] at hp; cases hp
      | some r => rw [e] at hp; exact wf z p.2 (by rw [succs_of e]; exact List.mem_map.mpr ⟨p, hp, rfl⟩)
    simp [idx_cn this]
  rw [q, q, h2]
/-! ### numbered as they are met -/
def addNew (o ts : List Nat) : List Nat := ts.foldl (fun o t => if t ∈ o then o else o ++ [t]) o
theorem addNew_snoc (o ts : List Nat) (t : Nat) : addNew o (ts ++ [t]) = if t ∈ addNew o ts then addNew o ts else addNew o ts ++ [t] := by unfold addNew; rw [List.foldl_append]; rfl
theorem addNew_pre (o ts : List Nat) : o <+: addNew o ts := by
  unfold addNew
  induction ts generalizing o with
  | nil => exact List.prefix_refl _
  | cons t r ih =>
    rw [List.foldl_cons]
    refine List.IsPrefix.trans ?_ (ih _)
    split
    · exact List.prefix_refl _
    · exact List.prefix_append _ _
theorem addNew_mem {o ts : List Nat} {x : Nat} : x ∈ addNew o ts ↔ x ∈ o ∨ x ∈ ts := by
  unfold addNew
  induction ts generalizing o with
  | nil => simp
  | cons t r ih =>
    rw [List.foldl_cons, ih]
    by_cases h : t ∈ o
    · rw [if_pos h]
      constructor
      · rintro (q | q)
        · exact .inl q
        · exact .inr (List.mem_cons_of_mem _ q)
      · rintro (q | q)
        · exact .inl q
        · rcases List.mem_cons.mp q with rfl | q
          · exact .inl h
          · exact .inr q
    · rw [if_neg h]; simp [or_assoc]
theorem addNew_nd {o ts : List Nat} (h : o.Nodup) : (addNew o ts).Nodup := by
  unfold addNew
  induction ts generalizing o with
  | nil => exact h
  | cons t r ih =>
    rw [List.foldl_cons]
    refine ih ?_
    split
    · exact h
    · rename_i q; exact snoc_nodup h q
/-- the classes met when i rooms are gone through -/
def ordN (M : Mach) (c : Nat → Nat) : Nat → List Nat
  | 0 => [c 0]
  | i + 1 => match (ordN M c i)[i]? with
    | some x => addNew (ordN M c i) ((stepsOf M x).map fun p => c p.2)
    | none => ordN M c i
def entN (M : Mach) (c : Nat → Nat) (i : Nat) : Bool × List (Str × Nat) := match (ordN M c i)[i]? with
  | some x => (endB M x, (stepsOf M x).map fun p => (p.1, (ordN M c (i + 1)).idxOf (c p.2)))
  | none => (false, [])
def IsNum (M : Mach) (c : Nat → Nat) (r : Mach) : Prop := ∃ L, (ordN M c L).length ≤ L ∧ (∀ i, i < L → i < (ordN M c i).length) ∧ r = (List.range L).map (entN M c)
theorem isNum_one {r r' : Mach} (h : IsNum M c r) (h' : IsNum M c r') : r = r' := by
  obtain ⟨L, a, b, rfl⟩ := h
  obtain ⟨L', a', b', rfl⟩ := h'
  rcases Nat.lt_trichotomy L L' with q | q | q
  · exact absurd (b' _ q) (by omega)
  · rw [q]
  · exact absurd (b _ q) (by omega)
theorem ord_step {i x : Nat} (h : (ordN M c i)[i]? = some x) : ordN M c (i + 1) = addNew (ordN M c i) ((stepsOf M x).map fun p => c p.2) := by
  show (match (ordN M c i)[i]? with | some x => _ | none => _) = _
  rw [h]
theorem steps_lt (wf : Wf M) {k : Nat} {p : Str × Nat} (hp : p ∈ stepsOf M k) : p.2 < M.length := by
  unfold stepsOf at hp
  cases e : M[k]? with
  | none => rw [e] at hp; cases hp
  | some r => rw [e] at hp; exact wf k p.2 (by rw [succs_of e]; exact List.mem_map.mpr ⟨p, hp, rfl⟩)
theorem ord_nd (i : Nat) : (ordN M c i).Nodup := by
  induction i with
  | zero => simp [ordN]
  | succ i ih =>
    unfold ordN
    split
    · exact addNew_nd ih
    · exact ih
theorem ord_ok (wf : Wf M) (h0 : 0 < M.length) (hc : ∀ x, x < M.length → c x < M.length ∧ c (c x) = c x) (i : Nat) : ∀ x ∈ ordN M c i, x < M.length ∧ c x = x := by
  induction i with
  | zero => intro x hx; simp [ordN] at hx; subst hx; exact hc 0 h0
  | succ i ih =>
    unfold ordN
    split
    · intro x hx
      rcases addNew_mem.mp hx with q | q
      · exact ih x q
      · obtain ⟨p, hp, rfl⟩ := List.mem_map.mp q
        exact hc _ (steps_lt wf hp)
    · exact ih
theorem isNum_congr {c' : Nat → Nat} {r : Mach} (wf : Wf M) (h0 : 0 < M.length) (h : ∀ x, x < M.length → c x = c' x) (hr : IsNum M c r) : IsNum M c' r := by
  have ms : ∀ x, ((stepsOf M x).map fun p => c p.2) = (stepsOf M x).map fun p => c' p.2 := fun x => List.map_congr_left fun p hp => h _ (steps_lt wf hp)
  have o : ∀ i, ordN M c i = ordN M c' i := fun i => by
    induction i with
    | zero => simp [ordN, h 0 h0]
    | succ i ih => unfold ordN; rw [ih]; split <;> simp [ms]
  have e : ∀ i, entN M c i = entN M c' i := fun i => by
    unfold entN
    rw [o i, o (i + 1)]
    split
    · rename_i x _
      congr 1
      exact List.map_congr_left fun p hp => by rw [h _ (steps_lt wf hp)]
    · rfl
  obtain ⟨L, a, b, rfl⟩ := hr
  exact ⟨L, by rw [← o]; exact a, fun i hi => by rw [← o]; exact b i hi, List.map_congr_left fun i _ => e i⟩
/-- two ways to the least machine -/
theorem least_same {r r' : Mach} (wf : Wf M) (h0 : 0 < M.length) (sf : Stb M f) (cf : Coa M f) (sg : Stb M g) (cg : Coa M g) (h : IsNum M (cn f) r) (h' : IsNum M (cn g) r') : r = r' := by
  refine isNum_one (isNum_congr wf h0 (fun x hx => cn_same (n := M.length) (fun x y hx hy => ⟨cg f sf x y hx hy, cf g sg x y hx hy⟩) hx) h) h'
end
end Mid
namespace Mid
open PySem
noncomputable section
variable {M : Mach} {E hs ks : List (List Nat)} {ho : Nat → Nat}
/-! ### heaps of rooms, cut -/
theorem sub_len {α : Type} [DecidableEq α] {l m : List α} (nd : l.Nodup) (h : ∀ x ∈ l, x ∈ m) : l.length ≤ m.length := by
  induction l generalizing m with
  | nil => simp
  | cons a r ih =>
    rw [List.nodup_cons] at nd
    have ha := h a (by simp)
    have := ih (m := m.erase a) nd.2 fun x hx => (List.mem_erase_of_ne (fun e => nd.1 (by rw [← e]; exact hx))).mpr (h x (by simp [hx]))
    rw [List.length_erase_of_mem ha] at this
    have : 0 < m.length := List.length_pos_of_mem ha
    simp; omega
def Hit (M : Mach) (s : Str) (K : List Nat) (x : Nat) : Prop := ∃ z ∈ K, (s, z) ∈ stepsOf M x
def Clo (M : Mach) (K : List Nat) : Prop := ∀ g, Stb M g → ∀ x y, x < M.length → y < M.length → g x = g y → x ∈ K → y ∈ K
def StW (M : Mach) (ho : Nat → Nat) (B : List Nat) : Prop := ∀ s x y, x < M.length → y < M.length → ho x = ho y → Hit M s B x → Hit M s B y
structure HPs (M : Mach) (E hs : List (List Nat)) (ho : Nat → Nat) (ks : List (List Nat)) : Prop where
  mem : ∀ b h, hs[b]? = some h → ∀ x, x ∈ h ↔ x < M.length ∧ ho x = b
  lt : ∀ x, x < M.length → ho x < hs.length
  nd : ∀ h ∈ hs, h.Nodup
  ne : ∀ h ∈ hs, h ≠ []
  kn : ∀ k ∈ ks, k.Nodup ∧ ∀ x ∈ k, x < M.length
  cl : ∀ k ∈ ks, Clo M k
  co : Coa M ho
  en : ∀ x y, x < M.length → y < M.length → ho x = ho y → endB M x = endB M y
  st : ∀ h ∈ hs, h ∈ ks ∨ h ∈ E ∨ StW M ho h
theorem sig_hit {g : Nat → Nat} {x y : Nat} {s : Str} {K : List Nat} (wf : Wf M) (sg : Stb M g) (cK : ∀ x y, x < M.length → y < M.length → g x = g y → x ∈ K → y ∈ K) (hx : x < M.length) (hy : y < M.length) (e : g x = g y) (h : Hit M s K x) : Hit M s K y := by
  obtain ⟨z, hz, hs⟩ := h
  have q : (s, g z) ∈ sig M g y := by
    rw [← (sg x y hx hy e).2]
    exact List.mem_map.mpr ⟨_, hs, rfl⟩
  obtain ⟨p, hp, e2⟩ := List.mem_map.mp q
  obtain ⟨s', z'⟩ := p
  simp only [Prod.mk.injEq] at e2
  obtain ⟨rfl, e2⟩ := e2
  exact ⟨z', cK z z' (steps_lt wf hs) (steps_lt wf hp) e2.symm hz, hp⟩
theorem hit_clo {s : Str} {K : List Nat} (wf : Wf M) (cK : Clo M K) {g : Nat → Nat} (sg : Stb M g) {x y : Nat} (hx : x < M.length) (hy : y < M.length) (e : g x = g y) (h : Hit M s K x) : Hit M s K y :=
  sig_hit wf sg (cK g sg) hx hy e h
theorem HPs.fine {ho' : Nat → Nat} {B : List Nat} (h : StW M ho B) (f : ∀ x y, x < M.length → y < M.length → ho' x = ho' y → ho x = ho y) : StW M ho' B := fun s x y hx hy e => h s x y hx hy (f x y hx hy e)
theorem HPs.at_ (H : HPs M E hs ho ks) {x : Nat} (hx : x < M.length) : ∃ h, hs[ho x]? = some h ∧ x ∈ h := by
  have := H.lt x hx
  exact ⟨_, List.getElem?_eq_getElem this, (H.mem _ _ (List.getElem?_eq_getElem this) x).mpr ⟨hx, rfl⟩⟩
/-- a heap is parted -/
theorem HPs.part (H : HPs M E hs ho ks) {b : Nat} {h A : List Nat} (hb : hs[b]? = some h) (nA : A.Nodup) (A0 : A ≠ []) (sub : ∀ x ∈ A, x ∈ h) (hl : A.length < h.length) (cA : Clo M A) :
    HPs M E (hs.set b (h.filter fun x => !decide (x ∈ A)) ++ [A]) (fun x => if x ∈ A then hs.length else ho x) (ks ++ [h.filter fun x => !decide (x ∈ A)] ++ [A]) := by
  have bl : b < hs.length := (List.getElem?_eq_some_iff.mp hb).1
  have hm := H.mem b h hb
  have hin : h ∈ hs := List.mem_of_getElem? hb
  have nh := H.nd h hin
  have hB : ∀ x, x ∈ (h.filter fun x => !decide (x ∈ A)) ↔ x ∈ h ∧ x ∉ A := fun x => by simp [List.mem_filter]
  have fin : ∀ x y, x < M.length → y < M.length → (if x ∈ A then hs.length else ho x) = (if y ∈ A then hs.length else ho y) → ho x = ho y := fun x y hx hy e => by
    have h1 := H.lt x hx
    have h2 := H.lt y hy
    by_cases a : x ∈ A <;> by_cases c : y ∈ A
    · rw [((hm x).mp (sub x a)).2, ((hm y).mp (sub y c)).2]
    · rw [if_pos a, if_neg c] at e; omega
    · rw [if_neg a, if_pos c] at e; omega
    · rw [if_neg a, if_neg c] at e; exact e
  have cB : Clo M (h.filter fun x => !decide (x ∈ A)) := fun g sg x y hx hy e hxB => by
    rw [hB] at hxB ⊢
    have h1 : ho x = ho y := H.co g sg x y hx hy e
    refine ⟨(hm y).mpr ⟨hy, by rw [← h1]; exact ((hm x).mp hxB.1).2⟩, fun z => hxB.2 (cA g sg y x hy hx e.symm z)⟩
  refine ⟨fun b' h' hb' x => ?_, fun x hx => ?_, fun h' hh' => ?_, fun h' hh' => ?_, fun k hk => ?_, fun k hk => ?_, fun g sg x y hx hy e => ?_, fun x y hx hy e => H.en x y hx hy (fin x y hx hy e), fun h' hh' => ?_⟩
  · rw [List.getElem?_append] at hb'
    rw [List.length_set] at hb'
    split at hb'
    · rename_i hlt
      rw [List.getElem?_set] at hb'
      split at hb'
      · rename_i eb
        subst eb
        cases hb'
        rw [hB, hm]
        by_cases a : x ∈ A
        · rw [if_pos a]
          exact ⟨fun z => absurd a z.2, fun z => by omega⟩
        · rw [if_neg a]
          exact ⟨fun z => z.1, fun z => ⟨z, a⟩⟩
      · rename_i eb
        rw [H.mem b' h' hb' x]
        by_cases a : x ∈ A
        · rw [if_pos a]
          have := ((hm x).mp (sub x a)).2
          exact ⟨fun z => by omega, fun z => by omega⟩
        · rw [if_neg a]
    · rename_i hge
      have e0 : b' - hs.length = 0 := by
        have := (List.getElem?_eq_some_iff.mp hb').1
        simp at this; omega
      rw [e0] at hb'
      cases hb'
      have eb : b' = hs.length := by omega
      subst eb
      by_cases a : x ∈ A
      · rw [if_pos a]; exact ⟨fun _ => ⟨((hm x).mp (sub x a)).1, rfl⟩, fun _ => a⟩
      · rw [if_neg a]
        exact ⟨fun z => absurd z a, fun z => by have := H.lt x z.1; omega⟩
  · rw [List.length_append, List.length_set, List.length_singleton]
    have := H.lt x hx
    split <;> omega
  · rcases List.mem_append.mp hh' with q | q
    · rcases List.mem_or_eq_of_mem_set q with q | rfl
      · exact H.nd _ q
      · exact nh.filter _
    · rw [List.mem_singleton.mp q]; exact nA
  · rcases List.mem_append.mp hh' with q | q
    · rcases List.mem_or_eq_of_mem_set q with q | rfl
      · exact H.ne _ q
      · intro z
        have all : ∀ x ∈ h, x ∈ A := fun x hx => Classical.byContradiction fun n => by
          have := (hB x).mpr ⟨hx, n⟩
          rw [z] at this; cases this
        have : h.length ≤ A.length := sub_len nh all
        omega
    · rw [List.mem_singleton.mp q]; exact A0
  · rw [List.append_assoc] at hk
    rcases List.mem_append.mp hk with q | q
    · exact H.kn k q
    · simp at q
      rcases q with rfl | rfl
      · exact ⟨nh.filter _, fun x hx => ((hm x).mp ((hB x).mp hx).1).1⟩
      · exact ⟨nA, fun x hx => ((hm x).mp (sub x hx)).1⟩
  · rw [List.append_assoc] at hk
    rcases List.mem_append.mp hk with q | q
    · exact H.cl k q
    · simp at q
      rcases q with rfl | rfl
      · exact cB
      · exact cA
  · have h1 : ho x = ho y := H.co g sg x y hx hy e
    show (if x ∈ A then hs.length else ho x) = (if y ∈ A then hs.length else ho y)
    by_cases a : x ∈ A
    · rw [if_pos a, if_pos (cA g sg x y hx hy e a)]
    · rw [if_neg a, if_neg fun z => a (cA g sg y x hy hx e.symm z)]
      exact h1
  · rcases List.mem_append.mp hh' with q | q
    · rcases List.mem_or_eq_of_mem_set q with q | rfl
      · rcases H.st _ q with z | z | z
        · exact .inl (by simp [z])
        · exact .inr (.inl z)
        · exact .inr (.inr (HPs.fine z fin))
      · exact .inl (by simp)
    · rw [List.mem_singleton.mp q]; exact .inl (by simp)
/-- no more heaps than rooms -/
theorem HPs.few (H : HPs M E hs ho ks) : hs.length ≤ M.length := by
  have h1 : ((List.range hs.length).map fun b => ((hs[b]?).getD []).headD 0).Nodup := by
    have key : ∀ b, b < hs.length → ∃ x, ((hs[b]?).getD []).headD 0 = x ∧ x < M.length ∧ ho x = b := fun b hb => by
      have e := List.getElem?_eq_getElem hb
      have hn := H.ne _ (List.getElem_mem hb)
      rw [e, Option.getD_some]
      cases q : hs[b] with
      | nil => exact absurd q hn
      | cons x r => exact ⟨x, rfl, (H.mem b _ e x).mp (by rw [q]; simp)⟩
    rw [List.Nodup, List.pairwise_map]
    refine (List.pairwise_lt_range (n := hs.length)).imp_of_mem fun {a b} ha hb hab e => ?_
    rw [List.mem_range] at ha hb
    obtain ⟨x, e1, _, e2⟩ := key a ha
    obtain ⟨y, e3, _, e4⟩ := key b hb
    rw [e1, e3] at e
    subst e
    omega
  have h2 := nodup_len (n := M.length) h1 fun j hj => by
    obtain ⟨b, hb, rfl⟩ := List.mem_map.mp hj
    rw [List.mem_range] at hb
    have e := List.getElem?_eq_getElem hb
    have hn := H.ne _ (List.getElem_mem hb)
    rw [e, Option.getD_some]
    cases q : hs[b] with
    | nil => exact absurd q hn
    | cons x r => exact ((H.mem b _ e x).mp (by rw [q]; simp)).1
  simpa using h2
/-- no knives left -/
theorem HPs.done (H : HPs M [] hs ho []) (wf : Wf M) (sr : Srt M) : Stb M ho ∧ Coa M ho := by
  refine ⟨fun x y hx hy e => ⟨H.en x y hx hy e, ?_⟩, H.co⟩
  have sub : ∀ x y, x < M.length → y < M.length → ho x = ho y → ∀ p ∈ sig M ho x, p ∈ sig M ho y := fun x y hx hy e p hp => by
    obtain ⟨⟨s, z⟩, hz, rfl⟩ := List.mem_map.mp hp
    obtain ⟨B, hB, hzB⟩ := H.at_ (steps_lt wf hz)
    have hst : StW M ho B := by
      rcases H.st B (List.mem_of_getElem? hB) with q | q | q
      · cases q
      · cases q
      · exact q
    obtain ⟨z', hz', hs'⟩ := hst s x y hx hy e ⟨z, hzB, hz⟩
    have : ho z' = ho z := ((H.mem _ _ hB z').mp hz').2
    exact List.mem_map.mpr ⟨(s, z'), hs', by simp [this]⟩
  have srt : ∀ x, x < M.length → (sig M ho x).Pairwise fun p q => leS p.1 q.1 ∧ p.1 ≠ q.1 := fun x hx => by
    have e := List.getElem?_eq_getElem hx
    have h1 := sr _ (List.getElem_mem hx)
    unfold sig
    rw [steps_of e, List.pairwise_map]
    rw [List.pairwise_map] at h1
    exact h1
  have nd : ∀ x, x < M.length → (sig M ho x).Nodup := fun x hx => (srt x hx).imp fun h z => h.2 (by rw [z])
  refine perm_one (r := fun p q => leS p.1 q.1 ∧ p.1 ≠ q.1) (fun p q h g => absurd (leS_anti _ _ h.1 g.1) h.2) ?_ (srt x hx) (srt y hy)
  exact (List.perm_ext_iff_of_nodup (nd x hx) (nd y hy)).mpr fun p => ⟨sub x y hx hy e p, sub y x hy hx e.symm p⟩
end
end Mid
namespace Mid
open PySem
noncomputable section
variable {s s' : Mst} {Q : Dv → Mst → Prop} {p c w h o k n : Nat} {hs ks : List (List Nat)} {ho : Nat → Nat} {D : List Nat}
/-! ### the object of heaps -/
def heapFs (c w h o k : Nat) : List (Str × Dv) := [("comers", .loc c), ("words", .loc w), ("heaps", .loc h), ("heap_of", .loc o), ("knives", .loc k)]
def P3 (h o k : Nat) : Nat → Prop := fun l => l = h ∨ l = o ∨ l = k
/-- the keys of a dict of rooms -/
def Rks (n : Nat) (od : List (KeyQ × Dv)) : Prop := (od.map (·.1)).Nodup ∧ ∀ q ∈ od.map (·.1), ∃ x : Nat, x < n ∧ q = Sum.inl (x : Int)
theorem rks_len {od : List (KeyQ × Dv)} (r : Rks n od) : od.length ≤ n := by
  have := sub_len (m := (List.range n).map fun x : Nat => (Sum.inl (x : Int) : KeyQ)) r.1 fun q hq => by
    obtain ⟨x, hx, rfl⟩ := r.2 q hq
    exact List.mem_map.mpr ⟨x, List.mem_range.mpr hx, rfl⟩
  simpa using this
theorem rks_put {od : List (KeyQ × Dv)} {x : Nat} {v : Dv} (r : Rks n od) (hx : x < n) : Rks n (kput od (Sum.inl (x : Int)) v) :=
  ⟨kput_nd r.1, fun q hq => by
    rcases mem_kput.mp hq with rfl | hq
    · exact ⟨x, hx, rfl⟩
    · exact r.2 q hq⟩
theorem inl_nat {x y : Nat} : ((Sum.inl (x : Int) : KeyQ) = Sum.inl (y : Int)) ↔ x = y := by simp only [Sum.inl.injEq]; omega
structure HS (s : Mst) (p c w h o k : Nat) (hs : List (List Nat)) (ho : Nat → Nat) (D : List Nat) (ks : List (List Nat)) (n : Nat) : Prop where
  ob : s[p]? = some (.ins 0 (heapFs c w h o k))
  hp : ∃ hd, s[h]? = some (.lst hd) ∧ All2 (NL.rep (P3 h o k) s) hd hs
  of_ : ∃ od, s[o]? = some (.dK od) ∧ Rks n od ∧ ∀ x ∈ D, kval od (Sum.inl (x : Int)) = some (nD (ho x))
  kn : ∃ kd, s[k]? = some (.lst kd) ∧ All2 (NL.rep (P3 h o k) s) kd ks
  hk : h ≠ k
theorem HS.ne (H : HS s p c w h o k hs ho D ks n) : p ≠ h ∧ p ≠ o ∧ p ≠ k ∧ h ≠ o ∧ o ≠ k := by
  obtain ⟨hd, e1, _⟩ := H.hp
  obtain ⟨od, e2, _⟩ := H.of_
  obtain ⟨kd, e3, _⟩ := H.kn
  have e0 := H.ob
  refine ⟨fun z => ?_, fun z => ?_, fun z => ?_, fun z => ?_, fun z => ?_⟩ <;> subst z
  · rw [e0] at e1; cases e1
  · rw [e0] at e2; cases e2
  · rw [e0] at e3; cases e3
  · rw [e1] at e2; cases e2
  · rw [e2] at e3; cases e3
theorem HS.fr {X : List Nat} (H : HS s p c w h o k hs ho D ks n) (f : Fr X s s') (hX : ∀ x ∈ X, x ≠ p ∧ x ≠ h ∧ x ≠ o ∧ x ≠ k) (hL : ∀ (l : Nat) (ds : List Dv), l ∈ X → s[l]? ≠ some (.lst ds)) : HS s' p c w h o k hs ho D ks n := by
  have mv : ∀ {ds : List Dv} {as : List (List Nat)}, All2 (NL.rep (P3 h o k) s) ds as → All2 (NL.rep (P3 h o k) s') ds as := fun a => a.imp fun d l _ _ z => by
    obtain ⟨m, e, h1, h2⟩ := nl_iff.mp z
    exact nl_iff.mpr ⟨m, e, h1, f.get h2 fun q => hL m _ q h2⟩
  obtain ⟨hd, e1, a1⟩ := H.hp
  obtain ⟨od, e2, a2⟩ := H.of_
  obtain ⟨kd, e3, a3⟩ := H.kn
  exact ⟨f.get H.ob fun z => (hX _ z).1 rfl, ⟨hd, f.get e1 fun z => (hX _ z).2.1 rfl, mv a1⟩, ⟨od, f.get e2 fun z => (hX _ z).2.2.1 rfl, a2⟩, ⟨kd, f.get e3 fun z => (hX _ z).2.2.2 rfl, mv a3⟩, H.hk⟩
theorem HS.fr0 (H : HS s p c w h o k hs ho D ks n) (f : Fr [] s s') : HS s' p c w h o k hs ho D ks n := H.fr f (by simp) (by simp)
theorem fl_heaps (e : s[p]? = some (.ins 0 (heapFs c w h o k))) : oFld [0] "heaps" (.loc p) s = .ok (.loc h) s := oFld_of e (by simp) rfl
theorem fl_of (e : s[p]? = some (.ins 0 (heapFs c w h o k))) : oFld [0] "heap_of" (.loc p) s = .ok (.loc o) s := oFld_of e (by simp) rfl
theorem fl_knives (e : s[p]? = some (.ins 0 (heapFs c w h o k))) : oFld [0] "knives" (.loc p) s = .ok (.loc k) s := oFld_of e (by simp) rfl
theorem fl_comers (e : s[p]? = some (.ins 0 (heapFs c w h o k))) : oFld [0] "comers" (.loc p) s = .ok (.loc c) s := oFld_of e (by simp) rfl
theorem fl_words (e : s[p]? = some (.ins 0 (heapFs c w h o k))) : oFld [0] "words" (.loc p) s = .ok (.loc w) s := oFld_of e (by simp) rfl
theorem lay_ok {d : Dv} {A : List Nat} (H : HS s p c w h o k hs ho D ks n) (hd : NL.rep (P3 h o k) s d A) (hA : ∀ x ∈ A, x < n) (hn : n ≤ 1000) (l1 : hs.length < 100000) (l2 : ks.length < 100000)
    (q : ∀ s', Fr [h, o, k] s s' → HS s' p c w h o k (hs ++ [A]) (fun x => if x ∈ A then hs.length else ho x) (D ++ A) (ks ++ [A]) n → Q .non s') : (f_Heaps_lay [.loc p, d] s).to Q := by
  obtain ⟨n1, n2, n3, n4, n5⟩ := H.ne
  obtain ⟨a, rfl, hPa, ha⟩ := nl_iff.mp hd
  obtain ⟨hd0, e1, a1⟩ := H.hp
  obtain ⟨od0, e2, rk0, a2⟩ := H.of_
  obtain ⟨kd0, e3, a3⟩ := H.kn
  have ao : a ≠ o := fun z => hPa (.inr (.inl z))
  have ah : a ≠ h := fun z => hPa (.inl z)
  have ak : a ≠ k := fun z => hPa (.inr (.inr z))
  unfold f_Heaps_lay
  refine fun_at [some (.loc p), some (.loc a), none] rfl rfl ?_
  unfold m_Heaps_lay
  simp only [w_seq, w_for, w_iseq, v0, vS, to_ok]
  rw [itSeq_lst ha, to_ok]
  refine for_map A nD (fun i σ s' => ∃ y od, σ = [some (.loc p), some (.loc a), y] ∧ Fr [o] s s' ∧ s'[o]? = some (.dK od) ∧ Rks n od ∧ ∀ x ∈ D ++ A.take i, kval od (Sum.inl (x : Int)) = some (nD (if x ∈ A.take i then hs.length else ho x)))
    ⟨none, od0, rfl, .refl, e2, rk0, by simpa using a2⟩ (fun i σ s' ⟨y, od, _, f, _⟩ => ⟨f.get ha (by simpa using ao), trivial⟩) ?_ ?_
  · rintro i x σ s1 hx ⟨y, od, rfl, f, eo, rk, hv⟩
    have xA : x ∈ A := List.mem_of_getElem? hx
    have ob1 := f.get H.ob (by simpa using n2)
    have eh1 := f.get e1 (by simpa using n4)
    simp only [w_gN, List.set_cons_succ, List.set_cons_zero, w_put, w_call, w_argsS, w_args0, w_un, v0, vS, to_ok]
    rw [fl_heaps ob1, to_ok, bLen_seq (seqOf_lst eh1), to_ok, fl_of ob1, to_ok, oPut_dict eo (show keyQ (nD x) = some (Sum.inl (x : Int)) from rfl) (by have := rks_len rk; omega), to_ok]
    refine ⟨_, _, rfl, f.put (.inl (by simp)), look_put eo, rks_put rk (hA x xA), fun z hz => ?_⟩
    rw [kval_put]
    rw [List.take_add_one, hx] at hz ⊢
    by_cases e : x = z
    · subst e
      rw [if_pos rfl, if_pos (by simp), a1.len]; rfl
    · rw [if_neg (fun q => e (inl_nat.mp q))]
      have h1 : z ∈ D ++ A.take i := by
        simp only [Option.toList_some, List.mem_append, List.mem_singleton] at hz ⊢
        rcases hz with q | q | q
        · exact .inl q
        · exact .inr q
        · exact absurd q.symm e
      rw [hv z h1]
      have : (z ∈ A.take i ++ (some x).toList) ↔ z ∈ A.take i := by
        have : ¬ z = x := fun q => e q.symm
        simp [this]
      simp only [this]
  · rintro σ s1 ⟨y, od, rfl, f, eo, rk, hv⟩
    rw [List.take_length] at hv
    have ob1 := f.get H.ob (by simpa using n2)
    have eh1 := f.get e1 (by simpa using n4)
    have ek1 := f.get e3 (by simpa using Ne.symm n5)
    simp only [w_exp, w_meth, w_un, v0, vS, to_ok]
    rw [fl_heaps ob1, to_ok]
    refine ⟨tyQ_lst eh1, ?_⟩
    try simp only [w_argsS, w_args0, v0, vS, to_ok]
    rw [tAppend_lst eh1 (by rw [a1.len]; omega), to_ok]
    have ob2 := look_ne (o' := .lst (hd0 ++ [.loc a])) ob1 (Ne.symm n1)
    have ek2 := look_ne (o' := .lst (hd0 ++ [.loc a])) ek1 H.hk
    rw [fl_knives ob2, to_ok]
    refine ⟨tyQ_lst ek2, ?_⟩
    try simp only [w_argsS, w_args0, v0, vS, to_ok]
    rw [tAppend_lst ek2 (by rw [a3.len]; omega), to_ok]
    have ff : Fr [h, o, k] s ((s1.set h (.lst (hd0 ++ [.loc a]))).set k (.lst (kd0 ++ [.loc a]))) :=
      ((f.mono fun m hm => .inl (by simp at hm; simp [hm])).put (.inl (by simp))).put (.inl (by simp))
    have mv : ∀ {ds : List Dv} {as : List (List Nat)}, All2 (NL.rep (P3 h o k) s) ds as → All2 (NL.rep (P3 h o k) ((s1.set h (.lst (hd0 ++ [.loc a]))).set k (.lst (kd0 ++ [.loc a])))) ds as :=
      fun z => z.imp fun _ _ _ _ z => NL.fr z ff fun m hm => by simpa [P3] using hm
    have rA : NL.rep (P3 h o k) ((s1.set h (.lst (hd0 ++ [.loc a]))).set k (.lst (kd0 ++ [.loc a]))) (.loc a) A := NL.fr hd ff fun m hm => by simpa [P3] using hm
    refine q _ ff ⟨look_ne ob2 (Ne.symm n3), ⟨_, look_ne (look_put eh1) (Ne.symm H.hk), (mv a1).snoc rA⟩, ⟨od, look_ne (look_ne eo n4) (Ne.symm n5), rk, hv⟩, ⟨_, look_put ek2, (mv a3).snoc rA⟩, H.hk⟩
end
end Mid
namespace Mid
open PySem
noncomputable section
variable {M : Mach} {s s' : Mst} {Q : Dv → Mst → Prop} {p c w h o k n : Nat} {hs ks E : List (List Nat)} {ho : Nat → Nat} {D : List Nat}
theorem HS.sub {D' : List Nat} (H : HS s p c w h o k hs ho D ks n) (f : ∀ x ∈ D', x ∈ D) : HS s p c w h o k hs ho D' ks n := by
  obtain ⟨od, e2, r2, a2⟩ := H.of_
  exact ⟨H.ob, H.hp, ⟨od, e2, r2, fun x hx => a2 x (f x hx)⟩, H.kn, H.hk⟩
/-- the key (sign, room) -/
def nkey (sg : Str) (t : Nat) : NestedKey := .tup [.text sg, .num (t : Int)]
theorem keyN_pair {sg : Str} {t : Nat} : keyN (.tup [.str sg, nD t]) = some (nkey sg t) := by
  have e : dat [] 66 (.tup [.str sg, nD t]) = some (.tuple [.str sg, .int t]) := rfl
  have e2 : nkP (.tuple [.str sg, .int (t : Int)]) = some (nkey sg t) := by simp [nkP, nkPs, nkey]
  unfold keyN
  simp only [e, Option.bind_some, e2]
  rw [if_pos]
  simp [nkey, NestedKey.depth, NestedKey.depthAll]
/-- lists by heaps, of what A tells -/
def Ffs (n : Nat) (ho : Nat → Nat) (A : Nat → Prop) (f : KeyQ → List Nat) : Prop := ∀ q, (f q).Nodup ∧ ∀ x, x ∈ f q ↔ x < n ∧ q = Sum.inl (ho x : Int) ∧ A x
theorem ffs_add {A A' : Nat → Prop} {f : KeyQ → List Nat} {x : Nat} (F : Ffs n ho A f) (hx : x < n) (ha : ¬ A x) (e : ∀ y, A' y ↔ A y ∨ y = x) : Ffs n ho A' (addF f (Sum.inl (ho x : Int)) x) := fun q => by
  unfold addF
  by_cases hq : Sum.inl (ho x : Int) = q
  · subst hq
    rw [if_pos rfl]
    refine ⟨snoc_nodup (F _).1 fun z => ha ((F _).2 x |>.mp z).2.2, fun y => ?_⟩
    rw [List.mem_append, List.mem_singleton, (F _).2, e]
    constructor
    · rintro (⟨a, b, d⟩ | rfl)
      · exact ⟨a, b, .inl d⟩
      · exact ⟨hx, rfl, .inr rfl⟩
    · rintro ⟨a, b, d | rfl⟩
      · exact .inl ⟨a, b, d⟩
      · exact .inr rfl
  · rw [if_neg hq]
    refine ⟨(F q).1, fun y => ?_⟩
    rw [(F q).2, e]
    constructor
    · rintro ⟨a, b, d⟩
      exact ⟨a, b, .inl d⟩
    · rintro ⟨a, b, d | rfl⟩
      · exact ⟨a, b, d⟩
      · exact absurd b.symm hq
theorem ffs_len {A : Nat → Prop} {f : KeyQ → List Nat} (F : Ffs n ho A f) (q : KeyQ) : (f q).length ≤ n := nodup_len (F q).1 fun x hx => ((F q).2 x |>.mp hx).1
theorem mdisp0 {σ : Men} {s : Mst} : mDisp [] σ s = .ok (.loc s.length) (s ++ [.dK []]) := id rfl
theorem ml_len {A : Nat → Prop} {f : KeyQ → List Nat} {P : Nat → Prop} {m : Nat} {kvs : List (KeyQ × Dv)} (L : ML kK P s m f kvs) (F : Ffs n ho A f) : kvs.length ≤ n := by
  have := sub_len (m := (List.range n).map fun x : Nat => (Sum.inl (ho x : Int) : KeyQ)) L.nd fun q hq => by
    have h1 := (L.dom q).mp hq
    obtain ⟨x, hx⟩ := List.exists_mem_of_ne_nil _ h1
    obtain ⟨a, b, _⟩ := (F q).2 x |>.mp hx
    exact List.mem_map.mpr ⟨x, List.mem_range.mpr a, b.symm⟩
  simpa using this
/-- the first half of cut: who is hit -/
theorem hits_ok {sg : Str} {K : List Nat} {d : Dv} {cf : NestedKey → List Nat} {ckv : List (NestedKey × Dv)} {Pc : Nat → Prop} {N : Men → Mst → Prop} {R : Dv → Mst → Prop} {C B : Men → Mst → Prop}
    (H : HS s p c w h o k hs ho (List.range n) ks n) (C1 : ML kN Pc s c cf ckv) (hcf : ∀ t, t < n → (cf (nkey sg t)).Nodup ∧ ∀ x, x ∈ cf (nkey sg t) ↔ x < n ∧ (sg, t) ∈ stepsOf M x)
    (det : ∀ x t t', (sg, t) ∈ stepsOf M x → (sg, t') ∈ stepsOf M x → t = t') (hd : NL.rep (P3 h o k) s d K) (nK : K.Nodup) (hK : ∀ x ∈ K, x < n) (hn : n ≤ 1000)
    (q : ∀ s1 y4 y5 f kvs, Fr [] s s1 → s.length < s1.length → ML kK (fun l => s.length ≤ l) s1 s.length f kvs → Ffs n ho (Hit M sg K) f →
      N [some (.loc p), some (.str sg), some d, some (.loc s.length), y4, y5, none, none] s1) :
    (msSeq (msSet 3 (mDisp [])) (msFor (miSeq (mVar 2)) (gN 4) (msFor (miSeq (mMeth "dict" tGet (mUn (oFld [0] "comers") (mVar 0)) [mTup [mVar 1, mVar 4], mLst []])) (gN 5) (msExp (mMeth "list" tAppend (mMeth "dict" tSetd (mVar 3) [mOp oGet (mUn (oFld [0] "heap_of") (mVar 0)) (mVar 5), mLst []]) [mVar 5]))))
      [some (.loc p), some (.str sg), some d, none, none, none, none, none] s).to N R C B := by
  obtain ⟨a, rfl, hPa, ha⟩ := nl_iff.mp hd
  obtain ⟨od0, e2, rk0, a2⟩ := H.of_
  have fr_ob : ∀ s1, Fr [] s s1 → s1[p]? = some (.ins 0 (heapFs c w h o k)) := fun s1 f => f.get H.ob (by simp)
  simp only [w_seq, w_set, mdisp0, to_ok, List.set_cons_succ, List.set_cons_zero, w_for, w_iseq, v0, vS]
  rw [itSeq_lst (look_app ha), to_ok]
  refine for_map K nD (fun i σ s1 => ∃ y4 y5 f kvs, σ = [some (.loc p), some (.str sg), some (.loc a), some (.loc s.length), y4, y5, none, none] ∧ Fr [] s s1 ∧ s.length < s1.length ∧ ML kK (fun l => s.length ≤ l) s1 s.length f kvs ∧ Ffs n ho (fun x => Hit M sg (K.take i) x) f)
    ⟨none, none, fun _ => [], [], rfl, .app, by simp, ⟨⟨_, by simp, rfl⟩, by simp, (fun q d e => by cases e), (fun q q' l e => by cases e), by simp⟩, fun q => ⟨by simp, fun x => by simp [Hit]⟩⟩ (fun i σ s1 ⟨_, _, _, _, _, f, _⟩ => ⟨f.get ha (by simp), trivial⟩) ?_ ?_
  · rintro i z σ s1 hz ⟨y4, y5, f, kvs, rfl, fr, hl, L1, F⟩
    have zK : z ∈ K := List.mem_of_getElem? hz
    have zn := hK z zK
    have C2 : ML kN Pc s1 c cf ckv := C1.fr fr (by simp) (by simp)
    have zt : z ∉ K.take i := fun q => by
      obtain ⟨j, hj⟩ := List.mem_iff_getElem?.mp q
      rw [List.getElem?_take] at hj
      split at hj
      · rename_i hji
        have hi := (List.getElem?_eq_some_iff.mp hz).1
        have h1 := (List.getElem?_eq_some_iff.mp hz).2
        have h2 := (List.getElem?_eq_some_iff.mp hj).2
        have := (List.getElem_inj nK).mp (h1.trans h2.symm)
        omega
      · cases hj
    simp only [w_gN, List.set_cons_succ, List.set_cons_zero, w_for, w_iseq, w_meth, w_un, v0, vS, to_ok]
    rw [fl_comers (fr_ob s1 fr), to_ok]
    refine ⟨C2.ty, ?_⟩
    simp only [w_argsS, w_args0, w_tup, w_lst, v0, vS, to_ok]
    obtain ⟨l, g1, g2, g3⟩ := (C2.fr (X := []) (Fr.app (t := [.lst []])) (by simp) (by simp)).getd (D := kN) (d := .tup [.str sg, nD z]) (keyN_pair (sg := sg) (t := z)) (e := s1.length) (by simp)
    rw [g1, to_ok, itSeq_lst g2, to_ok]
    have g4 : l < s.length ∨ cf (nkey sg z) = [] := by
      rcases g3 with g3 | g3
      · obtain ⟨l', e1, _, e3⟩ := C1.val _ _ g3
        cases e1
        exact .inl (lt_of e3)
      · exact .inr g3
    obtain ⟨nL, mL⟩ := hcf z zn
    refine for_map (cf (nkey sg z)) nD (fun j σ s2 => ∃ y5 f kvs, σ = [some (.loc p), some (.str sg), some (.loc a), some (.loc s.length), some (nD z), y5, none, none] ∧ Fr [] s s2 ∧ s.length < s2.length ∧ s2[l]? = some (.lst ((cf (nkey sg z)).map nD)) ∧ ML kK (fun l => s.length ≤ l) s2 s.length f kvs ∧ Ffs n ho (fun x => Hit M sg (K.take i) x ∨ x ∈ (cf (nkey sg z)).take j) f)
      ⟨y5, f, kvs, rfl, fr.trans .app, by simp; omega, g2, L1.fr (X := []) .app (by simp) (by simp), fun q => ⟨(F q).1, fun x => by rw [(F q).2]; simp⟩⟩ (fun j σ s2 ⟨_, _, _, _, _, _, g, _⟩ => ⟨g, trivial⟩) ?_ ?_
    · rintro j x σ s2 hx ⟨y5, f, kvs, rfl, fr2, hl2, gl, L2, F2⟩
      have xL : x ∈ cf (nkey sg z) := List.mem_of_getElem? hx
      obtain ⟨xn, xs⟩ := (mL x).mp xL
      have ob2 := fr_ob s2 fr2
      have eo2 := fr2.get e2 (by simp)
      have ll : l < s.length := g4.elim id fun q => by rw [q] at xL; cases xL
      simp only [w_gN, List.set_cons_succ, List.set_cons_zero, w_exp, w_meth, v0, vS, to_ok]
      refine ⟨L2.ty, ?_⟩
      simp only [w_argsS, w_args0, w_op, w_un, w_lst, v0, vS, to_ok]
      rw [fl_of ob2, to_ok, oGet_dict eo2 (show keyQ (nD x) = some (Sum.inl (x : Int)) from rfl) (a2 x (List.mem_range.mpr xn)), to_ok]
      refine L2.add (k := Sum.inl (ho x : Int)) rfl (by have := ml_len L2 F2; omega) (by have := ffs_len F2 (Sum.inl (ho x : Int)); omega) (by show s.length ≤ s2.length; omega) fun s3 kvs3 L3 _ hl3 kp1 kp2 => ?_
      have old : ∀ m, m < s.length → s3[m]? = s2[m]? := fun m hm => kp1 m (by omega) (by omega) (by omega)
      refine ⟨_, _, kvs3, rfl, ⟨by have := fr2.1; omega, fun m hm hl => (old m hl).trans (fr2.2 m hm hl)⟩, by omega, (old l ll).trans gl, L3, ffs_add F2 xn ?_ fun y => ?_⟩
      · rintro (⟨z', hz', hs'⟩ | hx')
        · exact zt (by rw [det x z z' xs hs']; exact hz')
        · obtain ⟨j', hj'⟩ := List.mem_iff_getElem?.mp hx'
          rw [List.getElem?_take] at hj'
          split at hj'
          · have h1 := (List.getElem?_eq_some_iff.mp hx).2
            have h2 := (List.getElem?_eq_some_iff.mp hj').2
            have := (List.getElem_inj nL).mp (h1.trans h2.symm)
            omega
          · cases hj'
      · rw [List.take_add_one, hx]
        simp only [Option.toList_some, List.mem_append, List.mem_singleton, or_assoc]
    · rintro σ s2 ⟨y5, f, kvs, rfl, fr2, hl2, gl, L2, F2⟩
      rw [List.take_length] at F2
      refine ⟨_, _, f, kvs, rfl, fr2, hl2, L2, fun q => ⟨(F2 q).1, fun x => ?_⟩⟩
      rw [(F2 q).2]
      refine and_congr_right fun xn => and_congr_right fun _ => ?_
      unfold Hit
      rw [List.take_add_one, hz]
      constructor
      · rintro (⟨z', a, b⟩ | a)
        · exact ⟨z', by simp [a], b⟩
        · exact ⟨z, by simp, ((mL x).mp a).2⟩
      · rintro ⟨z', a, b⟩
        simp only [Option.toList_some, List.mem_append, List.mem_singleton] at a
        rcases a with a | rfl
        · exact .inl ⟨z', a, b⟩
        · exact .inr ((mL x).mpr ⟨xn, b⟩)
  · rintro σ s1 ⟨y4, y5, f, kvs, rfl, fr, hl, L1, F⟩
    rw [List.take_length] at F
    exact q s1 y4 y5 f kvs fr hl L1 F
end
end Mid
namespace Mid
open PySem
noncomputable section
variable {M : Mach} {s s' : Mst} {Q : Dv → Mst → Prop} {p c w h o k n : Nat} {hs ks E : List (List Nat)} {ho : Nat → Nat} {D : List Nat}
theorem All2.set {α β : Type} {R : α → β → Prop} {l : List α} {m : List β} {a : α} {b : β} (h : All2 R l m) (g : R a b) (i : Nat) : All2 R (l.set i a) (m.set i b) := by
  induction h generalizing i with
  | nil => exact .nil
  | cons x y ih => cases i with
    | zero => exact .cons g y
    | succ i => exact .cons x (ih i)
theorem HS.repl {s2 : Mst} {hd kd : List Dv} {b e : Nat} {h1 : List Nat} (H : HS s p c w h o k hs ho D ks n) (a1 : All2 (NL.rep (P3 h o k) s) hd hs) (a3 : All2 (NL.rep (P3 h o k) s) kd ks) (f : Fr [h, k] s s2)
    (g1 : s2[h]? = some (.lst (hd.set b (.loc e)))) (g3 : s2[k]? = some (.lst (kd ++ [.loc e]))) (ge : s2[e]? = some (.lst (h1.map nD))) (he : s.length ≤ e) : HS s2 p c w h o k (hs.set b h1) ho D (ks ++ [h1]) n := by
  obtain ⟨n1, n2, n3, n4, n5⟩ := H.ne
  obtain ⟨_, b1, _⟩ := H.hp
  obtain ⟨od, b2, r2, a2⟩ := H.of_
  obtain ⟨_, b3, _⟩ := H.kn
  have l1 := lt_of b1
  have l2 := lt_of b2
  have l3 := lt_of b3
  have mv : ∀ {ds : List Dv} {as : List (List Nat)}, All2 (NL.rep (P3 h o k) s) ds as → All2 (NL.rep (P3 h o k) s2) ds as := fun z => z.imp fun _ _ _ _ z => NL.fr z f fun m hm => by simp at hm; rcases hm with rfl | rfl <;> simp [P3]
  have rE : NL.rep (P3 h o k) s2 (.loc e) h1 := nl_iff.mpr ⟨e, rfl, fun z => by rcases z with z | z | z <;> omega, ge⟩
  exact ⟨f.get H.ob (by simp [n1, n3]), ⟨_, g1, (mv a1).set rE b⟩, ⟨od, f.get b2 (by simp [Ne.symm n4, n5]), r2, a2⟩, ⟨_, g3, (mv a3).snoc rE⟩, H.hk⟩
theorem keys_nat {l : List KeyQ} (h : ∀ q ∈ l, ∃ x : Nat, q = Sum.inl (x : Int)) : ∃ nums : List Nat, l = (nums.map fun x : Nat => (x : Int)).map Sum.inl := by
  induction l with
  | nil => exact ⟨[], rfl⟩
  | cons a r ih =>
    obtain ⟨x, rfl⟩ := h a (by simp)
    obtain ⟨nums, rfl⟩ := ih fun q hq => h q (by simp [hq])
    exact ⟨x :: nums, rfl⟩
theorem nodup_take_not {l : List Nat} (nd : l.Nodup) {i b : Nat} (h : l[i]? = some b) : b ∉ l.take i := fun q => by
  obtain ⟨j, hj⟩ := List.mem_iff_getElem?.mp q
  rw [List.getElem?_take] at hj
  split at hj
  · have h1 := (List.getElem?_eq_some_iff.mp h).2
    have h2 := (List.getElem?_eq_some_iff.mp hj).2
    have := (List.getElem_inj nd).mp (h1.trans h2.symm)
    omega
  · cases hj
theorem hcut_ok {sg : Str} {K : List Nat} {d : Dv} {cf : NestedKey → List Nat} {ckv : List (NestedKey × Dv)} {Pc : Nat → Prop} (wf : Wf M)
    (H : HS s p c w h o k hs ho (List.range M.length) ks M.length) (G : HPs M E hs ho ks) (C1 : ML kN Pc s c cf ckv) (hcf : ∀ t, t < M.length → (cf (nkey sg t)).Nodup ∧ ∀ x, x ∈ cf (nkey sg t) ↔ x < M.length ∧ (sg, t) ∈ stepsOf M x)
    (det : ∀ x t t', (sg, t) ∈ stepsOf M x → (sg, t') ∈ stepsOf M x → t = t') (hd : NL.rep (P3 h o k) s d K) (nK : K.Nodup) (hK : ∀ x ∈ K, x < M.length) (cK : Clo M K) (hn : M.length ≤ 1000) (hb : ks.length + 2 * (M.length - hs.length) ≤ 5000)
    (q : ∀ s' hs' ho' ks', Fr [h, o, k] s s' → HS s' p c w h o k hs' ho' (List.range M.length) ks' M.length → HPs M E hs' ho' ks' → (∀ x y, x < M.length → y < M.length → ho' x = ho' y → ho x = ho y) →
      (∀ x y, x < M.length → y < M.length → ho' x = ho' y → Hit M sg K x → Hit M sg K y) → ks'.length + 2 * (M.length - hs'.length) = ks.length + 2 * (M.length - hs.length) → Q .non s') : (f_Heaps_cut [.loc p, .str sg, d] s).to Q := by
  unfold f_Heaps_cut
  refine fun_at [some (.loc p), some (.str sg), some d, none, none, none, none, none] rfl rfl ?_
  unfold m_Heaps_cut
  have key := fun N R C B q => hits_ok (N := N) (R := R) (C := C) (B := B) H C1 hcf det hd nK hK hn q
  simp only [w_seq] at key ⊢
  refine key _ _ _ _ fun s1 y4 y5 f kvs fr hl L1 F => ?_
  clear key
  obtain ⟨oh, eo, io⟩ := L1.ob
  have io : oh = .dK kvs := io
  subst io
  obtain ⟨nums, hnums⟩ := keys_nat (l := kvs.map (·.1)) fun q hq => by
    obtain ⟨x, hx⟩ := List.exists_mem_of_ne_nil _ ((L1.dom q).mp hq)
    exact ⟨_, ((F q).2 x |>.mp hx).2.1⟩
  have mnum : ∀ b : Nat, b ∈ nums ↔ f (Sum.inl (b : Int)) ≠ [] := fun b => by
    rw [← L1.dom, hnums, List.map_map]
    simp only [Function.comp_def, List.mem_map, Sum.inl.injEq]
    exact ⟨fun z => ⟨b, z, rfl⟩, fun ⟨a, z, e⟩ => by rw [← Int.ofNat_inj.mp e]; exact z⟩
  have numlt : ∀ b ∈ nums, b < hs.length := fun b hb => by
    obtain ⟨x, hx⟩ := List.exists_mem_of_ne_nil _ ((mnum b).mp hb)
    obtain ⟨x1, x2, _⟩ := (F _).2 x |>.mp hx
    have := G.lt x x1
    rw [inl_nat] at x2; omega
  have ndn : nums.Nodup := by
    have := L1.nd
    rw [hnums, List.map_map] at this
    exact (List.pairwise_map.mp this).imp fun h e => h (by rw [e])
  have hsrt := srt_nat (p := fun b => decide (b ∈ nums)) (n := hs.length) ndn fun j => ⟨fun z => ⟨numlt j z, by simpa using z⟩, fun z => by simpa using z.2⟩
  simp only [w_for, w_iseq, w_call, w_argsS, w_args0, v0, vS, to_ok]
  rw [bSorted_keys eo hnums, to_ok, hsrt]
  generalize hms : (List.range hs.length).filter (fun b => decide (b ∈ nums)) = ms
  have mms : ∀ b, b ∈ ms ↔ b ∈ nums := fun b => by
    rw [← hms, List.mem_filter, List.mem_range, decide_eq_true_iff]
    exact ⟨fun z => z.2, fun z => ⟨numlt b z, z⟩⟩
  have ndm : ms.Nodup := by rw [← hms]; exact List.nodup_range.filter _
  have emap : ((ms.map fun k : Nat => (k : Int)).map Dv.int) = ms.map nD := by rw [List.map_map]; rfl
  rw [emap]
  generalize hs2 : s1 ++ [MO.lst (ms.map nD)] = s2
  have f12 : Fr [] s1 s2 := by rw [← hs2]; exact .app
  have f02 : Fr [] s s2 := fr.trans f12
  have em : s2[s1.length]? = some (.lst (ms.map nD)) := by rw [← hs2]; simp
  have H2 := H.fr0 f02
  have L2 : ML kK (fun l => s.length ≤ l) s2 s.length f kvs := L1.fr f12 (by simp) (by simp)
  obtain ⟨n1, n2, n3, n4, n5⟩ := H.ne
  have lh : h < s.length := by obtain ⟨_, e, _⟩ := H.hp; exact lt_of e
  have lo : o < s.length := by obtain ⟨_, e, _⟩ := H.of_; exact lt_of e
  have lk : k < s.length := by obtain ⟨_, e, _⟩ := H.kn; exact lt_of e
  rw [itSeq_lst em, to_ok]
  refine for_map ms nD (fun i σ s' => ∃ y4 y5 y6 y7 hs' ho' ks', σ = [some (.loc p), some (.str sg), some d, some (.loc s.length), y4, y5, y6, y7] ∧ Fr [h, o, k] s2 s' ∧ HS s' p c w h o k hs' ho' (List.range M.length) ks' M.length ∧ HPs M E hs' ho' ks' ∧
      (∀ x y, x < M.length → y < M.length → ho' x = ho' y → ho x = ho y) ∧ (∀ b, b < hs.length → b ∉ ms.take i → hs'[b]? = hs[b]?) ∧ (∀ x, x < M.length → ho x ∉ ms.take i → ho' x = ho x) ∧
      (∀ x y, x < M.length → y < M.length → ho x ∈ ms.take i → ho' x = ho' y → Hit M sg K x → Hit M sg K y) ∧ hs.length ≤ hs'.length ∧ ks'.length + 2 * (M.length - hs'.length) = ks.length + 2 * (M.length - hs.length))
    ⟨y4, y5, none, none, hs, ho, ks, rfl, .refl, H2, G, fun _ _ _ _ z => z, fun _ _ _ => rfl, fun _ _ _ => rfl, fun x y _ _ z => (by simp at z), Nat.le_refl _, rfl⟩
    (fun i σ s' ⟨_, _, _, _, _, _, _, _, f, _⟩ => ⟨f.get em (by have := fr.1; simp; omega), trivial⟩) ?_ ?_
  · rintro i b σ s3 hbi ⟨y4, y5, y6, y7, hs', ho', ks', rfl, f3, H3, G3, r1, r2, r3, r4, r5, r6⟩
    have bms : b ∈ ms := List.mem_of_getElem? hbi
    have bnum := (mms b).mp bms
    have bl := numlt b bnum
    have bnt := nodup_take_not ndm hbi
    have A0 := (mnum b).mp bnum
    generalize hA : f (Sum.inl (b : Int)) = A at A0
    have nA : A.Nodup := by rw [← hA]; exact (F _).1
    have mA : ∀ x, x ∈ A ↔ x < M.length ∧ ho x = b ∧ Hit M sg K x := fun x => by
      rw [← hA, (F _).2, inl_nat]
      exact ⟨fun z => ⟨z.1, z.2.1.symm, z.2.2⟩, fun z => ⟨z.1, z.2.1.symm, z.2.2⟩⟩
    have L3 : ML kK (fun l => s.length ≤ l) s3 s.length f kvs := L2.fr f3 (by simp; omega) (by simp; omega)
    obtain ⟨oh, eo3, io⟩ := L3.ob
    have io : oh = .dK kvs := io
    subst io
    obtain ⟨dl, hkv⟩ : ∃ dl, kval kvs (Sum.inl (b : Int)) = some dl := Option.isSome_iff_exists.mp (kval_some.mpr ((L3.dom _).mpr (by rw [hA]; exact A0)))
    obtain ⟨l, rfl, hll, el3⟩ := L3.val _ _ hkv
    rw [hA] at el3
    obtain ⟨hb0, ehb⟩ : ∃ hb0, hs[b]? = some hb0 := ⟨_, List.getElem?_eq_getElem bl⟩
    have ehb' : hs'[b]? = some hb0 := (r2 b bl bnt).trans ehb
    have mhb := G3.mem b hb0 ehb'
    obtain ⟨hd3, eh3, a1⟩ := H3.hp
    obtain ⟨kd3, ek3, a3⟩ := H3.kn
    obtain ⟨db, edb, rdb⟩ := a1.get' ehb'
    obtain ⟨lb, rfl, hPb, elb⟩ := nl_iff.mp rdb
    have hAlen : A.length ≤ M.length := nodup_len nA fun x hx => ((mA x).mp hx).1
    have hblen : hb0.length ≤ M.length := nodup_len (G3.nd _ (List.mem_of_getElem? ehb')) fun x hx => ((mhb x).mp hx).1
    have few := G3.few
    simp only [w_gN, List.set_cons_succ, List.set_cons_zero, w_if, w_tval, w_op, w_call, w_argsS, w_args0, w_un, vS, v0, to_ok]
    have kb : keyQ (nD b) = some (Sum.inl (b : Int)) := rfl
    rw [oGet_dict eo3 kb hkv, to_ok, bLen_seq (seqOf_lst el3), to_ok, fl_heaps H3.ob, to_ok, show nD b = .int (b : Int) from rfl, oGet_lst eh3 edb, to_ok, bLen_seq (seqOf_lst elb), to_ok]
    simp only [oLt_int, to_ok, toB_bl, List.length_map]
    have subA : ∀ x ∈ A, x ∈ hb0 := fun x hx => by
      obtain ⟨x1, x2, _⟩ := (mA x).mp hx
      exact (mhb x).mpr ⟨x1, by rw [r3 x x1 (by rw [x2]; exact bnt), x2]⟩
    have hbho : ∀ x, x ∈ hb0 → ho x = b := fun x hx => by
      have := (G.mem b hb0 ehb x).mp hx
      exact this.2
    have tk : ∀ z, z ∈ ms.take (i + 1) ↔ z ∈ ms.take i ∨ z = b := fun z => by rw [List.take_add_one, hbi]; simp
    have hoA : ∀ y, y < M.length → ho y = b → ho' y = b := fun y hy e => by rw [r3 y hy (by rw [e]; exact bnt), e]
    by_cases hlt : A.length < hb0.length
    · rw [decide_eq_true (by omega), if_pos rfl]
      simp only [w_seq, w_set, w_call, w_argsS, w_args0, w_lc, w_iseq, w_op, vS, v0, to_ok, List.set_cons_succ, List.set_cons_zero, wipeS, wipe0]
      rw [show (Dv.int (b : Int)) = nD b from rfl, oGet_dict eo3 kb hkv, to_ok, itSeq_lst el3, to_ok]
      refine lc_pure A nD (fun _ => true) (fun x => .tup [nD x, .bl true]) ⟨el3, trivial⟩ (fun x hx => by simp only [w_gN, w_tyes, w_tup, w_argsS, w_args0, v0, vS, to_ok, mC_eq, List.set_cons_succ, List.set_cons_zero]; simp) ?_
      refine ⟨by rw [List.length_map]; omega, ?_⟩
      rw [List.filter_eq_self.mpr fun _ _ => rfl, bDict_pairs look_new0 (pairsQ_true A), to_ok]
      rw [show kputs [] (keysD A) = keysD A from by have := kputs_keysD [] A nA (by simp); simpa [keysD] using this]
      generalize hsA : s3 ++ [MO.lst (A.map fun x => Dv.tup [nD x, .bl true])] ++ [MO.dK (keysD A)] = sA
      have f3A : Fr [] s3 sA := by rw [← hsA]; exact Fr.trans .app .app
      have eout : sA[(s3 ++ [MO.lst (A.map fun x => Dv.tup [nD x, .bl true])]).length]? = some (.dK (keysD A)) := by rw [← hsA]; exact look_new0
      generalize (s3 ++ [MO.lst (A.map fun x => Dv.tup [nD x, .bl true])]).length = lout at eout
      have HA := H3.fr0 f3A
      have ehA := f3A.get eh3 (by simp)
      have ekA := f3A.get ek3 (by simp)
      have elbA := f3A.get elb (by simp)
      have eoA := f3A.get eo3 (by simp)
      have elA := f3A.get el3 (by simp)
      simp only [w_put, w_lc, w_iseq, w_op, w_un, vS, v0, to_ok, List.set_cons_succ, List.set_cons_zero, wipeS, wipe0]
      rw [fl_heaps HA.ob, to_ok, show nD b = .int (b : Int) from rfl, oGet_lst ehA edb, to_ok, itSeq_lst elbA, to_ok]
      refine lc_pure hb0 nD (fun x => !decide (x ∈ A)) nD ⟨elbA, trivial⟩ (fun x hx => by
        simp only [w_gN, w_tval, w_op, v0, vS, to_ok, List.set_cons_succ, List.set_cons_zero]
        rw [oNotIn_dict eout (show keyQ (nD x) = some (Sum.inl (x : Int)) from rfl), keysD_mem]
        simp only [to_ok, toB_bl]
        exact ⟨trivial, fun _ => ⟨trivial, trivial⟩, fun _ => trivial⟩) ?_
      refine ⟨by rw [List.length_map]; omega, ?_⟩
      generalize hh1 : hb0.filter (fun x => !decide (x ∈ A)) = h1
      generalize hsB : sA ++ [MO.lst (h1.map nD)] = sB
      have fAB : Fr [] sA sB := by rw [← hsB]; exact .app
      have e1B : sB[sA.length]? = some (.lst (h1.map nD)) := by rw [← hsB]; simp
      have HB := HA.fr0 fAB
      have ehB := fAB.get ehA (by simp)
      have bl' : b < hd3.length := (List.getElem?_eq_some_iff.mp edb).1
      rw [fl_heaps HB.ob, to_ok, oPut_lst ehB bl', to_ok]
      have obC := look_ne (o' := .lst (hd3.set b (.loc sA.length))) HB.ob (Ne.symm n1)
      have ekC := look_ne (o' := .lst (hd3.set b (.loc sA.length))) (fAB.get ekA (by simp)) H.hk
      have ehC : (sB.set h (.lst (hd3.set b (.loc sA.length))))[h]? = _ := look_put ehB
      simp only [w_exp, w_meth, w_un, v0, vS, to_ok]
      rw [fl_knives obC, to_ok]
      refine ⟨tyQ_lst ekC, ?_⟩
      simp only [w_argsS, w_args0, w_op, w_un, v0, vS, to_ok]
      rw [fl_heaps obC, to_ok, oGet_lst ehC (by rw [List.getElem?_set_self bl']), to_ok, tAppend_lst ekC (by rw [a3.len]; omega), to_ok]
      have hkne : h ≠ k := H.hk
      have lsA : s3.length ≤ sA.length := f3A.1
      generalize hsD : (sB.set h (.lst (hd3.set b (.loc sA.length)))).set k (.lst (kd3 ++ [.loc sA.length])) = sD
      have fBD : Fr [h, k] sB sD := by rw [← hsD]; exact (Fr.refl.put (.inl (by simp))).put (.inl (by simp))
      have f3D : Fr [h, k] s3 sD := ((f3A.trans fAB).mono (by simp)).trans fBD
      have HD : HS sD p c w h o k (hs'.set b h1) ho' (List.range M.length) (ks' ++ [h1]) M.length := by
        refine H3.repl a1 a3 f3D ?_ ?_ ?_ lsA
        · rw [← hsD]; exact look_ne ehC (Ne.symm hkne)
        · rw [← hsD]; exact look_put ekC
        · refine fBD.get e1B ?_
          have : s.length ≤ s3.length := Nat.le_trans f02.1 f3.1
          simp; omega
      have eoD := f3D.get eo3 (by simp; omega)
      have elD := f3D.get el3 (by simp; omega)
      refine mMethC_to (by simp only [v0]) HD.ob rfl ?_
      simp only [w_argsS, w_args0, w_op, v0, vS, to_ok]
      rw [show (Dv.int (b : Int)) = nD b from rfl, oGet_dict eoD kb hkv, to_ok]
      have cA : Clo M A := fun g sg x y hx hy e hxA => by
        obtain ⟨x1, x2, x3⟩ := (mA x).mp hxA
        exact (mA y).mpr ⟨hy, by rw [← G.co g sg x y hx hy e]; exact x2, hit_clo wf cK sg hx hy e x3⟩
      have G4 := G3.part ehb' nA A0 subA hlt cA
      rw [hh1] at G4
      have few4 := G4.few
      rw [List.length_append, List.length_set, List.length_singleton] at few4
      refine lay_ok HD (nl_iff.mpr ⟨l, rfl, fun z => by rcases z with z | z | z <;> omega, elD⟩) (fun x hx => ((mA x).mp hx).1) hn (by rw [List.length_set]; omega) (by rw [List.length_append, List.length_singleton]; omega) fun s4 f4 H4 => ?_
      rw [List.length_set] at H4
      refine ⟨_, _, _, _, _, _, _, rfl, (f3.trans (f3D.mono fun m hm => .inl (by simp at hm; rcases hm with rfl | rfl <;> simp))).trans f4, H4.sub (fun x hx => by simp [hx]), G4, fun x y hx hy e => ?_, fun b' hb1 hb2 => ?_, fun x hx hxn => ?_, fun x y hx hy hxi e hh => ?_, ?_, ?_⟩
      · have h1 := G3.lt x hx
        have h2 := G3.lt y hy
        by_cases a : x ∈ A <;> by_cases c : y ∈ A
        · rw [((mA x).mp a).2.1, ((mA y).mp c).2.1]
        · rw [if_pos a, if_neg c] at e; omega
        · rw [if_neg a, if_pos c] at e; omega
        · rw [if_neg a, if_neg c] at e; exact r1 x y hx hy e
      · rw [tk] at hb2
        rw [List.getElem?_append_left (by rw [List.length_set]; omega), List.getElem?_set_ne (fun z => hb2 (.inr z.symm))]
        exact r2 b' hb1 fun z => hb2 (.inl z)
      · rw [tk] at hxn
        show (if x ∈ A then _ else _) = _
        rw [if_neg fun z => hxn (.inr ((mA x).mp z).2.1)]
        exact r3 x hx fun z => hxn (.inl z)
      · have h1 := G3.lt x hx
        have h2 := G3.lt y hy
        rw [tk] at hxi
        by_cases a : x ∈ A <;> by_cases c : y ∈ A
        · exact ((mA y).mp c).2.2
        · rw [if_pos a, if_neg c] at e; omega
        · exact ((mA y).mp c).2.2
        · rw [if_neg a, if_neg c] at e
          rcases hxi with z | z
          · exact r4 x y hx hy z e hh
          · exact absurd ((mA x).mpr ⟨hx, z, hh⟩) a
      · rw [List.length_append, List.length_set, List.length_singleton]; omega
      · simp only [List.length_append, List.length_set, List.length_singleton]; omega
    · rw [decide_eq_false (by omega), if_neg (by simp)]
      have allA : ∀ x ∈ hb0, x ∈ A := fun x hx => Classical.byContradiction fun nx => by
        have := sub_len nA (m := hb0.erase x) fun y hy => (List.mem_erase_of_ne (fun e => nx (by rw [← e]; exact hy))).mpr (subA y hy)
        rw [List.length_erase_of_mem hx] at this
        have := List.length_pos_of_mem hx
        omega
      refine ⟨y4, y5, some (nD b), y7, hs', ho', ks', rfl, f3, H3, G3, r1, fun b' hb1 hb2 => r2 b' hb1 fun z => hb2 ((tk b').mpr (.inl z)), fun x hx hxn => r3 x hx fun z => hxn ((tk _).mpr (.inl z)), fun x y hx hy hxi e hh => ?_, r5, r6⟩
      rcases (tk _).mp hxi with z | z
      · exact r4 x y hx hy z e hh
      · have : y ∈ hb0 := (mhb y).mpr ⟨hy, hoA y hy (by rw [← r1 x y hx hy e]; exact z)⟩
        exact ((mA y).mp (allA y this)).2.2
  · rintro σ s3 ⟨y4, y5, y6, y7, hs', ho', ks', rfl, f3, H3, G3, r1, r2, r3, r4, r5, r6⟩
    rw [List.take_length] at r4
    refine q s3 hs' ho' ks' ((f02.mono (by simp)).trans f3) H3 G3 r1 (fun x y hx hy e hh => r4 x y hx hy ?_ e hh) r6
    rw [mms, mnum]
    exact List.ne_nil_of_mem ((F _).2 x |>.mpr ⟨hx, rfl, hh⟩)
end
end Mid
namespace Mid
open PySem
noncomputable section
variable {M : Mach} {s s' : Mst} {Q : Dv → Mst → Prop} {p c w h o k n : Nat} {hs ks E : List (List Nat)} {ho : Nat → Nat} {D : List Nat}
theorem All2.snoc_inv {α β : Type} {R : α → β → Prop} {l : List α} {m : List β} {b : β} (h : All2 R l (m ++ [b])) : ∃ l' a, l = l' ++ [a] ∧ All2 R l' m ∧ R a b := by
  induction m generalizing l with
  | nil =>
    cases h with
    | cons x y => cases y; exact ⟨[], _, rfl, .nil, x⟩
  | cons c m ih =>
    cases h with
    | cons x y =>
      obtain ⟨l', a, rfl, h1, h2⟩ := ih y
      exact ⟨_ :: l', a, rfl, .cons x h1, h2⟩
theorem bSorted_keysS {n : Nat} {kvs : List (KeyQ × Dv)} {xs : List Str} (h : s[n]? = some (.dK kvs)) (e : kvs.map (·.1) = xs.map Sum.inr) (hl : xs.length < 64) : bSorted [.loc n] s = .ok (.loc s.length) (s ++ [.lst ((srtS xs).map .str)]) := by
  show (match bAny.lstQ (.loc n) s with | some l => _ | none => _) = _
  have e1 : bAny.lstQ (.loc n) s = none := by unfold bAny.lstQ; simp only; rw [h]
  have e2 : (kvs.map fun kv => keyD kv.1) = xs.map .str := by
    have : (kvs.map fun kv => keyD kv.1) = (kvs.map (·.1)).map keyD := by rw [List.map_map]; rfl
    rw [this, e, List.map_map]; rfl
  rw [e1]
  cases xs with
  | nil =>
    simp only [h, e2, srtQ, List.map_nil, intsQ]
    rfl
  | cons a r =>
    have e3 : intsQ ((a :: r).map Dv.str) = none := rfl
    simp only [h, e2, srtQ, e3, strsQ_map, if_pos hl]
    rfl
theorem cut_all_ok {cf : NestedKey → List Nat} {ckv : List (NestedKey × Dv)} {Pc : Nat → Prop} {wkv : List (KeyQ × Dv)} {ws : List Str} (wf : Wf M)
    (H : HS s p c w h o k hs ho (List.range M.length) ks M.length) (G : HPs M [] hs ho ks) (C1 : ML kN Pc s c cf ckv) (hPc : ∀ l, P3 h o k l → ¬ Pc l) (cn3 : c ≠ h ∧ c ≠ o ∧ c ≠ k)
    (hcf : ∀ sg t, t < M.length → (cf (nkey sg t)).Nodup ∧ ∀ x, x ∈ cf (nkey sg t) ↔ x < M.length ∧ (sg, t) ∈ stepsOf M x)
    (det : ∀ sg x t t', (sg, t) ∈ stepsOf M x → (sg, t') ∈ stepsOf M x → t = t') (hw : s[w]? = some (.dK wkv)) (hwk : wkv.map (·.1) = ws.map Sum.inr) (wo : w ≠ o) (hws : ∀ sg x t, (sg, t) ∈ stepsOf M x → sg ∈ ws) (wl : ws.length < 64)
    (hn : M.length ≤ 1000) (hb : ks.length + 2 * (M.length - hs.length) ≤ 5000)
    (q : ∀ s' hs' ho', Fr [h, o, k] s s' → HS s' p c w h o k hs' ho' (List.range M.length) [] M.length → HPs M [] hs' ho' [] → Q .non s') : (f_Heaps_cut_all [.loc p] s).to Q := by
  obtain ⟨n1, n2, n3, n4, n5⟩ := H.ne
  have wh : w ≠ h := fun z => by obtain ⟨_, e, _⟩ := H.hp; rw [← z, hw] at e; cases e
  have wk : w ≠ k := fun z => by obtain ⟨_, e, _⟩ := H.kn; rw [← z, hw] at e; cases e
  have inP : ∀ m ∈ [h, o, k], P3 h o k m := fun m hm => by simpa [P3] using hm
  unfold f_Heaps_cut_all
  refine fun_at [some (.loc p), none, none] rfl rfl ?_
  unfold m_Heaps_cut_all
  refine while_m (fun m σ s1 => ∃ y1 y2 hs ho ks, σ = [some (.loc p), y1, y2] ∧ Fr [h, o, k] s s1 ∧ HS s1 p c w h o k hs ho (List.range M.length) ks M.length ∧ HPs M [] hs ho ks ∧ m = ks.length + 2 * (M.length - hs.length) ∧ m ≤ 5000)
    ⟨_, none, none, hs, ho, ks, rfl, .refl, H, G, rfl, hb⟩ ?_
  rintro m σ s1 ⟨y1, y2, hs, ho, ks, rfl, f1, H1, G1, rfl, hb1⟩
  obtain ⟨kd, ek, ak⟩ := H1.kn
  simp only [w_tval, w_op, w_un, w_lst, w_args0, v0, to_ok]
  rw [fl_knives H1.ob, to_ok, oNe_nilL (look_app ek) (ak.imp fun _ _ _ _ z => NL.fr z (Fr.app (X := [])) (by simp)) (look_new0), to_ok]
  simp only [toB_bl]
  have H2 := H1.fr0 (Fr.app (t := [MO.lst []]))
  have f2 : Fr [h, o, k] s (s1 ++ [MO.lst []]) := f1.trans .app
  generalize s1 ++ [MO.lst []] = s2 at H2 f2
  obtain ⟨kd, ek, ak⟩ := H2.kn
  rcases List.eq_nil_or_concat ks with rfl | ⟨ks', K, e⟩
  · simp only [decide_true, Bool.not_true, Bool.false_eq_true, if_false]
    exact q s2 hs ho f2 H2 G1
  · rw [List.concat_eq_append] at e
    subst e
    obtain ⟨kd', dK, rfl, ak', rK⟩ := ak.snoc_inv
    obtain ⟨nK, hK⟩ := G1.kn K (by simp)
    have cK := G1.cl K (by simp)
    rw [decide_eq_false (by simp), if_pos (by rfl)]
    simp only [w_seq, w_set, w_meth, w_un, v0, to_ok]
    rw [fl_knives H2.ob, to_ok]
    refine ⟨tyQ_lst ek, ?_⟩
    simp only [w_args0]
    rw [tPop_lst ek, to_ok]
    generalize hs3 : s2.set k (.lst kd') = s3
    have f23 : Fr [h, o, k] s2 s3 := by rw [← hs3]; exact Fr.refl.put (.inl (by simp))
    have H3 : HS s3 p c w h o k hs ho (List.range M.length) ks' M.length := by
      have mv : ∀ {ds : List Dv} {as : List (List Nat)}, All2 (NL.rep (P3 h o k) s2) ds as → All2 (NL.rep (P3 h o k) s3) ds as := fun z => z.imp fun _ _ _ _ z => NL.fr z f23 inP
      obtain ⟨hd, e1, a1⟩ := H2.hp
      obtain ⟨od, e2, a2⟩ := H2.of_
      have hkn := H2.hk
      refine ⟨?_, ⟨hd, ?_, mv a1⟩, ⟨od, ?_, a2⟩, ⟨kd', ?_, mv ak'⟩, hkn⟩
      · rw [← hs3]; exact look_ne H2.ob (Ne.symm n3)
      · rw [← hs3]; exact look_ne e1 (Ne.symm hkn)
      · rw [← hs3]; exact look_ne e2 (Ne.symm n5)
      · rw [← hs3]; exact look_put ek
    have G3 : HPs M [K] hs ho ks' := ⟨G1.mem, G1.lt, G1.nd, G1.ne, fun k hk => G1.kn k (by simp [hk]), fun k hk => G1.cl k (by simp [hk]), G1.co, G1.en, fun h hh => by
      rcases G1.st h hh with z | z | z
      · rcases List.mem_append.mp z with z | z
        · exact .inl z
        · exact .inr (.inl z)
      · cases z
      · exact .inr (.inr z)⟩
    have rK3 := NL.fr rK f23 inP
    have f03 := f2.trans f23
    have hw3 := f03.get hw (by simp [wh, wo, wk])
    simp only [w_for, w_iseq, w_call, w_argsS, w_args0, w_un, v0, to_ok, List.set_cons_succ, List.set_cons_zero]
    rw [fl_words H3.ob, to_ok, bSorted_keysS hw3 hwk wl, to_ok]
    generalize hs4 : s3 ++ [MO.lst ((srtS ws).map .str)] = s4
    have f34 : Fr [] s3 s4 := by rw [← hs4]; exact .app
    have em : s4[s3.length]? = some (.lst ((srtS ws).map .str)) := by rw [← hs4]; simp
    have l3 : ∀ m ∈ [h, o, k], m < s3.length := fun m hm => by
      obtain ⟨_, e1, _⟩ := H3.hp
      obtain ⟨_, e2, _⟩ := H3.of_
      obtain ⟨_, e3, _⟩ := H3.kn
      simp at hm
      rcases hm with rfl | rfl | rfl
      · exact lt_of e1
      · exact lt_of e2
      · exact lt_of e3
    have n3h : s3.length ∉ [h, o, k] := fun z => Nat.lt_irrefl _ (l3 _ z)
    rw [itSeq_lst em, to_ok]
    have H4 := H3.fr0 f34
    have rK4 := NL.fr rK3 f34 (by simp)
    have f04 := f03.trans (f34.mono (Y := [h, o, k]) (by simp))
    refine for_map (srtS ws) Dv.str (fun i σ s5 => ∃ y2 hs' ho' ks2, σ = [some (.loc p), some dK, y2] ∧ Fr [h, o, k] s4 s5 ∧ HS s5 p c w h o k hs' ho' (List.range M.length) ks2 M.length ∧ HPs M [K] hs' ho' ks2 ∧
        ks2.length + 2 * (M.length - hs'.length) = ks'.length + 2 * (M.length - hs.length) ∧ ∀ sg ∈ (srtS ws).take i, ∀ x y, x < M.length → y < M.length → ho' x = ho' y → Hit M sg K x → Hit M sg K y)
      ⟨y2, hs, ho, ks', rfl, .refl, H4, G3, rfl, by simp⟩ (fun i σ s5 ⟨_, _, _, _, _, f, _⟩ => ⟨f.get em n3h, trivial⟩) ?_ ?_
    · rintro i sg σ s5 hsg ⟨y2, hs', ho', ks2, rfl, f5, H5, G5, m5, d5⟩
      have rK5 := NL.fr rK4 f5 inP
      have f05 := f04.trans f5
      simp only [w_gN, List.set_cons_succ, List.set_cons_zero, w_exp]
      refine mMethC_to (by simp only [v0]) H5.ob rfl ?_
      simp only [w_argsS, w_args0, v0, vS, to_ok]
      have C5 : ML kN Pc s5 c cf ckv := C1.fr f05 (by simp [cn3.1, cn3.2.1, cn3.2.2]) fun l hl => hPc l (inP l hl)
      refine hcut_ok wf H5 G5 C5 (hcf sg) (det sg) rK5 nK hK cK hn (by rw [m5]; simp at hb1; omega) fun s6 hs6 ho6 ks6 f6 H6 G6 r6 h6 m6 => ?_
      refine ⟨_, hs6, ho6, ks6, rfl, f5.trans f6, H6, G6, m6.trans m5, fun sg' hsg' x y hx hy e hh => ?_⟩
      rw [List.take_add_one, hsg] at hsg'
      simp only [Option.toList_some, List.mem_append, List.mem_singleton] at hsg'
      rcases hsg' with z | rfl
      · exact d5 sg' z x y hx hy (r6 x y hx hy e) hh
      · exact h6 x y hx hy e hh
    · rintro σ s5 ⟨y2, hs', ho', ks2, rfl, f5, H5, G5, m5, d5⟩
      rw [List.take_length] at d5
      refine ⟨ks2.length + 2 * (M.length - hs'.length), by rw [m5]; simp, _, _, hs', ho', ks2, rfl, f04.trans f5, H5, ⟨G5.mem, G5.lt, G5.nd, G5.ne, G5.kn, G5.cl, G5.co, G5.en, fun h hh => ?_⟩, rfl, by rw [m5]; simp at hb1; omega⟩
      rcases G5.st h hh with z | z | z
      · exact .inl z
      · rw [List.mem_singleton.mp z]
        exact .inr (.inr fun sg x y hx hy e hit => d5 sg ((srtS_perm ws).mem_iff.mpr (by obtain ⟨z, _, hz⟩ := hit; exact hws sg x z hz)) x y hx hy e hit)
      · exact .inr (.inr z)
end
end Mid
namespace Mid
open PySem
noncomputable section
variable {M : Mach} {s s' : Mst} {Q : Dv → Mst → Prop} {p c w h o k n : Nat} {hs ks E : List (List Nat)} {ho : Nat → Nat} {D So : List Nat}
theorem nkey_inj {a b : Str} {x y : Nat} (h : nkey a x = nkey b y) : a = b ∧ x = y := by
  unfold nkey at h
  simp only [NestedKey.tup.injEq, List.cons.injEq, NestedKey.text.injEq, NestedKey.num.injEq, and_true] at h
  exact ⟨h.1, by omega⟩
theorem ML.near {α : Type} [DecidableEq α] {D : DKind α} {f : α → List Nat} {kvs : List (α × Dv)} {P : Nat → Prop} {m : Nat} (L : ML D P s m f kvs) : ML D (fun l => l < s.length) s m f kvs :=
  ⟨L.ob, L.dom, fun k d e => let ⟨l, e1, _, e3⟩ := L.val k d e; ⟨l, e1, lt_of e3, e3⟩, L.inj, L.nd⟩
/-- who leads where, told by B -/
def Fcm (n : Nat) (B : Nat → Str × Nat → Prop) (f : NestedKey → List Nat) : Prop := ∀ q, (f q).Nodup ∧ ∀ x, x ∈ f q ↔ x < n ∧ ∃ sg t, q = nkey sg t ∧ B x (sg, t)
theorem fcm_add {B B' : Nat → Str × Nat → Prop} {f : NestedKey → List Nat} {x t : Nat} {sg : Str} (F : Fcm n B f) (hx : x < n) (nb : ¬ B x (sg, t)) (e : ∀ y r, B' y r ↔ B y r ∨ (y = x ∧ r = (sg, t))) : Fcm n B' (addF f (nkey sg t) x) := fun q => by
  unfold addF
  by_cases hq : nkey sg t = q
  · subst hq
    rw [if_pos rfl]
    refine ⟨snoc_nodup (F _).1 fun z => ?_, fun y => ?_⟩
    · obtain ⟨_, sg', t', e1, h1⟩ := (F _).2 x |>.mp z
      obtain ⟨rfl, rfl⟩ := nkey_inj e1
      exact nb h1
    · rw [List.mem_append, List.mem_singleton, (F _).2]
      constructor
      · rintro (⟨a, sg', t', e1, h1⟩ | rfl)
        · exact ⟨a, sg', t', e1, (e _ _).mpr (.inl h1)⟩
        · exact ⟨hx, sg, t, rfl, (e _ _).mpr (.inr ⟨rfl, rfl⟩)⟩
      · rintro ⟨a, sg', t', e1, h1⟩
        rcases (e _ _).mp h1 with h1 | ⟨rfl, _⟩
        · exact .inl ⟨a, sg', t', e1, h1⟩
        · exact .inr rfl
  · rw [if_neg hq]
    refine ⟨(F q).1, fun y => ?_⟩
    rw [(F q).2]
    refine and_congr_right fun _ => ⟨fun ⟨sg', t', e1, h1⟩ => ⟨sg', t', e1, (e _ _).mpr (.inl h1)⟩, fun ⟨sg', t', e1, h1⟩ => ?_⟩
    rcases (e _ _).mp h1 with h1 | ⟨_, h1⟩
    · exact ⟨sg', t', e1, h1⟩
    · cases h1; exact absurd e1.symm hq
/-- the texts of words, put -/
theorem words_put {wkv : List (KeyQ × Dv)} {ws : List Str} {sg : Str} {v : Dv} (h : wkv.map (·.1) = ws.map Sum.inr) (nd : ws.Nodup) : ∃ ws' : List Str, (kput wkv (Sum.inr sg) v).map (·.1) = ws'.map Sum.inr ∧ ws'.Nodup ∧ ∀ x, x ∈ ws' ↔ x ∈ ws ∨ x = sg := by
  by_cases hm : sg ∈ ws
  · refine ⟨ws, ?_, nd, fun x => ⟨.inl, fun z => z.elim id fun e => by rw [e]; exact hm⟩⟩
    rw [← h]
    unfold kput
    rw [if_pos]
    · rw [List.map_map]
      refine List.map_congr_left fun e _ => ?_
      simp only [Function.comp_def]
      split <;> rfl
    · have : (Sum.inr sg : KeyQ) ∈ wkv.map (·.1) := by rw [h]; exact List.mem_map.mpr ⟨sg, hm, rfl⟩
      obtain ⟨e, h1, h2⟩ := List.mem_map.mp this
      exact List.any_eq_true.mpr ⟨e, h1, decide_eq_true h2⟩
  · refine ⟨ws ++ [sg], ?_, ?_, fun x => by simp⟩
    · rw [kput_new, List.map_append, List.map_append, h]
      · rfl
      · rw [h]
        intro z
        obtain ⟨x, h1, h2⟩ := List.mem_map.mp z
        cases h2
        exact hm h1
    · rw [List.nodup_append]
      exact ⟨nd, by simp, fun a ha b hb e => hm (by simp at hb; rw [← hb, ← e]; exact ha)⟩
def heapF1 (c : Nat) : List (Str × Dv) := [("comers", .loc c)]
def heapF2 (c w : Nat) : List (Str × Dv) := [("comers", .loc c), ("words", .loc w)]
theorem fl2_words {c w : Nat} (e : s[p]? = some (.ins 0 (heapF2 c w))) : oFld [0] "words" (.loc p) s = .ok (.loc w) s := oFld_of e (by simp) rfl
theorem fl2_comers {c w : Nat} (e : s[p]? = some (.ins 0 (heapF2 c w))) : oFld [0] "comers" (.loc p) s = .ok (.loc c) s := oFld_of e (by simp) rfl
/-- the first half of __init__: comers and words -/
theorem comers_ok {d : Dv} {xs : List Str} {N : Men → Mst → Prop} {R : Dv → Mst → Prop} {C B : Men → Mst → Prop} (hp : s[p]? = some (.ins 0 [])) (hd : NL.rep (fun l => l = p) s d So) (nS : So.Nodup) (hS : ∀ x ∈ So, x < M.length) (sr : Srt M)
    (hsl : ∀ r ∈ M, r.2.length < 60) (hxs : ∀ x q, q ∈ stepsOf M x → q.1 ∈ xs) (lxs : xs.length < 60) (hn : M.length ≤ 1000)
    (q : ∀ s1 y3 y4 y5 cf ckv wkv (ws : List Str), Fr [p] s s1 → s.length + 2 ≤ s1.length → s1[p]? = some (.ins 0 (heapF2 s.length (s.length + 1))) → ML kN (fun l => s.length + 2 ≤ l) s1 s.length cf ckv → Fcm M.length (fun x r => x ∈ So ∧ r ∈ stepsOf M x) cf →
      s1[s.length + 1]? = some (.dK wkv) → wkv.map (·.1) = ws.map Sum.inr → ws.Nodup → (∀ sg, sg ∈ ws ↔ ∃ x ∈ So, ∃ t, (sg, t) ∈ stepsOf M x) → N [some (.loc p), some (mD M), some d, y3, y4, y5, none, none] s1) :
    (msSeq (msFldC [0] "comers" (mVar 0) (mDisp [])) (msSeq (msFldC [0] "words" (mVar 0) (mDisp [])) (msFor (miSeq (mVar 2)) (gN 3) (msFor (miSeq (mOp oGet (mOp oGet (mVar 1) (mVar 3)) (mC (.int 1)))) (gT [gN 4, gN 5]) (msSeq (msPut oPut (mUn (oFld [0] "words") (mVar 0)) (mVar 4) (mC (.bl true)))
    (msExp (mMeth "list" tAppend (mMeth "dict" tSetd (mUn (oFld [0] "comers") (mVar 0)) [mTup [mVar 4, mVar 5], mLst []]) [mVar 3]))))))
      [some (.loc p), some (mD M), some d, none, none, none, none, none] s).to N R C B := by
  obtain ⟨a, rfl, hPa, ha⟩ := nl_iff.mp hd
  have ap : a ≠ p := hPa
  have pl := lt_of hp
  simp only [w_seq]
  refine msFldC_to mdisp0 (by simp only [v0]) (look_app hp) (by simp) (by simp) ?_
  rw [show putA "comers" (Dv.loc s.length) [] = heapF1 s.length from rfl]
  generalize hsA : (s ++ [MO.dK []]).set p (.ins 0 (heapF1 s.length)) = sA
  have fA : Fr [p] s sA := by rw [← hsA]; exact (Fr.app).put (.inl (by simp))
  have lA : sA.length = s.length + 1 := by rw [← hsA]; simp
  have pA : sA[p]? = some (.ins 0 (heapF1 s.length)) := by rw [← hsA]; exact look_put (look_app hp)
  have cA : sA[s.length]? = some (.dK []) := by rw [← hsA]; exact look_ne look_new0 (Nat.ne_of_lt pl)
  refine msFldC_to mdisp0 (by simp only [v0]) (look_app pA) (by simp) (by simp [heapF1]) ?_
  rw [show putA "words" (Dv.loc sA.length) (heapF1 s.length) = heapF2 s.length (s.length + 1) from by rw [lA]; rfl]
  generalize hsB : (sA ++ [MO.dK []]).set p (.ins 0 (heapF2 s.length (s.length + 1))) = sB
  have fB : Fr [p] s sB := fA.trans (by rw [← hsB]; exact (Fr.app).put (.inl (by simp)))
  have lB : sB.length = s.length + 2 := by rw [← hsB]; simp [lA]
  have pB : sB[p]? = some (.ins 0 (heapF2 s.length (s.length + 1))) := by rw [← hsB]; exact look_put (look_app pA)
  have cB : sB[s.length]? = some (.dK []) := by rw [← hsB]; exact look_ne (look_app cA) (Nat.ne_of_lt pl)
  have wB : sB[s.length + 1]? = some (.dK []) := by rw [← hsB]; exact look_ne (by rw [← lA]; exact look_new0) (by omega)
  simp only [w_for, w_iseq, v0, vS, to_ok]
  rw [itSeq_lst (fB.get ha (by simpa using ap)), to_ok]
  refine for_map So nD (fun i σ s1 => ∃ y3 y4 y5 cf ckv wkv, ∃ ws : List Str, σ = [some (.loc p), some (mD M), some (.loc a), y3, y4, y5, none, none] ∧ Fr [p] s s1 ∧ s.length + 2 ≤ s1.length ∧ s1[p]? = some (.ins 0 (heapF2 s.length (s.length + 1))) ∧
      ML kN (fun l => s.length + 2 ≤ l) s1 s.length cf ckv ∧ Fcm M.length (fun x r => x ∈ So.take i ∧ r ∈ stepsOf M x) cf ∧ ckv.length ≤ 60 * i ∧ s1[s.length + 1]? = some (.dK wkv) ∧ wkv.map (·.1) = ws.map Sum.inr ∧ ws.Nodup ∧ ∀ sg, sg ∈ ws ↔ ∃ x ∈ So.take i, ∃ t, (sg, t) ∈ stepsOf M x)
    ⟨none, none, none, fun _ => [], [], [], [], rfl, fB, by omega, pB, ⟨⟨_, cB, .inr ⟨rfl, rfl⟩⟩, by simp, (fun q d e => by cases e), (fun q q' l e => by cases e), by simp⟩, fun q => ⟨by simp, fun x => by simp⟩, by simp, wB, rfl, by simp, by simp⟩
    (fun i σ s1 ⟨_, _, _, _, _, _, _, _, f, _⟩ => ⟨f.get ha (by simpa using ap), trivial⟩) ?_ ?_
  · rintro i x σ s1 hx ⟨y3, y4, y5, cf, ckv, wkv, ws, rfl, f1, l1, p1, L1, F1, b1, w1, wk1, wn1, wm1⟩
    have xS : x ∈ So := List.mem_of_getElem? hx
    have xn := hS x xS
    have xt := nodup_take_not nS hx
    have il : i < So.length := (List.getElem?_eq_some_iff.mp hx).1
    have Sl : So.length ≤ M.length := nodup_len nS hS
    obtain ⟨r, hr⟩ : ∃ r, M[x]? = some r := ⟨_, List.getElem?_eq_getElem xn⟩
    have est := steps_of hr
    have rM : r ∈ M := List.mem_of_getElem? hr
    have ndr : r.2.Nodup := by
      have := sr r rM
      rw [List.pairwise_map] at this
      exact this.imp fun h e => h.2 (by rw [e])
    simp only [w_gN, List.set_cons_succ, List.set_cons_zero, w_for, w_iseq, w_op, v0, vS, mC_eq, to_ok]
    rw [roomQ hr, to_ok]
    simp only [roomD, oGet_tup1, to_ok, itSeq_tup]
    refine for_map r.2 stepD (fun j σ s1 => ∃ y4 y5 cf ckv wkv, ∃ ws : List Str, σ = [some (.loc p), some (mD M), some (.loc a), some (nD x), y4, y5, none, none] ∧ Fr [p] s s1 ∧ s.length + 2 ≤ s1.length ∧ s1[p]? = some (.ins 0 (heapF2 s.length (s.length + 1))) ∧
        ML kN (fun l => s.length + 2 ≤ l) s1 s.length cf ckv ∧ Fcm M.length (fun y q => (y ∈ So.take i ∧ q ∈ stepsOf M y) ∨ (y = x ∧ q ∈ r.2.take j)) cf ∧ ckv.length ≤ 60 * i + j ∧ s1[s.length + 1]? = some (.dK wkv) ∧ wkv.map (·.1) = ws.map Sum.inr ∧ ws.Nodup ∧
        ∀ sg, sg ∈ ws ↔ (∃ x ∈ So.take i, ∃ t, (sg, t) ∈ stepsOf M x) ∨ ∃ t, (sg, t) ∈ r.2.take j)
      ⟨y4, y5, cf, ckv, wkv, ws, rfl, f1, l1, p1, L1, fun q => ⟨(F1 q).1, fun y => by rw [(F1 q).2]; simp⟩, by omega, w1, wk1, wn1, fun sg => by rw [wm1]; simp⟩ (fun _ _ _ _ => trivial) ?_ ?_
    · rintro j ⟨sg, t⟩ σ s2 hj ⟨y4, y5, cf, ckv, wkv, ws, rfl, f2, l2, p2, L2, F2, b2, w2, wk2, wn2, wm2⟩
      have stx : (sg, t) ∈ stepsOf M x := by rw [est]; exact List.mem_of_getElem? hj
      have jl : j < r.2.length := (List.getElem?_eq_some_iff.mp hj).1
      have hsl1 := hsl r rM
      have wl : wkv.length < 60 := by
        have h1 := congrArg List.length wk2
        simp only [List.length_map] at h1
        have h2 := sub_len wn2 (m := xs) fun y hy => by
          rcases (wm2 y).mp hy with ⟨z, _, t', h3⟩ | ⟨t', h3⟩
          · exact hxs z _ h3
          · exact hxs x (y, t') (by rw [est]; exact List.mem_of_mem_take h3)
        omega
      have ndj : (sg, t) ∉ r.2.take j := by
        intro z
        obtain ⟨j', hj'⟩ := List.mem_iff_getElem?.mp z
        rw [List.getElem?_take] at hj'
        split at hj'
        · have h1 := (List.getElem?_eq_some_iff.mp hj).2
          have h2 := (List.getElem?_eq_some_iff.mp hj').2
          have := (List.getElem_inj ndr).mp (h1.trans h2.symm)
          omega
        · cases hj'
      simp only [stepD, w_gT, w_gES, w_gE0, w_gN, List.length_cons, List.length_nil, true_and, List.set_cons_succ, List.set_cons_zero, w_seq, w_put, w_un, v0, vS, mC_eq, to_ok]
      rw [fl2_words p2, to_ok, oPut_dict w2 (show keyQ (.str sg) = some (Sum.inr sg) from rfl) (by omega), to_ok]
      have hne : s.length + 1 ≠ p := by omega
      have p3 := look_ne (o' := .dK (kput wkv (Sum.inr sg) (.bl true))) p2 hne
      have w3 : (s2.set (s.length + 1) (.dK (kput wkv (Sum.inr sg) (.bl true))))[s.length + 1]? = some _ := look_put w2
      have f3 : Fr [p] s (s2.set (s.length + 1) (.dK (kput wkv (Sum.inr sg) (.bl true)))) := f2.put (.inr (by omega))
      have L3 : ML kN (fun l => s.length + 2 ≤ l) (s2.set (s.length + 1) (.dK (kput wkv (Sum.inr sg) (.bl true)))) s.length cf ckv := L2.fr (X := [s.length + 1]) (Fr.refl.put (.inl (by simp))) (by simp) (by simp)
      have l3 : (s2.set (s.length + 1) (MO.dK (kput wkv (Sum.inr sg) (.bl true)))).length = s2.length := by simp
      generalize s2.set (s.length + 1) (MO.dK (kput wkv (Sum.inr sg) (.bl true))) = s3 at p3 w3 f3 L3 l3
      simp only [w_exp, w_meth, w_un, v0, vS, to_ok]
      rw [fl2_comers p3, to_ok]
      refine ⟨L3.ty, ?_⟩
      simp only [w_argsS, w_args0, w_tup, w_lst, v0, vS, to_ok]
      have fl : (cf (nkey sg t)).length ≤ M.length := nodup_len (F2 _).1 fun y hy => ((F2 _).2 y |>.mp hy).1
      refine L3.add (k := nkey sg t) (show kN.key (.tup [.str sg, nD t]) = some (nkey sg t) from keyN_pair) (by omega) (by omega) (by show s.length + 2 ≤ s3.length; omega) fun s4 kvs4 L4 b4 l4 kp1 kp2 => ?_
      obtain ⟨ws', wk4, wn4, wm4⟩ := words_put (sg := sg) (v := .bl true) wk2 wn2
      have p4 : s4[p]? = _ := (kp1 p (by omega) (by omega) (by omega)).trans p3
      have w4 : s4[s.length + 1]? = _ := (kp1 (s.length + 1) (by omega) (by omega) (by omega)).trans w3
      refine ⟨_, _, _, kvs4, _, ws', rfl, ⟨by have := f3.1; omega, fun m hm hl => (kp1 m (by omega) (by omega) (by omega)).trans (f3.2 m hm hl)⟩, by omega, p4, L4, fcm_add F2 xn ?_ fun y q => ?_, by omega, w4, wk4, wn4, fun sg' => ?_⟩
      · rintro (⟨h1, _⟩ | ⟨_, h1⟩)
        · exact xt h1
        · exact ndj h1
      · rw [List.take_add_one, hj]
        simp only [Option.toList_some, List.mem_append, List.mem_singleton]
        constructor
        · rintro (h1 | ⟨h1, h2 | h2⟩)
          · exact .inl (.inl h1)
          · exact .inl (.inr ⟨h1, h2⟩)
          · exact .inr ⟨h1, h2⟩
        · rintro ((h1 | ⟨h1, h2⟩) | ⟨h1, h2⟩)
          · exact .inl h1
          · exact .inr ⟨h1, .inl h2⟩
          · exact .inr ⟨h1, .inr h2⟩
      · rw [wm4, wm2, List.take_add_one, hj]
        simp only [Option.toList_some, List.mem_append, List.mem_singleton]
        constructor
        · rintro ((h1 | ⟨t', h1⟩) | h1)
          · exact .inl h1
          · exact .inr ⟨t', .inl h1⟩
          · exact .inr ⟨t, .inr (by rw [h1])⟩
        · rintro (h1 | ⟨t', h1 | h1⟩)
          · exact .inl (.inl h1)
          · exact .inl (.inr ⟨t', h1⟩)
          · cases h1; exact .inr rfl
    · rintro σ s2 ⟨y4, y5, cf, ckv, wkv, ws, rfl, f2, l2, p2, L2, F2, b2, w2, wk2, wn2, wm2⟩
      rw [List.take_length] at F2 wm2
      have hsl1 := hsl r rM
      refine ⟨_, y4, y5, cf, ckv, wkv, ws, rfl, f2, l2, p2, L2, fun q => ⟨(F2 q).1, fun y => ?_⟩, by omega, w2, wk2, wn2, fun sg => ?_⟩
      · rw [(F2 q).2, List.take_add_one, hx]
        simp only [Option.toList_some, List.mem_append, List.mem_singleton]
        refine and_congr_right fun _ => ⟨fun ⟨sg, t, e1, h1⟩ => ⟨sg, t, e1, ?_⟩, fun ⟨sg, t, e1, h1, h2⟩ => ⟨sg, t, e1, ?_⟩⟩
        · rcases h1 with ⟨h1, h2⟩ | ⟨rfl, h2⟩
          · exact ⟨.inl h1, h2⟩
          · exact ⟨.inr rfl, by rw [est]; exact h2⟩
        · rcases h1 with h1 | rfl
          · exact .inl ⟨h1, h2⟩
          · exact .inr ⟨rfl, by rw [← est]; exact h2⟩
      · rw [wm2, List.take_add_one, hx]
        simp only [Option.toList_some, List.mem_append, List.mem_singleton]
        constructor
        · rintro (⟨y, h1, t, h2⟩ | ⟨t, h2⟩)
          · exact ⟨y, .inl h1, t, h2⟩
          · exact ⟨x, .inr rfl, t, by rw [est]; exact h2⟩
        · rintro ⟨y, h1 | rfl, t, h2⟩
          · exact .inl ⟨y, h1, t, h2⟩
          · exact .inr ⟨t, by rw [← est]; exact h2⟩
  · rintro σ s1 ⟨y3, y4, y5, cf, ckv, wkv, ws, rfl, f1, l1, p1, L1, F1, b1, w1, wk1, wn1, wm1⟩
    rw [List.take_length] at F1 wm1
    exact q s1 y3 y4 y5 cf ckv wkv ws f1 l1 p1 L1 F1 w1 wk1 wn1 wm1
end
end Mid
namespace Mid
open PySem
noncomputable section
variable {M : Mach} {s s' : Mst} {Q : Dv → Mst → Prop} {p c w h o k n : Nat} {hs ks E : List (List Nat)} {ho : Nat → Nat} {D So : List Nat} {T : List Bool}
/-- heaps of those that end (or not), as T tells -/
structure HPi (M : Mach) (T : List Bool) (hs : List (List Nat)) (ho : Nat → Nat) : Prop where
  mem : ∀ b h, hs[b]? = some h → ∀ x, x ∈ h ↔ x < M.length ∧ endB M x ∈ T ∧ ho x = b
  lt : ∀ x, x < M.length → endB M x ∈ T → ho x < hs.length
  nd : ∀ h ∈ hs, h.Nodup
  ne : ∀ h ∈ hs, h ≠ []
  cl : ∀ h ∈ hs, Clo M h
  co : ∀ g, Stb M g → ∀ x y, x < M.length → y < M.length → endB M x ∈ T → g x = g y → ho x = ho y
  en : ∀ x y, x < M.length → y < M.length → endB M x ∈ T → endB M y ∈ T → ho x = ho y → endB M x = endB M y
def endL (M : Mach) (So : List Nat) (e : Bool) : List Nat := So.filter fun x => endB M x == e
theorem mem_endL {x : Nat} {e : Bool} (mS : ∀ x, x ∈ So ↔ x < M.length) : x ∈ endL M So e ↔ x < M.length ∧ endB M x = e := by
  unfold endL
  rw [List.mem_filter, mS]
  simp
theorem HPi.skip {e : Bool} (H : HPi M T hs ho) (mS : ∀ x, x ∈ So ↔ x < M.length) (h0 : endL M So e = []) : HPi M (T ++ [e]) hs ho := by
  have ee : ∀ x, x < M.length → (endB M x ∈ T ++ [e] ↔ endB M x ∈ T) := fun x hx => by
    rw [List.mem_append, List.mem_singleton]
    exact ⟨fun z => z.elim id fun z => absurd ((mem_endL mS).mpr ⟨hx, z⟩) (by rw [h0]; simp), .inl⟩
  refine ⟨fun b h hb x => ?_, fun x hx z => H.lt x hx ((ee x hx).mp z), H.nd, H.ne, H.cl, fun g sg x y hx hy z => H.co g sg x y hx hy ((ee x hx).mp z), fun x y hx hy z1 z2 => H.en x y hx hy ((ee x hx).mp z1) ((ee y hy).mp z2)⟩
  rw [H.mem b h hb x]
  exact ⟨fun ⟨a, b, c⟩ => ⟨a, (ee x a).mpr b, c⟩, fun ⟨a, b, c⟩ => ⟨a, (ee x a).mp b, c⟩⟩
theorem HPi.add {e : Bool} (H : HPi M T hs ho) (mS : ∀ x, x ∈ So ↔ x < M.length) (nS : So.Nodup) (he : e ∉ T) (h0 : endL M So e ≠ []) : HPi M (T ++ [e]) (hs ++ [endL M So e]) (fun x => if x ∈ endL M So e then hs.length else ho x) := by
  have ea := fun x => mem_endL (M := M) (So := So) (x := x) (e := e) mS
  have ee : ∀ x, x < M.length → endB M x ∈ T ++ [e] → x ∉ endL M So e → endB M x ∈ T := fun x hx z n => by
    rw [List.mem_append, List.mem_singleton] at z
    exact z.elim id fun z => absurd ((ea x).mpr ⟨hx, z⟩) n
  have nt : ∀ x, endB M x ∈ T → x ∉ endL M So e := fun x z n => he (by rw [← ((ea x).mp n).2]; exact z)
  refine ⟨fun b h hb x => ?_, fun x hx z => ?_, fun h hh => ?_, fun h hh => ?_, fun h hh => ?_, fun g sg x y hx hy z e1 => ?_, fun x y hx hy z1 z2 e1 => ?_⟩
  · rw [List.getElem?_append] at hb
    split at hb
    · rename_i hlt
      rw [H.mem b h hb x]
      constructor
      · rintro ⟨a, b', c'⟩
        exact ⟨a, by simp [b'], by show (if _ then _ else _) = _; rw [if_neg (nt x b')]; exact c'⟩
      · rintro ⟨a, b', c'⟩
        have c' : (if x ∈ endL M So e then hs.length else ho x) = b := c'
        by_cases q : x ∈ endL M So e
        · rw [if_pos q] at c'; omega
        · rw [if_neg q] at c'; exact ⟨a, ee x a b' q, c'⟩
    · rename_i hge
      have e0 : b - hs.length = 0 := by
        have := (List.getElem?_eq_some_iff.mp hb).1
        simp at this; omega
      rw [e0] at hb
      cases hb
      have eb : b = hs.length := by omega
      subst eb
      constructor
      · intro q
        exact ⟨((ea x).mp q).1, by simp [((ea x).mp q).2], if_pos q⟩
      · rintro ⟨a, b', c'⟩
        have c' : (if x ∈ endL M So e then hs.length else ho x) = hs.length := c'
        by_cases q : x ∈ endL M So e
        · exact q
        · rw [if_neg q] at c'
          have := H.lt x a (ee x a b' q)
          omega
  · show (if _ then _ else _) < _
    rw [List.length_append, List.length_singleton]
    by_cases q : x ∈ endL M So e
    · rw [if_pos q]; omega
    · rw [if_neg q]; have := H.lt x hx (ee x hx z q); omega
  · rcases List.mem_append.mp hh with q | q
    · exact H.nd h q
    · rw [List.mem_singleton.mp q]; exact nS.filter _
  · rcases List.mem_append.mp hh with q | q
    · exact H.ne h q
    · rw [List.mem_singleton.mp q]; exact h0
  · rcases List.mem_append.mp hh with q | q
    · exact H.cl h q
    · rw [List.mem_singleton.mp q]
      intro g sg x y hx hy e1 hxA
      rw [ea] at hxA ⊢
      exact ⟨hy, by rw [← (sg x y hx hy e1).1]; exact hxA.2⟩
  · show (if _ then _ else _) = (if _ then _ else _)
    have e2 := (sg x y hx hy e1).1
    by_cases q : x ∈ endL M So e
    · have : y ∈ endL M So e := (ea y).mpr ⟨hy, by rw [← e2]; exact ((ea x).mp q).2⟩
      rw [if_pos q, if_pos this]
    · have : y ∉ endL M So e := fun r => q ((ea x).mpr ⟨hx, by rw [e2]; exact ((ea y).mp r).2⟩)
      rw [if_neg q, if_neg this]
      exact H.co g sg x y hx hy (ee x hx z q) e1
  · have e1 : (if x ∈ endL M So e then hs.length else ho x) = (if y ∈ endL M So e then hs.length else ho y) := e1
    by_cases q : x ∈ endL M So e <;> by_cases r : y ∈ endL M So e
    · rw [((ea x).mp q).2, ((ea y).mp r).2]
    · rw [if_pos q, if_neg r] at e1; have := H.lt y hy (ee y hy z2 r); omega
    · rw [if_neg q, if_pos r] at e1; have := H.lt x hx (ee x hx z1 q); omega
    · rw [if_neg q, if_neg r] at e1; exact H.en x y hx hy (ee x hx z1 q) (ee y hy z2 r) e1
theorem HPi.done (H : HPi M [true, false] hs ho) (mS : ∀ x, x ∈ So ↔ x < M.length) (nS : So.Nodup) : HPs M [] hs ho (So :: hs) := by
  have tt : ∀ b : Bool, b ∈ [true, false] := fun b => by cases b <;> simp
  refine ⟨fun b h hb x => ?_, fun x hx => H.lt x hx (tt _), H.nd, H.ne, fun k hk => ?_, fun k hk => ?_, fun g sg x y hx hy e => H.co g sg x y hx hy (tt _) e, fun x y hx hy e => H.en x y hx hy (tt _) (tt _) e, fun h hh => .inl (by simp [hh])⟩
  · rw [H.mem b h hb x]; simp [tt]
  · rcases List.mem_cons.mp hk with rfl | hk
    · exact ⟨nS, fun x hx => (mS x).mp hx⟩
    · refine ⟨H.nd k hk, fun x hx => ?_⟩
      obtain ⟨b, hb⟩ := List.mem_iff_getElem?.mp hk
      exact ((H.mem b k hb x).mp hx).1
  · rcases List.mem_cons.mp hk with rfl | hk
    · exact fun g sg x y hx hy e _ => (mS y).mpr hy
    · exact H.cl k hk
def heapF3 (c w h : Nat) : List (Str × Dv) := [("comers", .loc c), ("words", .loc w), ("heaps", .loc h)]
def heapF4 (c w h o : Nat) : List (Str × Dv) := [("comers", .loc c), ("words", .loc w), ("heaps", .loc h), ("heap_of", .loc o)]
theorem init_ok {d : Dv} {xs : List Str} (hp : s[p]? = some (.ins 0 [])) (hd : NL.rep (fun l => l = p) s d So) (nS : So.Nodup) (mS : ∀ x, x ∈ So ↔ x < M.length) (sr : Srt M)
    (hsl : ∀ r ∈ M, r.2.length < 60) (hxs : ∀ x q, q ∈ stepsOf M x → q.1 ∈ xs) (lxs : xs.length < 60) (hn : M.length ≤ 1000)
    (q : ∀ s' c w h o k hs ho ks cf ckv Pc wkv, ∀ ws : List Str, Fr [p] s s' → HS s' p c w h o k hs ho (List.range M.length) ks M.length → HPs M [] hs ho ks → ML kN Pc s' c cf ckv → (∀ l, P3 h o k l → ¬ Pc l) → ((c ≠ h ∧ c ≠ o ∧ c ≠ k) ∧ s.length ≤ h ∧ s.length ≤ o ∧ s.length ≤ k) →
      (∀ sg t, t < M.length → (cf (nkey sg t)).Nodup ∧ ∀ x, x ∈ cf (nkey sg t) ↔ x < M.length ∧ (sg, t) ∈ stepsOf M x) → s'[w]? = some (.dK wkv) → wkv.map (·.1) = ws.map Sum.inr → w ≠ o → (∀ sg x t, (sg, t) ∈ stepsOf M x → sg ∈ ws) → ws.length < 64 →
      ks.length + 2 * (M.length - hs.length) ≤ 5000 → Q .non s') : (f_Heaps_init [.loc p, mD M, d] s).to Q := by
  obtain ⟨a, rfl, hPa, ha⟩ := nl_iff.mp hd
  have ap : a ≠ p := hPa
  have pl := lt_of hp
  unfold f_Heaps_init
  refine fun_at [some (.loc p), some (mD M), some (.loc a), none, none, none, none, none] rfl rfl ?_
  unfold m_Heaps_init
  have key := fun N R C B q => comers_ok (N := N) (R := R) (C := C) (B := B) hp hd nS (fun x hx => (mS x).mp hx) sr hsl hxs lxs hn q
  simp only [w_seq] at key ⊢
  refine key _ _ _ _ fun s1 y3 y4 y5 cf ckv wkv ws f1 l1 p1 L1 F1 w1 wk1 wn1 wm1 => ?_
  clear key
  have hmem : ∀ sg x t, (sg, t) ∈ stepsOf M x → x ∈ So := fun sg x t h => by
    rw [mS]
    unfold stepsOf at h
    cases e : M[x]? with
    | none => rw [e] at h; cases h
    | some r => exact (List.getElem?_eq_some_iff.mp e).1
  have hcf : ∀ sg t, t < M.length → (cf (nkey sg t)).Nodup ∧ ∀ x, x ∈ cf (nkey sg t) ↔ x < M.length ∧ (sg, t) ∈ stepsOf M x := fun sg t _ => ⟨(F1 _).1, fun x => by
    rw [(F1 _).2]
    refine and_congr_right fun _ => ⟨fun ⟨sg', t', e, _, h⟩ => ?_, fun h => ⟨sg, t, rfl, hmem _ _ _ h, h⟩⟩
    obtain ⟨rfl, rfl⟩ := nkey_inj e
    exact h⟩
  have hws : ∀ sg x t, (sg, t) ∈ stepsOf M x → sg ∈ ws := fun sg x t h => (wm1 sg).mpr ⟨x, hmem _ _ _ h, t, h⟩
  have wl : ws.length < 64 := by
    have := sub_len wn1 (m := xs) fun y hy => by
      obtain ⟨x, _, t, h⟩ := (wm1 y).mp hy
      exact hxs x _ h
    omega
  have pl1 := lt_of p1
  -- heaps
  have e0 : ∀ (σ : Men) (s : Mst), mLst [] σ s = .ok (.loc s.length) (s ++ [.lst []]) := fun _ _ => rfl
  refine msFldC_to (e0 _ _) (by simp only [v0]) (look_app p1) (by simp) (by simp [heapF2]) ?_
  rw [show putA "heaps" (Dv.loc s1.length) (heapF2 s.length (s.length + 1)) = heapF3 s.length (s.length + 1) s1.length from rfl]
  generalize hs2 : (s1 ++ [MO.lst []]).set p (.ins 0 (heapF3 s.length (s.length + 1) s1.length)) = s2
  have f2 : Fr [p] s1 s2 := by rw [← hs2]; exact (Fr.app).put (.inl (by simp))
  have l2 : s2.length = s1.length + 1 := by rw [← hs2]; simp
  have p2 : s2[p]? = some (.ins 0 (heapF3 s.length (s.length + 1) s1.length)) := by rw [← hs2]; exact look_put (look_app p1)
  have h2 : s2[s1.length]? = some (.lst []) := by rw [← hs2]; exact look_ne look_new0 (Nat.ne_of_lt pl1)
  refine msFldC_to mdisp0 (by simp only [v0]) (look_app p2) (by simp) (by simp [heapF3]) ?_
  rw [show putA "heap_of" (Dv.loc s2.length) (heapF3 s.length (s.length + 1) s1.length) = heapF4 s.length (s.length + 1) s1.length s2.length from rfl]
  generalize hs3 : (s2 ++ [MO.dK []]).set p (.ins 0 (heapF4 s.length (s.length + 1) s1.length s2.length)) = s3
  have f3 : Fr [p] s2 s3 := by rw [← hs3]; exact (Fr.app).put (.inl (by simp))
  have l3 : s3.length = s2.length + 1 := by rw [← hs3]; simp
  have p3 : s3[p]? = some (.ins 0 (heapF4 s.length (s.length + 1) s1.length s2.length)) := by rw [← hs3]; exact look_put (look_app p2)
  have h3 : s3[s1.length]? = some (.lst []) := f3.get h2 (by simp; omega)
  have o3 : s3[s2.length]? = some (.dK []) := by rw [← hs3]; exact look_ne look_new0 (by omega)
  refine msFldC_to (v := .loc s3.length) (s1 := s3 ++ [.lst [.loc a]]) rfl (by simp only [v0]) (look_app p3) (by simp) (by simp [heapF4]) ?_
  rw [show putA "knives" (Dv.loc s3.length) (heapF4 s.length (s.length + 1) s1.length s2.length) = heapFs s.length (s.length + 1) s1.length s2.length s3.length from rfl]
  generalize hs4 : (s3 ++ [MO.lst [.loc a]]).set p (.ins 0 (heapFs s.length (s.length + 1) s1.length s2.length s3.length)) = s4
  have f4 : Fr [p] s3 s4 := by rw [← hs4]; exact (Fr.app).put (.inl (by simp))
  have l4 : s4.length = s3.length + 1 := by rw [← hs4]; simp
  have p4 : s4[p]? = some (.ins 0 (heapFs s.length (s.length + 1) s1.length s2.length s3.length)) := by rw [← hs4]; exact look_put (look_app p3)
  have h4 : s4[s1.length]? = some (.lst []) := f4.get h3 (by simp; omega)
  have o4 : s4[s2.length]? = some (.dK []) := f4.get o3 (by simp; omega)
  have k4 : s4[s3.length]? = some (.lst [.loc a]) := by rw [← hs4]; exact look_ne look_new0 (by omega)
  have f14 : Fr [p] s1 s4 := (f2.trans f3).trans f4
  have f04 : Fr [p] s s4 := f1.trans f14
  have a4 := f04.get ha (by simpa using ap)
  have al := lt_of ha
  have L4 : ML kN (fun l => l < s1.length) s4 s.length cf ckv := by
    have L1' := L1.near
    obtain ⟨o', e1, e2⟩ := L1.ob
    refine ⟨⟨o', f14.get e1 (by simp; omega), e2⟩, L1.dom, fun k d e => ?_, L1.inj, L1.nd⟩
    obtain ⟨l, e3, e4, e5⟩ := L1.val k d e
    exact ⟨l, e3, lt_of e5, f14.get e5 (by simp; omega)⟩
  have w4 := f14.get w1 (by simp; omega)
  have H4 : HS s4 p s.length (s.length + 1) s1.length s2.length s3.length [] (fun _ => 0) [] [So] M.length :=
    ⟨p4, ⟨[], h4, .nil⟩, ⟨[], o4, ⟨by simp, by simp⟩, by simp⟩, ⟨_, k4, .cons (nl_iff.mpr ⟨a, rfl, fun z => by rcases z with z | z | z <;> omega, a4⟩) .nil⟩, by omega⟩
  simp only [w_for, w_iseq, w_tup, w_argsS, w_args0, mC_eq, to_ok, itSeq_tup]
  refine for_map (enc := Dv.bl) [true, false] (fun i σ s5 => ∃ y3 y6 y7 hs ho, σ = [some (.loc p), some (mD M), some (.loc a), y3, y4, y5, y6, y7] ∧ Fr [s1.length, s2.length, s3.length] s4 s5 ∧ HPi M ([true, false].take i) hs ho ∧ hs.length ≤ i ∧
      HS s5 p s.length (s.length + 1) s1.length s2.length s3.length hs ho (So.filter fun x => decide (endB M x ∈ [true, false].take i)) (So :: hs) M.length)
    ⟨y3, none, none, [], fun _ => 0, rfl, .refl, ⟨by simp, by simp, by simp, by simp, by simp, by simp, by simp⟩, by simp, H4.sub (by simp)⟩ (fun _ _ _ _ => trivial) ?_ ?_
  · rintro i e σ s5 he ⟨y3, y6, y7, hs, ho, rfl, f5, P5, li, H5⟩
    have tk : [true, false].take (i + 1) = [true, false].take i ++ [e] := by rw [List.take_add_one, he]; rfl
    have hnt : e ∉ [true, false].take i := by cases i with | zero => simp | succ i => (cases i with | zero => (simp at he; subst he; simp) | succ i => simp at he)
    have i2 : i < 2 := (List.getElem?_eq_some_iff.mp he).1
    have a5 := f5.get a4 (by simp; omega)
    simp only [w_gN, List.set_cons_succ, List.set_cons_zero, w_seq, w_set, w_lc, w_iseq, v0, vS, to_ok, wipeS, wipe0]
    rw [itSeq_lst a5, to_ok]
    refine lc_pure So nD (fun x => endB M x == e) nD ⟨a5, trivial⟩ (fun x hx => ?_) ?_
    · obtain ⟨r, hr⟩ : ∃ r, M[x]? = some r := ⟨_, List.getElem?_eq_getElem ((mS x).mp hx)⟩
      have er : endB M x = r.1 := by unfold endB; rw [hr]
      simp only [w_gN, List.set_cons_succ, List.set_cons_zero, w_tval, w_op, v0, vS, mC_eq, to_ok]
      rw [roomQ hr, to_ok]
      simp only [roomD, oGet_tup0, to_ok, oEq_bl, toB_bl, er]
      exact ⟨trivial, fun _ => ⟨trivial, trivial⟩, fun _ => trivial⟩
    have Sl : So.length ≤ M.length := nodup_len nS fun x hx => (mS x).mp hx
    refine ⟨by rw [List.length_map]; omega, ?_⟩
    rw [show So.filter (fun x => endB M x == e) = endL M So e from rfl]
    generalize hs6 : s5 ++ [MO.lst ((endL M So e).map nD)] = s6
    have f56 : Fr [] s5 s6 := by rw [← hs6]; exact .app
    have e6 : s6[s5.length]? = some (.lst ((endL M So e).map nD)) := by rw [← hs6]; simp
    simp only [w_if, w_tval, w_op, w_lst, w_args0, v0, vS, to_ok]
    rw [oNe_nil (look_app e6) look_new0, to_ok]
    simp only [toB_bl]
    have H6 := (H5.fr0 f56).fr0 (Fr.app (t := [MO.lst []]))
    have e7 := look_app (t := [MO.lst []]) e6
    have f57 : Fr [] s5 (s6 ++ [MO.lst []]) := f56.trans .app
    generalize s6 ++ [MO.lst []] = s7 at H6 e7 f57
    have f47 := f5.trans (f57.mono (Y := [s1.length, s2.length, s3.length]) (by simp))
    have l45 := f5.1
    by_cases h0 : endL M So e = []
    · rw [decide_eq_true h0]
      simp only [Bool.not_true, Bool.false_eq_true, if_false, w_nx]
      refine ⟨_, _, _, hs, ho, rfl, f47, by rw [tk]; exact P5.skip mS h0, by omega, H6.sub fun x hx => ?_⟩
      rw [tk] at hx
      simp only [List.mem_filter, decide_eq_true_eq, List.mem_append, List.mem_singleton] at hx ⊢
      refine ⟨hx.1, hx.2.elim id fun z => ?_⟩
      have : x ∈ endL M So e := (mem_endL mS).mpr ⟨(mS x).mp hx.1, z⟩
      rw [h0] at this; cases this
    · rw [decide_eq_false h0]
      simp only [Bool.not_false, if_true, w_exp]
      refine mMethC_to (by simp only [v0]) H6.ob rfl ?_
      simp only [w_argsS, w_args0, v0, vS, to_ok]
      refine lay_ok H6 (nl_iff.mpr ⟨_, rfl, fun z => by rcases z with z | z | z <;> omega, e7⟩) (fun x hx => ((mem_endL mS).mp hx).1) hn (by omega) (by rw [List.length_cons]; omega) fun s8 f8 H8 => ?_
      refine ⟨_, _, _, _, _, rfl, f47.trans f8, by rw [tk]; exact P5.add mS nS hnt h0, by rw [List.length_append, List.length_singleton]; omega, H8.sub fun x hx => ?_⟩
      rw [tk] at hx
      simp only [List.mem_filter, decide_eq_true_eq, List.mem_append, List.mem_singleton] at hx ⊢
      refine hx.2.elim (fun z => .inl ⟨hx.1, z⟩) fun z => .inr ((mem_endL mS).mpr ⟨(mS x).mp hx.1, z⟩)
  · rintro σ s5 ⟨y3, y6, y7, hs, ho, rfl, f5, P5, li, H5⟩
    have P5 : HPi M [true, false] hs ho := P5
    have l45 := f5.1
    refine q s5 _ _ _ _ _ hs ho (So :: hs) cf ckv (fun l => l < s1.length) wkv ws (f04.trans2 f5 (by simp; omega)) (H5.sub fun x hx => ?_) (P5.done mS nS) (L4.fr f5 (by simp; omega) (by simp; omega)) (fun l hl z => ?_) (by omega) hcf (f5.get w4 (by simp; omega)) wk1 (by omega) hws wl ?_
    · rw [List.mem_filter]
      refine ⟨(mS x).mpr (List.mem_range.mp hx), ?_⟩
      cases endB M x <;> simp
    · rcases hl with hl | hl | hl <;> omega
    · have li : hs.length ≤ 2 := li
      rw [List.length_cons]; omega
end
end Mid
namespace Mid
open PySem
noncomputable section
variable {M : Mach} {s s' : Mst} {Q : Dv → Mst → Prop}
theorem reached_ok (wf : Wf M) (h0 : 0 < M.length) (hM : M.length ≤ 1000)
    (q : ∀ d s' ks, Fr [] s s' → NL.rep (fun n => n < s.length) s' d ks → ks.Nodup → (∀ j, j ∈ ks ↔ Rch M 0 j) → Q d s') : (f_reached [mD M] s).to Q := by
  unfold f_reached
  refine fun_at [some (mD M), none, none, none, none, none] rfl rfl ?_
  unfold m_reached
  simp only [w_seq, w_set, w_lst, w_argsS, w_args0, vS, v0, to_ok, mC_eq, List.set_cons_succ, List.set_cons_zero, to_noEr, w_disp, w_pairsS, w_pairs0]
  refine ⟨_, rfl, ?_⟩
  rw [show kputs [] [(Sum.inl (0 : Int), Dv.bl true)] = keysD [0] from rfl]
  refine while_m (fun m σ s1 => ∃ at' ks x y, σ = [some (mD M), some (.loc s.length), some (.loc (s.length + 1)), some (nD at'), x, y] ∧ s1 = s ++ [.lst (ks.map nD), .dK (keysD ks)] ∧ ks.Nodup ∧ (∀ j ∈ ks, Rch M 0 j) ∧ (∀ j ∈ ks, j < M.length) ∧ 0 ∈ ks ∧ at' ≤ ks.length ∧
      (∀ i ∈ ks.take at', ∀ j ∈ succs M i, j ∈ ks) ∧ m = M.length - at')
    ⟨_, 0, [0], none, none, by simp [nD], by simp [nD], by simp, by simpa using .refl 0, by simpa using h0, by simp, by simp, by simp, rfl⟩ ?_
  rintro m σ s1 ⟨a, ks, x, y, rfl, rfl, nd, rc, lt, rt, hle, cl, rfl⟩
  have lw : (s ++ [MO.lst (ks.map nD), .dK (keysD ks)])[s.length]? = some (.lst (ks.map nD)) := by simp
  simp only [w_tval, w_op, vS, v0, w_call, w_argsS, w_args0, to_ok, bLen_seq (seqOf_lst lw), nD, oLt_int, toB_bl]
  by_cases hlt : a < ks.length
  · obtain ⟨k, hk⟩ : ∃ k, ks[a]? = some k := ⟨_, List.getElem?_eq_getElem hlt⟩
    have hkk := List.mem_of_getElem? hk
    have hkl := lt k hkk
    obtain ⟨r0, hr0⟩ : ∃ r0, M[k]? = some r0 := ⟨_, List.getElem?_eq_getElem hkl⟩
    have hcnt := nodup_len nd lt
    rw [show decide ((a : Int) < ((ks.map nD).length : Nat)) = true by rw [decide_eq_true_iff, List.length_map]; omega]
    simp only [if_true, w_seq, w_for, w_iseq, w_op, vS, v0, to_ok, mC_eq]
    rw [oGet_lst (b := a) (z := nD k) lw (by rw [List.getElem?_map, hk]; rfl)]
    simp only [to_ok, roomQ hr0, roomD, oGet_tup1, itSeq_tup]
    refine for_map r0.2 stepD (fun i σ s1 => ∃ ks2 x y, σ = [some (mD M), some (.loc s.length), some (.loc (s.length + 1)), some (nD a), x, y] ∧ s1 = s ++ [.lst (ks2.map nD), .dK (keysD ks2)] ∧ ks2.Nodup ∧ (∀ j ∈ ks2, Rch M 0 j) ∧ (∀ j ∈ ks2, j < M.length) ∧ 0 ∈ ks2 ∧ (∃ t, ks2 = ks ++ t) ∧
        (∀ i ∈ ks.take a, ∀ j ∈ succs M i, j ∈ ks2) ∧ (∀ j ∈ (r0.2.take i).map (·.2), j ∈ ks2))
      ⟨ks, x, y, rfl, rfl, nd, rc, lt, rt, ⟨[], by simp⟩, cl, by simp⟩ (fun _ _ _ _ => trivial) ?_ ?_
    · rintro i p σ s1 hp ⟨ks2, x, y, rfl, rfl, nd2, rc2, lt2, rt2, ⟨t, ht⟩, cl2, hd⟩
      have hs : p.2 ∈ succs M k := by rw [succs_of hr0]; exact List.mem_map.mpr ⟨p, List.mem_of_getElem? hp, rfl⟩
      have ht' : ∀ ks3 : List Nat, (∀ j ∈ ks2, j ∈ ks3) → p.2 ∈ ks3 → ∀ j ∈ (r0.2.take (i + 1)).map (·.2), j ∈ ks3 := fun ks3 h3 h4 j hj => by
        rw [List.take_add_one, hp, List.map_append, List.mem_append] at hj
        rcases hj with hj | hj
        · exact h3 j (hd j hj)
        · simp at hj; rw [hj]; exact h4
      have ld : (s ++ [MO.lst (ks2.map nD), .dK (keysD ks2)])[s.length + 1]? = some (.dK (keysD ks2)) := by simp
      have := nodup_len nd2 lt2
      simp only [stepD, w_gT, w_gES, w_gE0, w_gN, List.length_cons, List.length_nil, true_and, List.set_cons_succ, List.set_cons_zero, w_if, w_tval, w_op, vS, v0, to_ok]
      rw [oNotIn_dict ld (show keyQ (iD p.2) = some (Sum.inl (p.2 : Int)) from rfl), keysD_mem]
      simp only [to_ok, toB_bl]
      by_cases hin : p.2 ∈ ks2
      · simp only [hin, decide_true, Bool.not_true, Bool.false_eq_true, if_false, w_nx]
        exact ⟨ks2, _, _, rfl, rfl, nd2, rc2, lt2, rt2, ⟨t, ht⟩, cl2, ht' ks2 (fun _ z => z) hin⟩
      · simp only [hin, decide_false, Bool.not_false, if_true, w_seq, w_put, mC_eq, w_exp, w_meth, vS, v0, to_ok]
        rw [oPut_dict ld (show keyQ (iD p.2) = some (Sum.inl (p.2 : Int)) from rfl) (by rw [keysD_len]; omega), keysD_put hin]
        have lw3 : (s ++ [MO.lst (ks2.map nD), .dK (keysD (ks2 ++ [p.2]))])[s.length]? = some (.lst (ks2.map nD)) := by simp
        simp only [to_ok, set_newS, List.set_cons_succ, List.set_cons_zero]
        refine ⟨tyQ_lst lw3, ?_⟩
        simp only [w_argsS, w_args0, vS, v0, to_ok]
        rw [tAppend_lst lw3 (by rw [List.length_map]; omega)]
        simp only [to_ok]
        refine ⟨ks2 ++ [p.2], _, _, rfl, by simp [iD, nD], snoc_nodup nd2 hin, ?_, ?_, by simp [rt2], ⟨t ++ [p.2], by rw [ht]; simp⟩, fun i hi j hj => by simp [cl2 i hi j hj], ht' _ (fun j hj => by simp [hj]) (by simp)⟩
        · intro j hj
          rcases List.mem_append.mp hj with hj | hj
          · exact rc2 j hj
          · simp at hj; rw [hj]; exact .tail (rc2 k (by rw [ht]; simp [hkk])) hs
        · intro j hj
          rcases List.mem_append.mp hj with hj | hj
          · exact lt2 j hj
          · simp at hj; rw [hj]; exact wf _ _ hs
    · rintro σ s1 ⟨ks2, x, y, rfl, rfl, nd2, rc2, lt2, rt2, ⟨t, ht⟩, cl2, hd⟩
      simp only [w_set, w_op, vS, v0, mC_eq, to_ok, nD, oAdd_int, List.set_cons_succ, List.set_cons_zero]
      refine ⟨M.length - (a + 1), by omega, a + 1, ks2, x, y, by simp [nD], rfl, nd2, rc2, lt2, rt2, by rw [ht, List.length_append]; omega, fun i hi j hj => ?_, rfl⟩
      rw [ht, List.take_append_of_le_length (by omega), List.take_add_one, hk, List.mem_append] at hi
      rcases hi with hi | hi
      · exact cl2 i hi j hj
      · simp at hi
        subst hi
        refine hd j ?_
        rw [List.take_length, ← succs_of hr0]
        exact hj
  · rw [show decide ((a : Int) < ((ks.map nD).length : Nat)) = false by rw [decide_eq_false_iff_not, List.length_map]; omega]
    simp only [Bool.false_eq_true, if_false, w_ret, vS, v0, to_ok]
    have : a = ks.length := by omega
    subst this
    rw [List.take_length] at cl
    refine q _ _ ks .app (nl_iff.mpr ⟨_, rfl, by omega, lw⟩) nd fun j => ⟨rc j, fun hj => ?_⟩
    induction hj with
    | refl => exact rt
    | tail u b ih => exact cl _ ih _ b
/-- what stands while numbers are told -/
structure NB (M : Mach) (ho c : Nat → Nat) (s s3 : Mst) (i : Nat) (fs : List Nat) (nk : List (KeyQ × Dv)) (ord : List Nat) : Prop where
  fr : Fr [] s s3
  nu : s3[s.length]? = some (.dK nk)
  fi : s3[s.length + 1]? = some (.lst (fs.map nD))
  fo : s3[s.length + 2]? = some (.lst ((List.range i).map fun j => roomD (entN M c j)))
  e : fs.map c = ord
  lt : ∀ x ∈ fs, x < M.length
  k : ∀ x, x < M.length → kval nk (Sum.inl (ho x : Int)) = if c x ∈ ord then some (nD (ord.idxOf (c x))) else none
  b : nk.length ≤ fs.length
theorem NB.l3 {ho c : Nat → Nat} {s3 : Mst} {i : Nat} {fs : List Nat} {nk : List (KeyQ × Dv)} {ord : List Nat} (N : NB M ho c s s3 i fs nk ord) : s.length + 3 ≤ s3.length := by have := lt_of N.fo; omega
theorem NB.go {ho c : Nat → Nat} {s3 s4 : Mst} {i : Nat} {fs : List Nat} {nk : List (KeyQ × Dv)} {ord : List Nat} (N : NB M ho c s s3 i fs nk ord) (f : Fr [] s3 s4) : NB M ho c s s4 i fs nk ord :=
  ⟨N.fr.trans f, f.get N.nu (by simp), f.get N.fi (by simp), f.get N.fo (by simp), N.e, N.lt, N.k, N.b⟩
def NIn (M : Mach) (ho c : Nat → Nat) (s : Mst) (o i l : Nat) (r : Bool × List (Str × Nat)) (j : Nat) : Men → Mst → Prop := fun σ s3 => ∃ fs nk y8 y9, σ = [some (mD M), some (.loc o), some (.loc s.length), some (.loc (s.length + 1)), some (.loc (s.length + 2)), some (.bl r.1), some (.tup (r.2.map stepD)), some (.loc l), y8, y9] ∧
  NB M ho c s s3 i fs nk (addNew (ordN M c i) ((r.2.take j).map fun p => c p.2)) ∧ s3[l]? = some (.lst ((r.2.take j).map fun p => stepD (p.1, (ordN M c (i + 1)).idxOf (c p.2))))
/-- numbers told as they are met -/
theorem numbered_ok {o : Nat} {od : List (KeyQ × Dv)} {ho c : Nat → Nat} (wf : Wf M) (h0 : 0 < M.length) (hM : M.length ≤ 1000) (hsl : ∀ r ∈ M, r.2.length < 60) (eo : s[o]? = some (.dK od)) (hod : ∀ x, x < M.length → kval od (Sum.inl (x : Int)) = some (nD (ho x)))
    (hc : ∀ x, x < M.length → c x < M.length ∧ c (c x) = c x) (hh : ∀ x y, x < M.length → y < M.length → (ho x = ho y ↔ c x = c y)) (sc : Stb M c)
    (q : ∀ s' r, Fr [] s s' → IsNum M c r → Q (mD r) s') : (f_numbered [mD M, .loc o] s).to Q := by
  have ol := lt_of eo
  unfold f_numbered
  refine fun_at [some (mD M), some (.loc o), none, none, none, none, none, none, none, none] rfl rfl ?_
  unfold m_numbered
  simp only [w_seq, w_set, w_lst, w_argsS, w_args0, vS, v0, to_ok, mC_eq, List.set_cons_succ, List.set_cons_zero, to_noEr, w_disp, w_pairsS, w_pairs0, w_op]
  rw [show (Dv.int 0) = nD 0 from rfl, oGet_dict eo (show keyQ (nD 0) = some (Sum.inl ((0 : Nat) : Int)) from rfl) (hod 0 h0), to_ok]
  refine ⟨_, rfl, ?_⟩
  rw [show kputs [] [(Sum.inl (ho 0 : Int), nD 0)] = [(Sum.inl (ho 0 : Int), nD 0)] from rfl]
  generalize hsA : (s ++ [MO.dK [(Sum.inl (ho 0 : Int), nD 0)]]) ++ [MO.lst [nD 0]] ++ [MO.lst []] = sA
  have fA : Fr [] s sA := by rw [← hsA]; exact (Fr.app.trans .app).trans .app
  have l1 : (s ++ [MO.dK [(Sum.inl (ho 0 : Int), nD 0)]]).length = s.length + 1 := by simp
  have l2 : ((s ++ [MO.dK [(Sum.inl (ho 0 : Int), nD 0)]]) ++ [MO.lst [nD 0]]).length = s.length + 2 := by simp
  rw [l1, l2]
  have lA : sA.length = s.length + 3 := by rw [← hsA]; simp
  have nA : sA[s.length]? = some (.dK [(Sum.inl (ho 0 : Int), nD 0)]) := by rw [← hsA]; exact look_app (look_app look_new0)
  have fiA : sA[s.length + 1]? = some (.lst [nD 0]) := by rw [← hsA, ← l1]; exact look_app look_new0
  have foA : sA[s.length + 2]? = some (.lst []) := by rw [← hsA, ← l2]; exact look_new0
  have ord0 : ∀ x, x < M.length → (c x ∈ ordN M c 0 ↔ ho 0 = ho x) := fun x hx => by
    rw [hh 0 x h0 hx]; simp [ordN]; exact eq_comm
  have oko := fun i => ord_ok wf h0 hc i
  have mle : ∀ i, (ordN M c i).length ≤ M.length := fun i => nodup_len (ord_nd i) fun x hx => (oko i x hx).1
  refine while_m (fun m σ s1 => ∃ i fs nk y5 y6 y7 y8 y9, σ = [some (mD M), some (.loc o), some (.loc s.length), some (.loc (s.length + 1)), some (.loc (s.length + 2)), y5, y6, y7, y8, y9] ∧ NB M ho c s s1 i fs nk (ordN M c i) ∧ i ≤ fs.length ∧ (∀ j, j < i → j < (ordN M c j).length) ∧ m = M.length + 1 - i)
    ⟨_, 0, [0], _, none, none, none, none, none, rfl, ⟨fA, nA, fiA, by simpa using foA, rfl, by simpa using h0, fun x hx => ?_, by simp⟩, by simp, by simp, rfl⟩ ?_
  · by_cases e : ho 0 = ho x
    · rw [if_pos ((ord0 x hx).mpr e)]
      have : c x = c 0 := ((hh 0 x h0 hx).mp e).symm
      simp [kval, e, ordN, this]
    · rw [if_neg fun z => e ((ord0 x hx).mp z)]
      have : ¬ (ho 0 : Int) = ho x := by omega
      simp [kval, this]
  · rintro m σ s1 ⟨i, fs, nk, y5, y6, y7, y8, y9, rfl, N1, i1, j1, rfl⟩
    have lfs : fs.length = (ordN M c i).length := by rw [← N1.e, List.length_map]
    have mi := mle i
    simp only [w_tval, w_op, w_call, w_argsS, w_args0, vS, v0, to_ok]
    rw [bLen_seq (seqOf_lst N1.fo), to_ok, bLen_seq (seqOf_lst N1.fi), to_ok]
    simp only [oLt_int, to_ok, toB_bl, List.length_map, List.length_range]
    by_cases hlt : i < fs.length
    · rw [decide_eq_true (by omega), if_pos rfl]
      obtain ⟨x', hx'⟩ : ∃ x', fs[i]? = some x' := ⟨_, List.getElem?_eq_getElem hlt⟩
      have xn := N1.lt x' (List.mem_of_getElem? hx')
      obtain ⟨r, hr⟩ : ∃ r, M[x']? = some r := ⟨_, List.getElem?_eq_getElem xn⟩
      have rM := List.mem_of_getElem? hr
      have hox : (ordN M c i)[i]? = some (c x') := by rw [← N1.e, List.getElem?_map, hx']; rfl
      obtain ⟨cx, ccx⟩ := hc x' xn
      obtain ⟨q1, q2⟩ := sc x' (c x') xn cx ccx.symm
      have hst : ((stepsOf M (c x')).map fun p => c p.2) = r.2.map fun p => c p.2 := by
        have := congrArg (fun l => l.map Prod.snd) q2
        simp only [sig, List.map_map, Function.comp_def] at this
        rw [← this, steps_of hr]
      have hst2 : ∀ g : Nat → Nat, ((stepsOf M (c x')).map fun p => (p.1, g (c p.2))) = r.2.map fun p => (p.1, g (c p.2)) := fun g => by
        have := congrArg (fun l => l.map fun p => (p.1, g p.2)) q2
        simp only [sig, List.map_map, Function.comp_def] at this
        rw [← this, steps_of hr]
      have hos : ordN M c (i + 1) = addNew (ordN M c i) (r.2.map fun p => c p.2) := by rw [ord_step hox, hst]
      have er : endB M x' = r.1 := by unfold endB; rw [hr]
      have hent : entN M c i = (r.1, r.2.map fun p => (p.1, (ordN M c (i + 1)).idxOf (c p.2))) := by
        unfold entN
        rw [hox]
        simp only
        rw [← q1, er, hst2 fun y => (ordN M c (i + 1)).idxOf y]
      simp only [w_seq, w_asg, w_op, w_call, w_argsS, w_args0, vS, v0, to_ok]
      rw [bLen_seq (seqOf_lst N1.fo), to_ok]
      simp only [List.length_map, List.length_range]
      rw [oGet_lst (b := i) (z := nD x') N1.fi (by rw [List.getElem?_map, hx']; rfl), to_ok, roomQ hr, to_ok]
      simp only [roomD, w_gT, w_gES, w_gE0, w_gN, List.length_cons, List.length_nil, true_and, List.set_cons_succ, List.set_cons_zero, w_set, w_lst, w_args0, to_ok, w_for, w_iseq, vS, v0, itSeq_tup]
      have N2 := N1.go (Fr.app (t := [MO.lst []]))
      have kp2 : (s1 ++ [MO.lst []])[s1.length]? = some (.lst []) := look_new0
      have l12 := N1.l3
      generalize hl1 : s1.length = l1 at kp2 l12
      generalize s1 ++ [MO.lst []] = s2 at N2 kp2
      refine for_map r.2 stepD (NIn M ho c s o i l1 r) ⟨fs, nk, y8, y9, rfl, by simpa [addNew] using N2, by simpa using kp2⟩ (fun _ _ _ _ => trivial) ?_ ?_
      · rintro j ⟨sg, t⟩ σ s3 hj ⟨fs3, nk3, y8, y9, rfl, N3, kp3⟩
        have tn : t < M.length := wf x' t (by rw [succs_of hr]; exact List.mem_map.mpr ⟨(sg, t), List.mem_of_getElem? hj, rfl⟩)
        have eo3 := N3.fr.get eo (by simp)
        have l33 := N3.l3
        have nd3 : (fs3.map c).Nodup := by rw [N3.e]; exact addNew_nd (ord_nd i)
        have l3' : fs3.length ≤ M.length := by
          have := nodup_len nd3 (n := M.length) fun x hx => by
            obtain ⟨y, hy, rfl⟩ := List.mem_map.mp hx
            exact (hc y (N3.lt y hy)).1
          simpa using this
        have jl : j < r.2.length := (List.getElem?_eq_some_iff.mp hj).1
        have rl := hsl r rM
        have tk : ∀ {β : Type} (g : Str × Nat → β), (r.2.take (j + 1)).map g = (r.2.take j).map g ++ [g (sg, t)] := fun g => by rw [List.take_add_one, hj, List.map_append]; rfl
        have pre : addNew (ordN M c i) ((r.2.take (j + 1)).map fun p => c p.2) <+: ordN M c (i + 1) := by
          rw [hos]
          have : (r.2.map fun p => c p.2) = (r.2.take (j + 1)).map (fun p => c p.2) ++ (r.2.drop (j + 1)).map (fun p => c p.2) := by rw [← List.map_append, List.take_append_drop]
          rw [this]
          unfold addNew
          rw [List.foldl_append]
          exact addNew_pre _ _
        have kt : keyQ (iD t) = some (Sum.inl (t : Int)) := rfl
        have kh : keyQ (nD (ho t)) = some (Sum.inl (ho t : Int)) := rfl
        simp only [stepD, w_gT, w_gES, w_gE0, w_gN, List.length_cons, List.length_nil, true_and, List.set_cons_succ, List.set_cons_zero, w_if, w_tval, w_op, vS, v0, to_ok]
        rw [oIn_dict eo3 kt, hod t tn, to_ok]
        simp only [toB_bl, Option.isSome_some, if_true, w_seq, w_if, w_tval, w_op, vS, v0, to_ok]
        rw [oGet_dict eo3 kt (hod t tn), to_ok, oNotIn_dict N3.nu kh, N3.k t tn, to_ok]
        simp only [toB_bl]
        -- what is done when the number is known
        have fin : ∀ (N : Men → Mst → Prop) (R : Dv → Mst → Prop) (C B : Men → Mst → Prop) (s4 : Mst) (fs4 : List Nat) (nk4 : List (KeyQ × Dv)), NB M ho c s s4 i fs4 nk4 (addNew (ordN M c i) ((r.2.take (j + 1)).map fun p => c p.2)) → s4[l1]? = some (.lst ((r.2.take j).map fun p => stepD (p.1, (ordN M c (i + 1)).idxOf (c p.2)))) →
            (∀ σ s5, NIn M ho c s o i l1 r (j + 1) σ s5 → N σ s5) →
            (msExp (mMeth "list" tAppend (mVar 7) [mTup [mVar 8, mOp oGet (mVar 2) (mOp oGet (mVar 1) (mVar 9))]]) [some (mD M), some (.loc o), some (.loc s.length), some (.loc (s.length + 1)), some (.loc (s.length + 2)), some (.bl r.1), some (.tup (r.2.map stepD)), some (.loc l1), some (.str sg), some (iD t)] s4).to N R C B := by
          intro N R C B s4 fs4 nk4 N4 kp4 hN
          have eo4 := N4.fr.get eo (by simp)
          have l44 := N4.l3
          have tin : c t ∈ addNew (ordN M c i) ((r.2.take (j + 1)).map fun p => c p.2) := by
            rw [addNew_mem]
            right
            exact List.mem_map.mpr ⟨(sg, t), by rw [List.take_add_one, hj]; simp, rfl⟩
          have idx : (addNew (ordN M c i) ((r.2.take (j + 1)).map fun p => c p.2)).idxOf (c t) = (ordN M c (i + 1)).idxOf (c t) := by
            obtain ⟨u, hu⟩ := pre
            rw [← hu, List.idxOf_append, if_pos tin]
          simp only [w_exp, w_meth, vS, v0, to_ok]
          refine ⟨tyQ_lst kp4, ?_⟩
          simp only [w_argsS, w_args0, w_tup, w_op, vS, v0, to_ok]
          rw [oGet_dict eo4 kt (hod t tn), to_ok, oGet_dict N4.nu kh (by rw [N4.k t tn, if_pos tin]), to_ok, tAppend_lst kp4 (by rw [List.length_map]; have := List.length_take_le j r.2; omega), to_ok]
          refine hN _ _ ⟨fs4, nk4, _, _, rfl, ⟨N4.fr.put (.inr (by omega)), look_ne N4.nu (by omega), look_ne N4.fi (by omega), look_ne N4.fo (by omega), N4.e, N4.lt, N4.k, N4.b⟩, ?_⟩
          rw [look_put kp4, tk fun p => stepD (p.1, (ordN M c (i + 1)).idxOf (c p.2)), idx]
          rfl
        have hadd : addNew (ordN M c i) ((r.2.take (j + 1)).map fun p => c p.2) = if c t ∈ addNew (ordN M c i) ((r.2.take j).map fun p => c p.2) then addNew (ordN M c i) ((r.2.take j).map fun p => c p.2) else addNew (ordN M c i) ((r.2.take j).map fun p => c p.2) ++ [c t] := by
          rw [tk fun p => c p.2, addNew_snoc]
        by_cases hin : c t ∈ addNew (ordN M c i) ((r.2.take j).map fun p => c p.2)
        · rw [if_pos hin] at hadd ⊢
          simp only [Option.isSome_some, Bool.not_true, Bool.false_eq_true, if_false, w_nx]
          exact fin _ _ _ _ s3 fs3 nk3 (by rw [hadd]; exact N3) kp3 fun _ _ z => z
        · rw [if_neg hin] at hadd ⊢
          simp only [Option.isSome_none, Bool.not_false, if_true, w_seq, w_put, w_op, w_call, w_argsS, w_args0, vS, v0, to_ok]
          rw [bLen_seq (seqOf_lst N3.fi), to_ok, oGet_dict eo3 kt (hod t tn), to_ok, oPut_dict N3.nu kh (by have := N3.b; omega), to_ok]
          have fi4 := look_ne (o' := .dK (kput nk3 (Sum.inl (ho t : Int)) (.int (fs3.map nD).length))) (m := s.length) N3.fi (by omega)
          have fo4 := look_ne (o' := .dK (kput nk3 (Sum.inl (ho t : Int)) (.int (fs3.map nD).length))) (m := s.length) N3.fo (by omega)
          have kp4 := look_ne (o' := .dK (kput nk3 (Sum.inl (ho t : Int)) (.int (fs3.map nD).length))) (m := s.length) kp3 (by omega)
          simp only [w_exp, w_meth, vS, v0, to_ok]
          refine ⟨tyQ_lst fi4, ?_⟩
          simp only [w_argsS, w_args0, vS, v0, to_ok]
          rw [tAppend_lst fi4 (by rw [List.length_map]; omega), to_ok]
          have N5 : NB M ho c s ((s3.set s.length (.dK (kput nk3 (Sum.inl (ho t : Int)) (.int (fs3.map nD).length)))).set (s.length + 1) (.lst (fs3.map nD ++ [iD t]))) i (fs3 ++ [t]) (kput nk3 (Sum.inl (ho t : Int)) (.int (fs3.map nD).length)) (addNew (ordN M c i) ((r.2.take (j + 1)).map fun p => c p.2)) := by
            refine ⟨(N3.fr.put (.inr (by omega))).put (.inr (by omega)), look_ne (look_put N3.nu) (by omega), ?_, look_ne fo4 (by omega), by rw [hadd, List.map_append, N3.e]; rfl, ?_, ?_, ?_⟩
            · rw [look_put fi4, List.map_append]; rfl
            · intro x hx
              rcases List.mem_append.mp hx with hx | hx
              · exact N3.lt x hx
              · rw [List.mem_singleton.mp hx]; exact tn
            · intro x hx
              rw [kval_put, hadd]
              by_cases e : ho t = ho x
              · have ec : c t = c x := (hh t x tn hx).mp e
                rw [if_pos (by rw [e]), if_pos (List.mem_append.mpr (.inr (by rw [ec]; simp))), List.length_map, ← ec, List.idxOf_append, if_neg hin]
                have : fs3.length = (addNew (ordN M c i) ((r.2.take j).map fun p => c p.2)).length := by rw [← N3.e, List.length_map]
                simp [this, nD]
              · have ec : ¬ c x = c t := fun z => e ((hh t x tn hx).mpr z.symm)
                rw [if_neg (fun z => e (inl_nat.mp z)), N3.k x hx]
                by_cases hx2 : c x ∈ addNew (ordN M c i) ((r.2.take j).map fun p => c p.2)
                · rw [if_pos hx2, if_pos (List.mem_append.mpr (.inl hx2)), List.idxOf_append, if_pos hx2]
                · rw [if_neg hx2, if_neg fun z => (List.mem_append.mp z).elim hx2 fun z => ec (List.mem_singleton.mp z)]
            · have h1 : (kput nk3 (Sum.inl (ho t : Int)) (.int (fs3.map nD).length)).length ≤ nk3.length + 1 := by unfold kput; split <;> simp
              have := N3.b
              rw [List.length_append, List.length_singleton]; omega
          have z := fin _ (fun d s => Q d s) (fun _ _ => False) (fun _ _ => False) _ _ _ N5 (look_ne kp4 (by omega)) fun _ _ z => z
          simp only [w_exp, w_meth, w_argsS, w_args0, vS, v0, to_ok] at z ⊢
          exact z
      · rintro σ s3 ⟨fs3, nk3, y8, y9, rfl, N3, kp3⟩
        rw [List.take_length] at N3 kp3
        rw [← hos] at N3
        have l33 := N3.l3
        have rl := hsl r rM
        simp only [w_exp, w_meth, vS, v0, to_ok]
        refine ⟨tyQ_lst N3.fo, ?_⟩
        simp only [w_argsS, w_args0, w_tup, w_call, vS, v0, to_ok]
        rw [bTuple_seq (seqOf_lst kp3), to_ok, tAppend_lst N3.fo (by rw [List.length_map, List.length_range]; omega), to_ok]
        have lo : (ordN M c i).length ≤ (ordN M c (i + 1)).length := by rw [hos]; exact (addNew_pre _ _).length_le
        have lf3 : fs3.length = (ordN M c (i + 1)).length := by rw [← N3.e, List.length_map]
        refine ⟨_, by omega, i + 1, fs3, nk3, _, _, _, _, _, rfl, ⟨N3.fr.put (.inr (by omega)), look_ne N3.nu (by omega), look_ne N3.fi (by omega), ?_, N3.e, N3.lt, N3.k, N3.b⟩, by omega, fun j hj => ?_, rfl⟩
        · rw [look_put N3.fo, List.range_succ, List.map_append, List.map_singleton, hent]
          simp only [roomD, List.map_map, Function.comp_def]
        · rcases Nat.lt_or_eq_of_le (Nat.le_of_lt_succ hj) with z | rfl
          · exact j1 j z
          · omega
    · rw [decide_eq_false (by omega), if_neg (by simp)]
      simp only [w_ret, w_call, w_argsS, w_args0, vS, v0, to_ok]
      rw [bTuple_seq (seqOf_lst N1.fo), to_ok]
      have : Dv.tup ((List.range i).map fun j => roomD (entN M c j)) = mD ((List.range i).map (entN M c)) := by unfold mD; rw [List.map_map]; rfl
      rw [this]
      exact q s1 _ N1.fr ⟨i, by omega, j1, rfl⟩
end
end Mid
namespace Mid
open PySem
noncomputable section
variable {M : Mach} {s s' : Mst} {Q : Dv → Mst → Prop}
def rm (M : Mach) (i : Nat) : Bool × List (Str × Nat) := (M[i]?).getD (false, [])
theorem rm_at {i : Nat} {r : Bool × List (Str × Nat)} (h : M[i]? = some r) : rm M i = r := by unfold rm; rw [h]; rfl
def enD (M : Mach) (i : Nat) : Dv := .ptup [nD i, roomD (rm M i)]
theorem enum_items : ((M.map roomD).zipIdx).map (fun p => Dv.ptup [.int p.2, p.1]) = (List.range M.length).map (enD M) := by
  refine List.ext_getElem? fun i => ?_
  rw [List.getElem?_map, List.getElem?_zipIdx, List.getElem?_map, List.getElem?_map]
  by_cases h : i < M.length
  · rw [List.getElem?_range h, List.getElem?_eq_getElem h]
    simp [enD, rm_at (List.getElem?_eq_getElem h), nD]
  · rw [List.getElem?_eq_none (by simpa using h), List.getElem?_eq_none (by simpa using h)]; rfl
theorem zipQ_mD : zipQ (mD M) s = some (true, M.map roomD, []) := rfl
def Fal (B : Nat → Nat → Prop) (cnt : Nat) (f : KeyQ → List Nat) : Prop := ∀ q, (f q).length ≤ cnt ∧ ∀ x, x ∈ f q ↔ ∃ t : Nat, q = Sum.inl (t : Int) ∧ B x t
theorem fal_add {B B' : Nat → Nat → Prop} {cnt x t : Nat} {f : KeyQ → List Nat} (F : Fal B cnt f) (e : ∀ y u, B' y u ↔ B y u ∨ (y = x ∧ u = t)) : Fal B' (cnt + 1) (addF f (Sum.inl (t : Int)) x) := fun q => by
  unfold addF
  by_cases hq : Sum.inl (t : Int) = q
  · subst hq
    rw [if_pos rfl]
    refine ⟨by rw [List.length_append, List.length_singleton]; have := (F (Sum.inl (t : Int))).1; omega, fun y => ?_⟩
    rw [List.mem_append, List.mem_singleton, (F _).2]
    constructor
    · rintro (⟨u, e1, h⟩ | rfl)
      · exact ⟨u, e1, (e _ _).mpr (.inl h)⟩
      · exact ⟨t, rfl, (e _ _).mpr (.inr ⟨rfl, rfl⟩)⟩
    · rintro ⟨u, e1, h⟩
      rcases (e _ _).mp h with h | ⟨rfl, _⟩
      · exact .inl ⟨u, e1, h⟩
      · exact .inr rfl
  · rw [if_neg hq]
    refine ⟨by have := (F q).1; omega, fun y => ?_⟩
    rw [(F q).2]
    refine ⟨fun ⟨u, e1, h⟩ => ⟨u, e1, (e _ _).mpr (.inl h)⟩, fun ⟨u, e1, h⟩ => ?_⟩
    rcases (e _ _).mp h with h | ⟨_, rfl⟩
    · exact ⟨u, e1, h⟩
    · exact absurd e1.symm hq
def Lives (M : Mach) (x : Nat) : Prop := ∃ e, Rch M x e ∧ endB M e = true
theorem Rch.head {i j k : Nat} (h : j ∈ succs M i) (g : Rch M j k) : Rch M i k := (Rch.tail (.refl i) h).trans g
theorem alive_ok (wf : Wf M) (hM : M.length ≤ 1000) (hsl : ∀ r ∈ M, r.2.length < 60)
    (q : ∀ s' al, Fr [] s s' → ∀ n, s.length ≤ n → s'[n]? = some (.dK (keysD al)) → al.Nodup → (∀ x, x ∈ al ↔ x < M.length ∧ Lives M x) → Q (.loc n) s') : (f_alive [mD M] s).to Q := by
  unfold f_alive
  refine fun_at [some (mD M), none, none, none, none, none, none, none] rfl rfl ?_
  unfold m_alive
  simp only [w_seq, w_set, mdisp0, to_ok, List.set_cons_succ, List.set_cons_zero, w_for, w_ienum, v0, vS]
  refine ⟨_, _, _, zipQ_mD, ?_⟩
  rw [enum_items]
  refine for_map (List.range M.length) (enD M) (fun i σ s1 => ∃ y2 y3 y4 y5 f kvs, σ = [some (mD M), some (.loc s.length), y2, y3, y4, y5, none, none] ∧ Fr [] s s1 ∧ s.length + 1 ≤ s1.length ∧ ML kK (fun l => s.length + 1 ≤ l) s1 s.length f kvs ∧ Fal (fun x t => x < i ∧ t ∈ succs M x) (60 * i) f ∧ kvs.length ≤ 60 * i)
    ⟨none, none, none, none, fun _ => [], [], rfl, .app, by simp, ⟨⟨_, look_new0, rfl⟩, by simp, (fun q d e => by cases e), (fun q q' l e => by cases e), by simp⟩, fun q => ⟨by simp, fun x => by simp⟩, by simp⟩ (fun _ _ _ _ => trivial) ?_ ?_
  · rintro i a σ s1 ha ⟨y2, y3, y4, y5, f, kvs, rfl, f1, l1, L1, F1, b1⟩
    obtain ⟨rfl, ha⟩ := range_at ha
    obtain ⟨r, hr⟩ : ∃ r, M[a]? = some r := ⟨_, List.getElem?_eq_getElem ha⟩
    have rl := hsl r (List.mem_of_getElem? hr)
    simp only [enD, rm_at hr, w_gT, w_gTp, w_gES, w_gE0, w_gN, List.length_cons, List.length_nil, true_and, List.set_cons_succ, List.set_cons_zero, w_for, w_iseq, w_op, vS, v0, mC_eq, to_ok, roomD, oGet_tup1, itSeq_tup]
    refine for_map r.2 stepD (fun j σ s2 => ∃ y4 y5 f kvs, σ = [some (mD M), some (.loc s.length), some (nD a), some (.tup [.bl r.1, .tup (r.2.map stepD)]), y4, y5, none, none] ∧ Fr [] s s2 ∧ s.length + 1 ≤ s2.length ∧ ML kK (fun l => s.length + 1 ≤ l) s2 s.length f kvs ∧
        Fal (fun x t => (x < a ∧ t ∈ succs M x) ∨ (x = a ∧ t ∈ (r.2.take j).map (·.2))) (60 * a + j) f ∧ kvs.length ≤ 60 * a + j)
      ⟨y4, y5, f, kvs, rfl, f1, l1, L1, fun q => ⟨by have := (F1 q).1; omega, fun x => by rw [(F1 q).2]; simp⟩, by omega⟩ (fun _ _ _ _ => trivial) ?_ ?_
    · rintro j ⟨sg, t⟩ σ s2 hj ⟨y4, y5, f, kvs, rfl, f2, l2, L2, F2, b2⟩
      have jl : j < r.2.length := (List.getElem?_eq_some_iff.mp hj).1
      simp only [stepD, w_gT, w_gTp, w_gES, w_gE0, w_gN, List.length_cons, List.length_nil, true_and, List.set_cons_succ, List.set_cons_zero, w_exp, w_meth, vS, v0, to_ok]
      refine ⟨L2.ty, ?_⟩
      simp only [w_argsS, w_args0, w_lst, vS, v0, to_ok]
      refine L2.add (k := Sum.inl (t : Int)) rfl (by omega) (by have := (F2 (Sum.inl (t : Int))).1; omega) (by show s.length + 1 ≤ s2.length; omega) fun s3 kvs3 L3 b3 l3 kp1 kp2 => ?_
      refine ⟨_, _, _, kvs3, rfl, ⟨by have := f2.1; omega, fun m hm hl => (kp1 m (by omega) (by omega) (by omega)).trans (f2.2 m hm hl)⟩, by omega, L3, fal_add F2 fun y u => ?_, by omega⟩
      rw [List.take_add_one, hj, List.map_append, List.mem_append]
      simp only [Option.toList_some, List.map_cons, List.map_nil, List.mem_singleton]
      constructor
      · rintro (h | ⟨h, h2 | h2⟩)
        · exact .inl (.inl h)
        · exact .inl (.inr ⟨h, h2⟩)
        · exact .inr ⟨h, h2⟩
      · rintro ((h | ⟨h, h2⟩) | ⟨h, h2⟩)
        · exact .inl h
        · exact .inr ⟨h, .inl h2⟩
        · exact .inr ⟨h, .inr h2⟩
    · rintro σ s2 ⟨y4, y5, f, kvs, rfl, f2, l2, L2, F2, b2⟩
      rw [List.take_length] at F2
      refine ⟨_, _, _, _, f, kvs, rfl, f2, l2, L2, fun q => ⟨by have := (F2 q).1; omega, fun x => ?_⟩, by omega⟩
      rw [(F2 q).2]
      constructor
      · rintro ⟨t, e, ⟨h1, h2⟩ | ⟨rfl, h2⟩⟩
        · exact ⟨t, e, by omega, h2⟩
        · exact ⟨t, e, by omega, by rw [succs_of hr]; exact h2⟩
      · rintro ⟨t, e, h1, h2⟩
        rcases Nat.lt_or_eq_of_le (Nat.le_of_lt_succ h1) with z | rfl
        · exact ⟨t, e, .inl ⟨z, h2⟩⟩
        · exact ⟨t, e, .inr ⟨rfl, by rw [← succs_of hr]; exact h2⟩⟩
  · rintro σ s1 ⟨y2, y3, y4, y5, f, kvs, rfl, f1, l1, L1, F1, b1⟩
    rw [List.length_range] at F1
    have fm : ∀ x t : Nat, x ∈ f (Sum.inl (t : Int)) ↔ t ∈ succs M x := fun x t => by
      rw [(F1 _).2]
      constructor
      · rintro ⟨u, e, _, h⟩
        rw [inl_nat] at e
        rw [e]; exact h
      · intro h
        refine ⟨t, rfl, ?_, h⟩
        unfold succs at h
        cases e : M[x]? with
        | none => rw [e] at h; cases h
        | some r => exact (List.getElem?_eq_some_iff.mp e).1
    simp only [w_lc, w_ienum, v0, vS, to_ok, wipeS, wipe0, List.set_cons_succ, List.set_cons_zero]
    refine ⟨_, _, _, zipQ_mD, ?_⟩
    rw [enum_items]
    refine lc_pure (List.range M.length) (enD M) (endB M) nD trivial (fun x hx => ?_) ?_
    · obtain ⟨r, hr⟩ : ∃ r, M[x]? = some r := ⟨_, List.getElem?_eq_getElem (List.mem_range.mp hx)⟩
      have er : endB M x = r.1 := by unfold endB; rw [hr]
      simp only [enD, rm_at hr, w_gT, w_gTp, w_gES, w_gE0, w_gN, List.length_cons, List.length_nil, true_and, List.set_cons_succ, List.set_cons_zero, w_tval, w_op, vS, v0, mC_eq, to_ok, roomD, oGet_tup0, toB_bl, er]
      exact ⟨fun _ => trivial, fun _ => trivial⟩
    refine ⟨by rw [List.length_map, List.length_range]; omega, ?_⟩
    generalize hw0 : (List.range M.length).filter (endB M) = w0
    have nw0 : w0.Nodup := by rw [← hw0]; exact List.nodup_range.filter _
    have mw0 : ∀ x, x ∈ w0 ↔ x < M.length ∧ endB M x = true := fun x => by rw [← hw0, List.mem_filter, List.mem_range]
    have lw0 : w0.length ≤ M.length := nodup_len nw0 fun x hx => ((mw0 x).mp hx).1
    generalize hs2 : s1 ++ [MO.lst (w0.map nD)] = s2
    have f12 : Fr [] s1 s2 := by rw [← hs2]; exact .app
    have e2 : s2[s1.length]? = some (.lst (w0.map nD)) := by rw [← hs2]; exact look_new0
    have l2 : s2.length = s1.length + 1 := by rw [← hs2]; simp
    simp only [w_call, w_argsS, w_args0, w_lc, w_iseq, v0, vS, to_ok, wipeS, wipe0, List.set_cons_succ, List.set_cons_zero]
    rw [itSeq_lst e2, to_ok]
    refine lc_pure w0 nD (fun _ => true) (fun x => .tup [nD x, .bl true]) ⟨e2, trivial⟩ (fun x hx => by simp only [w_gN, w_tyes, w_tup, w_argsS, w_args0, v0, vS, to_ok, mC_eq, List.set_cons_succ, List.set_cons_zero]; simp) ?_
    refine ⟨by rw [List.length_map]; omega, ?_⟩
    rw [List.filter_eq_self.mpr fun _ _ => rfl, bDict_pairs look_new0 (pairsQ_true w0), to_ok]
    rw [show kputs [] (keysD w0) = keysD w0 from by have := kputs_keysD [] w0 nw0 (by simp); simpa [keysD] using this]
    have el : (s2 ++ [MO.lst (w0.map fun x => Dv.tup [nD x, .bl true])]).length = s1.length + 2 := by simp [l2]
    rw [el]
    generalize hs3 : s2 ++ [MO.lst (w0.map fun x => Dv.tup [nD x, .bl true])] ++ [MO.dK (keysD w0)] = s3
    have f13 : Fr [] s1 s3 := by rw [← hs3]; exact f12.trans (Fr.app.trans .app)
    have w3 : s3[s1.length]? = some (.lst (w0.map nD)) := by rw [← hs3]; exact look_app (look_app e2)
    have m3 : s3[s1.length + 2]? = some (.dK (keysD w0)) := by rw [← hs3, ← el]; exact look_new0
    have L3 : ML kK (fun l => l < s1.length) s3 s.length f kvs := L1.near.fr f13 (by simp) (by simp)
    refine while_m (fun m σ s4 => ∃ y2 al ws, σ = [some (mD M), some (.loc s.length), y2, y3, y4, y5, some (.loc s1.length), some (.loc (s1.length + 2))] ∧ Fr [s1.length, s1.length + 2] s3 s4 ∧ s4[s1.length]? = some (.lst (ws.map nD)) ∧ s4[s1.length + 2]? = some (.dK (keysD al)) ∧ al.Nodup ∧ ws.Nodup ∧ (∀ x ∈ ws, x ∈ al) ∧
        (∀ x ∈ al, x < M.length) ∧ (∀ x ∈ al, Lives M x) ∧ (∀ x, x < M.length → endB M x = true → x ∈ al) ∧ (∀ y ∈ al, y ∉ ws → ∀ x, y ∈ succs M x → x ∈ al) ∧ m = 2 * (M.length - al.length) + ws.length)
      ⟨_, y2, w0, w0, rfl, .refl, w3, m3, nw0, nw0, fun _ h => h, fun x hx => ((mw0 x).mp hx).1, fun x hx => ⟨x, .refl x, ((mw0 x).mp hx).2⟩, fun x h1 h2 => (mw0 x).mpr ⟨h1, h2⟩, fun y h1 h2 => absurd h1 h2, rfl⟩ ?_
    rintro m σ s4 ⟨y2, al, ws, rfl, f4, w4, m4, na, nw, sub, lt, liv, ends, cl, rfl⟩
    have L4 : ML kK (fun l => l < s1.length) s4 s.length f kvs := L3.fr f4 (by simp; omega) (by simp)
    simp only [w_tval, w_op, w_lst, w_args0, v0, vS, to_ok]
    rw [oNe_nil (look_app w4) look_new0, to_ok]
    simp only [toB_bl]
    have w5 := look_app (t := [MO.lst []]) w4
    have m5 := look_app (t := [MO.lst []]) m4
    have f5 : Fr [s1.length, s1.length + 2] s3 (s4 ++ [MO.lst []]) := f4.trans .app
    have L5 : ML kK (fun l => l < s1.length) (s4 ++ [MO.lst []]) s.length f kvs := L4.fr (X := []) .app (by simp) (by simp)
    generalize s4 ++ [MO.lst []] = s5 at w5 m5 f5 L5
    rcases List.eq_nil_or_concat ws with rfl | ⟨ws', k, e⟩
    · simp only [decide_true, Bool.not_true, Bool.false_eq_true, if_false, w_ret, v0, vS, to_ok]
      refine q s5 al ((f1.trans f13).trans2 f5 (by simp; omega)) _ (by omega) m5 na fun x => ⟨fun h => ⟨lt x h, liv x h⟩, fun ⟨h, e, g, he⟩ => ?_⟩
      have key : ∀ x e, Rch M x e → e ∈ al → x ∈ al := fun x e g => by
        induction g with
        | refl => exact id
        | tail a b ih => exact fun h => ih (cl _ h (by simp) _ b)
      refine key x e g (ends e ?_ he)
      exact rch_lt wf h g
    · rw [List.concat_eq_append] at e
      subst e
      rw [decide_eq_false (by simp), if_pos (by rfl)]
      have kal := sub k (by simp)
      have kn := lt k kal
      simp only [w_for, w_iseq, w_meth, v0, vS, to_ok]
      refine ⟨L5.ty, ?_⟩
      simp only [w_argsS, w_args0, w_meth, w_lst, v0, vS, to_ok]
      have w5' : s5[s1.length]? = some (.lst (ws'.map nD ++ [nD k])) := by rw [w5]; simp
      refine ⟨tyQ_lst w5, ?_⟩
      rw [tPop_lst w5', to_ok]
      have w6 := look_put (o' := .lst (ws'.map nD)) w5
      have m6 := look_ne (o' := .lst (ws'.map nD)) m5 (m := s1.length) (by omega)
      have f6 : Fr [s1.length, s1.length + 2] s3 (s5.set s1.length (.lst (ws'.map nD))) := f5.put (.inl (by simp))
      have L6 : ML kK (fun l => l < s1.length) (s5.set s1.length (.lst (ws'.map nD))) s.length f kvs := L5.fr (X := [s1.length]) (Fr.refl.put (.inl (by simp))) (by simp; omega) (by simp)
      generalize s5.set s1.length (MO.lst (ws'.map nD)) = s6 at w6 m6 f6 L6
      obtain ⟨l, g1, g2, g3⟩ := (L6.fr (X := []) (Fr.app (t := [.lst []])) (by simp) (by simp)).getd (D := kK) (d := nD k) (k := Sum.inl (k : Int)) rfl (e := s6.length) look_new0
      rw [g1, to_ok, itSeq_lst g2, to_ok]
      have g4 : l < s1.length ∨ f (Sum.inl (k : Int)) = [] := by
        rcases g3 with g3 | g3
        · obtain ⟨l', e1, e3, _⟩ := L6.val _ _ g3
          cases e1
          exact .inl e3
        · exact .inr g3
      have w7 := look_app (t := [MO.lst []]) w6
      have m7 := look_app (t := [MO.lst []]) m6
      have f7 : Fr [s1.length, s1.length + 2] s3 (s6 ++ [MO.lst []]) := f6.trans .app
      generalize s6 ++ [MO.lst []] = s7 at w7 m7 f7 g2
      refine for_map (f (Sum.inl (k : Int))) nD (fun j σ s8 => ∃ y2 al2 ws2, σ = [some (mD M), some (.loc s.length), y2, y3, y4, y5, some (.loc s1.length), some (.loc (s1.length + 2))] ∧ Fr [s1.length, s1.length + 2] s3 s8 ∧ s8[l]? = some (.lst ((f (Sum.inl (k : Int))).map nD)) ∧ s8[s1.length]? = some (.lst (ws2.map nD)) ∧ s8[s1.length + 2]? = some (.dK (keysD al2)) ∧
          al2.Nodup ∧ ws2.Nodup ∧ (∀ x ∈ ws2, x ∈ al2) ∧ (∀ x ∈ al2, x < M.length) ∧ (∀ x ∈ al2, Lives M x) ∧ (∀ x, x < M.length → endB M x = true → x ∈ al2) ∧ (∀ y ∈ al2, y ∉ ws2 → y ≠ k → ∀ x, y ∈ succs M x → x ∈ al2) ∧ k ∈ al2 ∧ (∀ x ∈ (f (Sum.inl (k : Int))).take j, x ∈ al2) ∧
          2 * (M.length - al2.length) + ws2.length ≤ 2 * (M.length - al.length) + ws'.length)
        ⟨y2, al, ws', rfl, f7, g2, w7, m7, na, by have := nw; simp [List.nodup_append] at this; exact this.1, fun x hx => sub x (by simp [hx]), lt, liv, ends, fun y h1 h2 h3 => cl y h1 (by simp [h2, h3]), kal, by simp, Nat.le_refl _⟩
        (fun j σ s8 ⟨_, _, _, _, _, g, _⟩ => ⟨g, trivial⟩) ?_ ?_
      · rintro j x σ s8 hx ⟨y2, al2, ws2, rfl, f8, g8, w8, m8, na2, nw2, sub2, lt2, liv2, ends2, cl2, k2, t2, me2⟩
        have xL : x ∈ f (Sum.inl (k : Int)) := List.mem_of_getElem? hx
        have kx := (fm x k).mp xL
        have xn : x < M.length := by
          unfold succs at kx
          cases e : M[x]? with
          | none => rw [e] at kx; cases kx
          | some r => exact (List.getElem?_eq_some_iff.mp e).1
        have ll : l < s1.length := g4.elim id fun q => by rw [q] at xL; cases xL
        have ht' : ∀ al3 : List Nat, (∀ j ∈ al2, j ∈ al3) → x ∈ al3 → ∀ y ∈ (f (Sum.inl (k : Int))).take (j + 1), y ∈ al3 := fun al3 h3 h4 y hy => by
          rw [List.take_add_one, hx] at hy
          simp only [Option.toList_some, List.mem_append, List.mem_singleton] at hy
          rcases hy with hy | rfl
          · exact h3 y (t2 y hy)
          · exact h4
        simp only [w_gN, List.set_cons_succ, List.set_cons_zero, w_if, w_tval, w_op, v0, vS, to_ok]
        rw [oNotIn_dict m8 (show keyQ (nD x) = some (Sum.inl (x : Int)) from rfl), keysD_mem]
        simp only [to_ok, toB_bl]
        by_cases hin : x ∈ al2
        · simp only [hin, decide_true, Bool.not_true, Bool.false_eq_true, if_false, w_nx]
          exact ⟨_, al2, ws2, rfl, f8, g8, w8, m8, na2, nw2, sub2, lt2, liv2, ends2, cl2, k2, ht' al2 (fun _ h => h) hin, me2⟩
        · have la2 : (al2 ++ [x]).length ≤ M.length := nodup_len (snoc_nodup na2 hin) fun y hy => by
            rcases List.mem_append.mp hy with hy | hy
            · exact lt2 y hy
            · rw [List.mem_singleton.mp hy]; exact xn
          rw [List.length_append, List.length_singleton] at la2
          have lw2 : ws2.length ≤ M.length := nodup_len nw2 fun y hy => lt2 y (sub2 y hy)
          simp only [hin, decide_false, Bool.not_false, if_true, w_seq, w_put, mC_eq, v0, vS, to_ok]
          rw [oPut_dict m8 (show keyQ (nD x) = some (Sum.inl (x : Int)) from rfl) (by rw [keysD_len]; omega), keysD_put hin, to_ok]
          have w9 := look_ne (o' := .dK (keysD (al2 ++ [x]))) w8 (m := s1.length + 2) (by omega)
          simp only [w_exp, w_meth, v0, vS, to_ok]
          refine ⟨tyQ_lst w9, ?_⟩
          simp only [w_argsS, w_args0, v0, vS, to_ok]
          rw [tAppend_lst w9 (by rw [List.length_map]; omega), to_ok]
          refine ⟨_, al2 ++ [x], ws2 ++ [x], rfl, (f8.put (.inl (by simp))).put (.inl (by simp)), look_ne (look_ne g8 (by omega)) (by omega), ?_, look_ne (look_put m8) (by omega), snoc_nodup na2 hin, snoc_nodup nw2 fun h => hin (sub2 x h), ?_, ?_, ?_, fun y h1 h2 => by simp [ends2 y h1 h2], ?_, by simp [k2], ht' _ (fun y hy => by simp [hy]) (by simp), by simp; omega⟩
          · rw [look_put w9, List.map_append]; rfl
          · intro y hy
            rcases List.mem_append.mp hy with hy | hy
            · simp [sub2 y hy]
            · simp at hy; simp [hy]
          · intro y hy
            rcases List.mem_append.mp hy with hy | hy
            · exact lt2 y hy
            · rw [List.mem_singleton.mp hy]; exact xn
          · intro y hy
            rcases List.mem_append.mp hy with hy | hy
            · exact liv2 y hy
            · rw [List.mem_singleton.mp hy]
              obtain ⟨e, g, he⟩ := liv2 k k2
              exact ⟨e, Rch.head kx g, he⟩
          · intro y hy hw hne z hz
            rw [List.mem_append] at hw
            rcases List.mem_append.mp hy with hy | hy
            · simp [cl2 y hy (fun h => hw (.inl h)) hne z hz]
            · exact absurd hy fun h => hw (.inr h)
      · rintro σ s8 ⟨y2, al2, ws2, rfl, f8, g8, w8, m8, na2, nw2, sub2, lt2, liv2, ends2, cl2, k2, t2, me2⟩
        rw [List.take_length] at t2
        refine ⟨_, ?_, y2, al2, ws2, rfl, f8, w8, m8, na2, nw2, sub2, lt2, liv2, ends2, fun y h1 h2 x hx => ?_, rfl⟩
        · simp; omega
        · by_cases hyk : y = k
          · subst hyk
            exact t2 x ((fm x y).mpr hx)
          · exact cl2 y h1 h2 hyk x hx
end
end Mid
namespace Mid
open PySem
noncomputable section
variable {M : Mach} {s s' : Mst} {Q : Dv → Mst → Prop}
theorem srt_det (sr : Srt M) {sg : Str} {x t t' : Nat} (h : (sg, t) ∈ stepsOf M x) (g : (sg, t') ∈ stepsOf M x) : t = t' := by
  unfold stepsOf at h g
  cases e : M[x]? with
  | none => rw [e] at h; cases h
  | some r =>
    rw [e] at h g
    have := sr r (List.mem_of_getElem? e)
    rw [List.pairwise_map] at this
    by_cases hh : (sg, t) = (sg, t')
    · cases hh; rfl
    · rcases List.pairwise_iff_getElem.mp this with h1
      obtain ⟨i, hi, e1⟩ := List.mem_iff_getElem.mp h
      obtain ⟨j, hj, e2⟩ := List.mem_iff_getElem.mp g
      rcases Nat.lt_trichotomy i j with z | z | z
      · have := h1 i j hi hj z
        rw [e1, e2] at this
        exact absurd rfl this.2
      · subst z
        rw [e1] at e2
        exact absurd e2 hh
      · have := h1 j i hj hi z
        rw [e1, e2] at this
        exact absurd rfl this.2
theorem least_or_none_ok {xs : List Str} (wf : Wf M) (h0 : 0 < M.length) (hM : M.length ≤ 1000) (sr : Srt M) (hsl : ∀ r ∈ M, r.2.length < 60) (hxs : ∀ x q, q ∈ stepsOf M x → q.1 ∈ xs) (lxs : xs.length < 60)
    (hr : ∀ x, x < M.length → Rch M 0 x) (hl : ∀ x, x < M.length → Lives M x)
    (q : ∀ s' f r, Fr [] s s' → Stb M f → Coa M f → IsNum M (cn f) r → Q (mD r) s') : (f_least_or_none [mD M] s).to Q := by
  unfold f_least_or_none
  refine fun_at [some (mD M), none, none, none] rfl rfl ?_
  unfold m_least_or_none
  simp only [w_seq, w_set, w_call, w_argsS, w_args0, w_noE, v0, vS, to_ok, List.set_cons_succ, List.set_cons_zero]
  refine alive_ok wf hM hsl fun s1 al f1 a ha e1 na ma => ?_
  have mal : ∀ x, x ∈ al ↔ x < M.length := fun x => by rw [ma]; exact ⟨fun z => z.1, fun z => ⟨z, hl x z⟩⟩
  simp only [w_if, w_tval, w_op, mC_eq, v0, vS, to_ok, List.set_cons_succ, List.set_cons_zero]
  rw [oNotIn_dict e1 (show keyQ (.int 0) = some (Sum.inl ((0 : Nat) : Int)) from rfl), keysD_mem]
  simp only [to_ok, toB_bl]
  rw [decide_eq_true ((mal 0).mpr h0)]
  simp only [Bool.not_true, Bool.false_eq_true, if_false, w_nx, w_lc, w_iseq, w_call, w_argsS, w_args0, w_noE, v0, vS, to_ok]
  refine reached_ok wf h0 hM fun d s2 ks f2 rk nk mk => ?_
  obtain ⟨l, rfl, hlp, el⟩ := nl_iff.mp rk
  rw [itSeq_lst el, to_ok]
  have e2 := f2.get e1 (by simp)
  refine lc_pure ks nD (fun x => decide (x ∈ al)) nD ⟨el, trivial⟩ (fun x hx => ?_) ?_
  · simp only [w_gN, w_tval, w_op, v0, vS, to_ok, wipeS, wipe0, List.set_cons_succ, List.set_cons_zero]
    rw [oIn_dict e2 (show keyQ (nD x) = some (Sum.inl (x : Int)) from rfl), keysD_mem]
    simp only [to_ok, toB_bl]
    exact ⟨trivial, fun _ => ⟨trivial, trivial⟩, fun _ => trivial⟩
  have lk : ks.length ≤ M.length := nodup_len nk fun x hx => rch_lt wf h0 ((mk x).mp hx)
  refine ⟨by rw [List.length_map]; omega, ?_⟩
  generalize hS : ks.filter (fun x => decide (x ∈ al)) = So
  have nS : So.Nodup := by rw [← hS]; exact nk.filter _
  have mS : ∀ x, x ∈ So ↔ x < M.length := fun x => by
    rw [← hS, List.mem_filter, decide_eq_true_iff, mk, mal]
    exact ⟨fun z => z.2, fun z => ⟨hr x z, z⟩⟩
  generalize hs3 : s2 ++ [MO.lst (So.map nD)] = s3
  have f23 : Fr [] s2 s3 := by rw [← hs3]; exact .app
  have e3 : s3[s2.length]? = some (.lst (So.map nD)) := by rw [← hs3]; exact look_new0
  have l23 : s3.length = s2.length + 1 := by rw [← hs3]; simp
  refine mMake_to ?_
  have f34 : Fr [] s3 (s3 ++ [MO.ins 0 []]) := .app
  refine init_ok (p := s3.length) look_new0 (nl_iff.mpr ⟨_, rfl, by omega, look_app e3⟩) nS mS sr hsl hxs lxs hM fun s5 c w h o k hs ho ks5 cf ckv Pc wkv ws f45 H5 G5 C5 hPc ⟨cn3, g1, g2, g3⟩ hcf w5 wk5 wo hws wl hb => ?_
  refine ⟨rfl, ?_⟩
  have f05 : Fr [] s s5 := ((f1.trans f2).trans f23).trans ((f34.trans2 f45 (by simp)))
  simp only [w_exp, List.set_cons_succ, List.set_cons_zero]
  refine mMethC_to (by simp only [v0, vS]) H5.ob rfl ?_
  simp only [w_args0]
  refine cut_all_ok wf H5 G5 C5 hPc cn3 hcf (fun sg x t t' => srt_det sr) w5 wk5 wo hws wl hM hb fun s6 hs6 ho6 f56 H6 G6 => ?_
  obtain ⟨st, co⟩ := G6.done wf sr
  obtain ⟨od, eo, _, ko⟩ := H6.of_
  simp only [w_ret, w_call, w_argsS, w_args0, w_un, w_noE, v0, vS, to_ok]
  rw [fl_of H6.ob, to_ok]
  refine numbered_ok wf h0 hM hsl eo (fun x hx => ko x (List.mem_range.mpr hx)) (c := cn ho6) (fun x hx => ⟨by have := (cn_spec ho6 x).1; omega, cn_idem⟩) (fun x y _ _ => cn_iff.symm) (stb_cn st wf) fun s7 r f67 hr => ?_
  simp only [List.length_append, List.length_singleton] at g1 g2 g3
  have l01 := f1.1
  have l12 := f2.1
  exact q s7 ho6 r ((f05.trans2 f56 fun m hm => .inr (by simp at hm; rcases hm with rfl | rfl | rfl <;> omega)).trans f67) st co hr
end
end Mid
namespace Mid
open PySem
noncomputable section
variable {M : Mach} {s s' : Mst} {Q : Dv → Mst → Prop} {f g K : Nat → Nat}
/-! ### how many classes -/
def cnt (n : Nat) (f : Nat → Nat) : Nat := ((List.range n).filter fun x => decide (cn f x = x)).length
theorem cnt_le (n : Nat) (f : Nat → Nat) : cnt n f ≤ n := by
  have := List.length_filter_le (fun x => decide (cn f x = x)) (List.range n)
  rw [List.length_range] at this
  exact this
theorem cn_first {x : Nat} : cn f x = x ↔ ∀ y, y < x → f y ≠ f x := by
  obtain ⟨a, b, c⟩ := cn_spec f x
  exact ⟨fun h y hy => c y (by omega), fun h => Classical.byContradiction fun n => h _ (by omega) b⟩
theorem cnt_fine {n : Nat} (h : ∀ x y, x < n → y < n → f x = f y → g x = g y) : cnt n g ≤ cnt n f ∧ (cnt n f ≤ cnt n g → ∀ x y, x < n → y < n → g x = g y → f x = f y) := by
  have sub : ∀ x, x < n → cn g x = x → cn f x = x := fun x hx e => by
    rw [cn_first] at e ⊢
    exact fun y hy z => e y hy (h y x (by omega) hx z)
  have e1 : (List.range n).filter (fun x => decide (cn g x = x)) = ((List.range n).filter fun x => decide (cn f x = x)).filter fun x => decide (cn g x = x) := by
    rw [List.filter_filter]
    refine List.filter_congr fun x hx => ?_
    by_cases q : cn g x = x
    · rw [decide_eq_true q, decide_eq_true (sub x (List.mem_range.mp hx) q)]; rfl
    · rw [decide_eq_false q]; rfl
  have sl : ((List.range n).filter fun x => decide (cn g x = x)).Sublist ((List.range n).filter fun x => decide (cn f x = x)) := by rw [e1]; exact List.filter_sublist
  refine ⟨sl.length_le, fun hc x y hx hy e => ?_⟩
  have eq := sl.eq_of_length (Nat.le_antisymm sl.length_le hc)
  have can : ∀ z, z < n → cn f z = z → cn g z = z := fun z hz e => by
    have : z ∈ (List.range n).filter fun x => decide (cn f x = x) := by rw [List.mem_filter]; exact ⟨List.mem_range.mpr hz, decide_eq_true e⟩
    rw [← eq, List.mem_filter] at this
    exact of_decide_eq_true this.2
  obtain ⟨a1, a2, _⟩ := cn_spec f x
  obtain ⟨b1, b2, _⟩ := cn_spec f y
  have gx := can (cn f x) (by omega) cn_idem
  have gy := can (cn f y) (by omega) cn_idem
  have e2 : g (cn f x) = g (cn f y) := by rw [h _ _ (by omega) hx a2, h _ _ (by omega) hy b2, e]
  have e3 := cn_eq e2
  rw [gx, gy] at e3
  rw [← a2, e3, b2]
theorem metI_snoc (acc l : List Int) (i : Int) : metI acc (l ++ [i]) = if i ∈ metI acc l then metI acc l else metI acc l ++ [i] := by
  induction l generalizing acc with
  | nil => by_cases h : i ∈ acc <;> simp [metI, h]
  | cons a r ih =>
    rw [List.cons_append]
    unfold metI
    split <;> exact ih _
theorem metI_mem (acc l : List Int) (i : Int) : i ∈ metI acc l ↔ i ∈ acc ∨ i ∈ l := by
  induction l generalizing acc with
  | nil => simp [metI]
  | cons a r ih =>
    unfold metI
    split
    · rename_i h
      rw [ih]
      constructor
      · rintro (q | q)
        · exact .inl q
        · exact .inr (List.mem_cons_of_mem _ q)
      · rintro (q | q)
        · exact .inl q
        · rcases List.mem_cons.mp q with rfl | q
          · exact .inl h
          · exact .inr q
    · rw [ih]; simp [or_assoc]
theorem metI_cnt (n : Nat) (f : Nat → Nat) : (metI [] ((List.range n).map fun x => (f x : Int))).length = cnt n f := by
  induction n with
  | zero => rfl
  | succ n ih =>
    unfold cnt at ih ⊢
    rw [List.range_succ, List.map_append, List.map_singleton, metI_snoc, List.filter_append, List.length_append, ← ih]
    have e : ((f n : Int) ∈ metI [] ((List.range n).map fun x => (f x : Int))) ↔ ¬ cn f n = n := by
      rw [metI_mem, cn_first]
      simp only [List.not_mem_nil, false_or, List.mem_map, List.mem_range]
      constructor
      · rintro ⟨y, hy, e⟩ h
        exact h y hy (by omega)
      · intro h
        refine Classical.byContradiction fun n => h fun y hy z => n ⟨y, hy, by rw [z]⟩
    by_cases h : cn f n = n
    · rw [if_neg fun z => e.mp z h]; simp [h]
    · rw [if_pos (e.mpr h)]; simp [h]
theorem bLenSet_nat {n : Nat} {l : List Nat} (h : s[n]? = some (.lst (l.map nD))) (hl : l.length < 4000) : bLenSet [.loc n] s = .ok (.int (metI [] (l.map fun x : Nat => (x : Int))).length) s := by
  show (match (bAny.lstQ (.loc n) s).bind intsQ with | some ns => _ | none => _) = _
  have e : l.map nD = (l.map fun x : Nat => (x : Int)).map Dv.int := by rw [List.map_map]; rfl
  rw [lstQ_loc h, Option.bind_some, e, intsQ_map]
  exact if_pos (by rw [List.length_map]; exact hl)
/-! ### keys of rooms -/
def keyRD (M : Mach) (K : Nat → Nat) (x : Nat) : Dv := .tup (nD (K x) :: (sig M K x).map stepD)
def keyRK (M : Mach) (K : Nat → Nat) (x : Nat) : NestedKey := .tup (.num (K x : Int) :: (sig M K x).map fun p => nkey p.1 p.2)
theorem keyN_room (x : Nat) : keyN (keyRD M K x) = some (keyRK M K x) := by
  have e1 : ∀ l : List (Str × Nat), datA (dat [] 65) (l.map stepD) = some (l.map fun p => .tuple [.str p.1, .int p.2]) := fun l => by
    induction l with
    | nil => rfl
    | cons p r ih =>
      rw [List.map_cons]
      unfold datA
      rw [ih]; rfl
  have e2 : ∀ l : List (Str × Nat), nkPs (l.map fun p => PyData.tuple [.str p.1, .int p.2]) = some (l.map fun p => nkey p.1 p.2) := fun l => by
    induction l with
    | nil => simp [nkPs]
    | cons p r ih =>
      rw [List.map_cons]
      unfold nkPs
      rw [ih]
      simp [nkP, nkPs, nkey]
  have e3 : dat [] 66 (keyRD M K x) = some (.tuple (.int (K x) :: (sig M K x).map fun p => .tuple [.str p.1, .int p.2])) := by
    show (datA (dat [] 65) (nD (K x) :: (sig M K x).map stepD)).map PyData.tuple = _
    unfold datA
    rw [e1]; rfl
  have e4 : nkP (.tuple (.int (K x) :: (sig M K x).map fun p => .tuple [.str p.1, .int p.2])) = some (keyRK M K x) := by
    unfold nkP nkPs
    rw [e2]
    simp [nkP, keyRK]
  have e5 : (keyRK M K x).depth ≤ 8 := by
    have : ∀ l : List (Str × Nat), NestedKey.depthAll (l.map fun p => nkey p.1 p.2) ≤ 1 := fun l => by
      induction l with
      | nil => simp [NestedKey.depthAll]
      | cons p r ih =>
        have d1 : (nkey p.1 p.2).depth = 1 := by simp [nkey, NestedKey.depth, NestedKey.depthAll]
        rw [List.map_cons, NestedKey.depthAll, d1]
        omega
    have := this (sig M K x)
    simp only [keyRK, NestedKey.depth, NestedKey.depthAll]
    omega
  have e6 : keyN (keyRD M K x) = match (dat [] 66 (keyRD M K x)).bind nkP with
    | some k => if k.depth ≤ 8 then some k else none
    | none => none := rfl
  rw [e6, e3, Option.bind_some, e4]
  simp only
  rw [if_pos e5]
theorem keyRK_inj {x y : Nat} : keyRK M K x = keyRK M K y ↔ K x = K y ∧ sig M K x = sig M K y := by
  have inj : ∀ l m : List (Str × Nat), (l.map fun p => nkey p.1 p.2) = (m.map fun p => nkey p.1 p.2) → l = m := fun l => by
    induction l with
    | nil => intro m h; cases m with
      | nil => rfl
      | cons _ _ => cases h
    | cons p r ih =>
      intro m h
      cases m with
      | nil => cases h
      | cons p' r' =>
        simp only [List.map_cons, List.cons.injEq] at h
        obtain ⟨a, b⟩ := nkey_inj h.1
        rw [ih r' h.2, Prod.ext a b]
  unfold keyRK
  simp only [NestedKey.tup.injEq, List.cons.injEq, NestedKey.num.injEq]
  exact ⟨fun h => ⟨by omega, inj _ _ h.2⟩, fun h => ⟨by rw [h.1], by rw [h.2]⟩⟩
/-- the keys as they are met -/
def kmet (k : Nat → NestedKey) : Nat → List NestedKey
  | 0 => []
  | i + 1 => if k i ∈ kmet k i then kmet k i else kmet k i ++ [k i]
theorem kmet_pre (k : Nat → NestedKey) {i j : Nat} (h : i ≤ j) : kmet k i <+: kmet k j := by
  induction j with
  | zero => rw [Nat.le_zero.mp h]; exact List.prefix_refl _
  | succ j ih =>
    rcases Nat.lt_or_eq_of_le h with h | rfl
    · refine (ih (by omega)).trans ?_
      show _ <+: (if _ then _ else _)
      split
      · exact List.prefix_refl _
      · exact List.prefix_append _ _
    · exact List.prefix_refl _
theorem kmet_in (k : Nat → NestedKey) (i : Nat) : k i ∈ kmet k (i + 1) := by
  show _ ∈ (if _ then _ else _)
  split
  · assumption
  · simp
theorem kmet_idx (k : Nat → NestedKey) {i n : Nat} (h : i < n) : (kmet k n).idxOf (k i) = (kmet k (i + 1)).idxOf (k i) := by
  obtain ⟨u, hu⟩ := kmet_pre k (show i + 1 ≤ n from h)
  rw [← hu, List.idxOf_append, if_pos (kmet_in k i)]
theorem kmet_inj (k : Nat → NestedKey) {x y n : Nat} (hx : x < n) (hy : y < n) : (kmet k n).idxOf (k x) = (kmet k n).idxOf (k y) ↔ k x = k y := by
  refine ⟨fun h => ?_, fun h => by rw [h]⟩
  have ix : k x ∈ kmet k n := (kmet_pre k (show x + 1 ≤ n from hx)).subset (kmet_in k x)
  have iy : k y ∈ kmet k n := (kmet_pre k (show y + 1 ≤ n from hy)).subset (kmet_in k y)
  have h1 := List.idxOf_lt_length_of_mem ix
  have h2 := List.idxOf_lt_length_of_mem iy
  have e1 := List.getElem_idxOf h1
  have e2 := List.getElem_idxOf h2
  rw [← e1, ← e2]
  congr 1
theorem kmet_len (k : Nat → NestedKey) (i : Nat) : (kmet k i).length ≤ i := by
  induction i with
  | zero => simp [kmet]
  | succ i ih =>
    show (if _ then _ else _ : List NestedKey).length ≤ _
    split
    · omega
    · rw [List.length_append, List.length_singleton]; omega
theorem bLen_kN {n : Nat} {o : MO} {kvs : List (NestedKey × Dv)} (h : s[n]? = some o) (i : kN.isk o kvs) : bLen [.loc n] s = .ok (.int kvs.length) s := by
  show ofO ((lenQ (.loc n) s).map fun n => Dv.int n) s = _
  rcases i with i | ⟨i, rfl⟩ <;> subst i <;> (unfold lenQ; simp only [h]; rfl)
end
end Mid
namespace Mid
open PySem
noncomputable section
variable {M : Mach} {s s' : Mst} {Q : Dv → Mst → Prop} {f g K : Nat → Nat}
theorem sig_of {l m : List (Str × Nat)} (h : (l.map fun p => (p.1, g p.2)) = m.map fun p => (p.1, g p.2)) (e : ∀ p ∈ l, ∀ q ∈ m, g p.2 = g q.2 → K p.2 = K q.2) : (l.map fun p => (p.1, K p.2)) = m.map fun p => (p.1, K p.2) := by
  induction l generalizing m with
  | nil => cases m with
    | nil => rfl
    | cons _ _ => cases h
  | cons p r ih => cases m with
    | nil => cases h
    | cons q r' =>
      simp only [List.map_cons, List.cons.injEq, Prod.mk.injEq] at h ⊢
      exact ⟨⟨h.1.1, e p (by simp) q (by simp) h.1.2⟩, ih h.2 fun a ha b hb => e a (by simp [ha]) b (by simp [hb])⟩
theorem idxOf_cn {o : List Nat} (ho : ∀ y ∈ o, cn K y = y) (t : Nat) : (o.map K).idxOf (K t) = o.idxOf (cn K t) := by
  induction o with
  | nil => rfl
  | cons a r ih =>
    have iff : (K a = K t) ↔ a = cn K t := by rw [← cn_iff, ho a (by simp)]
    rw [List.map_cons, List.idxOf_cons, List.idxOf_cons, ih fun y hy => ho y (by simp [hy])]
    by_cases h : a = cn K t
    · simp [iff.mpr h, ← h]
    · have h2 : (K a == K t) = false := by rw [beq_eq_false_iff_ne]; exact fun z => h (iff.mp z)
      have h3 : (a == cn K t) = false := by rw [beq_eq_false_iff_ne]; exact h
      rw [h2, h3]
theorem mem_cn {o : List Nat} (ho : ∀ y ∈ o, cn K y = y) {t : Nat} : K t ∈ o.map K ↔ cn K t ∈ o := by
  rw [List.mem_map]
  constructor
  · rintro ⟨y, hy, e⟩
    rw [← cn_eq e, ho y hy]; exact hy
  · intro h
    exact ⟨_, h, (cn_spec K t).2.1⟩
/-- the second half: told as they are met -/
theorem gleast_two {l lk : Nat} {y1 y2 y4 y5 y6 y7 y8 y9 y13 : Option Dv} {N : Men → Mst → Prop} {C B : Men → Mst → Prop} (wf : Wf M) (h0 : 0 < M.length) (hM : M.length ≤ 1000) (hsl : ∀ r ∈ M, r.2.length < 60) (es : s[l]? = some (.lst (M.map roomD))) (ek : s[lk]? = some (.lst (((List.range M.length).map K).map nD)))
    (q : ∀ s' r, Fr [] s s' → IsNum M (cn K) r → Q (mD r) s') :
    (msSeq (msSet 10 (mLst [mOp oGet (mVar 3) (mC (.int 0))]))
    (msSeq (msSet 11 (mLst []))
    (msSeq (msSet 12 (mC (.int 0)))
    (msSeq (msWhile (mtVal (mOp oLt (mVar 12) (mCall bLen [mVar 10]))) (msSeq (msAsg (gT [gN 1, gN 2]) (mOp oGet (mVar 0) (mMeth "list" tIndex (mVar 3) [mOp oGet (mVar 10) (mVar 12)])))
    (msSeq (msFor (miSeq (mVar 2)) (gT [gN 7, gN 8]) (msIf (mtVal (mOp oNotIn (mOp oGet (mVar 3) (mVar 8)) (mVar 10))) (msExp (mMeth "list" tAppend (mVar 10) [mOp oGet (mVar 3) (mVar 8)])) (msNx)))
    (msSeq (msExp (mMeth "list" tAppend (mVar 11) [mTup [mVar 1, mCall bTuple [mLc (miSeq (mVar 2)) (gT [gN 7, gN 8]) (mtYes) (mTup [mVar 7, mMeth "list" tIndex (mVar 10) [mOp oGet (mVar 3) (mVar 8)]]) [7, 8]]]]))
    (msSet 12 (mOp oAdd (mVar 12) (mC (.int 1))))))))
    (msRet (mCall bTuple [mVar 11])))))
    [some (.loc l), y1, y2, some (.loc lk), y4, y5, y6, y7, y8, y9, none, none, none, y13] s).to N Q C B := by
  have hc : ∀ x, x < M.length → cn K x < M.length ∧ cn K (cn K x) = cn K x := fun x hx => ⟨by have := (cn_spec K x).1; omega, cn_idem⟩
  have oko := fun i => ord_ok wf h0 hc i
  have mle : ∀ i, (ordN M (cn K) i).length ≤ M.length := fun i => nodup_len (ord_nd i) fun x hx => (oko i x hx).1
  have kat : ∀ x, x < M.length → (((List.range M.length).map K).map nD)[x]? = some (nD (K x)) := fun x hx => by rw [List.getElem?_map, List.getElem?_map, List.getElem?_range hx]; rfl
  have ll := lt_of es
  have lkl := lt_of ek
  simp only [w_seq, w_set, w_lst, w_argsS, w_args0, w_op, mC_eq, v0, vS, to_ok, List.set_cons_succ, List.set_cons_zero]
  rw [show (Dv.int 0) = .int ((0 : Nat) : Int) from rfl, oGet_lst ek (kat 0 h0), to_ok]
  have l1 : (s ++ [MO.lst [nD (K 0)]]).length = s.length + 1 := by simp
  rw [l1]
  generalize hsA : s ++ [MO.lst [nD (K 0)]] ++ [MO.lst []] = sA
  have fA : Fr [] s sA := by rw [← hsA]; exact Fr.app.trans .app
  have oA : sA[s.length]? = some (.lst [nD (K 0)]) := by rw [← hsA]; exact look_app look_new0
  have foA : sA[s.length + 1]? = some (.lst []) := by rw [← hsA, ← l1]; exact look_new0
  refine while_m (fun m σ s1 => ∃ i y1 y2 y7 y8, σ = [some (.loc l), y1, y2, some (.loc lk), y4, y5, y6, y7, y8, y9, some (.loc s.length), some (.loc (s.length + 1)), some (nD i), y13] ∧ Fr [] s s1 ∧ s1[s.length]? = some (.lst (((ordN M (cn K) i).map K).map nD)) ∧ s1[s.length + 1]? = some (.lst ((List.range i).map fun j => roomD (entN M (cn K) j))) ∧
      i ≤ (ordN M (cn K) i).length ∧ (∀ j, j < i → j < (ordN M (cn K) j).length) ∧ m = M.length + 1 - i)
    ⟨_, 0, y1, y2, y7, y8, rfl, fA, by simpa [ordN, (cn_spec K 0).2.1] using oA, by simpa using foA, by simp, by simp, rfl⟩ ?_
  rintro m σ s1 ⟨i, y1, y2, y7, y8, rfl, f1, o1, fo1, i1, j1, rfl⟩
  have mi := mle i
  have es1 := f1.get es (by simp)
  have ek1 := f1.get ek (by simp)
  simp only [w_tval, w_op, w_call, w_argsS, w_args0, vS, v0, to_ok]
  rw [bLen_seq (seqOf_lst o1), to_ok]
  simp only [nD, oLt_int, to_ok, toB_bl, List.length_map]
  by_cases hlt : i < (ordN M (cn K) i).length
  · rw [decide_eq_true (by omega), if_pos rfl]
    obtain ⟨x, hx⟩ : ∃ x, (ordN M (cn K) i)[i]? = some x := ⟨_, List.getElem?_eq_getElem hlt⟩
    obtain ⟨xn, xc⟩ := oko i x (List.mem_of_getElem? hx)
    obtain ⟨r, hr⟩ : ∃ r, M[x]? = some r := ⟨_, List.getElem?_eq_getElem xn⟩
    have rl := hsl r (List.mem_of_getElem? hr)
    have hos : ordN M (cn K) (i + 1) = addNew (ordN M (cn K) i) (r.2.map fun p => cn K p.2) := by rw [ord_step hx, steps_of hr]
    have er : endB M x = r.1 := by unfold endB; rw [hr]
    have hent : entN M (cn K) i = (r.1, r.2.map fun p => (p.1, (ordN M (cn K) (i + 1)).idxOf (cn K p.2))) := by
      unfold entN
      rw [hx]
      simp only
      rw [er, steps_of hr]
    have iK : ((List.range M.length).map K).idxOf (K x) = x := by rw [idx_cn xn, xc]
    simp only [w_seq, w_asg, w_op, w_meth, vS, v0, to_ok]
    refine ⟨tyQ_lst ek1, ?_⟩
    simp only [w_argsS, w_args0, w_op, vS, v0, to_ok]
    rw [oGet_lst (b := i) (z := nD (K x)) o1 (by rw [List.getElem?_map, List.getElem?_map, hx]; rfl), to_ok, tIndex_nat ek1 (List.mem_map.mpr ⟨x, List.mem_range.mpr xn, rfl⟩), to_ok, iK]
    rw [show nD x = .int (x : Int) from rfl, oGet_lst (z := roomD r) es1 (by rw [List.getElem?_map, hr]; rfl), to_ok]
    simp only [roomD, w_gT, w_gES, w_gE0, w_gN, List.length_cons, List.length_nil, true_and, List.set_cons_succ, List.set_cons_zero, w_for, w_iseq, vS, v0, to_ok, itSeq_tup]
    have tn : ∀ p ∈ r.2, p.2 < M.length := fun p hp => wf x p.2 (by rw [succs_of hr]; exact List.mem_map.mpr ⟨p, hp, rfl⟩)
    refine for_map r.2 stepD (fun j σ s2 => ∃ y7 y8, σ = [some (.loc l), some (.bl r.1), some (.tup (r.2.map stepD)), some (.loc lk), y4, y5, y6, y7, y8, y9, some (.loc s.length), some (.loc (s.length + 1)), some (.int (i : Int)), y13] ∧ Fr [] s s2 ∧ s2[s.length]? = some (.lst (((addNew (ordN M (cn K) i) ((r.2.take j).map fun p => cn K p.2)).map K).map nD)) ∧
        s2[s.length + 1]? = some (.lst ((List.range i).map fun j => roomD (entN M (cn K) j))))
      ⟨y7, y8, rfl, f1, by simpa [addNew] using o1, fo1⟩ (fun _ _ _ _ => trivial) ?_ ?_
    · rintro j ⟨sg, t⟩ σ s2 hj ⟨y7, y8, rfl, f2, o2, fo2⟩
      have tM := tn (sg, t) (List.mem_of_getElem? hj)
      have ek2 := f2.get ek (by simp)
      have tk : (r.2.take (j + 1)).map (fun p => cn K p.2) = (r.2.take j).map (fun p => cn K p.2) ++ [cn K t] := by rw [List.take_add_one, hj, List.map_append]; rfl
      have can : ∀ y ∈ addNew (ordN M (cn K) i) ((r.2.take j).map fun p => cn K p.2), cn K y = y ∧ y < M.length := fun y hy => by
        rcases addNew_mem.mp hy with z | z
        · exact ⟨(oko i y z).2, (oko i y z).1⟩
        · obtain ⟨p, hp, rfl⟩ := List.mem_map.mp z
          exact ⟨cn_idem, (hc _ (tn p (List.mem_of_mem_take hp))).1⟩
      have lad : (addNew (ordN M (cn K) i) ((r.2.take j).map fun p => cn K p.2)).length ≤ M.length := nodup_len (addNew_nd (ord_nd i)) fun y hy => (can y hy).2
      simp only [stepD, w_gT, w_gES, w_gE0, w_gN, List.length_cons, List.length_nil, true_and, List.set_cons_succ, List.set_cons_zero, w_if, w_tval, w_op, vS, v0, to_ok]
      rw [show iD t = .int (t : Int) from rfl, oGet_lst ek2 (kat t tM), to_ok, oNotIn_nat o2, to_ok]
      simp only [toB_bl]
      by_cases hin : cn K t ∈ addNew (ordN M (cn K) i) ((r.2.take j).map fun p => cn K p.2)
      · rw [decide_eq_true ((mem_cn fun y hy => (can y hy).1).mpr hin)]
        simp only [Bool.not_true, Bool.false_eq_true, if_false, w_nx]
        refine ⟨_, _, rfl, f2, ?_, fo2⟩
        rw [tk, addNew_snoc, if_pos hin]; exact o2
      · rw [decide_eq_false fun z => hin ((mem_cn fun y hy => (can y hy).1).mp z)]
        simp only [Bool.not_false, if_true, w_exp, w_meth, vS, v0, to_ok]
        refine ⟨tyQ_lst o2, ?_⟩
        simp only [w_argsS, w_args0, w_op, vS, v0, to_ok]
        rw [oGet_lst ek2 (kat t tM), to_ok, tAppend_lst o2 (by rw [List.length_map, List.length_map]; omega), to_ok]
        refine ⟨_, _, rfl, f2.put (.inr (by omega)), ?_, look_ne fo2 (by omega)⟩
        rw [look_put o2, tk, addNew_snoc, if_neg hin, List.map_append, List.map_append, List.map_singleton, List.map_singleton, (cn_spec K t).2.1]
    · rintro σ s2 ⟨y7, y8, rfl, f2, o2, fo2⟩
      rw [List.take_length, ← hos] at o2
      have ek2 := f2.get ek (by simp)
      have lo2 := lt_of o2
      have lfo2 := lt_of fo2
      simp only [w_exp, w_meth, vS, v0, to_ok]
      refine ⟨tyQ_lst fo2, ?_⟩
      simp only [w_argsS, w_args0, w_tup, w_call, w_lc, w_iseq, vS, v0, to_ok, itSeq_tup, wipeS, wipe0, List.set_cons_succ, List.set_cons_zero]
      refine lc_pure r.2 stepD (fun _ => true) (fun p => stepD (p.1, (ordN M (cn K) (i + 1)).idxOf (cn K p.2))) trivial (fun p hp => ?_) ?_
      · have pM := tn p hp
        have cin : cn K p.2 ∈ ordN M (cn K) (i + 1) := by rw [hos, addNew_mem]; exact .inr (List.mem_map.mpr ⟨p, hp, rfl⟩)
        simp only [stepD, w_gT, w_gES, w_gE0, w_gN, List.length_cons, List.length_nil, true_and, List.set_cons_succ, List.set_cons_zero, w_tyes, w_tup, w_argsS, w_args0, w_meth, w_op, vS, v0, to_ok]
        refine ⟨fun _ => ⟨tyQ_lst o2, ?_⟩, fun z => by cases z⟩
        rw [show iD p.2 = .int (p.2 : Int) from rfl, oGet_lst ek2 (kat p.2 pM), to_ok, tIndex_nat o2 ((mem_cn fun y hy => (oko _ y hy).2).mpr cin), to_ok, idxOf_cn fun y hy => (oko _ y hy).2]
        exact ⟨rfl, rfl⟩
      rw [List.filter_eq_self.mpr fun _ _ => rfl]
      refine ⟨by rw [List.length_map]; omega, ?_⟩
      rw [bTuple_seq (seqOf_lst look_new0), to_ok, tAppend_lst (look_app fo2) (by rw [List.length_map, List.length_range]; omega), to_ok]
      simp only [w_set, w_op, mC_eq, vS, v0, to_ok, oAdd_int, List.set_cons_succ, List.set_cons_zero]
      have lo : (ordN M (cn K) i).length ≤ (ordN M (cn K) (i + 1)).length := by rw [hos]; exact (addNew_pre _ _).length_le
      refine ⟨_, by omega, i + 1, some (.bl r.1), some (.tup (r.2.map stepD)), y7, y8, by simp [nD], (f2.trans .app).put (.inr (by omega)), look_ne (look_app o2) (by omega), ?_, by omega, fun j hj => ?_, rfl⟩
      · rw [look_put (look_app fo2), List.range_succ, List.map_append, List.map_singleton, hent]
        simp only [roomD, List.map_map, Function.comp_def]
      · rcases Nat.lt_or_eq_of_le (Nat.le_of_lt_succ hj) with z | rfl
        · exact j1 j z
        · omega
  · rw [decide_eq_false (by omega), if_neg (by simp)]
    simp only [w_ret, w_call, w_argsS, w_args0, vS, v0, to_ok]
    rw [bTuple_seq (seqOf_lst fo1), to_ok]
    have : Dv.tup ((List.range i).map fun j => roomD (entN M (cn K) j)) = mD ((List.range i).map (entN M (cn K))) := by unfold mD; rw [List.map_map]; rfl
    rw [this]
    exact q s1 _ f1 ⟨i, by omega, j1, rfl⟩
end
end Mid
namespace Mid
open PySem
noncomputable section
variable {M : Mach} {s s' : Mst} {Q : Dv → Mst → Prop} {f g K : Nat → Nat}
/-- one round: the rooms' kinds by their keys -/
theorem round_ok {l lk : Nat} {y1 y2 y4 y5 y6 y7 y8 y9 y13 : Option Dv} {N : Men → Mst → Prop} {R : Dv → Mst → Prop} {C B : Men → Mst → Prop} (wf : Wf M) (hM : M.length ≤ 1000) (hsl : ∀ r ∈ M, r.2.length < 60) (es : s[l]? = some (.lst (M.map roomD))) (ek : s[lk]? = some (.lst (((List.range M.length).map K).map nD)))
    (q : ∀ s' lk' K' y5 y6 y7 y8 y9, Fr [] s s' → s'[lk']? = some (.lst (((List.range M.length).map K').map nD)) → (∀ x y, x < M.length → y < M.length → (K' x = K' y ↔ K x = K y ∧ sig M K x = sig M K y)) →
      N [some (.loc l), y1, y2, some (.loc lk'), some (.int (cnt M.length K)), y5, y6, y7, y8, y9, none, none, none, y13] s') :
    (msSeq (msSet 4 (mCall bLenSet [mVar 3]))
    (msSeq (msSet 5 (mLst []))
    (msSeq (msFor (miRng1 (mCall bLen [mVar 0])) (gN 6) (msExp (mMeth "list" tAppend (mVar 5) [mOp oAdd (mTup [mOp oGet (mVar 3) (mVar 6)]) (mCall bTuple [mLc (miSeq (mOp oGet (mOp oGet (mVar 0) (mVar 6)) (mC (.int 1)))) (gT [gN 7, gN 8]) (mtYes) (mTup [mVar 7, mOp oGet (mVar 3) (mVar 8)]) [7, 8]])])))
    (msSeq (msSet 9 (mDisp []))
    (msSet 3 (mLc (miSeq (mVar 5)) (gN 13) (mtYes) (mMeth "dict" tSetd (mVar 9) [mVar 13, mCall bLen [mVar 9]]) [13])))))
    [some (.loc l), y1, y2, some (.loc lk), y4, y5, y6, y7, y8, y9, none, none, none, y13] s).to N R C B := by
  have kat : ∀ x, x < M.length → (((List.range M.length).map K).map nD)[x]? = some (nD (K x)) := fun x hx => by rw [List.getElem?_map, List.getElem?_map, List.getElem?_range hx]; rfl
  have ll := lt_of es
  have lkl := lt_of ek
  have ecnt : (metI [] (((List.range M.length).map K).map fun x : Nat => (x : Int))).length = cnt M.length K := by rw [List.map_map]; exact metI_cnt M.length K
  simp only [w_seq, w_set, w_lst, w_call, w_argsS, w_args0, v0, vS, to_ok, List.set_cons_succ, List.set_cons_zero]
  rw [bLenSet_nat ek (by rw [List.length_map, List.length_range]; omega), to_ok, ecnt]
  have es1 := look_app (t := [MO.lst []]) es
  simp only [w_for, w_irng1, w_call, w_argsS, w_args0, v0, vS, to_ok]
  rw [bLen_seq (seqOf_lst es1), to_ok]
  simp only [toI_int, List.length_map]
  refine ⟨r62 (by omega), ?_⟩
  rw [Int.toNat_natCast, rng0]
  refine for_map (List.range M.length) nD (fun i σ s3 => ∃ y6 y7 y8, σ = [some (.loc l), y1, y2, some (.loc lk), some (.int (cnt M.length K)), some (.loc s.length), y6, y7, y8, y9, none, none, none, y13] ∧ Fr [] s s3 ∧ s3[s.length]? = some (.lst ((List.range i).map (keyRD M K))))
    ⟨y6, y7, y8, rfl, .app, look_new0⟩ (fun _ _ _ _ => trivial) ?_ ?_
  · rintro i a σ s3 ha ⟨y6, y7, y8, rfl, f3, k3⟩
    obtain ⟨rfl, ha⟩ := range_at ha
    obtain ⟨r, hr⟩ : ∃ r, M[a]? = some r := ⟨_, List.getElem?_eq_getElem ha⟩
    have rl := hsl r (List.mem_of_getElem? hr)
    have es3 := f3.get es (by simp)
    have ek3 := f3.get ek (by simp)
    have l3 := lt_of k3
    have tn : ∀ p ∈ r.2, p.2 < M.length := fun p hp => wf a p.2 (by rw [succs_of hr]; exact List.mem_map.mpr ⟨p, hp, rfl⟩)
    simp only [w_gN, List.set_cons_succ, List.set_cons_zero, w_exp, w_meth, v0, vS, to_ok]
    refine ⟨tyQ_lst k3, ?_⟩
    simp only [w_argsS, w_args0, w_op, w_tup, w_call, w_lc, w_iseq, mC_eq, v0, vS, to_ok]
    rw [show nD a = .int (a : Int) from rfl, oGet_lst ek3 (kat a ha), to_ok, oGet_lst (z := roomD r) es3 (by rw [List.getElem?_map, hr]; rfl), to_ok]
    simp only [roomD, oGet_tup1, to_ok, itSeq_tup, wipeS, wipe0, List.set_cons_succ, List.set_cons_zero]
    refine lc_pure r.2 stepD (fun _ => true) (fun p => stepD (p.1, K p.2)) trivial (fun p hp => ?_) ?_
    · simp only [stepD, w_gT, w_gES, w_gE0, w_gN, List.length_cons, List.length_nil, true_and, List.set_cons_succ, List.set_cons_zero, w_tyes, w_tup, w_argsS, w_args0, w_op, vS, v0, to_ok]
      rw [show iD p.2 = .int (p.2 : Int) from rfl, oGet_lst ek3 (kat p.2 (tn p hp)), to_ok]
      exact ⟨fun _ => ⟨rfl, rfl⟩, fun z => by cases z⟩
    rw [List.filter_eq_self.mpr fun _ _ => rfl]
    refine ⟨by rw [List.length_map]; omega, ?_⟩
    rw [bTuple_seq (seqOf_lst look_new0), to_ok, oAdd_tup (by simp; omega), to_ok, tAppend_lst (look_app k3) (by rw [List.length_map, List.length_range]; omega), to_ok]
    refine ⟨_, _, _, rfl, (f3.trans .app).put (.inr (by omega)), ?_⟩
    rw [look_put (look_app k3), List.range_succ, List.map_append, List.map_singleton]
    have : Dv.tup ([nD (K a)] ++ r.2.map fun p => stepD (p.1, K p.2)) = keyRD M K a := by
      unfold keyRD sig
      rw [steps_of hr, List.map_map]; rfl
    rw [this]
  · rintro σ s3 ⟨y6, y7, y8, rfl, f3, k3⟩
    rw [List.length_range] at k3
    have l3 := lt_of k3
    simp only [mdisp0, to_ok, w_lc, w_iseq, v0, vS, List.set_cons_succ, List.set_cons_zero, wipeS, wipe0]
    rw [itSeq_lst (look_app k3), to_ok]
    refine lc_by (fun i ds s5 => Fr [] s s5 ∧ s3.length < s5.length ∧ s5[s.length]? = some (.lst ((List.range M.length).map (keyRD M K))) ∧ (∃ o kvs, s5[s3.length]? = some o ∧ kN.isk o kvs ∧ kvs.length = (kmet (keyRK M K) i).length ∧
        ∀ q, kval kvs q = if q ∈ kmet (keyRK M K) i then some (nD ((kmet (keyRK M K) i).idxOf q)) else none) ∧ ds = (List.range i).map fun x => nD ((kmet (keyRK M K) (x + 1)).idxOf (keyRK M K x)))
      ⟨f3.trans .app, by simp, look_app k3, ⟨_, [], look_new0, .inr ⟨rfl, rfl⟩, rfl, fun q => by simp [kmet, kval]⟩, rfl⟩ (fun i ds s5 ⟨_, _, h, _⟩ => ⟨h, trivial⟩) ?_ ?_
    · rintro i x ds s5 hx ⟨f5, l5, k5, ⟨o, kvs, o5, i5, n5, v5⟩, rfl⟩
      rw [List.getElem?_map] at hx
      cases hi : (List.range M.length)[i]? with
      | none => rw [hi] at hx; cases hx
      | some a =>
        rw [hi] at hx; cases hx
        obtain ⟨rfl, ha⟩ := range_at hi
        have lkm := kmet_len (keyRK M K) a
        simp only [w_gN, w_tyes, if_true, List.set_cons_succ, List.set_cons_zero, w_meth, v0, vS, to_ok]
        refine ⟨kN.ty i5 o5, ?_⟩
        simp only [w_argsS, w_args0, w_call, v0, vS, to_ok]
        rw [bLen_kN o5 i5, to_ok]
        obtain ⟨g1, g2⟩ := kN.setd (d := keyRD M K a) (.int kvs.length) i5 o5 (keyN_room a) (by omega)
        rw [show tSetd [.loc s3.length, keyRD M K a, .int kvs.length] s5 = setdQ (.loc s3.length) (keyRD M K a) (.int kvs.length) s5 from rfl]
        have hv := v5 (keyRK M K a)
        have hkm : kmet (keyRK M K) (a + 1) = if keyRK M K a ∈ kmet (keyRK M K) a then kmet (keyRK M K) a else kmet (keyRK M K) a ++ [keyRK M K a] := rfl
        by_cases hin : keyRK M K a ∈ kmet (keyRK M K) a
        · rw [if_pos hin] at hv hkm
          rw [g1 _ hv, to_ok]
          refine ⟨f5, l5, k5, ⟨o, kvs, o5, i5, by rw [n5, hkm], by rw [hkm]; exact v5⟩, ?_⟩
          rw [List.range_succ, List.map_append, List.map_singleton, hkm]
        · rw [if_neg hin] at hv hkm
          obtain ⟨o', i6, e6⟩ := g2 hv
          rw [e6, to_ok]
          refine ⟨f5.put (.inr (by have := f3.1; omega)), by simpa using l5, look_ne k5 (by omega), ⟨o', _, look_put o5, i6, ?_, fun q => ?_⟩, ?_⟩
          · rw [kput_new (fun z => by rw [← kval_some, hv] at z; cases z), List.length_append, n5, hkm, List.length_append]; rfl
          · rw [kval_put, hkm, v5]
            by_cases e : keyRK M K a = q
            · subst e
              rw [if_pos rfl, if_pos (by simp), List.idxOf_append, if_neg hin, n5]
              simp [nD]
            · rw [if_neg e]
              have : ¬ q = keyRK M K a := fun z => e z.symm
              by_cases h2 : q ∈ kmet (keyRK M K) a
              · rw [if_pos h2, if_pos (List.mem_append.mpr (.inl h2)), List.idxOf_append, if_pos h2]
              · rw [if_neg h2, if_neg fun z => (List.mem_append.mp z).elim h2 fun z => this (List.mem_singleton.mp z)]
          · rw [List.range_succ, List.map_append, List.map_singleton, hkm, List.idxOf_append, if_neg hin, n5]
            simp [nD]
    · rintro ds s5 ⟨f5, l5, k5, ⟨o, kvs, o5, i5, n5, v5⟩, rfl⟩
      rw [List.length_map, List.length_range]
      refine ⟨by omega, ?_⟩
      have e : ((List.range M.length).map fun x => nD ((kmet (keyRK M K) (x + 1)).idxOf (keyRK M K x))) = ((List.range M.length).map fun x => (kmet (keyRK M K) M.length).idxOf (keyRK M K x)).map nD := by
        rw [List.map_map]
        exact List.map_congr_left fun x hx => by rw [Function.comp, kmet_idx _ (List.mem_range.mp hx)]
      rw [e]
      exact q _ _ _ _ _ _ _ _ (f5.trans .app) look_new0 fun x y hx hy => (kmet_inj _ hx hy).trans keyRK_inj
end
end Mid
namespace Mid
open PySem
noncomputable section
variable {M C : Mach} {s s' : Mst} {Q : Dv → Mst → Prop}
/-- each room leads to one that ends -/
def LivesAll (M : Mach) : Prop := ∀ x, x < M.length → Lives M x
theorem trm_lives {M M' : Mach} {g od : List Nat} (T : Trm M g od M') : LivesAll M' := by
  have key : ∀ k, Alv M g k → k ∈ od → Lives M' (od.idxOf k) := fun k h => by
    induction h with
    | fin a b =>
      intro hk
      have h1 := List.idxOf_lt_length_of_mem hk
      have e1 := List.getElem?_eq_getElem h1
      rw [List.getElem_idxOf] at e1
      obtain ⟨r, hr, hr1⟩ := endB_mem b
      refine ⟨_, .refl _, ?_⟩
      unfold endB
      rw [T.at' _ _ r e1 hr]
      exact hr1
    | step a b c ih =>
      rename_i k j
      intro hk
      have hj := T.cl _ hk _ b (alv_mem c)
      have h1 := List.idxOf_lt_length_of_mem hk
      have e1 := List.getElem?_eq_getElem h1
      rw [List.getElem_idxOf] at e1
      obtain ⟨r, hr⟩ : ∃ r, M[k]? = some r := ⟨_, List.getElem?_eq_getElem (T.G.lt k (T.sub k hk))⟩
      obtain ⟨e, g1, g2⟩ := ih hj
      refine ⟨e, Rch.head ?_ g1, g2⟩
      rw [succs_of (T.at' _ _ r e1 hr)]
      rw [succs_of hr] at b
      obtain ⟨p, hp, rfl⟩ := List.mem_map.mp b
      exact List.mem_map.mpr ⟨(p.1, od.idxOf p.2), List.mem_map.mpr ⟨p, List.mem_filter.mpr ⟨hp, decide_eq_true (alv_mem c)⟩, rfl⟩, rfl⟩
  intro x hx
  rw [T.len] at hx
  have e := List.getElem?_eq_getElem hx
  have hm := List.mem_of_getElem? e
  have := key _ (T.G.alv _ (T.sub _ hm)) hm
  have e2 : od.idxOf od[x] = x := by
    have h1 := List.idxOf_lt_length_of_mem hm
    exact (List.getElem_inj T.nd).mp (List.getElem_idxOf h1)
  rw [e2] at this
  exact this
theorem cut_srt {sg : List Str} (sr : Srt M) : Srt (cutV M sg) := fun r hr => by
  obtain ⟨r0, h0, _, h2⟩ := cut_mem hr
  exact (sr r0 h0).sublist (h2.map _)
theorem cut_end {sg : List Str} (k : Nat) : endB (cutV M sg) k = endB M k := by
  unfold endB
  rw [cut_at]
  cases M[k]? <;> rfl
/-! ### the part of a room -/
def ordP (o : List Nat) (k : Nat) : List Nat := k :: o.filter fun x => !decide (x = k)
def partM (C : Mach) (o gs : List Nat) (k : Nat) : Mach := (ordP o k).map fun j => (decide (j ∈ gs), ((stepsOf C j).filter fun p => decide (p.2 ∈ ordP o k)).map fun p => (p.1, (ordP o k).idxOf p.2))
theorem mem_ordP {o : List Nat} {k j : Nat} (hk : k ∈ o) : j ∈ ordP o k ↔ j ∈ o := by
  unfold ordP
  rw [List.mem_cons, List.mem_filter]
  constructor
  · rintro (rfl | h)
    · exact hk
    · exact h.1
  · intro h
    by_cases e : j = k
    · exact .inl e
    · exact .inr ⟨h, by simp [e]⟩
theorem ordP_nd {o : List Nat} {k : Nat} (h : o.Nodup) : (ordP o k).Nodup := by
  unfold ordP
  rw [List.nodup_cons]
  exact ⟨by simp, h.filter _⟩
theorem orbit_nd {k : Nat} : (orbitOf C k).Nodup := List.nodup_range.filter _
section
variable {o gs : List Nat} {k : Nat}
theorem part_len : (partM C o gs k).length = (ordP o k).length := by simp [partM]
theorem part_at {j : Nat} (hj : j ∈ ordP o k) : (partM C o gs k)[(ordP o k).idxOf j]? = some (decide (j ∈ gs), ((stepsOf C j).filter fun p => decide (p.2 ∈ ordP o k)).map fun p => (p.1, (ordP o k).idxOf p.2)) := by
  unfold partM
  have h1 := List.idxOf_lt_length_of_mem hj
  rw [List.getElem?_map, List.getElem?_eq_getElem h1, List.getElem_idxOf]; rfl
theorem part_of_at {i : Nat} {r : Bool × List (Str × Nat)} (h : (partM C o gs k)[i]? = some r) : ∃ j, (ordP o k)[i]? = some j ∧ r = (decide (j ∈ gs), ((stepsOf C j).filter fun p => decide (p.2 ∈ ordP o k)).map fun p => (p.1, (ordP o k).idxOf p.2)) := by
  unfold partM at h
  rw [List.getElem?_map] at h
  cases e : (ordP o k)[i]? with
  | none => rw [e] at h; cases h
  | some j => rw [e] at h; cases h; exact ⟨j, rfl, rfl⟩
theorem part_wf : Wf (partM C o gs k) := fun i t ht => by
  unfold succs at ht
  cases e : (partM C o gs k)[i]? with
  | none => rw [e] at ht; cases ht
  | some r =>
    rw [e] at ht
    obtain ⟨j, _, rfl⟩ := part_of_at e
    simp only [List.map_map, List.mem_map, List.mem_filter] at ht
    obtain ⟨p, ⟨_, h2⟩, rfl⟩ := ht
    rw [part_len]
    exact List.idxOf_lt_length_of_mem (of_decide_eq_true h2)
theorem part_signs {r : Bool × List (Str × Nat)} (h : r ∈ partM C o gs k) : ∃ j, (r.2.map (·.1)).Sublist ((stepsOf C j).map (·.1)) := by
  obtain ⟨i, hi⟩ := List.mem_iff_getElem?.mp h
  obtain ⟨j, _, rfl⟩ := part_of_at hi
  refine ⟨j, ?_⟩
  simp only [List.map_map]
  exact List.Sublist.map _ List.filter_sublist
theorem steps_mem {j : Nat} (h : stepsOf C j ≠ []) : ∃ r ∈ C, stepsOf C j = r.2 := by
  unfold stepsOf at h ⊢
  cases e : C[j]? with
  | none => rw [e] at h; exact absurd rfl h
  | some r => exact ⟨r, List.mem_of_getElem? e, rfl⟩
theorem part_srt (sr : Srt C) : Srt (partM C o gs k) := fun r hr => by
  obtain ⟨j, hj⟩ := part_signs hr
  refine List.Pairwise.sublist hj ?_
  by_cases h : stepsOf C j = []
  · rw [h]; exact .nil
  · obtain ⟨r0, h0, e⟩ := steps_mem h
    rw [e]; exact sr r0 h0
theorem part_sl {n : Nat} (hsl : ∀ r ∈ C, r.2.length < n) (hn : 0 < n) : ∀ r ∈ partM C o gs k, r.2.length < n := fun r hr => by
  obtain ⟨j, hj⟩ := part_signs hr
  have := hj.length_le
  rw [List.length_map, List.length_map] at this
  by_cases h : stepsOf C j = []
  · rw [h] at this; simp at this; rw [this]; exact hn
  · obtain ⟨r0, h0, e⟩ := steps_mem h
    rw [e] at this
    have := hsl r0 h0; omega
theorem part_xs {xs : List Str} (hxs : ∀ r ∈ C, ∀ p ∈ r.2, p.1 ∈ xs) : ∀ x q, q ∈ stepsOf (partM C o gs k) x → q.1 ∈ xs := fun x q hq => by
  have hne : stepsOf (partM C o gs k) x ≠ [] := fun z => by rw [z] at hq; cases hq
  obtain ⟨r, hr, e⟩ := steps_mem hne
  rw [e] at hq
  obtain ⟨j, hj⟩ := part_signs hr
  have h1 := hj.subset (List.mem_map.mpr ⟨q, hq, rfl⟩)
  obtain ⟨p, hp, e2⟩ := List.mem_map.mp h1
  have hne2 : stepsOf C j ≠ [] := fun z => by rw [z] at hp; cases hp
  obtain ⟨r0, h0, e3⟩ := steps_mem hne2
  rw [e3] at hp
  rw [← e2]; exact hxs r0 h0 p hp
theorem part_step {j t : Nat} (hj : j ∈ ordP o k) (ht : t ∈ ordP o k) (h : t ∈ succs C j) : (ordP o k).idxOf t ∈ succs (partM C o gs k) ((ordP o k).idxOf j) := by
  rw [succs_of (part_at hj)]
  unfold succs at h
  cases e : C[j]? with
  | none => rw [e] at h; cases h
  | some r =>
    rw [e] at h
    obtain ⟨p, hp, rfl⟩ := List.mem_map.mp h
    rw [steps_of e]
    exact List.mem_map.mpr ⟨(p.1, (ordP o k).idxOf p.2), List.mem_map.mpr ⟨p, List.mem_filter.mpr ⟨hp, decide_eq_true ht⟩, rfl⟩, rfl⟩
end
theorem part_rch {gs : List Nat} {k a b : Nat} (wf : Wf C) (hk : k < C.length) (ha : a ∈ orbitOf C k) (h : Rch C a b) (hb : b ∈ orbitOf C k) : Rch (partM C (orbitOf C k) gs k) ((ordP (orbitOf C k) k).idxOf a) ((ordP (orbitOf C k) k).idxOf b) := by
  have kk : k ∈ orbitOf C k := mem_orbit.mpr ⟨hk, eqv_refl k⟩
  induction h with
  | refl => exact .refl _
  | tail g st ih =>
    rename_i j b
    obtain ⟨h1, h2⟩ := mem_orbit.mp ha
    obtain ⟨h3, h4⟩ := mem_orbit.mp hb
    have hj : j ∈ orbitOf C k := mem_orbit.mpr ⟨rch_lt wf h1 g, eqvB_iff.mpr ⟨(eqvB_iff.mp h2).1.trans g, (Rch.tail (.refl _) st).trans (eqvB_iff.mp h4).2⟩⟩
    exact .tail (ih hj) (part_step ((mem_ordP kk).mpr hj) ((mem_ordP kk).mpr hb) st)
theorem part_all {gs : List Nat} {k : Nat} (wf : Wf C) (hk : k < C.length) (hg : ∃ g ∈ orbitOf C k, g ∈ gs) : (∀ x, x < (partM C (orbitOf C k) gs k).length → Rch (partM C (orbitOf C k) gs k) 0 x) ∧ LivesAll (partM C (orbitOf C k) gs k) := by
  have kk : k ∈ orbitOf C k := mem_orbit.mpr ⟨hk, eqv_refl k⟩
  have at_ : ∀ x, x < (partM C (orbitOf C k) gs k).length → ∃ j ∈ orbitOf C k, x = (ordP (orbitOf C k) k).idxOf j := fun x hx => by
    rw [part_len] at hx
    have e := List.getElem?_eq_getElem hx
    have hm := List.mem_of_getElem? e
    refine ⟨_, (mem_ordP kk).mp hm, ?_⟩
    exact ((List.getElem_inj (ordP_nd orbit_nd)).mp (List.getElem_idxOf (List.idxOf_lt_length_of_mem hm))).symm
  have k0 : (ordP (orbitOf C k) k).idxOf k = 0 := by unfold ordP; simp
  obtain ⟨g, hgo, hgs⟩ := hg
  have both : ∀ a b, a ∈ orbitOf C k → b ∈ orbitOf C k → Rch C a b := fun a b ha hb => by
    exact (eqvB_iff.mp (mem_orbit.mp ha).2).2.trans (eqvB_iff.mp (mem_orbit.mp hb).2).1
  refine ⟨fun x hx => ?_, fun x hx => ?_⟩
  · obtain ⟨j, hj, rfl⟩ := at_ x hx
    have := part_rch (gs := gs) wf hk kk (both k j kk hj) hj
    rw [k0] at this
    exact this
  · obtain ⟨j, hj, rfl⟩ := at_ x hx
    refine ⟨_, part_rch (gs := gs) wf hk hj (both j g hj hgo) hgo, ?_⟩
    unfold endB
    rw [part_at ((mem_ordP kk).mpr hgo)]
    simp [hgs]
theorem gate_ex {k : Nat} (wf : Wf M) (hk : k < M.length) (hl : LivesAll M) : ∃ g ∈ orbitOf (cutM M) k, g ∈ (orbitOf (cutM M) k).filter (gateB (cutM M) (orbitOf (cutM M) k)) := by
  have hk' : k < (cutM M).length := by rw [cut_len]; exact hk
  have wf' : Wf (cutM M) := cut_wf wf
  have kk : k ∈ orbitOf (cutM M) k := mem_orbit.mpr ⟨hk', eqv_refl k⟩
  refine Classical.byContradiction fun no => ?_
  have none_ : ∀ j ∈ orbitOf (cutM M) k, loV (cutM M) (orbitOf (cutM M) k) j = (false, []) := fun j hj => by
    refine Classical.byContradiction fun n => no ⟨j, hj, List.mem_filter.mpr ⟨hj, ?_⟩⟩
    unfold gateB
    rw [decide_eq_false n]; rfl
  have room : ∀ j ∈ orbitOf (cutM M) k, endB M j = false ∧ ∀ t ∈ succs M j, t ∈ orbitOf (cutM M) k := fun j hj => by
    have jl := (mem_orbit.mp hj).1
    rw [cut_len] at jl
    obtain ⟨r, hr⟩ : ∃ r, M[j]? = some r := ⟨_, List.getElem?_eq_getElem jl⟩
    have hc : (cutM M)[j]? = some (r.1, r.2.filter fun p => !r.1 || !decide (p.1 ∈ steadyV M)) := by rw [cut_at, hr]; rfl
    have h1 := none_ j hj
    unfold loV at h1
    rw [hc] at h1
    simp only [Prod.mk.injEq] at h1
    obtain ⟨e1, e2⟩ := h1
    refine ⟨by unfold endB; rw [hr]; exact e1, fun t ht => ?_⟩
    rw [succs_of hr] at ht
    obtain ⟨p, hp, rfl⟩ := List.mem_map.mp ht
    refine Classical.byContradiction fun n => ?_
    rw [List.filter_eq_nil_iff] at e2
    exact e2 p (List.mem_filter.mpr ⟨hp, by rw [e1]; rfl⟩) (by simp [n])
  have all : ∀ x, Rch M k x → x ∈ orbitOf (cutM M) k := fun x h => by
    induction h with
    | refl => exact kk
    | tail _ st ih => exact (room _ ih).2 _ st
  obtain ⟨e, g, he⟩ := hl k hk
  rw [(room e (all e g)).1] at he
  cases he
end
end Mid
namespace Mid
open PySem
noncomputable section
variable {M C : Mach} {s s' : Mst} {Q : Dv → Mst → Prop}
theorem All2.zip_mem {α β : Type} {R : α → β → Prop} {l : List α} {m : List β} (h : All2 R l m) : ∀ p ∈ l.zip m, R p.1 p.2 := by
  induction h with
  | nil => intro p hp; cases hp
  | cons a _ ih =>
    intro p hp
    rw [List.zip_cons_cons] at hp
    rcases List.mem_cons.mp hp with rfl | hp
    · exact a
    · exact ih p hp
theorem All2.zip_fst {α β : Type} {R : α → β → Prop} {l : List α} {m : List β} (h : All2 R l m) : (l.zip m).map Prod.fst = l := by
  induction h with
  | nil => rfl
  | cons _ _ ih => rw [List.zip_cons_cons, List.map_cons, ih]
theorem All2.zip_snd {α β : Type} {R : α → β → Prop} {l : List α} {m : List β} (h : All2 R l m) : (l.zip m).map Prod.snd = m := by
  induction h with
  | nil => rfl
  | cons _ _ ih => rw [List.zip_cons_cons, List.map_cons, ih]
/-- [orbit for orbit in .. if room in orbit][0] -/
theorem pick_ok {me : ME} {σ : Men} {i j k : Nat} {Pb : Nat → Prop} (wf : Wf C) (hC : C.length ≤ 1000) (hk : k < C.length) (hj : σ[j]? = some (some (nD k))) (hij : i ≠ j) (hi : i < σ.length)
    (hb : ∀ n, Pb n → n < s.length) (hm : ∀ R : Dv → Mst → Prop, (∀ d s', Fr [] s s' → NLL.rep Pb s' d (orbs C C.length) → R d s') → (me σ s).to R)
    (q : ∀ d s', Fr [] s s' → NL.rep Pb s' d (orbitOf C k) → Q d s') : (mOp oGet (mLc (miSeq me) (gN i) (mtVal (mOp oIn (mVar j) (mVar i))) (mVar i) [i]) (mC (.int 0)) σ s).to Q := by
  simp only [w_op, w_lc, w_iseq]
  refine hm _ fun d s1 f1 r1 => ?_
  obtain ⟨n, ds, rfl, hp, hs, ha⟩ := r1
  rw [itSeq_lst hs, to_ok]
  rw [show ds = (ds.zip (orbs C C.length)).map Prod.fst from ha.zip_fst.symm]
  have hzf := ha.zip_fst
  have hlen := ha.len
  have lorb : (orbs C C.length).length ≤ C.length := by
    unfold orbs
    rw [List.length_map]
    have := List.length_filter_le (rootB C) (List.range C.length)
    rw [List.length_range] at this
    exact this
  have si : ∀ d : Dv, ((mWipe σ [i]).set i (some d))[i]? = some (some d) := fun d => List.getElem?_set_self (by simp; exact hi)
  have sj : ∀ d : Dv, ((mWipe σ [i]).set i (some d))[j]? = some (some (nD k)) := fun d => by
    rw [List.getElem?_set_ne hij]
    show (σ.set i none)[j]? = _
    rw [List.getElem?_set_ne hij]; exact hj
  refine lc_pure (ds.zip (orbs C C.length)) Prod.fst (fun z => decide (k ∈ z.2)) Prod.fst ⟨by rw [hzf]; exact hs, trivial⟩ (fun z hz => ?_) ?_
  · simp only [w_gN, w_tval, w_op]
    obtain ⟨l, e, hl, el⟩ := nl_iff.mp (ha.zip_mem z hz)
    rw [mVar_eq (sj _), to_ok, mVar_eq (si _), to_ok, e, oIn_nat el]
    simp only [to_ok, toB_bl]
    refine ⟨trivial, fun _ => ?_, fun _ => trivial⟩
    rw [mVar_eq (by rw [← e]; exact si _), to_ok]
    first | exact ⟨e, rfl⟩ | exact ⟨e.symm, rfl⟩ | exact ⟨e, trivial⟩ | exact ⟨rfl, rfl⟩
  refine ⟨by rw [List.length_map, List.length_zip]; omega, ?_⟩
  obtain ⟨r, hr1, hr2, hr3⟩ := root_of (M := C) k
  have om : orbitOf C r ∈ orbs C C.length := List.mem_map.mpr ⟨r, List.mem_filter.mpr ⟨List.mem_range.mpr (by omega), hr2⟩, rfl⟩
  have kr : k ∈ orbitOf C r := mem_orbit.mpr ⟨hk, hr3⟩
  obtain ⟨z0, hz0, ez0⟩ : ∃ z ∈ ds.zip (orbs C C.length), z.2 = orbitOf C r := by
    rw [← ha.zip_snd] at om
    obtain ⟨z, hz, e⟩ := List.mem_map.mp om
    exact ⟨z, hz, e⟩
  have hne : z0 ∈ (ds.zip (orbs C C.length)).filter fun z => decide (k ∈ z.2) := List.mem_filter.mpr ⟨hz0, decide_eq_true (by rw [ez0]; exact kr)⟩
  cases hf : (ds.zip (orbs C C.length)).filter fun z => decide (k ∈ z.2) with
  | nil => rw [hf] at hne; cases hne
  | cons z zs =>
    have hz : z ∈ (ds.zip (orbs C C.length)).filter fun z => decide (k ∈ z.2) := by rw [hf]; simp
    rw [List.mem_filter] at hz
    obtain ⟨hz1, hz2⟩ := hz
    have hz2 := of_decide_eq_true hz2
    have zo : z.2 = orbitOf C k := by
      have : z.2 ∈ orbs C C.length := by rw [← ha.zip_snd]; exact List.mem_map.mpr ⟨z, hz1, rfl⟩
      obtain ⟨r', hr', e⟩ := List.mem_map.mp this
      rw [← e] at hz2 ⊢
      exact orbit_eq (mem_orbit.mp hz2).2
    rw [mC_eq, to_ok, show (Dv.int 0) = .int ((0 : Nat) : Int) from rfl, oGet_lst look_new0 (show ((z :: zs).map Prod.fst)[0]? = some z.1 from rfl), to_ok]
    refine q _ _ (f1.trans .app) ?_
    have := ha.zip_mem z hz1
    rw [zo] at this
    exact NL.fr this (Fr.app (X := [])) (by simp)
theorem orbit_of_ok {k : Nat} (wf : Wf C) (hC : C.length ≤ 1000) (hk : k < C.length) (q : ∀ d s', Fr [] s s' → NL.rep (fun n => n < s.length) s' d (orbitOf C k) → Q d s') : (f_orbit_of [mD C, nD k] s).to Q := by
  unfold f_orbit_of
  refine fun_at [some (mD C), some (nD k), none] rfl rfl ?_
  unfold m_orbit_of
  simp only [w_ret]
  refine pick_ok (j := 1) wf hC hk rfl (by decide) (by simp) (fun _ h => h) (fun R hR => ?_) q
  simp only [w_call, w_argsS, w_args0, w_noE, v0, vS, to_ok]
  exact orbits_ok wf hC hR
/-! the numbers of rooms, as a dict -/
def numP (l : List Nat) (b : Nat) : List (KeyQ × Dv) := (l.zipIdx b).map fun p => (Sum.inl (p.1 : Int), nD p.2)
theorem numP_val {l : List Nat} {b t : Nat} : kval (numP l b) (Sum.inl (t : Int)) = if t ∈ l then some (nD (b + l.idxOf t)) else none := by
  induction l generalizing b with
  | nil => rfl
  | cons a r ih =>
    have ih := ih (b := b + 1)
    unfold numP kval at ih ⊢
    rw [List.zipIdx_cons, List.map_cons, List.find?_cons]
    by_cases e : a = t
    · subst e
      simp
    · have e1 : ¬ (Sum.inl (a : Int) : KeyQ) = Sum.inl (t : Int) := fun z => e (inl_nat.mp z)
      have e2 : ¬ t = a := fun z => e z.symm
      simp only [decide_eq_false e1, ih, List.mem_cons, e2, false_or]
      rw [List.idxOf_cons]
      have : (a == t) = false := by simpa using e
      rw [this]
      by_cases h : t ∈ r
      · rw [if_pos h, if_pos h]; simp; congr 1; omega
      · rw [if_neg h, if_neg h]
theorem numP_pairs (l : List Nat) (b : Nat) : pairsQ ((l.zipIdx b).map fun p => .tup [nD p.1, nD p.2]) = some (numP l b) := by
  unfold numP
  induction l generalizing b with
  | nil => rfl
  | cons a r ih => rw [List.zipIdx_cons, List.map_cons]; unfold pairsQ; rw [ih]; rfl
theorem kputs_new {kvs more : List (KeyQ × Dv)} (nd : (more.map (·.1)).Nodup) (h : ∀ q ∈ more.map (·.1), q ∉ kvs.map (·.1)) : kputs kvs more = kvs ++ more := by
  induction more generalizing kvs with
  | nil => simp [kputs]
  | cons a r ih =>
    rw [List.map_cons, List.nodup_cons] at nd
    have h1 : kputs kvs (a :: r) = kputs (kput kvs a.1 a.2) r := rfl
    rw [h1, kput_new (h a.1 (by simp)), ih nd.2]
    · simp
    · intro q hq hm
      rw [List.map_append, List.mem_append] at hm
      rcases hm with z | z
      · exact h q (by simp [List.mem_map.mp hq]) z
      · simp at z; subst z; exact nd.1 hq
theorem numP_keys (l : List Nat) (b : Nat) : (numP l b).map (·.1) = l.map fun x : Nat => (Sum.inl (x : Int) : KeyQ) := by
  unfold numP
  induction l generalizing b with
  | nil => rfl
  | cons a r ih => rw [List.zipIdx_cons, List.map_cons, List.map_cons, ih]; rfl
theorem numP_put {l : List Nat} (nd : l.Nodup) : kputs [] (numP l 0) = numP l 0 := by
  rw [kputs_new]
  · rfl
  · rw [numP_keys, List.Nodup, List.pairwise_map]
    exact nd.imp fun h e => h (inl_nat.mp e)
  · simp
theorem zipIdx_nD (l : List Nat) (b : Nat) : ((l.map nD).zipIdx b).map (fun p => Dv.ptup [.int p.2, p.1]) = (l.zipIdx b).map fun p => .ptup [nD p.2, nD p.1] := by
  induction l generalizing b with
  | nil => rfl
  | cons a r ih => rw [List.map_cons, List.zipIdx_cons, List.zipIdx_cons, List.map_cons, List.map_cons, ih]; rfl
def entP (C : Mach) (o gs : List Nat) (k j : Nat) : Bool × List (Str × Nat) := (decide (j ∈ gs), ((stepsOf C j).filter fun p => decide (p.2 ∈ ordP o k)).map fun p => (p.1, (ordP o k).idxOf p.2))
theorem partM_eq {o gs : List Nat} {k : Nat} : partM C o gs k = (ordP o k).map (entP C o gs k) := rfl
abbrev gatesP (C : Mach) (k : Nat) : List Nat := (orbitOf C k).filter (gateB C (orbitOf C k))
abbrev partP (M : Mach) (k : Nat) : Mach := partM (cutM M) (orbitOf (cutM M) k) (gatesP (cutM M) k) k
theorem part_rest_ok {xs : List Str} {k : Nat} {dm : Dv} {N : Men → Mst → Prop} {Ct B : Men → Mst → Prop} (wf' : Wf C) (soC : Sok C) (smC : Sml C) (srC : Srt C) (hslC : ∀ r ∈ C, r.2.length < 60) (hxsC : ∀ r ∈ C, ∀ p ∈ r.2, p.1 ∈ xs) (lxs : xs.length < 60) (hC : C.length ≤ 1000) (hk' : k < C.length) (hge : ∃ g ∈ orbitOf C k, g ∈ gatesP C k)
    (q : ∀ s' f r, Fr [] s s' → Stb (partM C (orbitOf C k) (gatesP C k) k) f → Coa (partM C (orbitOf C k) (gatesP C k) k) f → IsNum (partM C (orbitOf C k) (gatesP C k) k) (cn f) r → Q (mD r) s') :
    (msSeq (msSet 3 (mCall (noE f_orbit_of) [mVar 2, mVar 1]))
    (msSeq (msSet 5 (mOp oAdd (mLst [mVar 1]) (mLc (miSeq (mVar 3)) (gN 4) (mtVal (mOp oNe (mVar 4) (mVar 1))) (mVar 4) [4])))
    (msSeq (msSet 6 (mCall bDict [mLc (miEnum (mVar 5)) (gT [gN 10, gN 4]) (mtYes) (mTup [mVar 4, mVar 10]) [10, 4]]))
    (msSeq (msSet 7 (mCall (noE f_gates) [mVar 2, mVar 3]))
    (msSeq (msSet 8 (mLst []))
    (msSeq (msFor (miSeq (mVar 5)) (gN 4) (msSeq (msSet 9 (mLc (miSeq (mOp oGet (mOp oGet (mVar 2) (mVar 4)) (mC (.int 1)))) (gT [gN 11, gN 12]) (mtVal (mOp oIn (mVar 12) (mVar 6))) (mTup [mVar 11, mOp oGet (mVar 6) (mVar 12)]) [11, 12]))
    (msExp (mMeth "list" tAppend (mVar 8) [mTup [mOp oIn (mVar 4) (mVar 7), mCall bTuple [mVar 9]]]))))
    (msRet (mCall (noE f_least_of) [mCall bTuple [mVar 8]])))))))
      [some dm, some (nD k), some (mD C), none, none, none, none, none, none, none, none, none, none] s).to N Q Ct B := by
  simp only [w_seq, w_set, w_call, w_argsS, w_args0, w_noE, v0, vS, to_ok, List.set_cons_succ, List.set_cons_zero]
  refine orbit_of_ok wf' hC hk' fun d s2 f2 r2 => ?_
  obtain ⟨lo, rfl, hlo, eo⟩ := nl_iff.mp r2
  have kk : k ∈ orbitOf C k := mem_orbit.mpr ⟨hk', eqv_refl k⟩
  have olt : ∀ x ∈ orbitOf C k, x < C.length := fun x hx => (mem_orbit.mp hx).1
  have ollen : (orbitOf C k).length ≤ C.length := nodup_len orbit_nd olt
  have opn := ordP_nd (o := orbitOf C k) (k := k) orbit_nd
  have oplt : ∀ x ∈ ordP (orbitOf C k) k, x < C.length := fun x hx => olt x ((mem_ordP kk).mp hx)
  have oplen : (ordP (orbitOf C k) k).length ≤ C.length := nodup_len opn oplt
  -- order
  try simp only [w_op, w_lst, w_argsS, w_args0, w_lc, w_iseq, v0, vS, to_ok, List.set_cons_succ, List.set_cons_zero, wipeS, wipe0]
  have eo3 := look_app (t := [MO.lst [nD k]]) eo
  rw [itSeq_lst eo3, to_ok]
  refine lc_pure (orbitOf C k) nD (fun x => !decide (x = k)) nD ⟨eo3, trivial⟩ (fun x hx => ?_) ?_
  · simp only [w_gN, w_tval, w_op, v0, vS, to_ok, List.set_cons_succ, List.set_cons_zero, nD, oNe_int, toB_bl]
    have : decide ((x : Int) = (k : Int)) = decide (x = k) := by rw [Bool.eq_iff_iff, decide_eq_true_iff, decide_eq_true_iff]; omega
    rw [this]
    exact ⟨rfl, fun _ => ⟨trivial, trivial⟩, fun _ => trivial⟩
  refine ⟨by rw [List.length_map]; omega, ?_⟩
  have la : (s2 ++ [MO.lst [nD k]] ++ [MO.lst (((orbitOf C k).filter fun x => !decide (x = k)).map nD)])[s2.length]? = some (.lst [nD k]) := look_app look_new0
  rw [oAdd_lst la look_new0 (by simp; have := List.length_filter_le (fun x => !decide (x = k)) (orbitOf C k); omega), to_ok]
  rw [show [nD k] ++ ((orbitOf C k).filter fun x => !decide (x = k)).map nD = (ordP (orbitOf C k) k).map nD from rfl]
  generalize hs3 : s2 ++ [MO.lst [nD k]] ++ [MO.lst (((orbitOf C k).filter fun x => !decide (x = k)).map nD)] = s3
  have f23 : Fr [] s2 s3 := by rw [← hs3]; exact Fr.app.trans .app
  have eor : (s3 ++ [MO.lst ((ordP (orbitOf C k) k).map nD)])[s3.length]? = some (.lst ((ordP (orbitOf C k) k).map nD)) := look_new0
  have f24 : Fr [] s2 (s3 ++ [MO.lst ((ordP (orbitOf C k) k).map nD)]) := f23.trans .app
  generalize hlor : s3.length = lor at eor
  generalize s3 ++ [MO.lst ((ordP (orbitOf C k) k).map nD)] = s4 at eor f24
  -- numbers
  simp only [w_call, w_argsS, w_args0, w_lc, w_ienum, v0, vS, to_ok, List.set_cons_succ, List.set_cons_zero, wipeS, wipe0]
  refine ⟨false, _, _, by unfold zipQ; simp only [eor]; rfl, ?_⟩
  rw [zipIdx_nD]
  refine lc_pure ((ordP (orbitOf C k) k).zipIdx 0) (fun p => .ptup [nD p.2, nD p.1]) (fun _ => true) (fun p => .tup [nD p.1, nD p.2]) ⟨eor, trivial⟩ (fun p hp => ?_) ?_
  · simp only [w_gT, w_gTp, w_gES, w_gE0, w_gN, List.length_cons, List.length_nil, true_and, List.set_cons_succ, List.set_cons_zero, w_tyes, w_tup, w_argsS, w_args0, vS, v0, to_ok]
    simp
  rw [List.filter_eq_self.mpr fun _ _ => rfl]
  refine ⟨by rw [List.length_map, List.length_zipIdx]; omega, ?_⟩
  rw [bDict_pairs look_new0 (numP_pairs _ 0), to_ok, numP_put opn]
  generalize hs5 : s4 ++ [MO.lst (((ordP (orbitOf C k) k).zipIdx 0).map fun p => Dv.tup [nD p.1, nD p.2])] = s5
  have f45 : Fr [] s4 s5 := by rw [← hs5]; exact .app
  have enu : (s5 ++ [MO.dK (numP (ordP (orbitOf C k) k) 0)])[s5.length]? = some (.dK (numP (ordP (orbitOf C k) k) 0)) := look_new0
  have f46 : Fr [] s4 (s5 ++ [MO.dK (numP (ordP (orbitOf C k) k) 0)]) := f45.trans .app
  generalize s5.length = lnu at enu
  generalize s5 ++ [MO.dK (numP (ordP (orbitOf C k) k) 0)] = s6 at enu f46
  have eor6 := f46.get eor (by simp)
  have eo6 := (f24.trans f46).get eo (by simp)
  -- gates
  try simp only [w_call, w_argsS, w_args0, w_noE, v0, vS, to_ok, List.set_cons_succ, List.set_cons_zero]
  refine gates_ok eo6 olt smC soC (by omega) fun d s7 f67 r7 => ?_
  obtain ⟨lg, rfl, hlg, eg⟩ := nl_iff.mp r7
  -- found
  have e0 : ∀ (σ : Men) (s : Mst), mLst [] σ s = .ok (.loc s.length) (s ++ [.lst []]) := fun _ _ => rfl
  simp only [e0, to_ok, List.set_cons_succ, List.set_cons_zero, w_for, w_iseq, v0, vS]
  have eor7 := f67.get eor6 (by simp)
  have enu7 := f67.get enu (by simp)
  rw [itSeq_lst (look_app eor7), to_ok]
  generalize hs8 : s7 ++ [MO.lst []] = s8
  have f78 : Fr [] s7 s8 := by rw [← hs8]; exact .app
  have ef8 : s8[s7.length]? = some (.lst []) := by rw [← hs8]; exact look_new0
  have eor8 := f78.get eor7 (by simp)
  have enu8 := f78.get enu7 (by simp)
  have eg8 := f78.get eg (by simp)
  have f08 : Fr [] s s8 := (((f2.trans f24).trans f46).trans f67).trans f78
  have l7 := lt_of eor7
  have l7n := lt_of enu7
  have l7g := lt_of eg
  refine for_map (ordP (orbitOf C k) k) nD (fun i σ s9 => ∃ y4 y9 y10 y11 y12, σ = [some dm, some (nD k), some (mD C), some (.loc lo), y4, some (.loc lor), some (.loc lnu), some (.loc lg), some (.loc s7.length), y9, y10, y11, y12] ∧ Fr [s7.length] s8 s9 ∧
      s9[s7.length]? = some (.lst (((ordP (orbitOf C k) k).take i).map fun j => roomD (entP C (orbitOf C k) (gatesP C k) k j))))
    ⟨_, _, _, _, _, rfl, .refl, by simpa using ef8⟩ (fun i σ s9 ⟨_, _, _, _, _, _, f, _⟩ => ⟨f.get eor8 (by simp; omega), trivial⟩) ?_ ?_
  · rintro i j σ s9 hj ⟨y4, y9, y10, y11, y12, rfl, f9, ef9⟩
    have jm := List.mem_of_getElem? hj
    have jl := oplt j jm
    obtain ⟨r, hr⟩ : ∃ r, C[j]? = some r := ⟨_, List.getElem?_eq_getElem jl⟩
    have rl := hslC r (List.mem_of_getElem? hr)
    have enu9 := f9.get enu8 (by simp; omega)
    have eg9 := f9.get eg8 (by simp; omega)
    simp only [w_gN, List.set_cons_succ, List.set_cons_zero, w_seq, w_set, w_lc, w_iseq, w_op, mC_eq, v0, vS, to_ok, wipeS, wipe0]
    rw [roomQ hr, to_ok]
    simp only [roomD, oGet_tup1, to_ok, itSeq_tup]
    refine lc_pure r.2 stepD (fun p => decide (p.2 ∈ ordP (orbitOf C k) k)) (fun p => stepD (p.1, (ordP (orbitOf C k) k).idxOf p.2)) trivial (fun p hp => ?_) ?_
    · have kt : keyQ (iD p.2) = some (Sum.inl (p.2 : Int)) := rfl
      simp only [stepD, w_gT, w_gTp, w_gES, w_gE0, w_gN, List.length_cons, List.length_nil, true_and, List.set_cons_succ, List.set_cons_zero, w_tval, w_op, vS, v0, to_ok]
      rw [oIn_dict enu9 kt, numP_val, to_ok]
      simp only [toB_bl]
      by_cases h : p.2 ∈ ordP (orbitOf C k) k
      · simp only [if_pos h, Option.isSome_some, decide_eq_true h]
        refine ⟨trivial, fun _ => ?_, fun z => by cases z⟩
        simp only [w_tup, w_argsS, w_args0, w_op, vS, v0, to_ok]
        rw [oGet_dict enu9 kt (by rw [numP_val, if_pos h]), to_ok, Nat.zero_add]
        exact ⟨rfl, rfl⟩
      · simp only [if_neg h, Option.isSome_none, decide_eq_false h]
        exact ⟨trivial, (fun z => by cases z), fun _ => trivial⟩
    refine ⟨by rw [List.length_map]; omega, ?_⟩
    have ef10 := look_app (t := [MO.lst ((r.2.filter fun p => decide (p.2 ∈ ordP (orbitOf C k) k)).map fun p => stepD (p.1, (ordP (orbitOf C k) k).idxOf p.2))]) ef9
    have eg10 := look_app (t := [MO.lst ((r.2.filter fun p => decide (p.2 ∈ ordP (orbitOf C k) k)).map fun p => stepD (p.1, (ordP (orbitOf C k) k).idxOf p.2))]) eg9
    simp only [w_exp, w_meth, v0, vS, to_ok]
    refine ⟨tyQ_lst ef10, ?_⟩
    simp only [w_argsS, w_args0, w_tup, w_op, w_call, v0, vS, to_ok]
    rw [oIn_nat eg10, to_ok, bTuple_seq (seqOf_lst look_new0), to_ok, tAppend_lst ef10 (by rw [List.length_map, List.length_take]; omega), to_ok]
    refine ⟨_, _, _, _, _, rfl, (f9.trans .app).put (.inl (by simp)), ?_⟩
    rw [look_put ef10, List.take_add_one, hj, List.map_append]
    have : roomD (entP C (orbitOf C k) (gatesP C k) k j) = .tup [.bl (decide (j ∈ gatesP C k)), .tup ((r.2.filter fun p => decide (p.2 ∈ ordP (orbitOf C k) k)).map fun p => stepD (p.1, (ordP (orbitOf C k) k).idxOf p.2))] := by
      unfold entP roomD
      rw [steps_of hr, List.map_map]; rfl
    simp only [Option.toList_some, List.map_cons, List.map_nil]
    refine Eq.trans ?_ (show some (MO.lst (((ordP (orbitOf C k) k).take i).map (fun j => roomD (entP C (orbitOf C k) (gatesP C k) k j)) ++ [roomD (entP C (orbitOf C k) (gatesP C k) k j)])) = _ from rfl)
    rw [this]
  · rintro σ s9 ⟨y4, y9, y10, y11, y12, rfl, f9, ef9⟩
    rw [List.take_length] at ef9
    simp only [w_ret, w_call, w_argsS, w_args0, w_noE, v0, vS, to_ok]
    rw [bTuple_seq (seqOf_lst ef9), to_ok]
    have eP : Dv.tup ((ordP (orbitOf C k) k).map fun j => roomD (entP C (orbitOf C k) (gatesP C k) k j)) = mD (partM C (orbitOf C k) (gatesP C k) k) := by
      unfold mD
      rw [partM_eq, List.map_map]; rfl
    rw [eP]
    unfold f_least_of
    refine fun_at [some (mD (partM C (orbitOf C k) (gatesP C k) k))] rfl rfl ?_
    unfold m_least_of
    simp only [w_ret, w_call, w_argsS, w_args0, w_noE, v0, vS, to_ok]
    obtain ⟨a1, a2⟩ := part_all (gs := gatesP C k) wf' hk' hge
    refine least_or_none_ok (xs := xs) part_wf (by rw [part_len]; exact Nat.succ_pos _) (by rw [part_len]; omega) (part_srt srC) (part_sl hslC (by decide)) (part_xs hxsC) lxs a1 a2 fun s10 f r f10 h1 h2 h3 => ?_
    have f88 : Fr [] s s9 := f08.trans2 f9 fun m hm => .inr (by simp at hm; subst hm; have := ((f2.trans f24).trans f46).1; have := f67.1; omega)
    exact q s10 f r (f88.trans f10) h1 h2 h3
theorem part_of_ok {xs : List Str} {k : Nat} (wf : Wf M) (so : Sok M) (sr : Srt M) (hsl : ∀ r ∈ M, r.2.length < 60) (hxs : ∀ r ∈ M, ∀ p ∈ r.2, p.1 ∈ xs) (lxs : xs.length < 60) (hM : M.length ≤ 1000) (hk : k < M.length) (hne : endsOf M ≠ []) (hl : LivesAll M)
    (q : ∀ s' f r, Fr [] s s' → Stb (partP M k) f → Coa (partP M k) f → IsNum (partP M k) (cn f) r → Q (mD r) s') : (f_part_of [mD M, nD k] s).to Q := by
  have sm : Sml M := fun r hr => by have := hsl r hr; omega
  have hk' : k < (cutM M).length := by rw [cut_len]; exact hk
  have hC : (cutM M).length ≤ 1000 := by rw [cut_len]; exact hM
  have wf' : Wf (cutM M) := cut_wf wf
  have hslC : ∀ r ∈ cutM M, r.2.length < 60 := fun r hr => by
    obtain ⟨r0, h0, _, h2⟩ := cut_mem hr
    have := hsl r0 h0
    have := h2.length_le
    omega
  unfold f_part_of
  refine fun_at [some (mD M), some (nD k), none, none, none, none, none, none, none, none, none, none, none] rfl rfl ?_
  unfold m_part_of
  rw [w_seq, w_set]
  simp only [w_call, w_argsS, w_args0, w_noE, v0, to_ok, List.set_cons_succ, List.set_cons_zero]
  refine cut_machine_ok so sm hM hne fun s1 f1 => ?_
  refine part_rest_ok (xs := xs) wf' (cut_sok so) (cut_sml sm) (cut_srt sr) hslC (fun r hr p hp => ?_) lxs hC hk' (gate_ex wf hk hl) fun s2 f r f2 h1 h2 h3 => q s2 f r (f1.trans f2) h1 h2 h3
  obtain ⟨r0, h0, _, h2⟩ := cut_mem hr
  exact hxs r0 h0 p (h2.subset hp)
end
end Mid
namespace Mid
open PySem
noncomputable section
variable {M C : Mach} {s s' : Mst} {Q : Dv → Mst → Prop}
end
end Mid
namespace Mid
open PySem
noncomputable section
variable {M : Mach} {s s' : Mst} {Q : Dv → Mst → Prop} {α β : Type}
/-! ### the same, for tuples -/
theorem same_tupG {n : Nat} {ds es : List Dv} (hlen : ds.length = es.length) (hs : ds.length < 2 ^ 24) (h : ∀ p ∈ ds.zip es, ∀ s' (Q : Dv → Mst → Prop), Fr [] s s' → (∀ s'', Fr [] s' s'' → Q (.bl true) s'') → (f_law_gsame n [p.1, p.2] s').to Q)
    (q : ∀ s', Fr [] s s' → Q (.bl true) s') : (f_law_gsame (n + 1) [.tup ds, .tup es] s).to Q := by
  unfold f_law_gsame
  refine fun_at [some (.tup ds), some (.tup es), none, none] rfl rfl ?_
  unfold m_law_gsame
  have k1 : "tuple" ∈ kinds := by decide
  have ti : tyQ (.tup ds) s = "tuple" := rfl
  have tj : tyQ (.tup es) s = "tuple" := rfl
  simp only [w_seq, w_if, w_tval, w_tor, w_op, w_call, w_argsS, w_args0, vS, v0, mC_eq, to_ok, oIsN_non, isNonQ_tup, toB_bl, Bool.false_eq_true, if_false, w_nx, w_ret]
  simp only [bIsi_of ti k1 (show "bool" ∈ asked by decide), bIsi_of tj k1 (show "bool" ∈ asked by decide), bIsi_of ti k1 (show "int" ∈ asked by decide), bIsi_of tj k1 (show "int" ∈ asked by decide), bIsi_of ti k1 (show "str" ∈ asked by decide), bIsi_of tj k1 (show "str" ∈ asked by decide), bIsi_of ti k1 (show "tuple" ∈ asked by decide), bIsi_of tj k1 (show "tuple" ∈ asked by decide), bIsi_of ti k1 (show "list" ∈ asked by decide), bIsi_of tj k1 (show "list" ∈ asked by decide), to_ok, toB_bl,
    show isiQ "tuple" "bool" = false from rfl, show isiQ "tuple" "int" = false from rfl, show isiQ "tuple" "str" = false from rfl, show isiQ "tuple" "tuple" = true from rfl, show isiQ "tuple" "list" = false from rfl, Bool.false_eq_true, if_false, oNe_bl, beq_self_eq_true, Bool.not_true, w_and, w_op, w_call, w_argsS, w_args0, vS, v0, bLen_seq seqOf_tup, oEq_int]
  rw [show decide ((ds.length : Int) = es.length) = true by rw [decide_eq_true_iff, hlen]]
  simp only [if_true, w_lc, w_izip, vS, v0, to_ok]
  refine ⟨true, ds, [], es, [], rfl, rfl, ?_⟩
  have ez : List.zipWith (fun x y => Dv.ptup [x, y]) ds es = (ds.zip es).map fun p => .ptup [p.1, p.2] := by
    rw [List.map_zip_eq_zipWith]; rfl
  rw [ez]
  simp only [wipeS, wipe0, List.set_cons_succ, List.set_cons_zero]
  refine lc_new (P := noP) .bool (ds.zip es) (fun p => .ptup [p.1, p.2]) (fun _ => true) (fun _ => true) (fun s' f => trivial) ?_ ?_
  · intro p hp s' f
    simp only [w_gT, w_gTp, w_gES, w_gE0, w_gN, List.length_cons, List.length_nil, true_and, w_tyes, w_call, w_argsS, w_args0, w_noE, vS, v0, to_ok, List.set_cons_succ, List.set_cons_zero]
    refine ⟨.refl, fun _ => ?_⟩
    exact h p hp _ _ f fun s2 f2 => ⟨f2, rfl⟩
  · intro bs s' f h
    rw [List.length_map, List.length_zip]
    refine ⟨by omega, ?_⟩
    have hb : bs = ((ds.zip es).map fun _ => true).map Dv.bl := by
      rw [List.filter_eq_self.mpr fun _ _ => rfl] at h
      exact h.to_map fun _ _ _ _ z => z
    rw [bAll_lst (bs := (ds.zip es).map fun _ => true) (by rw [hb]; simp)]
    simp only [to_ok]
    have : ((ds.zip es).map fun _ => true).all id = true := by simp
    rw [this]
    exact q _ (f.trans .app)
theorem same_tup {A : Enc α} {n : Nat} {ok : α → Prop} (hA : Same (f_law_gsame n) A ok) : Same (f_law_gsame (n + 1)) A.tupOf (fun l => l.length < 2 ^ 24 ∧ ∀ a ∈ l, ok a) := by
  rintro P P' s x y l Q ⟨hlen, hok⟩ ⟨ds, rfl, hd⟩ ⟨es, rfl, he⟩ q
  refine same_tupG (hd.len.trans he.len.symm) (by rw [hd.len]; exact hlen) (fun p hp s' Q f h => ?_) q
  obtain ⟨a, ha, h1, h2⟩ := all2_zip hd he p hp
  exact hA _ _ _ _ _ a _ (hok a ha) (A.fr0 h1 f) (A.fr0 h2 f) h
theorem same_pair {A : Enc α} {B : Enc β} {n : Nat} {okA : α → Prop} {okB : β → Prop} (hA : Same (f_law_gsame n) A okA) (hB : Same (f_law_gsame n) B okB) : Same (f_law_gsame (n + 1)) (A.pair B) (fun l => okA l.1 ∧ okB l.2) := by
  rintro P P' s x y l Q ⟨o1, o2⟩ ⟨d1, d2, rfl, r1, r2⟩ ⟨e1, e2, rfl, u1, u2⟩ q
  refine same_tupG rfl (by show 2 < 2 ^ 24; decide) (fun p hp s' Q f h => ?_) q
  rcases List.mem_cons.mp hp with rfl | hp
  · exact hA _ _ _ _ _ l.1 _ o1 (A.fr0 r1 f) (A.fr0 u1 f) h
  · simp at hp; subst hp
    exact hB _ _ _ _ _ l.2 _ o2 (B.fr0 r2 f) (B.fr0 u2 f) h
abbrev MAE : Enc Mach := .tupOf ROE
def Oks (r : Mach) : Prop := r.length < 2 ^ 24 ∧ ∀ a ∈ r, True ∧ (a.2.length < 2 ^ 24 ∧ ∀ p ∈ a.2, True ∧ True)
theorem same_mach : Same (f_law_gsame 8) MAE Oks := same_tup (same_pair (same_bool 5) (same_tup (same_pair (same_str 3) (same_nat 3))))
theorem mae_rep {P : Nat → Prop} {r : Mach} (h : Sok r) : MAE.rep P s (mD r) r := ⟨_, rfl, .of_map fun a ha => roe_rep fun p hp => h a ha p hp⟩
theorem same_mD {r : Mach} (h : Sok r) (o : Oks r) (q : ∀ s', Fr [] s s' → Q (.bl true) s') : (f_law_gsame 8 [mD r, mD r] s).to Q := same_mach noP noP s _ _ r Q o (mae_rep h) (mae_rep h) q
/-- what is numbered stands -/
theorem num_ok {f : Nat → Nat} {r : Mach} (wf : Wf M) (h0 : 0 < M.length) (hM : M.length ≤ 1000) (so : Sok M) (hsl : ∀ r ∈ M, r.2.length < 60) (h : IsNum M (cn f) r) : Sok r ∧ Oks r := by
  obtain ⟨L, a, b, rfl⟩ := h
  have hc : ∀ x, x < M.length → cn f x < M.length ∧ cn f (cn f x) = cn f x := fun x hx => ⟨by have := (cn_spec f x).1; omega, cn_idem⟩
  have mle : ∀ i, (ordN M (cn f) i).length ≤ M.length := fun i => nodup_len (ord_nd i) fun x hx => (ord_ok wf h0 hc i x hx).1
  have hL : L ≤ M.length := by
    rcases Nat.eq_zero_or_pos L with rfl | hp
    · exact Nat.zero_le _
    · have := b (L - 1) (by omega)
      have := mle (L - 1)
      omega
  have ent : ∀ i, ∃ k, (entN M (cn f) i).2.length ≤ (stepsOf M k).length ∧ ∀ p ∈ (entN M (cn f) i).2, ∃ q ∈ stepsOf M k, q.1 = p.1 := fun i => by
    unfold entN
    split
    · rename_i x _
      exact ⟨x, by simp, fun p hp => by
        obtain ⟨q, hq, rfl⟩ := List.mem_map.mp hp
        exact ⟨q, hq, rfl⟩⟩
    · exact ⟨0, by simp, fun p hp => by cases hp⟩
  refine ⟨fun a ha p hp => ?_, by rw [List.length_map, List.length_range]; omega, fun a ha => ⟨trivial, ?_, fun _ _ => ⟨trivial, trivial⟩⟩⟩
  · obtain ⟨i, _, rfl⟩ := List.mem_map.mp ha
    obtain ⟨k, _, h2⟩ := ent i
    obtain ⟨q, hq, e⟩ := h2 p hp
    have hne : stepsOf M k ≠ [] := fun z => by rw [z] at hq; cases hq
    obtain ⟨r, hr, e2⟩ := steps_mem hne
    rw [← e]
    exact so r hr q (by rw [← e2]; exact hq)
  · obtain ⟨i, _, rfl⟩ := List.mem_map.mp ha
    obtain ⟨k, h1, _⟩ := ent i
    by_cases hne : stepsOf M k = []
    · rw [hne] at h1; simp at h1; rw [h1]; decide
    · obtain ⟨r, hr, e2⟩ := steps_mem hne
      have := hsl r hr
      rw [e2] at h1; omega
end
end Mid
namespace Mid
open PySem
noncomputable section
variable {M P : Mach} {f g : Nat → Nat}
/-! ### rows that a machine takes -/
theorem goal_map {m : List (Str × Nat)} {x : Str} (g : Nat → Nat) : goalV (m.map fun p => (p.1, g p.2)) x = (goalV m x).map g := by
  unfold goalV
  rw [List.filter_map, List.map_map, List.map_map]; rfl
theorem goal_snd {m : List (Str × Nat)} {x : Str} (h : Nat → Bool) : goalV (m.filter fun p => h p.2) x = (goalV m x).filter h := by
  unfold goalV
  rw [List.filter_map, List.filter_filter, List.filter_filter]
  congr 2
  funext p
  simp [Bool.and_comm]
theorem goal_fst {m : List (Str × Nat)} {x : Str} (h : Str → Bool) : goalV (m.filter fun p => h p.1) x = if h x = true then goalV m x else [] := by
  unfold goalV
  rw [List.filter_filter]
  by_cases q : h x = true
  · rw [if_pos q]
    congr 1
    refine List.filter_congr fun p hp => ?_
    by_cases e : p.1 = x
    · simp [e, q]
    · simp [e]
  · rw [if_neg q, List.map_eq_nil_iff, List.filter_eq_nil_iff]
    intro p hp
    by_cases e : p.1 = x
    · simp [e, q]
    · simp [e]
theorem goal_one {m : List (Str × Nat)} (nd : (m.map (·.1)).Nodup) (x : Str) : goalV m x = [] ∨ ∃ t, goalV m x = [t] ∧ (x, t) ∈ m := by
  cases e : goalV m x with
  | nil => exact .inl rfl
  | cons t r =>
    have ht : t ∈ goalV m x := by rw [e]; simp
    obtain ⟨p, hp, rfl⟩ := List.mem_map.mp ht
    rw [List.mem_filter, decide_eq_true_eq] at hp
    obtain ⟨h1, rfl⟩ := hp
    have := goal_of nd h1
    rw [e] at this
    exact .inr ⟨p.2, this, h1⟩
def accB (M : Mach) : Nat → List Str → Bool
  | k, [] => endB M k
  | k, x :: r => match (goalV (stepsOf M k) x).head? with
    | some t => accB M t r
    | none => false
theorem goal_lt (wf : Wf M) {k t : Nat} {x : Str} (h : (goalV (stepsOf M k) x).head? = some t) : t < M.length := by
  have ht : t ∈ goalV (stepsOf M k) x := List.mem_of_mem_head? h
  obtain ⟨p, hp, rfl⟩ := List.mem_map.mp ht
  exact steps_lt wf ((List.mem_filter.mp hp).1)
theorem acc_stb (wf : Wf P) (st : Stb P f) : ∀ (row : List Str) (x y : Nat), x < P.length → y < P.length → f x = f y → accB P x row = accB P y row
  | [], x, y, hx, hy, e => (st x y hx hy e).1
  | z :: r, x, y, hx, hy, e => by
    have h2 := (st x y hx hy e).2
    have h3 : (goalV (stepsOf P x) z).map f = (goalV (stepsOf P y) z).map f := by rw [← goal_map, ← goal_map]; exact congrArg (fun m => goalV m z) h2
    have h4 : (goalV (stepsOf P x) z).head?.map f = (goalV (stepsOf P y) z).head?.map f := by rw [← List.head?_map, ← List.head?_map, h3]
    unfold accB
    cases e1 : (goalV (stepsOf P x) z).head? with
    | none =>
      rw [e1] at h4
      cases e2 : (goalV (stepsOf P y) z).head? with
      | none => rfl
      | some t => rw [e2] at h4; cases h4
    | some t =>
      rw [e1] at h4
      cases e2 : (goalV (stepsOf P y) z).head? with
      | none => rw [e2] at h4; cases h4
      | some u =>
        rw [e2] at h4
        exact acc_stb wf st r t u (goal_lt wf e1) (goal_lt wf e2) (Option.some.inj h4)
theorem ord_pre {c : Nat → Nat} {i j : Nat} (h : i ≤ j) : ordN P c i <+: ordN P c j := by
  induction j with
  | zero => rw [Nat.le_zero.mp h]
            exact List.prefix_refl _
  | succ j ih =>
    rcases Nat.lt_or_eq_of_le h with q | q
    · refine (ih (by omega)).trans ?_
      show _ <+: (match (ordN P c j)[j]? with | some x => _ | none => _)
      split
      · exact addNew_pre _ _
      · exact List.prefix_refl _
    · rw [q]; exact List.prefix_refl _
theorem pre_at {α : Type} {l m : List α} (h : l <+: m) {i : Nat} {x : α} (e : l[i]? = some x) : m[i]? = some x := by
  obtain ⟨r, rfl⟩ := h
  rw [List.getElem?_append_left (List.getElem?_eq_some_iff.mp e).1]; exact e
/-- the numbered machine takes what the machine takes -/
theorem acc_num {r : Mach} (wf : Wf P) (h0 : 0 < P.length) (st : Stb P f) (h : IsNum P (cn f) r) (row : List Str) : accB r 0 row = accB P 0 row := by
  obtain ⟨L, a, b, rfl⟩ := h
  have cl : ∀ x, x < P.length → cn f x < P.length := fun x hx => by have := (cn_spec f x).1; omega
  have hc : ∀ x, x < P.length → cn f x < P.length ∧ cn f (cn f x) = cn f x := fun x hx => ⟨cl x hx, cn_idem⟩
  have key : ∀ (row : List Str) (i x : Nat), (ordN P (cn f) L)[i]? = some x → accB ((List.range L).map (entN P (cn f))) i row = accB P x row := by
    intro row
    induction row with
    | nil =>
      intro i x hi
      have hl := (List.getElem?_eq_some_iff.mp hi).1
      have hiL : i < L := by omega
      have h1 := List.getElem?_eq_getElem (b i hiL)
      have h2 := pre_at (ord_pre (Nat.le_of_lt hiL)) h1
      rw [hi] at h2
      rw [← Option.some.inj h2] at h1
      unfold accB endB
      rw [List.getElem?_map, List.getElem?_range hiL]
      show (entN P (cn f) i).1 = _
      unfold entN
      rw [h1]; rfl
    | cons z r ih =>
      intro i x hi
      have hl := (List.getElem?_eq_some_iff.mp hi).1
      have hiL : i < L := by omega
      have h1 := List.getElem?_eq_getElem (b i hiL)
      have h2 := pre_at (ord_pre (Nat.le_of_lt hiL)) h1
      rw [hi] at h2
      rw [← Option.some.inj h2] at h1
      have hs : stepsOf ((List.range L).map (entN P (cn f))) i = (stepsOf P x).map fun p => (p.1, (ordN P (cn f) (i + 1)).idxOf (cn f p.2)) := by
        rw [steps_of (r := entN P (cn f) i) (by rw [List.getElem?_map, List.getElem?_range hiL]; rfl)]
        unfold entN
        rw [h1]
      have hx := (ord_ok wf h0 hc i x (List.mem_of_getElem? h1)).1
      unfold accB
      rw [hs, goal_map (fun t => (ordN P (cn f) (i + 1)).idxOf (cn f t)), List.head?_map]
      cases e : (goalV (stepsOf P x) z).head? with
      | none => rfl
      | some t =>
        have ht := goal_lt wf e
        have hm : cn f t ∈ ordN P (cn f) (i + 1) := by
          rw [ord_step h1, addNew_mem]
          refine .inr ?_
          have ht' : t ∈ goalV (stepsOf P x) z := List.mem_of_mem_head? e
          obtain ⟨p, hp, rfl⟩ := List.mem_map.mp ht'
          exact List.mem_map.mpr ⟨p, (List.mem_filter.mp hp).1, rfl⟩
        have hg : (ordN P (cn f) (i + 1))[(ordN P (cn f) (i + 1)).idxOf (cn f t)]? = some (cn f t) := by
          rw [List.getElem?_eq_getElem (List.idxOf_lt_length_of_mem hm), List.getElem_idxOf]
        show accB _ ((ordN P (cn f) (i + 1)).idxOf (cn f t)) r = accB P t r
        rw [ih _ _ (pre_at (ord_pre hiL) hg)]
        exact acc_stb wf st r _ _ (cl t ht) ht (cn_spec f t).2.1
  have hL : 0 < L := by
    rcases Nat.eq_zero_or_pos L with rfl | q
    · have : (ordN P (cn f) 0).length = 1 := rfl
      omega
    · exact q
  have h1 : (ordN P (cn f) L)[0]? = some (cn f 0) := pre_at (ord_pre (Nat.zero_le L)) rfl
  rw [key row 0 _ h1]
  exact acc_stb wf st row _ _ (cl 0 h0) h0 (cn_spec f 0).2.1
/-! ### the law's own steps -/
def stepL (M : Mach) (sg : List Str) (o : List Nat) (k : Nat) (x : Str) : Option Nat := match (goalV (stepsOf M k) x).head? with
  | some t => if t ∈ o ∧ ¬ (endB M k = true ∧ x ∈ sg) then some t else none
  | none => none
def walkL (M : Mach) (sg : List Str) (o : List Nat) : Option Nat → List Str → Option Nat
  | k, [] => k
  | k, x :: r => walkL M sg o (k.bind fun k => stepL M sg o k x) r
theorem walk_none {sg : List Str} {o : List Nat} : ∀ row, walkL M sg o none row = none
  | [] => rfl
  | _ :: r => walk_none r
def endsL (gs : List Nat) : Option Nat → Bool
  | some k => decide (k ∈ gs)
  | none => false
theorem steps_cut {sg : List Str} {k : Nat} {x : Str} : goalV (stepsOf (cutV M sg) k) x = if endB M k = true ∧ x ∈ sg then [] else goalV (stepsOf M k) x := by
  unfold stepsOf endB
  rw [cut_at]
  cases e : M[k]? with
  | none => simp [goalV]
  | some r =>
    simp only [Option.map_some]
    rw [goal_fst (fun y => !r.1 || !decide (y ∈ sg))]
    by_cases h1 : r.1 = true <;> by_cases h2 : x ∈ sg <;> simp [h1, h2]
/-- a part takes a row where it leads on within the orbit, to a gate -/
theorem acc_part {k : Nat} (sr : Srt M) (hk : k < M.length) : ∀ (row : List Str) (j : Nat), j ∈ orbitOf (cutM M) k →
    accB (partP M k) ((ordP (orbitOf (cutM M) k) k).idxOf j) row = endsL (gatesP (cutM M) k) (walkL M (steadyV M) (orbitOf (cutM M) k) (some j) row)
  | [], j, hj => by
    have kk : k ∈ orbitOf (cutM M) k := mem_orbit.mpr ⟨by rw [cut_len]; exact hk, eqv_refl k⟩
    unfold accB endB
    rw [part_at ((mem_ordP kk).mpr hj)]
    rfl
  | x :: r, j, hj => by
    have kk : k ∈ orbitOf (cutM M) k := mem_orbit.mpr ⟨by rw [cut_len]; exact hk, eqv_refl k⟩
    have nd : ((stepsOf M j).map (·.1)).Nodup := by
      by_cases h : stepsOf M j = []
      · rw [h]; exact List.nodup_nil
      · obtain ⟨r0, h0, e⟩ := steps_mem h
        rw [e]; exact (sr r0 h0).imp fun h => h.2
    unfold accB
    rw [steps_of (part_at ((mem_ordP kk).mpr hj)), goal_map (fun t => (ordP (orbitOf (cutM M) k) k).idxOf t), goal_snd (fun t => decide (t ∈ ordP (orbitOf (cutM M) k) k)), List.head?_map]
    rw [show cutM M = cutV M (steadyV M) from rfl, steps_cut]
    rw [show cutV M (steadyV M) = cutM M from rfl]
    show _ = endsL _ (walkL M (steadyV M) (orbitOf (cutM M) k) (stepL M (steadyV M) (orbitOf (cutM M) k) j x) r)
    unfold stepL
    by_cases hc : endB M j = true ∧ x ∈ steadyV M
    · rw [if_pos hc]
      have : (match (goalV (stepsOf M j) x).head? with | some t => if t ∈ orbitOf (cutM M) k ∧ ¬ (endB M j = true ∧ x ∈ steadyV M) then some t else none | none => none) = none := by
        cases (goalV (stepsOf M j) x).head? with
        | none => rfl
        | some t => exact if_neg fun z => z.2 hc
      rw [this, walk_none]; rfl
    · rw [if_neg hc]
      rcases goal_one nd x with e | ⟨t, e, _⟩
      · rw [e]; show false = _; show _ = endsL _ (walkL _ _ _ none r); rw [walk_none]; rfl
      · rw [e]
        by_cases ht : t ∈ orbitOf (cutM M) k
        · have ht' := (mem_ordP kk).mpr ht
          rw [show List.filter (fun t => decide (t ∈ ordP (orbitOf (cutM M) k) k)) [t] = [t] by simp [ht']]
          show accB (partP M k) ((ordP (orbitOf (cutM M) k) k).idxOf t) r = endsL _ (walkL _ _ _ (if t ∈ _ ∧ _ then some t else none) r)
          rw [if_pos ⟨ht, hc⟩]
          exact acc_part sr hk r t ht
        · have ht' : t ∉ ordP (orbitOf (cutM M) k) k := fun z => ht ((mem_ordP kk).mp z)
          rw [show List.filter (fun t => decide (t ∈ ordP (orbitOf (cutM M) k) k)) [t] = [] by simp [ht']]
          show false = endsL _ (walkL _ _ _ (if t ∈ _ ∧ _ then some t else none) r)
          rw [if_neg fun z => ht z.1, walk_none]; rfl
theorem acc_at {k : Nat} {r : Mach} (wf : Wf M) (sr : Srt M) (hk : k < M.length) (st : Stb (partP M k) f) (h : IsNum (partP M k) (cn f) r) (row : List Str) : accB r 0 row = endsL (gatesP (cutM M) k) (walkL M (steadyV M) (orbitOf (cutM M) k) (some k) row) := by
  have kk : k ∈ orbitOf (cutM M) k := mem_orbit.mpr ⟨by rw [cut_len]; exact hk, eqv_refl k⟩
  rw [acc_num part_wf (by rw [part_len]; exact Nat.succ_pos _) st h row, ← acc_part sr hk row k kk]
  congr 1
  unfold ordP
  rw [List.idxOf_cons]; simp
theorem step_in {k t : Nat} {x : Str} {sg : List Str} {o : List Nat} (h : stepL M sg o k x = some t) : t ∈ o := by
  unfold stepL at h
  split at h
  · split at h
    · rename_i q; rw [← Option.some.inj h]; exact q.1
    · cases h
  · cases h
/-- behind a first sign the part there takes the rest -/
theorem acc_next {k t : Nat} {x : Str} {r r' : Mach} {row : List Str} (wf : Wf M) (sr : Srt M) (hk : k < M.length) (st : Stb (partP M k) f) (h : IsNum (partP M k) (cn f) r) (st' : Stb (partP M t) g) (h' : IsNum (partP M t) (cn g) r')
    (hs : stepL M (steadyV M) (orbitOf (cutM M) k) k x = some t) : accB r' 0 row = accB r 0 (x :: row) := by
  have ht := step_in hs
  obtain ⟨t1, t2⟩ := mem_orbit.mp ht
  rw [cut_len] at t1
  have oe := orbit_eq t2
  rw [acc_at wf sr hk st h, acc_at wf sr t1 st' h']
  show _ = endsL _ (walkL _ _ _ (stepL M (steadyV M) (orbitOf (cutM M) k) k x) row)
  rw [hs]
  unfold gatesP
  rw [oe]
end
end Mid
namespace Mid
open PySem
noncomputable section
variable {P r : Mach} {f : Nat → Nat}
theorem entN_at {c : Nat → Nat} {i x : Nat} (h : (ordN P c i)[i]? = some x) : entN P c i = (endB P x, (stepsOf P x).map fun p => (p.1, (ordN P c (i + 1)).idxOf (c p.2))) := by unfold entN; rw [h]
/-- what a numbered machine is made of -/
structure Num (P : Mach) (f : Nat → Nat) (r : Mach) (O : List Nat) : Prop where
  len : r.length = O.length
  pos : 0 < O.length
  nd : O.Nodup
  lt : ∀ x ∈ O, x < P.length
  fx : ∀ x ∈ O, cn f x = x
  head : O[0]? = some (cn f 0)
  ent : ∀ (i x : Nat), O[i]? = some x → ∃ g : Nat → Nat, r[i]? = some (endB P x, (stepsOf P x).map fun p => (p.1, g p.2)) ∧ ∀ p ∈ stepsOf P x, O[g p.2]? = some (cn f p.2)
  back : ∀ i : Nat, 0 < i → i < O.length → ∃ j x : Nat, j < i ∧ O[j]? = some x ∧ ∃ p ∈ stepsOf P x, O[i]? = some (cn f p.2)
theorem num_of (wf : Wf P) (h0 : 0 < P.length) (h : IsNum P (cn f) r) : ∃ O, Num P f r O := by
  obtain ⟨L, a, b, rfl⟩ := h
  have cl : ∀ x, x < P.length → cn f x < P.length := fun x hx => by have := (cn_spec f x).1; omega
  have hc : ∀ x, x < P.length → cn f x < P.length ∧ cn f (cn f x) = cn f x := fun x hx => ⟨cl x hx, cn_idem⟩
  have hL : 0 < L := by
    rcases Nat.eq_zero_or_pos L with rfl | q
    · have : (ordN P (cn f) 0).length = 1 := rfl
      omega
    · exact q
  have hle : L ≤ (ordN P (cn f) L).length := by
    have h1 := b (L - 1) (by omega)
    have h2 := (ord_pre (P := P) (c := cn f) (show L - 1 ≤ L by omega)).length_le
    omega
  have hl : (ordN P (cn f) L).length = L := by omega
  have at_ : ∀ (i x : Nat), (ordN P (cn f) L)[i]? = some x → i < L ∧ (ordN P (cn f) i)[i]? = some x := fun i x hi => by
    have hiL : i < L := by have := (List.getElem?_eq_some_iff.mp hi).1; omega
    have h1 := List.getElem?_eq_getElem (b i hiL)
    have h2 := pre_at (ord_pre (Nat.le_of_lt hiL)) h1
    rw [hi] at h2
    exact ⟨hiL, by rw [h1, ← Option.some.inj h2]⟩
  refine ⟨ordN P (cn f) L, by rw [List.length_map, List.length_range, hl], by omega, ord_nd L, fun x hx => (ord_ok wf h0 hc L x hx).1, fun x hx => (ord_ok wf h0 hc L x hx).2, pre_at (ord_pre (Nat.zero_le L)) rfl, fun i x hi => ?_, fun i hi hiL => ?_⟩
  · obtain ⟨hiL, h1⟩ := at_ i x hi
    refine ⟨fun t => (ordN P (cn f) (i + 1)).idxOf (cn f t), by rw [List.getElem?_map, List.getElem?_range hiL]; show some (entN P (cn f) i) = _; rw [entN_at h1], fun p hp => ?_⟩
    have hm : cn f p.2 ∈ ordN P (cn f) (i + 1) := by
      rw [ord_step h1, addNew_mem]
      exact .inr (List.mem_map.mpr ⟨p, hp, rfl⟩)
    refine pre_at (ord_pre hiL) ?_
    rw [List.getElem?_eq_getElem (List.idxOf_lt_length_of_mem hm), List.getElem_idxOf]
  · rw [hl] at hiL
    -- the turn at which it came
    have ex : ∀ n, i < (ordN P (cn f) n).length → ∃ j, j < n ∧ (ordN P (cn f) j).length ≤ i ∧ i < (ordN P (cn f) (j + 1)).length := fun n => by
      induction n with
      | zero => intro h; have : (ordN P (cn f) 0).length = 1 := rfl; omega
      | succ n ih =>
        intro h
        by_cases q : i < (ordN P (cn f) n).length
        · obtain ⟨j, h1, h2, h3⟩ := ih q
          exact ⟨j, by omega, h2, h3⟩
        · exact ⟨n, by omega, by omega, h⟩
    obtain ⟨j, h1, h2, h3⟩ := ex i (b i hiL)
    have hjL : j < L := by omega
    have hx := List.getElem?_eq_getElem (b j hjL)
    refine ⟨j, _, h1, pre_at (ord_pre (Nat.le_of_lt hjL)) hx, ?_⟩
    have hy := List.getElem?_eq_getElem h3
    have hm : (ordN P (cn f) (j + 1))[i] ∈ addNew (ordN P (cn f) j) ((stepsOf P ((ordN P (cn f) j)[j]'(b j hjL))).map fun p => cn f p.2) := by
      rw [← ord_step hx]; exact List.getElem_mem h3
    rcases addNew_mem.mp hm with q | q
    · exfalso
      obtain ⟨i', hi'⟩ := List.mem_iff_getElem?.mp q
      have hl' := (List.getElem?_eq_some_iff.mp hi').1
      have h4 := pre_at (ord_pre (P := P) (c := cn f) (Nat.le_succ j)) hi'
      have h5 := (List.getElem?_eq_some_iff.mp h4).2
      have := (List.getElem_inj (ord_nd (M := P) (c := cn f) (j + 1))).mp h5
      omega
    · obtain ⟨p, hp, e⟩ := List.mem_map.mp q
      refine ⟨p, hp, ?_⟩
      have := pre_at (ord_pre (P := P) (c := cn f) (show j + 1 ≤ L by omega)) hy
      rw [this, ← e]
variable {O : List Nat}
theorem Num.wf (N : Num P f r O) : Wf r := fun i j hj => by
  unfold succs at hj
  cases e : r[i]? with
  | none => rw [e] at hj; cases hj
  | some a =>
    rw [e] at hj
    have hi : i < O.length := by rw [← N.len]; exact (List.getElem?_eq_some_iff.mp e).1
    obtain ⟨g, h1, h2⟩ := N.ent i _ (List.getElem?_eq_getElem hi)
    rw [h1] at e; cases e
    simp only [List.map_map, List.mem_map] at hj
    obtain ⟨p, hp, rfl⟩ := hj
    rw [N.len]
    exact (List.getElem?_eq_some_iff.mp (h2 p hp)).1
theorem Num.edge (N : Num P f r O) {i x : Nat} {p : Str × Nat} (hi : O[i]? = some x) (hp : p ∈ stepsOf P x) {j : Nat} (hj : O[j]? = some (cn f p.2)) : j ∈ succs r i := by
  obtain ⟨g, h1, h2⟩ := N.ent i x hi
  rw [succs_of h1]
  simp only [List.map_map, List.mem_map]
  refine ⟨p, hp, ?_⟩
  have h3 := h2 p hp
  have l1 := (List.getElem?_eq_some_iff.mp h3)
  have l2 := (List.getElem?_eq_some_iff.mp hj)
  exact (List.getElem_inj N.nd).mp (l1.2.trans l2.2.symm)
theorem Num.reach (N : Num P f r O) : ∀ i, i < r.length → Rch r 0 i := by
  intro i
  induction i using Nat.strongRecOn with
  | _ i ih =>
    intro hi
    rw [N.len] at hi
    rcases Nat.eq_zero_or_pos i with rfl | hp
    · exact .refl _
    · obtain ⟨j, x, h1, h2, p, h3, h4⟩ := N.back i hp hi
      exact .tail (ih j h1 (by rw [N.len]; omega)) (N.edge h2 h3 h4)
theorem Num.lives (N : Num P f r O) (wf : Wf P) (st : Stb P f) (hl : LivesAll P) : LivesAll r := by
  have key : ∀ a b, Rch P a b → a < P.length → ∀ i y : Nat, O[i]? = some y → f y = f a → ∃ j z : Nat, Rch r i j ∧ O[j]? = some z ∧ f z = f b ∧ b < P.length := fun a b h => by
    induction h with
    | refl => intro ha i y hi e; exact ⟨i, y, .refl _, hi, e, ha⟩
    | tail h1 h2 ih =>
      rename_i b b'
      intro ha i y hi e
      obtain ⟨j, z, g1, g2, g3, g4⟩ := ih ha i y hi e
      have hz := N.lt z (List.mem_of_getElem? g2)
      have hs := (st z b hz g4 g3).2
      have hb' : b' < P.length := wf b b' h2
      obtain ⟨p, hp, rfl⟩ : ∃ p ∈ stepsOf P b, p.2 = b' := by
        unfold succs at h2
        unfold stepsOf
        cases q : P[b]? with
        | none => rw [q] at h2; cases h2
        | some a => rw [q] at h2; exact List.mem_map.mp h2
      have hm : (p.1, f p.2) ∈ sig P f z := by rw [hs]; exact List.mem_map.mpr ⟨p, hp, rfl⟩
      obtain ⟨p', hp', e'⟩ := List.mem_map.mp hm
      have e2 : f p'.2 = f p.2 := (Prod.mk.inj e').2
      obtain ⟨g, _, h5⟩ := N.ent j z g2
      exact ⟨_, _, .tail g1 (N.edge g2 hp' (h5 p' hp')), h5 p' hp', (cn_spec f p'.2).2.1.trans e2, hb'⟩
  intro i hi
  rw [N.len] at hi
  have h1 := List.getElem?_eq_getElem hi
  have hx := N.lt _ (List.getElem_mem hi)
  obtain ⟨e, g1, g2⟩ := hl _ hx
  obtain ⟨j, z, g3, g4, g5, g6⟩ := key _ e g1 hx i _ h1 rfl
  refine ⟨j, g3, ?_⟩
  obtain ⟨g, h2, _⟩ := N.ent j z g4
  unfold endB
  rw [h2]
  show endB P z = true
  rw [(st z e (N.lt z (List.mem_of_getElem? g4)) g6 g5).1]; exact g2
theorem Num.row (N : Num P f r O) {a : Bool × List (Str × Nat)} (h : a ∈ r) : ∃ (x : Nat) (g : Nat → Nat), a = (endB P x, (stepsOf P x).map fun p => (p.1, g p.2)) := by
  obtain ⟨i, hi⟩ := List.mem_iff_getElem?.mp h
  have hl : i < O.length := by rw [← N.len]; exact (List.getElem?_eq_some_iff.mp hi).1
  obtain ⟨g, h1, _⟩ := N.ent i _ (List.getElem?_eq_getElem hl)
  rw [h1] at hi
  exact ⟨_, g, (Option.some.inj hi).symm⟩
theorem Num.srt (N : Num P f r O) (sr : Srt P) : Srt r := fun a ha => by
  obtain ⟨x, g, rfl⟩ := N.row ha
  rw [List.map_map]
  by_cases h : stepsOf P x = []
  · rw [h]; exact .nil
  · obtain ⟨r0, h0, e⟩ := steps_mem h
    rw [e]; exact sr r0 h0
theorem Num.xs (N : Num P f r O) {xs : List Str} (hx : ∀ x q, q ∈ stepsOf P x → q.1 ∈ xs) : ∀ a ∈ r, ∀ p ∈ a.2, p.1 ∈ xs := fun a ha p hp => by
  obtain ⟨x, g, rfl⟩ := N.row ha
  obtain ⟨q, hq, rfl⟩ := List.mem_map.mp hp
  exact hx x q hq
theorem Num.le (N : Num P f r O) : r.length ≤ P.length := by rw [N.len]; exact nodup_len N.nd N.lt
end
end Mid
namespace Mid
open PySem
noncomputable section
variable {M : Mach} {s s' : Mst} {Q : Dv → Mst → Prop}
/-- a sign: one to six small letters -/
def isSg (x : Str) : Prop := 1 ≤ x.length ∧ x.length ≤ 6 ∧ ∀ c ∈ x.cps.toList, c ∈ abcS.cps.toList
theorem itSeq_str {x : Str} : itSeq (.str x) s = .ok ⟨x.cps.toList.map fun c => .str ⟨#[c]⟩, []⟩ s := rfl
theorem bLen_str {x : Str} (h : x.length ≤ 2 ^ 24) : bLen [.str x] s = .ok (.int x.length) s := by
  have e : lenQ (.str x) s = some x.length := if_pos h
  unfold bLen f1
  simp only [e]
  rfl
theorem oNotIn_sg {c : Nat} {z : Str} : oNotIn (.str ⟨#[c]⟩) (.str z) s = .ok (.bl (!decide (c ∈ z.cps.toList))) s := rfl
theorem is_whole_ok {i : Int} (q : Q (.bl true) s) : (f_is_whole [.int i] s).to Q := by
  unfold f_is_whole
  refine fun_at [some (.int i)] rfl rfl ?_
  unfold m_is_whole
  simp only [w_ret, w_and, w_not, w_tval, w_call, w_argsS, w_args0, vS, v0, mC_eq, to_ok]
  rw [bIsi_of (T := "int") rfl (by decide) (by decide)]
  simp only [to_ok, toB_bl, show isiQ "int" "int" = true from rfl, if_true]
  rw [bIsi_of (T := "int") rfl (by decide) (by decide)]
  simp only [to_ok, toB_bl, show isiQ "int" "bool" = false from rfl, Bool.not_false]
  exact q
theorem is_sign_ok {x : Str} (h : isSg x) (q : ∀ s', Fr [] s s' → Q (.bl true) s') : (f_is_sign [.str x] s).to Q := by
  obtain ⟨h1, h2, h3⟩ := h
  unfold f_is_sign
  refine fun_at [some (.str x), none] rfl rfl ?_
  unfold m_is_sign
  simp only [w_seq, w_if, w_tor, w_tnot, w_tval, w_chain, w_call, w_argsS, w_args0, vS, v0, mC_eq, to_ok]
  rw [bIsi_of (T := "str") rfl (by decide) (by decide)]
  simp only [to_ok, toB_bl, show isiQ "str" "str" = true from rfl, Bool.not_true, Bool.false_eq_true, if_false]
  rw [bLen_str (by omega)]
  simp only [to_ok, oLe_int, toB_bl]
  rw [show decide ((1 : Int) ≤ (x.length : Int)) = true from decide_eq_true (by omega)]
  simp only [if_true, to_ok, toB_bl]
  rw [show decide ((x.length : Int) ≤ (6 : Int)) = true from decide_eq_true (by omega)]
  simp only [Bool.not_true, Bool.false_eq_true, if_false, w_nx, w_ret, w_op, w_call, w_argsS, w_args0, w_lc, w_iseq, vS, v0, mC_eq, to_ok, itSeq_str, wipeS, wipe0, List.set_cons_succ, List.set_cons_zero]
  refine lc_pure x.cps.toList (fun c => .str ⟨#[c]⟩) (fun c => !decide (c ∈ abcS.cps.toList)) (fun c => .str ⟨#[c]⟩) trivial (fun c hc => ?_) ?_
  · simp only [w_gN, w_tval, w_op, vS, v0, mC_eq, to_ok, List.set_cons_succ, List.set_cons_zero, oNotIn_sg, toB_bl]
    first | exact ⟨rfl, fun _ => ⟨rfl, rfl⟩, fun _ => trivial⟩ | exact ⟨trivial, fun _ => ⟨rfl, rfl⟩, fun _ => trivial⟩ | exact ⟨rfl, fun _ => ⟨trivial, trivial⟩, fun _ => trivial⟩ | exact ⟨rfl, trivial, trivial⟩ | exact ⟨rfl, fun _ => trivial, fun _ => trivial⟩ | exact ⟨rfl, fun _ => ⟨trivial, rfl⟩, fun _ => rfl⟩ | (refine ⟨rfl, ?_, ?_⟩ <;> simp)
  rw [List.filter_eq_nil_iff.mpr fun c hc => by simp [h3 c hc]]
  refine ⟨by rw [List.length_map]; show x.cps.toList.length < _; rw [Array.length_toList]; show x.length < _; omega, ?_⟩
  rw [bLen_seq (seqOf_lst look_new0)]
  simp only [to_ok, List.map_nil, List.length_nil, oEq_int]
  exact q _ .app
theorem is_led_ok {p : Str × Nat} {n : Nat} (h : isSg p.1) (hl : p.2 < n) (q : ∀ s', Fr [] s s' → Q (.bl true) s') : (f_is_led [stepD p, nD n] s).to Q := by
  unfold f_is_led
  refine fun_at [some (stepD p), some (nD n)] rfl rfl ?_
  unfold m_is_led
  simp only [w_seq, w_if, w_tor, w_tnot, w_tval, w_op, w_call, w_argsS, w_args0, vS, v0, mC_eq, to_ok, stepD]
  rw [bIsi_of (T := "tuple") rfl (by decide) (by decide)]
  simp only [to_ok, toB_bl, show isiQ "tuple" "tuple" = true from rfl, Bool.not_true, Bool.false_eq_true, if_false]
  rw [bLen_seq seqOf_tup]
  simp only [to_ok, List.length_cons, List.length_nil, oNe_int, toB_bl]
  rw [show (!decide (((0 + 1 + 1 : Nat) : Int) = 2)) = false from rfl]
  simp only [Bool.false_eq_true, if_false, w_nx, w_ret, w_and, w_tval, w_chain, w_op, w_call, w_argsS, w_args0, w_noE, vS, v0, mC_eq, to_ok, oGet_tup0, oGet_tup1]
  refine is_sign_ok h fun s1 f1 => ?_
  simp only [toB_bl, if_true, oGet_tup0, oGet_tup1, to_ok]
  refine is_whole_ok ?_
  simp only [toB_bl, if_true, oGet_tup0, oGet_tup1, to_ok, nD, iD, oLe_int, oLt_int]
  rw [show decide ((0 : Int) ≤ (p.2 : Int)) = true from decide_eq_true (by omega)]
  simp only [toB_bl, if_true, to_ok]
  rw [show decide ((p.2 : Int) < (n : Int)) = true from decide_eq_true (by omega)]
  exact q _ f1
theorem bSortSet_strs {n : Nat} {xs : List Str} (h : s[n]? = some (.lst (xs.map Dv.str))) (hl : xs.length < 64) : bSortSet [.loc n] s = .ok (.loc s.length) (s ++ [.lst ((srtS (metG [] xs)).map Dv.str)]) := by
  show (match bAny.lstQ (.loc n) s with | some l => _ | none => _) = _
  rw [lstQ_loc h]
  simp only
  cases xs with
  | nil => exact if_pos (by decide)
  | cons x r =>
    simp only [List.map_cons, intsQ]
    rw [← List.map_cons, strsQ_map]
    exact if_pos hl
theorem srt_set {xs : List Str} (h : xs.Pairwise fun x y => leS x y ∧ x ≠ y) : srtS (metG [] xs) = xs := by
  have nd : xs.Nodup := h.imp fun h => h.2
  have e : metG [] xs = xs := by
    have key : ∀ (r acc : List Str), (acc ++ r).Nodup → metG acc r = acc ++ r := by
      intro r
      induction r with
      | nil => intro acc _; simp [metG]
      | cons y r ih =>
        intro acc hn
        have hy : y ∉ acc := fun z => by
          have := (List.nodup_append.mp hn).2.2 y z y (by simp)
          exact this rfl
        unfold metG
        rw [if_neg hy, ih _ (by rw [List.append_assoc]; exact hn), List.append_assoc]; rfl
    simpa using key xs [] (by simpa using nd)
  rw [e]
  exact perm_one leS_anti (srtS_perm xs) (srtS_rising xs) (h.imp fun h => h.1)
theorem is_room_ok {r : Bool × List (Str × Nat)} {n : Nat} (hs : ∀ p ∈ r.2, isSg p.1 ∧ p.2 < n) (hso : ∀ p ∈ r.2, PyData.strOk p.1 = true) (sr : (r.2.map (·.1)).Pairwise fun x y => leS x y ∧ x ≠ y) (hl : r.2.length < 60)
    (q : ∀ s', Fr [] s s' → Q (.bl true) s') : (f_is_room [roomD r, nD n] s).to Q := by
  unfold f_is_room
  refine fun_at [some (roomD r), some (nD n), none, none, none, none] rfl rfl ?_
  unfold m_is_room
  simp only [w_seq, w_if, w_tor, w_tnot, w_tval, w_op, w_call, w_argsS, w_args0, vS, v0, mC_eq, to_ok, roomD]
  rw [bIsi_of (T := "tuple") rfl (by decide) (by decide)]
  simp only [to_ok, toB_bl, show isiQ "tuple" "tuple" = true from rfl, Bool.not_true, Bool.false_eq_true, if_false]
  rw [bLen_seq seqOf_tup]
  simp only [to_ok, List.length_cons, List.length_nil, oNe_int, toB_bl]
  rw [show (!decide (((0 + 1 + 1 : Nat) : Int) = 2)) = false from rfl]
  simp only [Bool.false_eq_true, if_false, w_nx, w_op, vS, v0, mC_eq, oGet_tup0, oGet_tup1, to_ok]
  rw [bIsi_of (T := "bool") rfl (by decide) (by decide)]
  simp only [to_ok, toB_bl, show isiQ "bool" "bool" = true from rfl, Bool.not_true, Bool.false_eq_true, if_false, w_op, vS, v0, mC_eq, oGet_tup1]
  rw [bIsi_of (T := "tuple") rfl (by decide) (by decide)]
  simp only [to_ok, toB_bl, show isiQ "tuple" "tuple" = true from rfl, Bool.not_true, Bool.false_eq_true, if_false, w_nx, w_lc, w_iseq, w_op, vS, v0, mC_eq, oGet_tup1, itSeq_tup, wipeS, wipe0, List.set_cons_succ, List.set_cons_zero]
  refine lc_new (P := noP) .bool r.2 stepD (fun _ => true) (fun _ => true) (fun _ _ => trivial) (fun p hp s1 f1 => ?_) fun ds s1 f1 h1 => ?_
  · simp only [w_gN, w_tyes, w_call, w_argsS, w_args0, w_noE, vS, v0, to_ok, List.set_cons_succ, List.set_cons_zero]
    refine ⟨trivial, .refl, fun _ => ?_⟩
    exact is_led_ok (hs p hp).1 (hs p hp).2 fun s2 f2 => ⟨f2, rfl⟩
  refine ⟨by rw [List.length_map]; omega, ?_⟩
  rw [List.filter_eq_self.mpr fun _ _ => rfl] at h1
  have hb : ds = (r.2.map fun _ => true).map Dv.bl := h1.to_map fun _ _ _ _ z => z
  rw [bAll_lst (bs := r.2.map fun _ => true) (by rw [hb]; simp)]
  simp only [to_ok, toB_bl]
  rw [show ((r.2.map fun _ => true).all id) = true from by rw [List.all_eq_true]; intro b hb; obtain ⟨_, _, rfl⟩ := List.mem_map.mp hb; rfl]
  simp only [Bool.not_true, Bool.false_eq_true, if_false, w_nx, w_set, w_lc, w_iseq, w_op, vS, v0, mC_eq, to_ok, oGet_tup1, itSeq_tup, wipeS, wipe0, List.set_cons_succ, List.set_cons_zero]
  have f2 : Fr [] s (s1 ++ [MO.lst ds]) := f1.trans .app
  generalize s1 ++ [MO.lst ds] = s2 at f2 ⊢
  refine lc_pure r.2 stepD (fun _ => true) (fun p => .str p.1) trivial (fun p hp => ?_) ?_
  · simp only [stepD, iD, w_gT, w_gES, w_gE0, w_gN, List.length_cons, List.length_nil, true_and, w_tyes, vS, v0, to_ok, List.set_cons_succ, List.set_cons_zero]
    first | exact ⟨fun _ => ⟨rfl, rfl⟩, fun h => by cases h⟩ | simp
  rw [List.filter_eq_self.mpr fun _ _ => rfl]
  refine ⟨by rw [List.length_map]; omega, ?_⟩
  have e1 : (r.2.map fun p => Dv.str p.1) = (r.2.map (·.1)).map Dv.str := by rw [List.map_map]; rfl
  rw [e1]
  simp only [to_ok, List.set_cons_succ, List.set_cons_zero, w_ret, w_op, w_call, w_argsS, w_args0, vS, v0]
  rw [bSortSet_strs look_new0 (by rw [List.length_map]; omega), srt_set sr]
  simp only [to_ok]
  have hx : ∀ y ∈ r.2.map (·.1), PyData.strOk y = true := fun y hy => by obtain ⟨p, hp, rfl⟩ := List.mem_map.mp hy; exact hso p hp
  rw [oEq_enc SL (P := noP) (P' := noP) (a := r.2.map (·.1)) (b := r.2.map (·.1)) (sl_rep id (look_app look_new0) hx) (sl_rep id look_new0 hx) (by decide)]
  simp only [to_ok, decide_true]
  exact q _ (f2.trans (Fr.app.trans .app))
end
end Mid
namespace Mid
open PySem
noncomputable section
variable {M : Mach} {s s' : Mst} {Q : Dv → Mst → Prop}
/-! ### dicts of steps -/
def stKV (p : Str × Nat) : KeyQ × Dv := (.inr p.1, nD p.2)
theorem pairs_steps (m : List (Str × Nat)) : pairsQ (m.map stepD) = some (m.map stKV) := by
  induction m with
  | nil => rfl
  | cons p r ih => rw [List.map_cons, List.map_cons]; unfold pairsQ; rw [ih]; rfl
theorem bDict_steps (m : List (Str × Nat)) : bDict [.tup (m.map stepD)] s = .ok (.loc s.length) (s ++ [.dK (kputs [] (m.map stKV))]) := by
  show (match (seqOf (.tup (m.map stepD)) s).bind pairsQ with | some kvs => mNew (.dK (kputs [] kvs)) s | none => .bad) = _
  rw [show seqOf (.tup (m.map stepD)) s = some (m.map stepD) from rfl, Option.bind_some, pairs_steps]; rfl
theorem kputs_nd (more : List (KeyQ × Dv)) : ∀ kvs : List (KeyQ × Dv), (kvs.map (·.1)).Nodup → ((kputs kvs more).map (·.1)).Nodup := by
  induction more with
  | nil => intro kvs h; exact h
  | cons a r ih => intro kvs h; exact ih _ (kput_nd h)
theorem kputs_mem {k : KeyQ} (more : List (KeyQ × Dv)) : ∀ kvs : List (KeyQ × Dv), k ∈ (kputs kvs more).map (·.1) → k ∈ kvs.map (·.1) ∨ k ∈ more.map (·.1) := by
  induction more with
  | nil => intro kvs h; exact .inl h
  | cons a r ih =>
    intro kvs h
    rcases ih _ h with h | h
    · rcases mem_kput.mp h with h | h
      · exact .inr (by rw [h]; simp)
      · exact .inl h
    · exact .inr (List.mem_cons_of_mem _ h)
theorem kputs_all (more : List (KeyQ × Dv)) : ∀ kvs : List (KeyQ × Dv), ((kvs ++ more).map (·.1)).Nodup → kputs kvs more = kvs ++ more := by
  induction more with
  | nil => intro kvs _; simp [kputs]
  | cons a r ih =>
    intro kvs h
    have hn : a.1 ∉ kvs.map (·.1) := fun z => by
      rw [List.map_append] at h
      exact (List.nodup_append.mp h).2.2 _ z a.1 (by simp) rfl
    show kputs (kput kvs a.1 a.2) r = _
    rw [kput_new hn, ih _ (by simpa using h)]; simp
theorem kval_steps {m : List (Str × Nat)} (nd : (m.map (·.1)).Nodup) (x : Str) : kval (kputs [] (m.map stKV)) (.inr x) = (goalV m x).head?.map nD := by
  have nd' : ((([] : List (KeyQ × Dv)) ++ m.map stKV).map (·.1)).Nodup := by
    rw [List.nil_append, List.map_map]
    have : (m.map ((·.1) ∘ stKV)) = (m.map (·.1)).map (Sum.inr : Str → KeyQ) := by rw [List.map_map]; rfl
    rw [this]
    exact List.pairwise_map.mpr (nd.imp fun h e => h (Sum.inr.inj e))
  rw [kputs_all _ _ nd', List.nil_append]
  unfold kval goalV
  rw [List.head?_map, List.head?_filter, List.find?_map, Option.map_map, Option.map_map]
  congr 1
  induction m with
  | nil => rfl
  | cons p r ih =>
    rw [List.map_cons, List.nodup_cons] at nd
    simp only [List.find?_cons, Function.comp]
    have e : decide ((stKV p).1 = (.inr x : KeyQ)) = decide (p.1 = x) := decide_eq_decide.mpr ⟨fun z => Sum.inr.inj z, fun z => by rw [← z]; rfl⟩
    rw [e]
    cases decide (p.1 = x) with
    | true => rfl
    | false => exact ih nd.2 (by
        have h2 := nd'
        rw [List.nil_append, List.map_cons, List.map_cons, List.nodup_cons] at h2
        simpa using h2.2)
/-! ### runs -/
theorem acc_cons {k : Nat} {x : Str} {r : List Str} : accB M k (x :: r) = match (goalV (stepsOf M k) x).head? with
    | some t => accB M t r
    | none => false := rfl
theorem runs_ok (wf : Wf M) (h0 : 0 < M.length) (sr : Srt M) {row : List Str} (hr : row.length < 100)
    (q : ∀ s', Fr [] s s' → Q (.bl (accB M 0 row)) s') : (f_runs [mD M, .tup (row.map .str)] s).to Q := by
  have nd : ∀ k, ((stepsOf M k).map (·.1)).Nodup := fun k => by
    by_cases h : stepsOf M k = []
    · rw [h]; exact List.nodup_nil
    · obtain ⟨r0, h0, e⟩ := steps_mem h
      rw [e]; exact (sr r0 h0).imp fun h => h.2
  have room : ∀ k, k < M.length → ∃ r, (M.map roomD)[k]? = some (roomD r) ∧ M[k]? = some r ∧ r.2 = stepsOf M k ∧ r.1 = endB M k := fun k hk => by
    refine ⟨M[k], by rw [List.getElem?_map, List.getElem?_eq_getElem hk]; rfl, List.getElem?_eq_getElem hk, (steps_of (List.getElem?_eq_getElem hk)).symm, ?_⟩
    unfold endB; rw [List.getElem?_eq_getElem hk]
  unfold f_runs
  refine fun_at [some (mD M), some (.tup (row.map .str)), none, none, none] rfl rfl ?_
  unfold m_runs
  simp only [w_seq, w_set, mC_eq, to_ok, List.set_cons_succ, List.set_cons_zero, w_for, w_iseq, vS, v0, itSeq_tup]
  refine for_map row Dv.str (fun i σ s' => ∃ k y3 y4, σ = [some (mD M), some (.tup (row.map .str)), some (nD k), y3, y4] ∧ Fr [] s s' ∧ k < M.length ∧ accB M 0 row = accB M k (row.drop i)) ⟨0, none, none, rfl, .refl, h0, rfl⟩ (fun _ _ _ _ => trivial) ?_ ?_
  · rintro i x σ s1 hx ⟨k, y3, y4, rfl, f1, hk, e⟩
    obtain ⟨r, hr1, hr2, hr3, hr4⟩ := room k hk
    have hd : row.drop i = x :: row.drop (i + 1) := by
      obtain ⟨hi, rfl⟩ := List.getElem?_eq_some_iff.mp hx
      exact List.drop_eq_getElem_cons hi
    rw [hd] at e
    simp only [w_gN, w_seq, w_set, List.set_cons_succ, List.set_cons_zero, w_op, w_call, w_argsS, w_args0, vS, v0, mC_eq, to_ok, mD]
    rw [show oGet (.tup (M.map roomD)) (nD k) s1 = .ok (roomD r) s1 from oGet_tup hr1]
    simp only [to_ok, roomD, oGet_tup1]
    rw [bDict_steps]
    simp only [to_ok, List.set_cons_succ, List.set_cons_zero, w_if, w_tval, w_op, vS, v0]
    have hn : (s1 ++ [MO.dK (kputs [] (r.2.map stKV))])[s1.length]? = some (.dK (kputs [] (r.2.map stKV))) := by simp
    rw [oNotIn_dict (q := .inr x) hn rfl]
    rw [hr3] at hn ⊢
    rw [kval_steps (nd k)]
    simp only [to_ok, toB_bl]
    rw [acc_cons] at e
    cases h : (goalV (stepsOf M k) x).head? with
    | none =>
      rw [h] at e
      simp only [Option.map_none, Option.isSome_none, Bool.not_false, if_true, w_ret, mC_eq, to_ok]
      have e' : accB M 0 row = false := e
      rw [← e']
      exact q _ (f1.trans .app)
    | some t =>
      rw [h] at e
      simp only [Option.map_some, Option.isSome_some, Bool.not_true, Bool.false_eq_true, if_false, w_nx, w_op, vS, v0, to_ok]
      rw [oGet_dict (q := .inr x) (z := nD t) hn rfl (by rw [kval_steps (nd k), h]; rfl)]
      simp only [to_ok, List.set_cons_succ, List.set_cons_zero]
      exact ⟨t, _, _, rfl, f1.trans .app, goal_lt wf h, e⟩
  · rintro σ s1 ⟨k, y3, y4, rfl, f1, hk, e⟩
    obtain ⟨r, hr1, hr2, hr3, hr4⟩ := room k hk
    simp only [w_ret, w_op, vS, v0, mC_eq, to_ok, mD]
    rw [show oGet (.tup (M.map roomD)) (nD k) s1 = .ok (roomD r) s1 from oGet_tup hr1]
    simp only [to_ok, roomD, oGet_tup0]
    rw [List.drop_length] at e
    rw [hr4, show endB M k = accB M k [] from rfl, ← e]
    exact q _ f1
/-! ### is_machine -/
theorem bLen_dK {n : Nat} {kvs : List (KeyQ × Dv)} (h : s[n]? = some (.dK kvs)) : bLen [.loc n] s = .ok (.int kvs.length) s := by
  show ofO ((lenQ (.loc n) s).map fun n => Dv.int n) s = _
  unfold lenQ; simp only [h]; rfl
theorem is_machine_ok {xs : List Str} (wf : Wf M) (h0 : 0 < M.length) (hM : M.length ≤ 200) (so : Sok M) (sr : Srt M) (hsl : ∀ r ∈ M, r.2.length < 60) (hsg : ∀ r ∈ M, ∀ p ∈ r.2, isSg p.1) (hxs : ∀ r ∈ M, ∀ p ∈ r.2, p.1 ∈ xs) (lxs : xs.length ≤ 6)
    (hr : ∀ i, i < M.length → Rch M 0 i) (hl : LivesAll M) (q : ∀ s', Fr [] s s' → Q (.bl true) s') : (f_is_machine [mD M] s).to Q := by
  unfold f_is_machine
  refine fun_at [some (mD M), none, none] rfl rfl ?_
  unfold m_is_machine
  have len : ∀ s, bLen [mD M] s = .ok (nD M.length) s := fun s => by rw [mD, bLen_seq seqOf_tup, List.length_map]; rfl
  simp only [w_seq, w_if, w_tor, w_tnot, w_tval, w_chain, w_op, w_call, w_argsS, w_args0, vS, v0, mC_eq, to_ok]
  rw [bIsi_of (T := "tuple") rfl (by decide) (by decide)]
  simp only [to_ok, toB_bl, show isiQ "tuple" "tuple" = true from rfl, Bool.not_true, Bool.false_eq_true, if_false, len, nD, oLe_int]
  rw [show decide ((1 : Int) ≤ (M.length : Int)) = true from decide_eq_true (by omega)]
  simp only [if_true, to_ok, toB_bl]
  rw [show decide ((M.length : Int) ≤ (200 : Int)) = true from decide_eq_true (by omega)]
  simp only [Bool.not_true, Bool.false_eq_true, if_false, w_nx, w_lc, w_iseq, vS, v0, to_ok, mD, itSeq_tup, wipeS, wipe0, List.set_cons_succ, List.set_cons_zero]
  refine lc_new (P := noP) .bool M roomD (fun _ => true) (fun _ => true) (fun _ _ => trivial) (fun r hr s1 f1 => ?_) fun ds s1 f1 h1 => ?_
  · have e1 : bLen [.tup (M.map roomD)] s1 = .ok (nD M.length) s1 := len s1
    simp only [w_gN, w_tyes, w_call, w_argsS, w_args0, w_noE, vS, v0, to_ok, List.set_cons_succ, List.set_cons_zero, e1]
    refine ⟨trivial, .refl, fun _ => ?_⟩
    refine is_room_ok (fun p hp => ⟨hsg r hr p hp, ?_⟩) (fun p hp => so r hr p hp) (sr r hr) (hsl r hr) fun s2 f2 => ⟨f2, rfl⟩
    obtain ⟨i, hi⟩ := List.mem_iff_getElem?.mp hr
    exact wf i p.2 (by rw [succs_of hi]; exact List.mem_map.mpr ⟨p, hp, rfl⟩)
  refine ⟨by rw [List.length_map]; omega, ?_⟩
  rw [List.filter_eq_self.mpr fun _ _ => rfl] at h1
  have hb : ds = (M.map fun _ => true).map Dv.bl := h1.to_map fun _ _ _ _ z => z
  rw [bAll_lst (bs := M.map fun _ => true) (by rw [hb]; simp)]
  simp only [to_ok, toB_bl]
  rw [show ((M.map fun _ => true).all id) = true from by rw [List.all_eq_true]; intro b hb; obtain ⟨_, _, rfl⟩ := List.mem_map.mp hb; rfl]
  have f2 : Fr [] s (s1 ++ [MO.lst ds]) := f1.trans .app
  generalize s1 ++ [MO.lst ds] = s2 at f2 ⊢
  simp only [Bool.not_true, Bool.false_eq_true, if_false, w_nx, w_set, mdisp0, to_ok, List.set_cons_succ, List.set_cons_zero, w_for, w_iseq, vS, v0, itSeq_tup]
  have xin : ∀ r ∈ M, ∀ k ∈ (r.2.map stKV).map (·.1), k ∈ xs.map (Sum.inr : Str → KeyQ) := fun r hr k hk => by
    rw [List.map_map] at hk
    obtain ⟨p, hp, rfl⟩ := List.mem_map.mp hk
    exact List.mem_map.mpr ⟨p.1, hxs r hr p hp, rfl⟩
  refine for_map M roomD (fun i σ s' => ∃ y1 kvs, σ = [some (.tup (M.map roomD)), y1, some (.loc s2.length)] ∧ Fr [] s s' ∧ s2.length < s'.length ∧ s'[s2.length]? = some (.dK kvs) ∧ (kvs.map (·.1)).Nodup ∧ ∀ k ∈ kvs.map (·.1), k ∈ xs.map (Sum.inr : Str → KeyQ))
    ⟨none, [], rfl, f2.trans .app, by simp, by simp, List.nodup_nil, fun _ h => by cases h⟩ (fun _ _ _ _ => trivial) ?_ ?_
  · rintro i r σ s3 hr' ⟨y1, kvs, rfl, f3, hlt, hk, nd, hin⟩
    have hrm := List.mem_of_getElem? hr'
    simp only [w_gN, List.set_cons_succ, List.set_cons_zero, w_exp, w_meth, w_argsS, w_args0, w_op, w_call, vS, v0, mC_eq, to_ok, roomD, oGet_tup1]
    refine ⟨tyQ_dict hk, ?_⟩
    rw [bDict_steps]
    simp only [to_ok]
    have l1 : kvs.length ≤ 6 := by
      have := sub_len nd hin
      rw [List.length_map, List.length_map] at this; omega
    have nd2 := kputs_nd (r.2.map stKV) [] List.nodup_nil
    have in2 : ∀ k ∈ (kputs [] (r.2.map stKV)).map (·.1), k ∈ xs.map (Sum.inr : Str → KeyQ) := fun k hk => by
      rcases kputs_mem _ _ hk with h | h
      · cases h
      · exact xin r hrm k h
    have l2 : (kputs [] (r.2.map stKV)).length ≤ 6 := by
      have := sub_len nd2 in2
      rw [List.length_map, List.length_map] at this; omega
    have hk' : (s3 ++ [MO.dK (kputs [] (r.2.map stKV))])[s2.length]? = some (.dK kvs) := by rw [List.getElem?_append_left hlt]; exact hk
    rw [tUpdate_dict hk' (show (s3 ++ [MO.dK (kputs [] (r.2.map stKV))])[s3.length]? = some (.dK (kputs [] (r.2.map stKV))) by simp) (by omega) (by omega)]
    simp only [to_ok]
    refine ⟨_, _, rfl, (f3.trans .app).put (.inr (by have := f2.1; omega)), by rw [List.length_set, List.length_append]; omega, look_put hk', kputs_nd _ _ nd, fun k hk => ?_⟩
    rcases kputs_mem _ _ hk with h | h
    · exact hin k h
    · exact in2 k h
  · rintro σ s3 ⟨y1, kvs, rfl, f3, hlt, hk, nd, hin⟩
    have l1 : kvs.length ≤ 6 := by
      have := sub_len nd hin
      rw [List.length_map, List.length_map] at this; omega
    have e1 : ∀ s, bLen [.tup (M.map roomD)] s = .ok (nD M.length) s := len
    simp only [w_if, w_tval, w_op, w_call, w_argsS, w_args0, vS, v0, mC_eq, to_ok, bLen_dK hk, oGt_int, toB_bl]
    rw [show decide ((6 : Int) < (kvs.length : Int)) = false from decide_eq_false (by omega)]
    simp only [Bool.false_eq_true, if_false, w_nx, w_ret, w_and, w_tval, w_op, w_call, w_argsS, w_args0, w_noE, vS, v0, to_ok]
    change ((f_reached [mD M] s3).to _)
    refine reached_ok wf h0 (by omega) fun d s4 ks f4 h4 nk mk => ?_
    obtain ⟨nn, rfl, _, e4⟩ := nl_iff.mp h4
    have lk : ks.length = M.length := by
      have a := nodup_len nk fun j hj => by
        have := (mk j).mp hj
        cases this with
        | refl => exact h0
        | tail h1 h2 => exact wf _ _ h2
      have b := sub_len (m := ks) List.nodup_range fun j hj => (mk j).mpr (hr j (List.mem_range.mp hj))
      rw [List.length_range] at b; omega
    rw [bLen_seq (seqOf_lst e4), List.length_map, lk]
    simp only [to_ok, e1, nD, oEq_int, decide_true, toB_bl, if_true, w_op, w_call, w_argsS, w_args0, w_noE, vS, v0]
    change ((f_alive [mD M] s4).to _)
    refine alive_ok wf (by omega) hsl fun s5 al f5 n5 hn5 e5 na ma => ?_
    have la : al.length = M.length := by
      have a := nodup_len na fun j hj => ((ma j).mp hj).1
      have b := sub_len (m := al) List.nodup_range fun j hj => (ma j).mpr ⟨List.mem_range.mp hj, hl j (List.mem_range.mp hj)⟩
      rw [List.length_range] at b; omega
    rw [bLen_dK e5, show (keysD al).length = al.length by unfold keysD; rw [List.length_map], la]
    simp only [to_ok, e1, nD, oEq_int, decide_true]
    exact q _ (f3.trans (f4.trans f5))
end
end Mid
namespace Mid
open PySem
noncomputable section
variable {M : Mach} {s s' : Mst} {Q : Dv → Mst → Prop} {p w c : Nat}
def abcT (x : Str) : Prop := ∀ c ∈ x.cps.toList, c ∈ abcS.cps.toList
theorem abcT_app {x y : Str} (h : abcT x) (g : abcT y) : abcT (x ++ y) := fun c hc => by
  rw [show (x ++ y).cps = x.cps ++ y.cps from rfl, Array.toList_append, List.mem_append] at hc
  exact hc.elim (h c) (g c)
theorem abcT_none : abcT (Str.ofString "") := fun c hc => by
  rw [show (Str.ofString "").cps = #[] from rfl] at hc; cases hc
theorem abcT_join {ys : List Str} (h : ∀ y ∈ ys, abcT y) : abcT (Str.join (Str.ofString "") ys) := by
  induction ys with
  | nil => exact abcT_none
  | cons a r ih =>
    cases r with
    | nil => exact h a (by simp)
    | cons b r => exact abcT_app (abcT_app (h a (by simp)) abcT_none) (ih fun y hy => h y (by simp [hy]))
theorem abcT_ch {k : Nat} (h : k < 26) : abcT (chD k) := fun c hc => by
  have e : abcS.cps.toList = (List.range 26).map (97 + ·) := by decide
  rw [e, List.mem_map]
  rw [show (chD k).cps.toList = [97 + k] from rfl, List.mem_singleton] at hc
  exact ⟨k, List.mem_range.mpr h, hc.symm⟩
theorem gsigns_sg_ok {many : Nat} (h : PenR p w c s) (hm : 0 < many) (hm2 : many < 2 ^ 20) (hc : c < 10 ^ 8)
    (q : ∀ s' n sg, Fr [p, w] s s' → PenR p w (c + 10) s' → s.length ≤ n → s'[n]? = some (.lst (List.map Dv.str sg)) → sg.length = many → (∀ x ∈ sg, PyData.strOk x = true) → (many ≤ 26 → sg.Nodup) → (∀ x ∈ sg, isSg x) → Q (.loc n) s') : (f_law_gsigns [.loc p, nD many] s).to Q := by
  unfold f_law_gsigns
  refine fun_at [some (.loc p), some (nD many), none, none, none, none] rfl rfl ?_
  unfold m_law_gsigns
  simp only [w_seq, w_set, mC_eq, to_ok, List.set_cons_succ, List.set_cons_zero, w_meth, tyQ_str, true_and, w_argsS, w_args0, w_lc, w_irng1, w_op, w_lst, w_call, w_noE, vS, v0]
  have h0 : PenR p w c (s ++ [.lst [.int 0, .int 0, .int 1, .int 2, .int 5]]) := h.fr0 .app
  refine gdraw_ok (many := 5) h0 (by decide) (by decide) (by omega) fun s1 r f1 h1 hr => ?_
  have f01 : Fr [p, w] s s1 := Fr.app.trans f1
  have hne := h.lt
  have hl1 : s1[s.length]? = some (.lst [.int 0, .int 0, .int 1, .int 2, .int 5]) := f1.get (by simp) (by simp; omega)
  obtain ⟨k, hk, hk5⟩ : ∃ k : Nat, [Dv.int 0, .int 0, .int 1, .int 2, .int 5][r]? = some (nD k) ∧ k ≤ 5 := by
    rcases r with _ | _ | _ | _ | _ | r
    · exact ⟨0, rfl, by omega⟩
    · exact ⟨0, rfl, by omega⟩
    · exact ⟨1, rfl, by omega⟩
    · exact ⟨2, rfl, by omega⟩
    · exact ⟨5, rfl, by omega⟩
    · omega
  rw [show nD r = .int (r : Int) from rfl, oGet_lst hl1 hk]
  simp only [to_ok, nD, toI_int]
  refine ⟨r62 (by omega), ?_⟩
  rw [Int.toNat_natCast, rng0]
  simp only [wipeS, wipe0, List.set_cons_succ, List.set_cons_zero]
  refine lc_by (fun i ds s' => Fr [p, w] s s' ∧ PenR p w (c + 1 + i) s' ∧ ∃ ys : List Str, ds = ys.map Dv.str ∧ ys.length = i ∧ (∀ y ∈ ys, y.length = 1) ∧ ∀ y ∈ ys, PyData.strOk y = true ∧ abcT y)
    ⟨f01, h1, [], rfl, rfl, by simp, by simp⟩ (fun _ _ _ _ => trivial) ?_ ?_
  · rintro i x ds s2 hx ⟨f2, h2, ys, rfl, hl, h3, h4⟩
    have hi : i < k := by
      have := (List.getElem?_eq_some_iff.mp hx).1
      simpa using this
    simp only [w_gN, w_tyes, if_true, w_op, w_call, w_argsS, w_args0, w_noE, vS, v0, to_ok, mC_eq, List.set_cons_succ, List.set_cons_zero]
    refine gdraw_ok (many := 26) h2 (by decide) (by decide) (by omega) fun s3 r3 f3 h5 hr3 => ?_
    rw [show Str.ofString "abcdefghijklmnopqrstuvwxyz" = abcS from rfl, abc_at hr3]
    simp only [to_ok]
    refine ⟨f2.trans f3, h5.le (by omega), ys ++ [chD r3], by simp, by simp [hl], ?_, ?_⟩
    · intro y hy
      rcases List.mem_append.mp hy with hy | hy
      · exact h3 y hy
      · simp at hy; rw [hy]; rfl
    · intro y hy
      rcases List.mem_append.mp hy with hy | hy
      · exact h4 y hy
      · simp at hy; rw [hy]; exact ⟨chD_ok hr3, abcT_ch hr3⟩
  · rintro ds s2 ⟨f2, h2, ys, rfl, hl, h3, h4⟩
    simp only [List.length_map, List.length_range] at hl h2 ⊢
    refine ⟨by omega, ?_⟩
    have ej : tJoin [.str (Str.ofString ""), .loc s2.length] (s2 ++ [.lst (ys.map Dv.str)]) = .ok (.str (Str.join (Str.ofString "") ys)) (s2 ++ [.lst (ys.map Dv.str)]) := by
      show (match Dv.str (Str.ofString ""), (seqOf (.loc s2.length) (s2 ++ [.lst (ys.map Dv.str)])).bind strsQ with | .str z, some ys => _ | _, _ => _) = _
      rw [seqOf_lst (l := ys.map Dv.str) (by simp), Option.bind_some, strsQ_map]
      refine if_pos ?_
      have : (ys.map (·.length)).sum = ys.length := by
        clear hl h4
        induction ys with
        | nil => rfl
        | cons a r ih => rw [List.map_cons, List.sum_cons, ih fun y hy => h3 y (by simp [hy]), h3 a (by simp), List.length_cons]; omega
      have e0 : (Str.ofString "").length = 0 := rfl
      rw [this, e0]; omega
    rw [ej]
    have h2' : PenR p w (c + 1 + k) (s2 ++ [.lst (ys.map Dv.str)]) := h2.fr0 .app
    simp only [to_ok]
    refine gdraw_ok (many := 26) h2' (by decide) (by decide) (by omega) fun s3 r3 f3 h5 hr3 => ?_
    simp only [List.set_cons_succ, List.set_cons_zero, w_ret, w_lc, w_irng1, vS, v0, to_ok, toI_int, wipeS, wipe0]
    have hm3 : many < 2 ^ 24 := by omega
    refine ⟨r62 (by omega), ?_⟩
    rw [Int.toNat_natCast, rng0]
    have hjl : (Str.join (Str.ofString "") ys).length = ys.length := join_len (k := 0) h3
    refine lc_pure (List.range many) nD (fun _ => true) (fun k => .str (Str.join (Str.ofString "") ys ++ chD ((r3 + 7 * k) % 26))) trivial ?_ ?_
    · intro k hk
      simp only [w_gN, w_tyes, w_op, vS, v0, to_ok, mC_eq, List.set_cons_succ, List.set_cons_zero, nD]
      have hk2 : k < 2 ^ 20 := by have := List.mem_range.mp hk; omega
      rw [oMul_int (by
        have := log2_le (i := (k : Int)) (n := 2 ^ 20) (k := 21) (by omega) (by decide)
        have : (7 : Int).natAbs.log2 ≤ 3 := log2_le (n := 7) (by decide) (by decide)
        omega)]
      simp only [to_ok, oAdd_int]
      rw [oMod_int (by decide)]
      simp only [to_ok]
      have e : ((r3 : Int) + 7 * (k : Int)) % 26 = ((r3 + 7 * k) % 26 : Nat) := by omega
      rw [e, show Str.ofString "abcdefghijklmnopqrstuvwxyz" = abcS from rfl]
      rw [show oGet (.str abcS) (.int ((r3 + 7 * k) % 26 : Nat)) s3 = .ok (.str (chD ((r3 + 7 * k) % 26))) s3 from abc_at (Nat.mod_lt _ (by decide))]
      simp only [to_ok]
      rw [oAdd_str (by rw [hjl]; have : (chD ((r3 + 7 * k) % 26)).length = 1 := rfl; omega)]
      exact ⟨trivial, fun _ => ⟨rfl, rfl⟩, fun _ => trivial⟩
    · rw [List.length_map, List.length_range]
      refine ⟨by omega, ?_⟩
      have F : Fr [p, w] s (s3 ++ [.lst ((List.map (fun k => Dv.str (Str.join (Str.ofString "") ys ++ chD ((r3 + 7 * k) % 26))) (List.filter (fun _ => true) (List.range many))))]) := f2.trans ((Fr.app (t := [.lst (ys.map Dv.str)])).trans (f3.trans .app))
      refine q _ _ ((List.range many).map fun k => Str.join (Str.ofString "") ys ++ chD ((r3 + 7 * k) % 26)) F ((h5.fr0 .app).le (by omega)) ?_ ?_ (by simp) ?_ signs_nd ?_
      · have := f2.1
        have := f3.1
        simp at this
        omega
      · rw [List.filter_eq_self.mpr fun _ _ => rfl]; simp
      · intro x hx
        obtain ⟨k, hk, e⟩ := List.mem_map.mp hx
        rw [← e]
        exact strOk_app (strOk_join fun y hy => (h4 y hy).1) (chD_ok (Nat.mod_lt _ (by decide)))
      · intro x hx
        obtain ⟨k, hk, rfl⟩ := List.mem_map.mp hx
        have e1 : (Str.join (Str.ofString "") ys ++ chD ((r3 + 7 * k) % 26)).length = ys.length + 1 := by show (Array.size _) = _; rw [show (Str.join (Str.ofString "") ys ++ chD ((r3 + 7 * k) % 26)).cps = (Str.join (Str.ofString "") ys).cps ++ (chD ((r3 + 7 * k) % 26)).cps from rfl, Array.size_append, show (Str.join (Str.ofString "") ys).cps.size = ys.length from hjl]; rfl
        exact ⟨by omega, by omega, abcT_app (abcT_join fun y hy => (h4 y hy).2) (abcT_ch (Nat.mod_lt _ (by decide)))⟩
end
end Mid
namespace Mid
open PySem
noncomputable section
variable {M : Mach} {s s' : Mst} {Q : Dv → Mst → Prop} {p w c : Nat}
def optD : Option Nat → Dv
  | some k => nD k
  | none => .non
theorem rm_of {k : Nat} (hk : k < M.length) : ∃ r, (M.map roomD)[k]? = some (roomD r) ∧ r ∈ M ∧ r.2 = stepsOf M k ∧ r.1 = endB M k := by
  refine ⟨M[k], by rw [List.getElem?_map, List.getElem?_eq_getElem hk]; rfl, List.getElem_mem hk, (steps_of (List.getElem?_eq_getElem hk)).symm, ?_⟩
  unfold endB; rw [List.getElem?_eq_getElem hk]
theorem goal_le {m : List (Str × Nat)} {x : Str} : (goalV m x).length ≤ m.length := by
  unfold goalV; rw [List.length_map]; exact List.length_filter_le _ _
theorem gstep_ok {k ns no : Nat} {sg : List Str} {o : List Nat} {x : Str} (hk : k < M.length) (so : Sok M) (hsl : ∀ r ∈ M, r.2.length < 60) (hx : PyData.strOk x = true) (hsg : ∀ y ∈ sg, PyData.strOk y = true) (h1 : s[ns]? = some (.lst (sg.map Dv.str))) (h2 : s[no]? = some (.lst (o.map nD)))
    (q : ∀ s', Fr [] s s' → Q (optD (stepL M sg o k x)) s') : (f_law_gstep [mD M, .loc ns, .loc no, nD k, .str x] s).to Q := by
  obtain ⟨r, hr1, hr2, hr3, hr4⟩ := rm_of hk
  unfold f_law_gstep
  refine fun_at [some (mD M), some (.loc ns), some (.loc no), some (nD k), some (.str x), none] rfl rfl ?_
  unfold m_law_gstep
  simp only [w_seq, w_set, w_op, w_call, w_argsS, w_args0, w_noE, vS, v0, mC_eq, to_ok, mD]
  have eg : ∀ s, oGet (.tup (M.map roomD)) (nD k) s = .ok (roomD r) s := fun s => oGet_tup hr1
  rw [eg]
  simp only [to_ok, roomD, oGet_tup1]
  change ((f_law_ggoal [tupsD r.2, .str x] s).to _)
  refine ggoal_ok (so r hr2) hx (by have := hsl r hr2; omega) fun d s1 f1 r1 => ?_
  obtain ⟨n1, rfl, _, e1⟩ := nl_iff.mp r1
  rw [hr3] at e1
  simp only [List.set_cons_succ, List.set_cons_zero, w_if, w_tor, w_tand, w_tval, w_op, w_lst, w_argsS, w_args0, vS, v0, mC_eq, to_ok]
  have e2 := look_app (t := [MO.lst []]) e1
  rw [oEq_enc NL (P := noP) (P' := noP) (a := goalV (stepsOf M k) x) (b := []) (nl_iff.mpr ⟨n1, rfl, id, e2⟩) (nl_iff.mpr ⟨_, rfl, id, by simp⟩) (by decide)]
  have F2 : Fr [] s (s1 ++ [MO.lst []]) := f1.trans .app
  have h12 := F2.get h1 (by simp)
  have h22 := F2.get h2 (by simp)
  generalize s1 ++ [MO.lst []] = s2 at F2 e2 h12 h22 ⊢
  simp only [to_ok, toB_bl]
  unfold stepL at q
  cases hg : goalV (stepsOf M k) x with
  | nil =>
    rw [hg] at q
    simp only [decide_true, if_true, w_ret, mC_eq, to_ok]
    exact q _ F2
  | cons t ts =>
    rw [hg] at q e2
    have ge : ∀ {t0 : Mst}, t0[n1]? = some (.lst ((t :: ts).map nD)) → oGet (.loc n1) (.int 0) t0 = .ok (nD t) t0 := fun h => oGet_lst (b := 0) h rfl
    rw [show decide (t :: ts = ([] : List Nat)) = false from rfl]
    simp only [Bool.false_eq_true, if_false, ge e2, to_ok, oNotIn_nat h22, toB_bl]
    simp only [List.head?_cons] at q
    by_cases ht : t ∈ o
    · rw [show (!decide (t ∈ o)) = false by simp [ht]]
      simp only [Bool.false_eq_true, if_false, eg, to_ok, roomD, oGet_tup0, toB_bl]
      by_cases he : endB M k = true
      · rw [hr4, he]
        simp only [if_true]
        rw [oIn_enc Enc.str (P := noP) (P' := noP) (a := x) (l := sg) ⟨rfl, hx⟩ (sl_rep id h12 hsg) (by decide)]
        simp only [to_ok, toB_bl]
        by_cases hxs : x ∈ sg
        · rw [decide_eq_true hxs]
          simp only [if_true, w_ret, mC_eq, to_ok]
          rw [if_neg fun z => z.2 ⟨he, hxs⟩] at q
          exact q _ F2
        · rw [decide_eq_false hxs]
          simp only [Bool.false_eq_true, if_false, w_nx, w_ret, w_op, vS, v0, mC_eq, to_ok, ge e2]
          rw [if_pos ⟨ht, fun z => hxs z.2⟩] at q
          exact q _ F2
      · rw [hr4, show endB M k = false by simpa using he]
        simp only [Bool.false_eq_true, if_false, w_nx, w_ret, w_op, vS, v0, mC_eq, to_ok, ge e2]
        rw [if_pos ⟨ht, fun z => he z.1⟩] at q
        exact q _ F2
    · rw [show (!decide (t ∈ o)) = true by simp [ht]]
      simp only [if_true, w_ret, mC_eq, to_ok]
      rw [if_neg fun z => ht z.1] at q
      exact q _ F2
theorem stepL_lt (wf : Wf M) {k t : Nat} {x : Str} {sg : List Str} {o : List Nat} (h : stepL M sg o k x = some t) : t < M.length := by
  unfold stepL at h
  split at h
  · rename_i u hu
    split at h
    · rw [← Option.some.inj h]; exact goal_lt wf hu
    · cases h
  · cases h
theorem gends_so_ok {k ns no : Nat} {sg : List Str} {o : List Nat} {row : List Str} (wf : Wf M) (hk : k < M.length) (so : Sok M) (hsl : ∀ r ∈ M, r.2.length < 60) (hM : M.length ≤ 1000) (hne : endsOf M ≠ []) (hx : ∀ x ∈ row, PyData.strOk x = true) (hsg : ∀ y ∈ sg, PyData.strOk y = true) (h1 : s[ns]? = some (.lst (sg.map Dv.str))) (h2 : s[no]? = some (.lst (o.map nD))) (ho : ∀ k ∈ o, k < M.length) (hol : o.length < 2 ^ 24)
    (q : ∀ s', Fr [] s s' → Q (.bl (endsL (o.filter (gateB (cutM M) o)) (walkL M sg o (some k) row))) s') : (f_law_gends_so [mD M, .loc ns, .loc no, nD k, .tup (row.map .str)] s).to Q := by
  have sm : Sml M := fun r hr => by have := hsl r hr; omega
  unfold f_law_gends_so
  refine fun_at [some (mD M), some (.loc ns), some (.loc no), some (nD k), some (.tup (row.map .str)), none] rfl rfl ?_
  unfold m_law_gends_so
  simp only [w_seq, w_for, w_iseq, vS, v0, to_ok, itSeq_tup]
  refine for_map row Dv.str (fun i σ s' => ∃ ko y5, σ = [some (mD M), some (.loc ns), some (.loc no), some (optD ko), some (.tup (row.map .str)), y5] ∧ Fr [] s s' ∧ (∀ t, ko = some t → t < M.length) ∧ walkL M sg o (some k) row = walkL M sg o ko (row.drop i)) ⟨some k, none, rfl, .refl, fun t e => by cases e; exact hk, rfl⟩ (fun _ _ _ _ => trivial) ?_ ?_
  · rintro i x σ s1 hx' ⟨ko, y5, rfl, f1, hko, e⟩
    have hd : row.drop i = x :: row.drop (i + 1) := by
      obtain ⟨hi, rfl⟩ := List.getElem?_eq_some_iff.mp hx'
      exact List.drop_eq_getElem_cons hi
    rw [hd] at e
    have e' : walkL M sg o (some k) row = walkL M sg o (ko.bind fun k => stepL M sg o k x) (row.drop (i + 1)) := e
    simp only [w_gN, List.set_cons_succ, List.set_cons_zero, w_if, w_tval, w_op, vS, v0, mC_eq, to_ok, oNotN_non, toB_bl]
    cases ko with
    | none =>
      simp only [optD, isNonQ_non, Bool.not_true, Bool.false_eq_true, if_false, w_nx]
      exact ⟨none, _, rfl, f1, (fun t e => by cases e), e'⟩
    | some t =>
      simp only [optD, nD, isNonQ_int, Bool.not_false, if_true, w_set, w_call, w_argsS, w_args0, w_noE, vS, v0, to_ok]
      change ((f_law_gstep [mD M, .loc ns, .loc no, nD t, .str x] s1).to _)
      refine gstep_ok (hko t rfl) so hsl (hx x (List.mem_of_getElem? hx')) hsg (f1.get h1 (by simp)) (f1.get h2 (by simp)) fun s2 f2 => ?_
      simp only [List.set_cons_succ, List.set_cons_zero]
      exact ⟨stepL M sg o t x, _, rfl, f1.trans f2, fun u e => stepL_lt wf e, e'⟩
  · rintro σ s1 ⟨ko, y5, rfl, f1, hko, e⟩
    rw [List.drop_length] at e
    have e' : walkL M sg o (some k) row = ko := e
    rw [e'] at q
    simp only [w_ret, w_and, w_tval, w_op, vS, v0, mC_eq, to_ok, oNotN_non, toB_bl]
    cases ko with
    | none =>
      simp only [optD, isNonQ_non, Bool.not_true, Bool.false_eq_true, if_false]
      exact q _ f1
    | some t =>
      simp only [optD, nD, isNonQ_int, Bool.not_false, if_true, w_op, w_call, w_argsS, w_args0, w_noE, vS, v0, to_ok]
      refine cut_gates_ok (f1.get h2 (by simp)) ho so sm hM hne hol fun d s2 f2 r2 => ?_
      obtain ⟨n2, rfl, _, e2⟩ := nl_iff.mp r2
      rw [show oIn (.int (t : Int)) (.loc n2) s2 = .ok (.bl (decide (t ∈ o.filter (gateB (cutM M) o)))) s2 from oIn_nat e2]
      simp only [to_ok]
      exact q _ (f1.trans f2)
/-- a row, drawn -/
theorem grow_ok {k n : Nat} {sg : List Str} (h : PenR p w c s) (wf : Wf M) (hk : k < M.length) (so : Sok M) (hsl : ∀ r ∈ M, r.2.length < 60) (hs : s[n]? = some (.lst (sg.map Dv.str))) (hn : n ≠ p ∧ n ≠ w) (hsg : ∀ y ∈ sg, PyData.strOk y = true) (hl0 : 0 < sg.length) (hl1 : sg.length < 100) (hc : c < 10 ^ 8)
    (q : ∀ (s' : Mst) (row : List Str), Fr [p, w] s s' → PenR p w (c + 20) s' → row.length ≤ 5 → (∀ x ∈ row, PyData.strOk x = true) → Q (.tup (row.map .str)) s') : (f_law_grow [.loc p, mD M, .loc n, nD k] s).to Q := by
  unfold f_law_grow
  refine fun_at [some (.loc p), some (mD M), some (.loc n), some (nD k), none, none, none, none] rfl rfl ?_
  unfold m_law_grow
  simp only [w_seq, w_set, w_tup, w_for, w_irng1, w_call, w_argsS, w_args0, w_noE, vS, v0, mC_eq, to_ok, List.set_cons_succ, List.set_cons_zero]
  refine gdraw_ok (many := 6) h (by decide) (by decide) (by omega) fun s1 r1 f1 h1 hr1 => ?_
  simp only [nD, toI_int]
  refine ⟨r62 (by omega), ?_⟩
  rw [Int.toNat_natCast, rng0]
  refine for_map (List.range r1) nD (fun i σ s' => ∃ k row y5 y6 y7, σ = [some (.loc p), some (mD M), some (.loc n), some (nD k), some (.tup (row.map .str)), y5, y6, y7] ∧ k < M.length ∧ Fr [p, w] s s' ∧ PenR p w (c + 1 + 3 * i) s' ∧ row.length = i ∧ ∀ x ∈ row, PyData.strOk x = true)
    ⟨k, [], _, _, _, rfl, hk, f1, h1, rfl, fun _ h => by cases h⟩ (fun _ _ _ _ => trivial) ?_ ?_
  · rintro i a σ s2 ha ⟨k, row, y5, y6, y7, rfl, hk, f2, h2, hrl, hro⟩
    obtain ⟨rfl, ha⟩ := range_at ha
    obtain ⟨r, hq1, hq2, hq3, hq4⟩ := rm_of hk
    have hs2 := f2.get hs (by simp; omega)
    simp only [w_gN, List.set_cons_succ, List.set_cons_zero, w_seq, w_set, w_op, w_call, w_argsS, w_args0, w_noE, vS, v0, mC_eq, to_ok, bLen_seq (seqOf_lst hs2), List.length_map]
    refine gdraw_ok (many := sg.length) h2 hl0 (by omega) (by omega) fun s3 r3 f3 h3 hr3 => ?_
    have F3 := f2.trans f3
    have hs3 := F3.get hs (by simp; omega)
    rw [show oGet (.loc n) (nD r3) s3 = .ok (.str sg[r3]) s3 from oGet_lst (b := r3) hs3 (by rw [List.getElem?_map, List.getElem?_eq_getElem hr3]; rfl)]
    have eg : ∀ s, oGet (mD M) (nD k) s = .ok (roomD r) s := fun s => oGet_tup hq1
    simp only [to_ok, List.set_cons_succ, List.set_cons_zero, eg, roomD, oGet_tup1, w_if, w_tand, w_tval, w_op, w_tup, w_argsS, w_args0, vS, v0, mC_eq]
    rw [show oNe (.tup (r.2.map stepD)) (.tup []) s3 = .ok (.bl (!decide (r.2 = []))) s3 from oNe_enc (Enc.tupOf STE) (P := noP) (P' := noP) (a := r.2) (b := []) (tups_rep (so r hq2)) ⟨_, rfl, .nil⟩ (by decide)]
    simp only [to_ok, toB_bl]
    have fin : ∀ (k' : Nat) (x : Str) (y7 : Option Dv) (s4 : Mst), k' < M.length → PyData.strOk x = true → Fr [p, w] s s4 → PenR p w (c + 1 + 3 * (a + 1)) s4 →
        (oAdd (.tup (row.map .str)) (.tup [.str x]) s4).to fun d s' => ∃ (k_1 : Nat) (row_1 : List Str) (y5 y6 y7_1 : Option Dv), [some (Dv.loc p), some (mD M), some (Dv.loc n), some (nD k'), some d, some (nD a), some (Dv.str x), y7] = [some (.loc p), some (mD M), some (.loc n), some (nD k_1), some (.tup (row_1.map Dv.str)), y5, y6, y7_1] ∧ k_1 < M.length ∧ Fr [p, w] s s' ∧ PenR p w (c + 1 + 3 * (a + 1)) s' ∧ row_1.length = a + 1 ∧ ∀ x ∈ row_1, PyData.strOk x = true := fun k' x y7 s4 hk' hxo F4 h4 => by
      rw [oAdd_tup (by rw [List.length_map]; simp; omega), to_ok]
      refine ⟨k', row ++ [x], _, _, _, by rw [List.map_append]; rfl, hk', F4, h4, by rw [List.length_append, hrl]; rfl, fun y hy => ?_⟩
      rcases List.mem_append.mp hy with hy | hy
      · exact hro y hy
      · rw [List.mem_singleton] at hy; rw [hy]; exact hxo
    have hx0 : PyData.strOk sg[r3] = true := hsg _ (List.getElem_mem hr3)
    by_cases hst : r.2 = []
    · rw [hst]
      simp only [decide_true, Bool.not_true, Bool.false_eq_true, if_false, w_nx, w_set, w_op, w_tup, w_argsS, w_args0, vS, v0, to_ok, List.set_cons_succ, List.set_cons_zero]
      exact fin k _ _ _ hk hx0 F3 (h3.le (by omega))
    · rw [show decide (r.2 = []) = false from decide_eq_false hst]
      simp only [Bool.not_false, if_true, w_op, w_call, w_argsS, w_args0, w_noE, vS, v0, mC_eq, to_ok]
      refine gdraw_ok (many := 4) h3 (by decide) (by decide) (by omega) fun s4 r4 f4 h4 hr4 => ?_
      simp only [nD, oGt_int, to_ok, toB_bl]
      by_cases h40 : (0 : Int) < (r4 : Int)
      · rw [decide_eq_true h40]
        have hpos : 0 < r.2.length := List.length_pos_iff.mpr hst
        simp only [if_true, w_asg, w_op, w_call, w_argsS, w_args0, w_noE, vS, v0, to_ok, bLen_seq seqOf_tup, List.length_map]
        refine gdraw_ok (many := r.2.length) h4 hpos (by have := hsl r hq2; omega) (by omega) fun s5 r5 f5 h5 hr5 => ?_
        rw [show oGet (.tup (r.2.map stepD)) (nD r5) s5 = .ok (stepD r.2[r5]) s5 from oGet_tup (b := r5) (by rw [List.getElem?_map, List.getElem?_eq_getElem hr5]; rfl)]
        have hm5 : r.2[r5] ∈ r.2 := List.getElem_mem hr5
        have hm6 : r.2[r5] ∈ stepsOf M k := by rw [← hq3]; exact hm5
        simp only [to_ok, stepD, w_gT, w_gES, w_gE0, w_gN, List.length_cons, List.length_nil, true_and, List.set_cons_succ, List.set_cons_zero, w_set, w_op, w_tup, w_argsS, w_args0, vS, v0]
        exact fin _ _ _ _ (steps_lt wf hm6) (so r hq2 _ hm5) ((F3.trans f4).trans f5) (h5.le (by omega))
      · rw [decide_eq_false h40]
        simp only [Bool.false_eq_true, if_false, w_nx, w_set, w_op, w_tup, w_argsS, w_args0, vS, v0, to_ok, List.set_cons_succ, List.set_cons_zero]
        exact fin k _ _ _ hk hx0 (F3.trans f4) (h4.le (by omega))
  · rintro σ s2 ⟨k, row, y5, y6, y7, rfl, hk, f2, h2, hrl, hro⟩
    rw [List.length_range] at hrl h2
    simp only [w_ret, vS, v0, to_ok]
    exact q _ row f2 (h2.le (by omega)) (by omega) hro
end
end Mid
namespace Mid
open PySem
noncomputable section
variable {M : Mach} {s s' : Mst} {Q : Dv → Mst → Prop} {p w c : Nat}
theorem oNotN_bl {a b : Bool} : oNotN (.bl a) (.bl b) s = .ok (.bl (!decide (a = b))) s := rfl
theorem cut_one {α : Type} (x : α) (r : List α) : cutQ (x :: r) (some 1) none = r := by
  unfold cutQ sIxQ
  rw [List.length_cons]
  simp
structure RM (xs : List Str) (M : Mach) : Prop where
  wf : Wf M
  so : Sok M
  sr : Srt M
  sl : ∀ r ∈ M, r.2.length < 60
  sx : ∀ r ∈ M, ∀ p ∈ r.2, p.1 ∈ xs
  le : M.length ≤ 9
  ends : endsOf M ≠ []
  lv : LivesAll M
  lx : xs.length ≤ 6
  sg : ∀ x ∈ xs, isSg x
theorem steady_so (so : Sok M) (hne : endsOf M ≠ []) : ∀ x ∈ steadyV M, PyData.strOk x = true := fun x hx => by
  unfold steadyV at hx
  obtain ⟨a, ha, rfl⟩ := List.mem_map.mp hx
  have h1 := steadyP_in ha
  cases q : endsOf M with
  | nil => exact absurd q hne
  | cons l r =>
    have h2 := h1 l (by rw [q]; simp)
    obtain ⟨r', hr', el⟩ := ends_sub (M := M) (m := l) (by rw [q]; simp)
    exact so r' hr' a (by rw [← el]; exact h2)
/-- what a part is, as a machine -/
theorem part_is {xs : List Str} {k : Nat} {f : Nat → Nat} {r : Mach} (R : RM xs M) (hk : k < M.length) (st : Stb (partP M k) f) (nu : IsNum (partP M k) (cn f) r) :
    Wf r ∧ 0 < r.length ∧ Srt r ∧ ∀ (s : Mst) (Q : Dv → Mst → Prop), (∀ s', Fr [] s s' → Q (.bl true) s') → (f_is_machine [mD r] s).to Q := by
  have wfP : Wf (partP M k) := part_wf
  have h0P : 0 < (partP M k).length := by rw [part_len]; exact Nat.succ_pos _
  have hk' : k < (cutM M).length := by rw [cut_len]; exact hk
  have slC : ∀ r ∈ cutM M, r.2.length < 60 := fun r hr => by
    obtain ⟨r0, h0, _, h2⟩ := cut_mem hr
    have := R.sl r0 h0
    have := h2.length_le
    omega
  have lenP : (partP M k).length ≤ 10 := by
    rw [part_len]
    have oln : (orbitOf (cutM M) k).length ≤ (cutM M).length := nodup_len orbit_nd fun y hy => (mem_orbit.mp hy).1
    have := List.length_filter_le (fun x => !decide (x = k)) (orbitOf (cutM M) k)
    have hle := R.le
    rw [cut_len] at oln
    unfold ordP
    rw [List.length_cons]; omega
  have soP : Sok (partP M k) := fun r hr p hp => by
    obtain ⟨j, hj⟩ := part_signs hr
    have h1 := hj.subset (List.mem_map.mpr ⟨p, hp, rfl⟩)
    obtain ⟨q, hq, e⟩ := List.mem_map.mp h1
    obtain ⟨r0, h0, e0⟩ := steps_mem (C := cutM M) (j := j) fun z => by rw [z] at hq; cases hq
    rw [← e]
    rw [e0] at hq
    exact cut_sok R.so r0 h0 q hq
  obtain ⟨O, N⟩ := num_of wfP h0P nu
  obtain ⟨soR, okR⟩ := num_ok wfP h0P (by omega) soP (part_sl slC (by decide)) nu
  have srR := N.srt (part_srt (cut_srt R.sr))
  obtain ⟨_, lv⟩ := part_all (gs := gatesP (cutM M) k) (cut_wf R.wf) hk' (gate_ex R.wf hk R.lv)
  have xsR := N.xs (xs := xs) (part_xs fun r hr p hp => by
    obtain ⟨r0, h0, _, h2⟩ := cut_mem hr
    exact R.sx r0 h0 p (h2.subset hp))
  have h0r : 0 < r.length := by rw [N.len]; exact N.pos
  refine ⟨N.wf, h0r, srR, fun s Q q => is_machine_ok (xs := xs) N.wf h0r (by have := N.le; omega) soR srR (fun a ha => ?_) (fun a ha p hp => R.sg _ (xsR a ha p hp)) xsR R.lx N.reach (N.lives wfP st lv) q⟩
  obtain ⟨x, g, rfl⟩ := N.row ha
  rw [List.length_map]
  by_cases h : stepsOf (partP M k) x = []
  · rw [h]; simp
  · obtain ⟨r0, h0, e⟩ := steps_mem h
    rw [e]; exact part_sl slC (by decide) r0 h0
theorem gpart_right_ok {xs sg : List Str} {k n no : Nat} (h : PenR p w c s) (R : RM xs M) (hk : k < M.length) (hs : s[n]? = some (.lst (sg.map Dv.str))) (hn : n ≠ p ∧ n ≠ w) (hsg : ∀ y ∈ sg, PyData.strOk y = true) (hl0 : 0 < sg.length) (hl1 : sg.length < 100)
    (ho : s[no]? = some (.lst ((orbitOf (cutM M) k).map nD))) (hno : no ≠ p ∧ no ≠ w) (hc : c < 10 ^ 6) (q : ∀ s', Fr [p, w] s s' → PenR p w (c + 100) s' → Q (.bl true) s') : (f_law_gpart_right [.loc p, mD M, .loc n, .loc no, nD k] s).to Q := by
  have sm : Sml M := fun r hr => by have := R.sl r hr; omega
  have hle := R.le
  have hlx := R.lx
  have hpl := h.lt
  have ol : (orbitOf (cutM M) k).length ≤ M.length := by
    have := nodup_len (orbit_nd (C := cutM M) (k := k)) fun y hy => (mem_orbit.mp hy).1
    rw [cut_len] at this; exact this
  have om : ∀ j ∈ orbitOf (cutM M) k, j < M.length := fun j hj => by
    have := (mem_orbit.mp hj).1
    rw [cut_len] at this; exact this
  unfold f_law_gpart_right
  refine fun_at [some (.loc p), some (mD M), some (.loc n), some (.loc no), some (nD k), none, none, none, none, none] rfl rfl ?_
  unfold m_law_gpart_right
  simp only [w_seq, w_set, w_call, w_argsS, w_args0, w_noE, vS, v0, to_ok]
  refine steady_ok R.so sm (by omega) R.ends fun n5 s1 f1 hn5 hs5 => ?_
  simp only [List.set_cons_succ, List.set_cons_zero, w_call, w_argsS, w_args0, w_noE, vS, v0, to_ok]
  refine part_of_ok R.wf R.so R.sr R.sl R.sx (by omega) (by omega) hk R.ends R.lv fun s2 f r f2 st co nu => ?_
  obtain ⟨wfr, h0r, srr, ism⟩ := part_is R hk st nu
  simp only [List.set_cons_succ, List.set_cons_zero, w_if, w_tval, w_op, w_call, w_argsS, w_args0, w_noE, vS, v0, to_ok, mC_eq]
  refine ism _ _ fun s3 f3 => ?_
  rw [oNotN_bl]
  simp only [to_ok, decide_true, Bool.not_true, toB_bl, Bool.false_eq_true, if_false, w_nx, w_for, w_irng1, mC_eq, toI_int]
  refine ⟨by decide, ?_⟩
  rw [show (4 : Int).toNat = 4 from rfl, rng0]
  have F3 : Fr [] s s3 := f1.trans (f2.trans f3)
  have h3 := h.fr0 F3
  have hs5' := (f2.trans f3).get hs5 (by simp)
  have hs3 := F3.get hs (by simp)
  have ho3 := F3.get ho (by simp)
  refine for_map (List.range 4) nD (fun i σ s' => ∃ y7 y8 y9, σ = [some (.loc p), some (mD M), some (.loc n), some (.loc no), some (nD k), some (.loc n5), some (mD r), y7, y8, y9] ∧ Fr [p, w] s3 s' ∧ PenR p w (c + 20 * i) s')
    ⟨_, _, _, rfl, .refl, h3⟩ (fun _ _ _ _ => trivial) ?_ ?_
  rotate_left
  · rintro σ t ⟨y7, y8, y9, rfl, g, ht⟩
    simp only [w_ret, mC_eq, to_ok]
    exact q _ ((F3.mono (by simp)).trans g) (ht.le (by simp))
  rintro i a σ t ha ⟨y7, y8, y9, rfl, g, ht⟩
  obtain ⟨rfl, ha⟩ := range_at ha
  simp only [w_gN, List.set_cons_succ, List.set_cons_zero, w_seq, w_set, w_call, w_argsS, w_args0, w_noE, vS, v0, to_ok]
  refine grow_ok ht R.wf hk R.so R.sl (g.get hs3 (by simp; omega)) hn hsg hl0 hl1 (by omega) fun t1 row g1 ht1 hrl hro => ?_
  have G1 := g.trans g1
  have e5 : ∀ {u : Mst}, Fr [] t1 u → u[n5]? = some (.lst ((steadyV M).map Dv.str)) := fun z => z.get (G1.get hs5' (by simp; omega)) (by simp)
  have eo : ∀ {u : Mst}, Fr [] t1 u → u[no]? = some (.lst ((orbitOf (cutM M) k).map nD)) := fun z => z.get (G1.get ho3 (by simp; omega)) (by simp)
  simp only [List.set_cons_succ, List.set_cons_zero, w_if, w_tnot, w_tval, w_call, w_argsS, w_args0, w_noE, vS, v0, to_ok]
  refine runs_ok wfr h0r srr (by omega) fun t2 g2 => ?_
  refine gends_so_ok R.wf hk R.so R.sl (by omega) R.ends hro (steady_so R.so R.ends) (e5 g2) (eo g2) om (by omega) fun t3 g3 => ?_
  rw [acc_at R.wf R.sr hk st nu row]
  refine same_bool 7 noP noP _ _ _ (endsL (gatesP (cutM M) k) (walkL M (steadyV M) (orbitOf (cutM M) k) (some k) row)) _ trivial rfl rfl fun t4 g4 => ?_
  have g14 : Fr [] t1 t4 := g2.trans (g3.trans g4)
  simp only [toB_bl, Bool.not_true, Bool.false_eq_true, if_false, w_nx, w_ife, w_tval, w_op, w_tup, w_argsS, w_args0, vS, v0, mC_eq, to_ok]
  rw [show oEq (.tup (row.map Dv.str)) (.tup []) t4 = .ok (.bl (decide (row = []))) t4 from oEq_enc (Enc.tupOf Enc.str) (P := noP) (P' := noP) (a := row) (b := []) ⟨_, rfl, str_all hro⟩ ⟨_, rfl, .nil⟩ (by decide)]
  simp only [to_ok, toB_bl]
  cases row with
  | nil =>
    simp only [decide_true, if_true, mC_eq, to_ok, List.set_cons_succ, List.set_cons_zero, w_if, w_tand, w_tval, w_op, vS, v0, oNotN_non, isNonQ_non, Bool.not_true, toB_bl, Bool.false_eq_true, if_false, w_nx]
    exact ⟨_, _, _, rfl, G1.trans (g14.mono (by simp)), (ht1.fr0 g14).le (by omega)⟩
  | cons x row =>
    rw [show decide (x :: row = ([] : List Str)) = false from rfl]
    simp only [Bool.false_eq_true, if_false, w_op, w_call, w_argsS, w_args0, w_noE, vS, v0, mC_eq, to_ok, List.map_cons, oGet_tup0]
    refine gstep_ok hk R.so R.sl (hro x (by simp)) (steady_so R.so R.ends) (e5 g14) (eo g14) fun t5 g5 => ?_
    simp only [List.set_cons_succ, List.set_cons_zero, w_if, w_tand, w_tval, w_op, vS, v0, mC_eq, to_ok, oNotN_non]
    cases hst : stepL M (steadyV M) (orbitOf (cutM M) k) k x with
    | none =>
      simp only [optD, isNonQ_non, Bool.not_true, toB_bl, Bool.false_eq_true, if_false, w_nx]
      have G := g14.trans g5
      exact ⟨_, _, _, rfl, G1.trans (G.mono (by simp)), (ht1.fr0 G).le (by omega)⟩
    | some t' =>
      have ht' := stepL_lt R.wf hst
      simp only [optD, nD, isNonQ_int, Bool.not_false, toB_bl, if_true, w_op, w_call, w_argsS, w_args0, w_noE, w_slice, w_poS, w_poN, vS, v0, mC_eq, to_ok, toI_int]
      change ((f_part_of [mD M, nD t'] t5).to _)
      refine part_of_ok R.wf R.so R.sr R.sl R.sx (by omega) (by omega) ht' R.ends R.lv fun t6 f' r' g6 st' co' nu' => ?_
      obtain ⟨wfr', h0r', srr', _⟩ := part_is R ht' st' nu'
      rw [show slQ (.tup (.str x :: row.map Dv.str)) (some 1) none t6 = .ok (.tup (row.map Dv.str)) t6 from by show Rm.ok (Dv.tup (cutQ _ _ _)) _ = _; rw [cut_one]]
      simp only [to_ok]
      refine runs_ok wfr' h0r' srr' (by simp at hrl; omega) fun t7 g7 => ?_
      try simp only [w_call, w_argsS, w_args0, w_noE, vS, v0, to_ok]
      change ((f_runs [mD r, .tup ((x :: row).map Dv.str)] t7).to _)
      refine runs_ok wfr h0r srr (by omega) fun t8 g8 => ?_
      rw [acc_next R.wf R.sr hk st nu st' nu' hst]
      simp only [oNe_bl, beq_self_eq_true, Bool.not_true, to_ok, toB_bl, Bool.false_eq_true, if_false, w_nx]
      have G := g14.trans (g5.trans (g6.trans (g7.trans g8)))
      exact ⟨_, _, _, rfl, G1.trans (G.mono (by simp)), (ht1.fr0 G).le (by omega)⟩
end
end Mid
namespace Mid
open PySem
noncomputable section
variable {s s' : Mst} {Q : Dv → Mst → Prop} {p w c : Nat}
theorem orb_in {M : Mach} {n : Nat} {o : List Nat} (h : o ∈ orbs M n) : o.length ≤ M.length ∧ (∀ k ∈ o, k < M.length) ∧ ∀ k ∈ o, o = orbitOf M k := by
  unfold orbs at h
  obtain ⟨k, _, rfl⟩ := List.mem_map.mp h
  exact ⟨Nat.le_trans (List.length_filter_le _ _) (by simp), fun j hj => (mem_orbit.mp hj).1, fun j hj => orbit_eq (mem_orbit.mp hj).2⟩
theorem orbs_le {M : Mach} (n : Nat) : (orbs M n).length ≤ n := by
  unfold orbs
  rw [List.length_map]
  have := List.length_filter_le (rootB M) (List.range n)
  rw [List.length_range] at this
  exact this
theorem law_ok (ns : List Int) (hl : ns.length ≤ 63) : (f_law [.clst (ns.map .int)] []).to fun d _ => d = .bl true := by
  unfold f_law
  refine fun_at [some (.clst (ns.map .int)), none, none, none, none, none, none] rfl rfl ?_
  unfold m_law
  simp only [w_seq, w_set, w_call, w_argsS, w_args0, vS, v0, to_ok, w_noE]
  refine gpen_ok (by omega) fun s0 p w f0 h0 hp0 hw0 => ?_
  simp only [List.set_cons_succ, List.set_cons_zero, w_for, w_irng1, mC_eq, to_ok, toI_int]
  refine ⟨by decide, ?_⟩
  rw [show (3 : Int).toNat = 3 from rfl, rng0]
  refine for_map (List.range 3) nD (fun i σ s' => ∃ x2 x3 x4 x5 x6, σ = [some (.clst (ns.map .int)), some (.loc p), x2, x3, x4, x5, x6] ∧ PenR p w (25 + 20000 * i) s')
    ⟨_, _, _, _, _, rfl, h0.le (by omega)⟩ (fun _ _ _ _ => trivial) ?_ ?_
  rotate_left
  · rintro σ s6 ⟨x2, x3, x4, x5, x6, rfl, h⟩
    simp only [w_ret, mC_eq, to_ok]
  rintro i a σ s6 ha ⟨x2, x3, x4, x5, x6, rfl, h⟩
  obtain ⟨rfl, ha⟩ := range_at ha
  simp only [w_gN, List.set_cons_succ, List.set_cons_zero, w_seq, w_set, w_call, w_argsS, w_args0, w_op, vS, v0, mC_eq, to_ok, w_noE]
  refine gdraw_ok (many := 3) h (by decide) (by decide) (by omega) fun s7 r7 f7 h7 hr7 => ?_
  simp only [nD, oAdd_int, to_ok]
  rw [show (1 : Int) + (r7 : Int) = ((1 + r7 : Nat) : Int) by omega]
  refine gsigns_sg_ok (many := 1 + r7) h7 (by omega) (by omega) (by omega) fun s8 n8 sg f8 h8 hn8 hs8 hsl hso hnd hisg => ?_
  have hnd := hnd (by omega)
  have h7l := h7.lt
  refine gmachine_ok (most := 7) h8 hs8 (by omega) (by omega) (by decide) (by decide) (by omega) fun s9 M1 M0 g od M f9 h9 hM0 wf0 hsg0 hM1 T => ?_
  have hG : GM (srtS sg) M := gm_of T (by
    rcases hM1 with rfl | rfl
    · exact hsg0
    · exact endIt_sgn hsg0) (by
    rcases hM1 with rfl | rfl
    · omega
    · rw [endIt_len]; omega)
  have hsl' : (srtS sg).length = sg.length := (srtS_perm sg).length_eq
  have so : Sok M := sgn_sok hG.sgn fun x hx => hso x ((srtS_perm sg).mem_iff.mp hx)
  have hle := hG.le
  have hsl6 : ∀ r ∈ M, r.2.length < 60 := fun r hr => by
    have := (hG.sgn r hr).length_le
    rw [List.length_map] at this
    omega
  have R : RM (srtS sg) M := ⟨hG.wf, so, srt_of hG.sgn hnd, hsl6, fun r hr p hp => (hG.sgn r hr).subset (List.mem_map.mpr ⟨p, hp, rfl⟩), hle, hG.ends, trm_lives T, by omega, fun x hx => hisg x ((srtS_perm sg).mem_iff.mp hx)⟩
  have sm : Sml M := fun r hr => by have := hsl6 r hr; omega
  simp only [w_for, w_iseq, w_call, w_argsS, w_args0, w_noE, vS, v0, to_ok, List.set_cons_succ, List.set_cons_zero]
  refine cut_orbits_ok hG.wf so sm (by omega) hG.ends fun d s10 f10 r10 => ?_
  obtain ⟨no, ds, rfl, hno, hds, hda⟩ := r10
  rw [itSeq_lst hds, to_ok]
  have hno : s9.length ≤ no := Nat.le_of_not_lt hno
  have hpl := h9.lt
  have hs10 := (f9.trans (f10.mono (by simp))).get hs8 (by simp; omega)
  have h10 := h9.fr0 f10
  have lds : ds.length ≤ 9 := by
    have a := hda.len
    have b := orbs_le (M := cutM M) M.length
    omega
  refine for_by (fun i σ s' => ∃ x5 x6, σ = [some (.clst (ns.map .int)), some (.loc p), some (.int (a : Int)), some (.loc n8), some (mD M), x5, x6] ∧ Fr [p, w] s10 s' ∧ PenR p w (25 + 20000 * a + 1 + 10 + 5000 + 1000 * i) s')
    ⟨_, _, rfl, .refl, h10⟩ (fun i σ s' ⟨_, _, _, g, _⟩ => ⟨g.get hds (by simp; omega), trivial⟩) ?_ ?_
  rotate_left
  · rintro σ t ⟨x5, x6, rfl, g, ht⟩
    have ht2 : PenR p w (25 + 20000 * a + 1 + 10 + 5000 + 1000 * ds.length) t := ht
    exact ⟨_, _, _, _, _, rfl, ht2.le (by omega)⟩
  rintro j d σ t hj ⟨x5, x6, rfl, g, ht⟩
  have hjl : j < ds.length := (List.getElem?_eq_some_iff.mp hj).1
  obtain ⟨o, ho, hro⟩ := hda.get hj
  obtain ⟨o1, o2, o3⟩ := orb_in (List.mem_of_getElem? ho)
  rw [cut_len] at o1 o2
  obtain ⟨n5, rfl, hn5, e5⟩ := nl_iff.mp hro
  have hn5 : s9.length ≤ n5 := Nat.le_of_not_lt hn5
  simp only [w_gN, List.set_cons_succ, List.set_cons_zero, w_if, w_tnot, w_tval, w_call, w_argsS, w_args0, w_lc, w_iseq, vS, v0, to_ok]
  have et : t[n5]? = some (.lst (o.map nD)) := g.get e5 (by simp; omega)
  rw [itSeq_lst et, to_ok]
  simp only [wipeS, wipe0, List.set_cons_succ, List.set_cons_zero]
  refine lc_by (fun i ds s' => Fr [p, w] t s' ∧ PenR p w (25 + 20000 * a + 1 + 10 + 5000 + 1000 * j + 100 * i) s' ∧ ds = (List.replicate i true).map Dv.bl)
    ⟨.refl, ht, rfl⟩ (fun i ds s' ⟨g', _, _⟩ => ⟨g'.get et (by simp; omega), trivial⟩) ?_ ?_
  · rintro i x ds s' hx ⟨g', ht', rfl⟩
    rw [List.getElem?_map] at hx
    cases hk : o[i]? with
    | none => rw [hk] at hx; cases hx
    | some k =>
      rw [hk] at hx; cases hx
      have hko := List.mem_of_getElem? hk
      have hil := (List.getElem?_eq_some_iff.mp hk).1
      simp only [w_gN, w_tyes, if_true, w_call, w_argsS, w_args0, w_noE, vS, v0, to_ok, List.set_cons_succ, List.set_cons_zero]
      have et' := g'.get et (by simp; omega)
      rw [o3 k hko] at et'
      refine gpart_right_ok ht' R (o2 k hko) (g'.get (g.get hs10 (by simp; omega)) (by simp; omega)) (by omega) hso (by omega) (by omega) et' (by omega) (by omega) fun s11 f11 h11 => ?_
      refine ⟨g'.trans f11, h11.le (by omega), ?_⟩
      rw [List.replicate_succ', List.map_append]; rfl
  · rintro ds s' ⟨g', ht', rfl⟩
    rw [List.length_map] at ht' ⊢
    refine ⟨by omega, ?_⟩
    rw [bAll_lst look_new0]
    simp only [to_ok, toB_bl]
    rw [show (List.replicate o.length true).all id = true from by rw [List.all_eq_true]; intro b hb; exact (List.mem_replicate.mp hb).2]
    simp only [Bool.not_true, Bool.false_eq_true, if_false, w_nx]
    exact ⟨_, _, rfl, (g.trans g').trans .app, (ht'.fr0 .app).le (by omega)⟩
theorem law_true (ns : List Int) (hl : ns.length ≤ 63) (hb : ∀ z ∈ ns, PySem.Builtin.Int.intBits z ≤ 1048576) : ∃ s, Mid.f_law [.clst (ns.map Mid.Dv.int)] [] = .ok (.bl true) s := by
  obtain ⟨d, s, e, rfl⟩ := to_ex (law_ok ns hl)
  exact ⟨s, e⟩
end
end Mid
open PySem PySem.W PyProof.Rows
set_option maxHeartbeats 0 in
theorem PySem.Challenge.cw_soleway_k83_whole_rows_of_parts_holds : PySem.Challenge.rw_soleway_k83_whole_rows_of_parts.Holds := by
  w_on; o_law; k_head; (case hw => w_witness2)
  k_fill
  refine L2.walk_ofB (l := PySem.Challenge.rw_soleway_k83_whole_rows_of_parts) (n := 63) (k := 10) (x := "script") (CX := fun _ => L2.CX0) (sp := fun w => Mid.spFX _ w 1 Mid.f_law) rfl (by decide) rfl ⟨rfl, by decide, by decide⟩ (fun w h Y => PySem.W.kIn_of Y) ?F (fun w H a ns hl hb hO hS at' => Mid.law_end hO hS (Mid.law_true ns hl hb)) (fun _ _ _ _ _ h => h)
  case F =>
    intro w mg fa h KX G hmg
    refine' Mid.Tk83.all_ok KX G hmg ?aC0 ?pg0 ?hd0 ?po0 ?sa0 ?mk0 ?kc0 ?n0_comers ?n0_heap_of ?n0_heaps ?n0_knives ?n0_words ?a0 ?l0 ?c0 ?k0 ?a1 ?l1 ?c1 ?k1 ?a2 ?l2 ?c2 ?k2 ?a3 ?l3 ?c3 ?k3 ?a4 ?l4 ?c4 ?k4 ?a5 ?l5 ?c5 ?k5 ?a6 ?l6 ?c6 ?k6 ?a7 ?l7 ?c7 ?k7 ?a8 ?i8 ?l8 ?c8 ?k8 ?a9 ?i9 ?l9 ?c9 ?k9 ?a10 ?i10 ?l10 ?c10 ?k10 ?a11 ?i11 ?l11 ?c11 ?k11 ?a12 ?l12 ?c12 ?k12 ?a13 ?l13 ?c13 ?k13 ?a14 ?l14 ?c14 ?k14 ?a15 ?l15 ?c15 ?k15 ?a16 ?l16 ?c16 ?k16 ?a17 ?l17 ?c17 ?k17 ?a18 ?l18 ?c18 ?k18 ?a19 ?l19 ?c19 ?k19 ?a20 ?l20 ?c20 ?k20 ?a21 ?l21 ?c21 ?k21 ?a22 ?l22 ?c22 ?k22 ?a23 ?l23 ?c23 ?k23 ?a24 ?l24 ?c24 ?k24 ?a25 ?l25 ?c25 ?k25 ?a26 ?l26 ?c26 ?k26 ?a27 ?l27 ?c27 ?k27 ?a28 ?l28 ?c28 ?k28 ?a29 ?l29 ?c29 ?k29 ?a30 ?l30 ?c30 ?k30 ?a31 ?l31 ?c31 ?k31 ?a32 ?l32 ?c32 ?k32 ?a33 ?l33 ?c33 ?k33 ?a34 ?l34 ?c34 ?k34 ?a35 ?l35 ?c35 ?k35 ?a36 ?l36 ?c36 ?k36 ?a37 ?l37 ?c37 ?k37 ?z_all ?z_any ?z_bool ?z_dict ?z_enumerate ?z_int ?z_isinstance ?z_len ?z_list ?z_range ?z_set ?z_sorted ?z_str ?z_tuple ?z_zip ?v_LONGEST_SIGN ?r_LONGEST_SIGN ?v_MOST_HELD ?r_MOST_HELD ?v_MOST_UNLIKE ?r_MOST_UNLIKE ?v_SMALL ?r_SMALL
    (case aC0 => k_is); (case pg0 => k_is); (case hd0 => k_is); (case po0 => k_is); (case sa0 => k_is); (case mk0 => k_is); (case kc0 => k_is); (case n0_comers => k_is); (case n0_heap_of => k_is); (case n0_heaps => k_is); (case n0_knives => k_is); (case n0_words => k_is); (case a0 => k_is); (case l0 => k_is); (case c0 => k_is); (case k0 => k_is); (case a1 => k_is); (case l1 => k_is); (case c1 => k_is); (case k1 => k_is); (case a2 => k_is); (case l2 => k_is); (case c2 => k_is); (case k2 => k_is); (case a3 => k_is); (case l3 => k_is); (case c3 => k_is); (case k3 => k_is); (case a4 => k_is); (case l4 => k_is); (case c4 => k_is); (case k4 => k_is); (case a5 => k_is); (case l5 => k_is); (case c5 => k_is); (case k5 => k_is); (case a6 => k_is); (case l6 => k_is); (case c6 => k_is); (case k6 => k_is); (case a7 => k_is); (case l7 => k_is); (case c7 => k_is); (case k7 => k_is); (case a8 => k_is); (case i8 => k_is); (case l8 => k_is); (case c8 => k_is); (case k8 => k_is); (case a9 => k_is); (case i9 => k_is); (case l9 => k_is); (case c9 => k_is); (case k9 => k_is); (case a10 => k_is); (case i10 => k_is); (case l10 => k_is); (case c10 => k_is); (case k10 => k_is); (case a11 => k_is); (case i11 => k_is); (case l11 => k_is); (case c11 => k_is); (case k11 => k_is); (case a12 => k_is); (case l12 => k_is); (case c12 => k_is); (case k12 => k_is); (case a13 => k_is); (case l13 => k_is); (case c13 => k_is); (case k13 => k_is); (case a14 => k_is); (case l14 => k_is); (case c14 => k_is); (case k14 => k_is); (case a15 => k_is); (case l15 => k_is); (case c15 => k_is); (case k15 => k_is); (case a16 => k_is); (case l16 => k_is); (case c16 => k_is); (case k16 => k_is); (case a17 => k_is); (case l17 => k_is); (case c17 => k_is); (case k17 => k_is); (case a18 => k_is); (case l18 => k_is); (case c18 => k_is); (case k18 => k_is); (case a19 => k_is); (case l19 => k_is); (case c19 => k_is); (case k19 => k_is); (case a20 => k_is); (case l20 => k_is); (case c20 => k_is); (case k20 => k_is); (case a21 => k_is); (case l21 => k_is); (case c21 => k_is); (case k21 => k_is); (case a22 => k_is); (case l22 => k_is); (case c22 => k_is); (case k22 => k_is); (case a23 => k_is); (case l23 => k_is); (case c23 => k_is); (case k23 => k_is); (case a24 => k_is); (case l24 => k_is); (case c24 => k_is); (case k24 => k_is); (case a25 => k_is); (case l25 => k_is); (case c25 => k_is); (case k25 => k_is); (case a26 => k_is); (case l26 => k_is); (case c26 => k_is); (case k26 => k_is); (case a27 => k_is); (case l27 => k_is); (case c27 => k_is); (case k27 => k_is); (case a28 => k_is); (case l28 => k_is); (case c28 => k_is); (case k28 => k_is); (case a29 => k_is); (case l29 => k_is); (case c29 => k_is); (case k29 => k_is); (case a30 => k_is); (case l30 => k_is); (case c30 => k_is); (case k30 => k_is); (case a31 => k_is); (case l31 => k_is); (case c31 => k_is); (case k31 => k_is); (case a32 => k_is); (case l32 => k_is); (case c32 => k_is); (case k32 => k_is); (case a33 => k_is); (case l33 => k_is); (case c33 => k_is); (case k33 => k_is); (case a34 => k_is); (case l34 => k_is); (case c34 => k_is); (case k34 => k_is); (case a35 => k_is); (case l35 => k_is); (case c35 => k_is); (case k35 => k_is); (case a36 => k_is); (case l36 => k_is); (case c36 => k_is); (case k36 => k_is); (case a37 => k_is); (case l37 => k_is); (case c37 => k_is); (case k37 => k_is); (case z_all => k_is); (case z_any => k_is); (case z_bool => k_is); (case z_dict => k_is); (case z_enumerate => k_is); (case z_int => k_is); (case z_isinstance => k_is); (case z_len => k_is); (case z_list => k_is); (case z_range => k_is); (case z_set => k_is); (case z_sorted => k_is); (case z_str => k_is); (case z_tuple => k_is); (case z_zip => k_is); (case v_LONGEST_SIGN => k_is); (case r_LONGEST_SIGN => exact ⟨_, rfl⟩); (case v_MOST_HELD => k_is); (case r_MOST_HELD => exact ⟨_, rfl⟩); (case v_MOST_UNLIKE => k_is); (case r_MOST_UNLIKE => exact ⟨_, rfl⟩); (case v_SMALL => k_is); (case r_SMALL => exact ⟨_, rfl⟩)
