import PyProof.Rows.All
import Wide.All
import OpenK.AllK
import Wide.FinOn
import PySem.Challenge.RW_soleway_k81_steady_signs_and_cuts
import PySem.Str
import PyProof.EqLayable
import PyProof.P3Statements
import HandS.ForMost
import HandS.ForExc
import HandS.Deep
import HandS.Wide
import HandS.TupAny
import HandS.TupLe
import HandS.IsInst
import HandS.SortInts
import HandS.Zip
import HandS.Conv
import HandS.SetFor
import HandS.EndBits
set_option Elab.async false
set_option linter.all false
set_option maxRecDepth 100000
/-! Mid0: a plain model of what the program's defs do: values as data, one list of things that change. -/
namespace Mid
open PySem Classical
noncomputable section

/-- a value: tuples by what they hold; a thing that changes by its number; fix: a def or a class by its number -/
inductive Dv where
  | non | bl (b : Bool) | int (i : Int) | str (x : Str) | tup (l : List Dv) | clst (l : List Dv) | loc (n : Nat) | fix (n : Nat) | ty (n : String)

/-- a thing that changes -/
inductive MO where
  | lst (l : List Dv) | dK (kvs : List (Sum Int Str × Dv)) | dT (kvs : List (List (Sum Int Str) × Dv)) | ins (C : Nat) (fs : List (Str × Dv))
abbrev Mst := List MO
abbrev Men := List (Option Dv)

/-- an exception: its class by number, its fields -/
structure Xv where
  cls : Nat
  fs : Option (List (Str × Dv))

inductive Rm (α : Type) where
  | ok (a : α) (s : Mst) | er (e : Xv) (s : Mst) | bad
def Rm.bind {α β : Type} (r : Rm α) (f : α → Mst → Rm β) : Rm β := match r with
  | .ok a s => f a s
  | .er e s => .er e s
  | .bad => .bad
@[simp] theorem Rm.bind_ok {α β : Type} (a : α) (s : Mst) (f : α → Mst → Rm β) : (Rm.ok a s).bind f = f a s := rfl
@[simp] theorem Rm.bind_bad {α β : Type} (f : α → Mst → Rm β) : (Rm.bad : Rm α).bind f = .bad := rfl
@[simp] theorem Rm.bind_er {α β : Type} (e : Xv) (s : Mst) (f : α → Mst → Rm β) : (Rm.er e s : Rm α).bind f = .er e s := rfl

/-- where an exception may not leave -/
def Rm.noEr {α : Type} (r : Rm α) : Rm α := match r with
  | .er _ _ => .bad
  | r => r
@[simp] theorem Rm.noEr_ok {α : Type} (a : α) (s : Mst) : (Rm.ok a s).noEr = .ok a s := rfl
@[simp] theorem Rm.noEr_bad {α : Type} : (Rm.bad : Rm α).noEr = .bad := rfl
abbrev ME := Men → Mst → Rm Dv
abbrev MT := Men → Mst → Rm Bool
abbrev MA := Men → Mst → Rm (List Dv)
/-- a def: from its arguments -/
abbrev MF := List Dv → Mst → Rm Dv
inductive Sm where
  | nx (σ : Men) (s : Mst) | rt (d : Dv) (s : Mst) | bk (σ : Men) (s : Mst) | ct (σ : Men) (s : Mst) | er (e : Xv) (σ : Men) (s : Mst) | bad
abbrev MS := Men → Mst → Sm
abbrev MG := Dv → Men → Mst → Rm Men

/-! ### expressions -/
def mVar (i : Nat) : ME := fun σ s => match σ[i]? with
  | some (some d) => .ok d s
  | _ => .bad
def mC (d : Dv) : ME := fun _ s => .ok d s
def mUn (f : Dv → Mst → Rm Dv) (a : ME) : ME := fun σ s => (a σ s).bind f
def mOp (f : Dv → Dv → Mst → Rm Dv) (a b : ME) : ME := fun σ s => (a σ s).bind fun x s1 => (b σ s1).bind fun y s2 => f x y s2
def mArgs : List ME → MA
  | [] => fun _ s => .ok [] s
  | m :: ms => fun σ s => (m σ s).bind fun d s1 => (mArgs ms σ s1).bind fun ds s2 => .ok (d :: ds) s2
def mTup (ms : List ME) : ME := fun σ s => (mArgs ms σ s).bind fun ds s1 => .ok (.tup ds) s1
def mLst (ms : List ME) : ME := fun σ s => (mArgs ms σ s).bind fun ds s1 => .ok (.loc s1.length) (s1 ++ [.lst ds])
/-- f(..): a def, a built-in, a method (its object first) -/
def mCall (F : MF) (ms : List ME) : ME := fun σ s => (mArgs ms σ s).bind F
/-- a new instance of the class C, then its __init__ -/
def mMake (C : Nat) (F : MF) : MF := fun ds s => (F (.loc s.length :: ds) (s ++ [.ins C []])).bind fun d s1 => match d with
  | .non => .ok (.loc s.length) s1
  | _ => .bad
def mTestV (b : MT) : ME := fun σ s => (b σ s).bind fun c s1 => .ok (.bl c) s1
def mtVal (m : ME) : MT := fun σ s => (m σ s).bind fun d s1 => match d with
  | .bl c => .ok c s1
  | _ => .bad
def mtAnd (a b : MT) : MT := fun σ s => (a σ s).bind fun c s1 => if c then b σ s1 else .ok false s1
def mtOr (a b : MT) : MT := fun σ s => (a σ s).bind fun c s1 => if c then .ok true s1 else b σ s1
def mtNot (a : MT) : MT := fun σ s => (a σ s).bind fun c s1 => .ok (!c) s1
def mAnd (a b : ME) : ME := fun σ s => (mtVal a σ s).bind fun c s1 => if c then b σ s1 else .ok (.bl false) s1
def mOr (a b : ME) : ME := fun σ s => (mtVal a σ s).bind fun c s1 => if c then .ok (.bl true) s1 else b σ s1
def mNot (a : ME) : ME := fun σ s => (mtVal a σ s).bind fun c s1 => .ok (.bl (!c)) s1
def mIf (t : MT) (a b : ME) : ME := fun σ s => (t σ s).bind fun c s1 => if c then a σ s1 else b σ s1
/-- a < b < c: two comparisons -/
def mChain (f g : Dv → Dv → Mst → Rm Dv) (a b c : ME) : ME := fun σ s => (a σ s).bind fun x s1 => (b σ s1).bind fun y s2 => (f x y s2).bind fun z s3 => match z with
  | .bl true => (c σ s3).bind fun w s4 => g y w s4
  | .bl false => .ok (.bl false) s3
  | _ => .bad

/-! ### what is walked -/
/-- the items, and the list that has to stay as it is meanwhile -/
structure Mit where
  xs : List Dv
  src : List (Nat × List Dv)
abbrev MI := Men → Mst → Rm Mit
def Mit.stays : List (Nat × List Dv) → Mst → Prop
  | [], _ => True
  | (n, l) :: r, s => s[n]? = some (.lst l) ∧ Mit.stays r s
/-- what a list, a tuple yields -/
def itSeq (d : Dv) (s : Mst) : Rm Mit := match d with
  | .tup l => .ok ⟨l, []⟩ s
  | .clst l => .ok ⟨l, []⟩ s
  | .str x => .ok ⟨x.cps.toList.map fun c => .str ⟨#[c]⟩, []⟩ s
  | .loc n => match s[n]? with
    | some (.lst l) => .ok ⟨l, [(n, l)]⟩ s
    | _ => .bad
  | _ => .bad
def miSeq (m : ME) : MI := fun σ s => (m σ s).bind itSeq
def rngI (lo : Int) (n : Nat) : List Dv := (List.range n).map fun (k : Nat) => Dv.int (lo + (k : Int))
def miRng1 (m : ME) : MI := fun σ s => (m σ s).bind fun d s1 => match d with
  | .int j => @ite _ (-(2 ^ 62) ≤ j ∧ j < 2 ^ 62) (Classical.propDecidable _) (.ok ⟨rngI 0 j.toNat, []⟩ s1) (.bad)
  | _ => .bad
def miRng2 (m1 m2 : ME) : MI := fun σ s => (m1 σ s).bind fun d s1 => (m2 σ s1).bind fun e s2 => match d, e with
  | .int i, .int j => @ite _ (-(2 ^ 62) ≤ i ∧ i < 2 ^ 62 ∧ -(2 ^ 62) ≤ j ∧ j < 2 ^ 62) (Classical.propDecidable _) (.ok ⟨rngI i (j - i).toNat, []⟩ s2) (.bad)
  | _, _ => .bad

/-- the items of a list, a tuple; the list that has to stay -/
def zipQ (d : Dv) (s : Mst) : Option (Bool × List Dv × List (Nat × List Dv)) := match d with
  | .tup l => some (true, l, [])
  | .clst l => some (false, l, [])
  | .loc n => match s[n]? with
    | some (.lst l) => some (false, l, [(n, l)])
    | _ => none
  | _ => none
def miZip (m1 m2 : ME) : MI := fun σ s => (m1 σ s).bind fun d s1 => (m2 σ s1).bind fun e s2 => match zipQ d s2, zipQ e s2 with
  | some (b, l, r), some (c, m, q) => if b = c then .ok ⟨List.zipWith (fun x y => .tup [x, y]) l m, r ++ q⟩ s2 else .bad
  | _, _ => .bad
/-- enumerate of a list -/
def miEnum (m : ME) : MI := fun σ s => (m σ s).bind fun d s1 => match zipQ d s1 with
  | some (false, l, r) => .ok ⟨(l.zipIdx).map fun p => .tup [.int p.2, p.1], r⟩ s1
  | _ => .bad

/-! ### targets -/
def gN (i : Nat) : MG := fun d σ s => .ok (σ.set i (some d)) s
def gEach : List MG → List Dv → Men → Mst → Rm Men
  | [], [], σ, s => .ok σ s
  | g :: gs, d :: ds, σ, s => (g d σ s).bind fun σ1 s1 => gEach gs ds σ1 s1
  | _, _, _, _ => .bad
def gT (gs : List MG) : MG := fun d σ s => match d with
  | .tup l => if l.length = gs.length then (gEach gs l σ s).noEr else .bad
  | _ => .bad

/-! ### comprehensions -/
def mWipe (σ : Men) : List Nat → Men
  | [] => σ
  | i :: r => (mWipe σ r).set i none
def lcF (src : List (Nat × List Dv)) (g : MG) (t : MT) (e : ME) (σ : Men) : List Dv → Mst → Rm (List Dv)
  | [], s => if Mit.stays src s then .ok [] s else .bad
  | x :: xs, s => if Mit.stays src s then (g x σ s).bind fun σ1 s1 => (t σ1 s1).bind fun c s2 =>
      if c then (e σ1 s2).bind fun d s3 => (lcF src g t e σ xs s3).bind fun ds s4 => .ok (d :: ds) s4 else lcF src g t e σ xs s2 else .bad
def mLc (it : MI) (g : MG) (t : MT) (e : ME) (vs : List Nat) : ME := fun σ s => (it σ s).bind fun i s1 => (lcF i.src g t e (mWipe σ vs) i.xs s1).noEr.bind fun ds s2 =>
  @ite _ (i.xs.length < 2 ^ 24) (Classical.propDecidable _) (.ok (.loc s2.length) (s2 ++ [.lst ds])) (.bad)
def mtYes : MT := fun _ s => .ok true s

/-! ### statements -/
def Sm.andThen (r : Sm) (f : MS) : Sm := match r with
  | .nx σ s => f σ s
  | r => r
@[simp] theorem Sm.andThen_nx (σ : Men) (s : Mst) (f : MS) : (Sm.nx σ s).andThen f = f σ s := rfl
@[simp] theorem Sm.andThen_rt (d : Dv) (s : Mst) (f : MS) : (Sm.rt d s).andThen f = .rt d s := rfl
@[simp] theorem Sm.andThen_bad (f : MS) : Sm.bad.andThen f = .bad := rfl
@[simp] theorem Sm.andThen_er (e : Xv) (σ : Men) (s : Mst) (f : MS) : (Sm.er e σ s).andThen f = .er e σ s := rfl
@[simp] theorem Sm.andThen_bk (σ : Men) (s : Mst) (f : MS) : (Sm.bk σ s).andThen f = .bk σ s := rfl
@[simp] theorem Sm.andThen_ct (σ : Men) (s : Mst) (f : MS) : (Sm.ct σ s).andThen f = .ct σ s := rfl
/-- from an expression's end -/
def Rm.st {α : Type} (r : Rm α) (σ : Men) (f : α → Mst → Sm) : Sm := match r with
  | .ok a s => f a s
  | .er e s => .er e σ s
  | .bad => .bad
@[simp] theorem Rm.st_ok {α : Type} (a : α) (s : Mst) (σ : Men) (f : α → Mst → Sm) : (Rm.ok a s).st σ f = f a s := rfl
@[simp] theorem Rm.st_bad {α : Type} (σ : Men) (f : α → Mst → Sm) : (Rm.bad : Rm α).st σ f = .bad := rfl
@[simp] theorem Rm.st_er {α : Type} (e : Xv) (s : Mst) (σ : Men) (f : α → Mst → Sm) : (Rm.er e s : Rm α).st σ f = .er e σ s := rfl
def msNx : MS := fun σ s => .nx σ s
def msBad : MS := fun _ _ => .bad
def msSeq (a b : MS) : MS := fun σ s => (a σ s).andThen b
def msSet (i : Nat) (e : ME) : MS := fun σ s => (e σ s).st σ fun d s1 => .nx (σ.set i (some d)) s1
def msAsg (g : MG) (e : ME) : MS := fun σ s => (e σ s).st σ fun d s1 => (g d σ s1).st σ fun σ1 s2 => .nx σ1 s2
def msExp (e : ME) : MS := fun σ s => (e σ s).st σ fun _ s1 => .nx σ s1
def msRet (e : ME) : MS := fun σ s => (e σ s).st σ fun d s1 => .rt d s1
def msRetN : MS := fun _ s => .rt .non s
def msBrk : MS := fun σ s => .bk σ s
def msCnt : MS := fun σ s => .ct σ s
def msIf (t : MT) (a b : MS) : MS := fun σ s => (t σ s).st σ fun c s1 => if c then a σ s1 else b σ s1
/-- o[i] = e by what is done at the values (o, i, e) -/
def msPut (f : Dv → Dv → Dv → Mst → Rm Unit) (o i e : ME) : MS := fun σ s => (e σ s).st σ fun v s1 => (o σ s1).st σ fun x s2 => (i σ s2).st σ fun y s3 => (f x y v s3).st σ fun _ s4 => .nx σ s4
/-- o.f = e -/
def msFld (C : Nat) (f : Str) (o e : ME) : MS := fun σ s => (e σ s).st σ fun v s1 => (o σ s1).st σ fun x s2 => match x with
  | .loc n => match s2[n]? with
    | some (.ins C' fs) => if C' = C ∧ fs.length < 1000 then .nx σ (s2.set n (.ins C (match fs.lookup f with
        | some _ => fs.map fun p => if p.1 = f then (f, v) else p
        | none => fs ++ [(f, v)]))) else .bad
    | _ => .bad
  | _ => .bad
/-- one more turn of a loop -/
def Sm.turn (r : Sm) (f : MS) : Sm := match r with
  | .nx σ s => f σ s
  | .ct σ s => f σ s
  | .bk σ s => .nx σ s
  | r => r
@[simp] theorem Sm.turn_nx (σ : Men) (s : Mst) (f : MS) : (Sm.nx σ s).turn f = f σ s := rfl
@[simp] theorem Sm.turn_ct (σ : Men) (s : Mst) (f : MS) : (Sm.ct σ s).turn f = f σ s := rfl
@[simp] theorem Sm.turn_bk (σ : Men) (s : Mst) (f : MS) : (Sm.bk σ s).turn f = .nx σ s := rfl
@[simp] theorem Sm.turn_rt (d : Dv) (s : Mst) (f : MS) : (Sm.rt d s).turn f = .rt d s := rfl
@[simp] theorem Sm.turn_bad (f : MS) : Sm.bad.turn f = .bad := rfl
@[simp] theorem Sm.turn_er (e : Xv) (σ : Men) (s : Mst) (f : MS) : (Sm.er e σ s).turn f = .er e σ s := rfl
def forF (src : List (Nat × List Dv)) (g : MG) (b : MS) : List Dv → MS
  | [], σ, s => if Mit.stays src s then .nx σ s else .bad
  | x :: xs, σ, s => if Mit.stays src s then (g x σ s).st σ fun σ1 s1 => (b σ1 s1).turn (forF src g b xs) else .bad
def msFor (it : MI) (g : MG) (b : MS) : MS := fun σ s => (it σ s).st σ fun i s1 => forF i.src g b i.xs σ s1
def whileF (t : MT) (b : MS) : Nat → MS
  | 0, _, _ => .bad
  | n + 1, σ, s => (t σ s).st σ fun c s1 => if c then (b σ s1).turn (whileF t b n) else .nx σ s1
def msWhile (t : MT) (b : MS) : MS := fun σ s => if h : ∃ n, whileF t b n σ s ≠ .bad then whileF t b (Classical.choose h) σ s else .bad

theorem whileF_succ {t : MT} {b : MS} : ∀ {n : Nat} {σ : Men} {s : Mst}, whileF t b n σ s ≠ .bad → whileF t b (n + 1) σ s = whileF t b n σ s
  | 0, _, _, h => absurd rfl h
  | n + 1, σ, s, h => by
    show (t σ s).st σ (fun c s1 => if c then (b σ s1).turn (whileF t b (n + 1)) else .nx σ s1) = (t σ s).st σ (fun c s1 => if c then (b σ s1).turn (whileF t b n) else .nx σ s1)
    have h' : (t σ s).st σ (fun c s1 => if c then (b σ s1).turn (whileF t b n) else .nx σ s1) ≠ .bad := h
    cases e : t σ s with
    | bad => rfl
    | er x s1 => rfl
    | ok c s1 =>
      rw [e] at h'
      cases c with
      | false => rfl
      | true =>
        simp only [Rm.st_ok, if_true] at h' ⊢
        cases e2 : b σ s1 with
        | nx σ2 s2 => rw [e2] at h'; exact whileF_succ h'
        | ct σ2 s2 => rw [e2] at h'; exact whileF_succ h'
        | bk σ2 s2 => rfl
        | rt d s2 => rfl
        | er x σ2 s2 => rfl
        | bad => rfl
theorem whileF_mono {t : MT} {b : MS} {n m : Nat} {σ : Men} {s : Mst} (h : whileF t b n σ s ≠ .bad) (hm : n ≤ m) : whileF t b m σ s = whileF t b n σ s := by
  induction m with
  | zero => rw [Nat.le_zero.mp hm]
  | succ m ih =>
    by_cases e : n = m + 1
    · rw [e]
    · have hi := ih (by omega)
      rw [whileF_succ (by rw [hi]; exact h), hi]
theorem msWhile_of {t : MT} {b : MS} {n : Nat} {σ : Men} {s : Mst} (h : whileF t b n σ s ≠ .bad) : msWhile t b σ s = whileF t b n σ s := by
  have hx : ∃ n, whileF t b n σ s ≠ .bad := ⟨n, h⟩
  unfold msWhile
  rw [dif_pos hx]
  have h2 := Classical.choose_spec hx
  by_cases hle : n ≤ Classical.choose hx
  · exact whileF_mono h hle
  · exact (whileF_mono h2 (by omega)).symm
theorem msWhile_ex {t : MT} {b : MS} {σ : Men} {s : Mst} (h : msWhile t b σ s ≠ .bad) : ∃ n, msWhile t b σ s = whileF t b n σ s := by
  by_cases hx : ∃ n, whileF t b n σ s ≠ .bad
  · exact ⟨_, by unfold msWhile; rw [dif_pos hx]⟩
  · exact absurd (by unfold msWhile; rw [dif_neg hx]) h

/-! ### a def by its body -/
def mStart (n : Nat) (ds : List Dv) : Men := ds.map some ++ List.replicate (n - ds.length) none
/-- a def of k parameters and n names -/
def mFun (k n : Nat) (b : MS) : MF := fun ds s => @ite _ (ds.length = k) (Classical.propDecidable _) (match b (mStart n ds) s with
  | .nx _ s1 => .ok .non s1
  | .rt d s1 => .ok d s1
  | .er e _ s1 => .er e s1
  | _ => .bad) .bad

/-- a def that lets no exception out, called -/
def noE (F : MF) : MF := fun ds s => (F ds s).noEr
theorem noE_ok {F : MF} {ds : List Dv} {s s' : Mst} {d : Dv} (h : F ds s = .ok d s') : noE F ds s = .ok d s' := by unfold noE; rw [h]; rfl

/-! ### data as a whole -/
/-- what a value is, all within it read -/
def datA (f : Dv → Option PyData) : List Dv → Option (List PyData)
  | [] => some []
  | d :: ds => match f d, datA f ds with
    | some x, some xs => some (x :: xs)
    | _, _ => none
def dat (s : Mst) : Nat → Dv → Option PyData
  | 0, _ => none
  | n + 1, d => match d with
    | .non => some .none
    | .bl b => some (.bool b)
    | .int i => some (.int i)
    | .str x => some (.str x)
    | .tup l => (datA (dat s n) l).map .tuple
    | .clst l => (datA (dat s n) l).map .list
    | .loc k => match s[k]? with
      | some (.lst l) => (datA (dat s n) l).map .list
      | _ => none
    | _ => none
end
end Mid
/-! Mid1: the plain model over the hand layer: what it tells is what the model of Python does. -/
namespace Mid
open PySem PySem.Spec L2 Classical

/-! ### values -/
section
variable (K : PySem.W.Frag) (κ : Nat → Addr)
/-- a list that never changes: locked, or of the module's own top -/
def SqI (H : Hp) (a : Addr) (xs : List V) : Prop := (∃ o, H a = some (.frz o (.lst xs))) ∨
  ∃ (o : Obj) (its : Array Value) (n : Nat), K.lookup a = some o ∧ o.cls = .type "list" ∧ o.dict = none ∧ o.data = .seq its n ∧ its.size ≤ sizeLine ∧ Vals xs its.toList
mutual
def VR (ρ : List Addr) (H : Hp) : Dv → V → Prop
  | .non, v => v = .non
  | .bl b, v => v = .bl b
  | .int i, v => v = .int i
  | .str x, v => v = .str x
  | .tup l, v => ∃ a vs, v = .ref a ∧ SqT K H a vs ∧ VRs ρ H l vs
  | .clst l, v => ∃ a vs, v = .ref a ∧ SqI K H a vs ∧ VRs ρ H l vs
  | .loc n, v => ∃ a, ρ[n]? = some a ∧ v = .ref a
  | .fix n, v => v = .ref (κ n)
  | .ty n, v => v = .ty n
def VRs (ρ : List Addr) (H : Hp) : List Dv → List V → Prop
  | [], vs => vs = []
  | d :: ds, vs => ∃ v r, vs = v :: r ∧ VR ρ H d v ∧ VRs ρ H ds r
end
def OR (ρ : List Addr) (H : Hp) (a : Addr) : MO → Prop
  | .lst l => ∃ vs, H a = some (.lst vs) ∧ VRs K κ ρ H l vs
  | .dK kvs => ∃ vs : List (Key × V), H a = some (.dK vs) ∧ vs.map (·.1) = kvs.map (·.1) ∧ VRs K κ ρ H (kvs.map (·.2)) (vs.map (·.2))
  | .dT kvs => ∃ vs : List (List Key × V), H a = some (.dT vs) ∧ vs.map (·.1) = kvs.map (·.1) ∧ VRs K κ ρ H (kvs.map (·.2)) (vs.map (·.2))
  | .ins C fs => ∃ dx vs, H a = some (.ins (κ C) dx vs) ∧ vs.map (·.1) = fs.map (·.1) ∧ VRs K κ ρ H (fs.map (·.2)) (vs.map (·.2))
structure Rel (ρ : List Addr) (H : Hp) (s : Mst) : Prop where
  len : ρ.length = s.length
  nd : ρ.Nodup
  obj : ∀ (n : Nat) (a : Addr) (o : MO), ρ[n]? = some a → s[n]? = some o → OR K κ ρ H a o
def ERo (ρ : List Addr) (H : Hp) : Option Dv → Option V → Prop
  | some d, o => ∃ v, o = some v ∧ VR K κ ρ H d v
  | none, _ => True
/-- the names' values -/
structure ER (ρ : List Addr) (H : Hp) (σd : Men) (σ : St) : Prop where
  len : σ.length = σd.length
  at_ : ∀ (i : Nat) (d : Dv), σd[i]? = some (some d) → ∃ v, σ[i]? = some (some v) ∧ VR K κ ρ H d v
end

/-- from one moment to a later one -/
structure Step (ρ : List Addr) (H : Hp) (ρ' : List Addr) (H' : Hp) : Prop where
  pre : ∃ l, ρ' = ρ ++ l ∧ ∀ p ∈ l, H p = none
  keep : ∀ b o, H b = some o → b ∉ ρ → H' b = some o
  live : ∀ b, H b ≠ none → H' b ≠ none

section
variable {K : PySem.W.Frag} {κ : Nat → Addr} {ρ ρ' ρ1 ρ2 : List Addr} {H H' H1 H2 : Hp} {s st st' : Mst} {a b : Addr}

theorem Step.refl : Step ρ H ρ H := ⟨⟨[], by simp, by simp⟩, fun _ _ h _ => h, fun _ h => h⟩
theorem Step.trans (x : Step ρ H ρ1 H1) (y : Step ρ1 H1 ρ2 H2) : Step ρ H ρ2 H2 := by
  obtain ⟨l, rfl, hl⟩ := x.pre
  obtain ⟨m, rfl, hm⟩ := y.pre
  refine ⟨⟨l ++ m, by rw [List.append_assoc], fun p hp => ?_⟩, fun b o e hb => ?_, fun b e => y.live b (x.live b e)⟩
  · rcases List.mem_append.mp hp with h | h
    · exact hl p h
    · cases q : H p with
      | none => rfl
      | some o => exact absurd (hm p h) (x.live p (by rw [q]; simp))
  · refine y.keep b o (x.keep b o e hb) fun hm' => ?_
    rcases List.mem_append.mp hm' with h | h
    · exact hb h
    · rw [hl b h] at e; cases e
theorem Step.get (x : Step ρ H ρ' H') {n : Nat} (h : ρ[n]? = some a) : ρ'[n]? = some a := by
  obtain ⟨l, rfl, _⟩ := x.pre
  rw [List.getElem?_append_left (List.getElem?_eq_some_iff.mp h).1]
  exact h
theorem Step.free (x : Step ρ H ρ' H') (h : H' a = Option.none) : H a = Option.none := by
  cases q : H a with
  | none => rfl
  | some o => exact absurd h (x.live a (by rw [q]; simp))

/-- what stands at a place of the list of changing things is no tuple and nothing locked -/
def Chg : HO → Prop
  | .lst _ => True
  | .dK _ => True
  | .dT _ => True
  | .ins _ _ _ => True
  | _ => False
theorem OR.chg {o : MO} (h : OR K κ ρ H a o) : ∃ u, H a = some u ∧ Chg u := by
  cases o with
  | lst l => obtain ⟨vs, e, _⟩ := h; exact ⟨_, e, trivial⟩
  | dK l => obtain ⟨vs, e, _⟩ := h; exact ⟨_, e, trivial⟩
  | dT l => obtain ⟨vs, e, _⟩ := h; exact ⟨_, e, trivial⟩
  | ins C l => obtain ⟨dx, vs, e, _⟩ := h; exact ⟨_, e, trivial⟩
theorem Rel.chg (R : Rel K κ ρ H s) (h : a ∈ ρ) : ∃ u, H a = some u ∧ Chg u := by
  obtain ⟨n, hn⟩ := List.mem_iff_getElem?.mp h
  have hl := (List.getElem?_eq_some_iff.mp hn).1
  have hs : n < s.length := by rw [← R.len]; exact hl
  exact (R.obj n a s[n] hn (List.getElem?_eq_getElem hs)).chg
theorem Rel.out (R : Rel K κ ρ H s) {u : HO} (e : H a = some u) (hu : ¬ Chg u) : a ∉ ρ := fun h => by
  obtain ⟨u', e', c⟩ := R.chg h
  rw [e] at e'; cases e'
  exact hu c
theorem Rel.fresh (R : Rel K κ ρ H s) (e : H a = none) : a ∉ ρ := fun h => by
  obtain ⟨u', e', c⟩ := R.chg h
  rw [e] at e'; cases e'
/-- what values lean on is kept -/
structure Kp (ρ : List Addr) (H : Hp) (ρ' : List Addr) (H' : Hp) : Prop where
  ix : ∀ (n : Nat) (a : Addr), ρ[n]? = some a → ρ'[n]? = some a
  tup : ∀ a xs, H a = some (.tup xs) → H' a = some (.tup xs)
  frz : ∀ a o u, H a = some (.frz o u) → H' a = some (.frz o u)
theorem Step.kp (R : Rel K κ ρ H s) (x : Step ρ H ρ' H') : Kp ρ H ρ' H' :=
  ⟨fun _ _ h => x.get h, fun _ _ h => x.keep _ _ h (R.out h fun z => z), fun _ _ _ h => x.keep _ _ h (R.out h fun z => z)⟩
theorem SqT.kp (x : Kp ρ H ρ' H') {vs : List V} (h : SqT K H a vs) : SqT K H' a vs := by
  rcases h with (h | ⟨o, h⟩) | h
  · exact .inl (.inl (x.tup _ _ h))
  · exact .inl (.inr ⟨o, x.frz _ _ _ h⟩)
  · exact .inr h
theorem SqI.kp (x : Kp ρ H ρ' H') {vs : List V} (h : SqI K H a vs) : SqI K H' a vs := by
  rcases h with ⟨o, h⟩ | h
  · exact .inl ⟨o, x.frz _ _ _ h⟩
  · exact .inr h
mutual
theorem VR.kp (x : Kp ρ H ρ' H') : ∀ (d : Dv) (v : V), VR K κ ρ H d v → VR K κ ρ' H' d v
  | .non, _, h => by simp only [VR] at h ⊢; exact h
  | .bl _, _, h => by simp only [VR] at h ⊢; exact h
  | .int _, _, h => by simp only [VR] at h ⊢; exact h
  | .str _, _, h => by simp only [VR] at h ⊢; exact h
  | .tup l, v, h => by
    simp only [VR] at h ⊢
    obtain ⟨a, vs, e, q, r⟩ := h
    exact ⟨a, vs, e, SqT.kp x q, VRs.kp x l vs r⟩
  | .clst l, v, h => by
    simp only [VR] at h ⊢
    obtain ⟨a, vs, e, q, r⟩ := h
    exact ⟨a, vs, e, SqI.kp x q, VRs.kp x l vs r⟩
  | .loc n, v, h => by
    simp only [VR] at h ⊢
    obtain ⟨a, e, q⟩ := h
    exact ⟨a, x.ix _ _ e, q⟩
  | .fix _, _, h => by simp only [VR] at h ⊢; exact h
  | .ty _, _, h => by simp only [VR] at h ⊢; exact h
theorem VRs.kp (x : Kp ρ H ρ' H') : ∀ (ds : List Dv) (vs : List V), VRs K κ ρ H ds vs → VRs K κ ρ' H' ds vs
  | [], _, h => by simp only [VRs] at h ⊢; exact h
  | d :: ds, vs, h => by
    simp only [VRs] at h ⊢
    obtain ⟨v, r, e, h1, h2⟩ := h
    exact ⟨v, r, e, VR.kp x d v h1, VRs.kp x ds r h2⟩
end
theorem SqT.later (R : Rel K κ ρ H s) (x : Step ρ H ρ' H') {vs : List V} (h : SqT K H a vs) : SqT K H' a vs := SqT.kp (x.kp R) h
theorem SqI.later (R : Rel K κ ρ H s) (x : Step ρ H ρ' H') {vs : List V} (h : SqI K H a vs) : SqI K H' a vs := SqI.kp (x.kp R) h
theorem VR.later (R : Rel K κ ρ H s) (x : Step ρ H ρ' H') (d : Dv) (v : V) (h : VR K κ ρ H d v) : VR K κ ρ' H' d v := VR.kp (x.kp R) d v h
theorem VRs.later (R : Rel K κ ρ H s) (x : Step ρ H ρ' H') (ds : List Dv) (vs : List V) (h : VRs K κ ρ H ds vs) : VRs K κ ρ' H' ds vs := VRs.kp (x.kp R) ds vs h
theorem ER.kp (x : Kp ρ H ρ' H') {σd : Men} {σ : L2.St} (h : ER K κ ρ H σd σ) : ER K κ ρ' H' σd σ :=
  ⟨h.len, fun i d e => let ⟨v, e', r⟩ := h.at_ i d e; ⟨v, e', VR.kp x d v r⟩⟩
theorem OR.kp {o : MO} (x : Kp ρ H ρ' H') (h : OR K κ ρ H a o) (e : H' a = H a) : OR K κ ρ' H' a o := by
  cases o with
  | lst l => obtain ⟨vs, q, r⟩ := h; exact ⟨vs, e.trans q, VRs.kp x _ _ r⟩
  | dK l => obtain ⟨vs, q, k, r⟩ := h; exact ⟨vs, e.trans q, k, VRs.kp x _ _ r⟩
  | dT l => obtain ⟨vs, q, k, r⟩ := h; exact ⟨vs, e.trans q, k, VRs.kp x _ _ r⟩
  | ins C l => obtain ⟨dx, vs, q, k, r⟩ := h; exact ⟨dx, vs, e.trans q, k, VRs.kp x _ _ r⟩
theorem ER.later (R : Rel K κ ρ H s) (x : Step ρ H ρ' H') {σd : Men} {σ : St} (h : ER K κ ρ H σd σ) : ER K κ ρ' H' σd σ :=
  ⟨h.len, fun i d e => let ⟨v, e', r⟩ := h.at_ i d e; ⟨v, e', VR.later R x d v r⟩⟩
theorem VRs.nil : VRs K κ ρ H [] [] := by simp only [VRs]
theorem VRs.cons {d : Dv} {v : V} {ds : List Dv} {vs : List V} (h : VR K κ ρ H d v) (r : VRs K κ ρ H ds vs) : VRs K κ ρ H (d :: ds) (v :: vs) := by
  simp only [VRs]; exact ⟨v, vs, rfl, h, r⟩
theorem VRs.length : ∀ {ds : List Dv} {vs : List V}, VRs K κ ρ H ds vs → vs.length = ds.length
  | [], _, h => by simp only [VRs] at h; subst h; rfl
  | d :: ds, vs, h => by
    simp only [VRs] at h
    obtain ⟨v, r, rfl, _, h2⟩ := h
    simp [VRs.length h2]
theorem VRs.append : ∀ {ds es : List Dv} {vs us : List V}, VRs K κ ρ H ds vs → VRs K κ ρ H es us → VRs K κ ρ H (ds ++ es) (vs ++ us)
  | [], _, _, _, h, g => by simp only [VRs] at h; subst h; exact g
  | d :: ds, es, vs, us, h, g => by
    simp only [VRs] at h
    obtain ⟨v, r, rfl, h1, h2⟩ := h
    exact .cons h1 (VRs.append h2 g)
theorem VRs.get : ∀ {ds : List Dv} {vs : List V} {i : Nat} {d : Dv}, VRs K κ ρ H ds vs → ds[i]? = some d → ∃ v, vs[i]? = some v ∧ VR K κ ρ H d v
  | [], _, _, _, _, e => by simp at e
  | d :: ds, vs, 0, d', h, e => by
    simp only [VRs] at h
    obtain ⟨v, r, rfl, h1, h2⟩ := h
    simp at e; subst e
    exact ⟨v, rfl, h1⟩
  | d :: ds, vs, i + 1, d', h, e => by
    simp only [VRs] at h
    obtain ⟨v, r, rfl, h1, h2⟩ := h
    obtain ⟨u, e1, e2⟩ := VRs.get (i := i) h2 (by simpa using e)
    exact ⟨u, by simpa using e1, e2⟩
theorem VRs.drop : ∀ {ds : List Dv} {vs : List V} (n : Nat), VRs K κ ρ H ds vs → VRs K κ ρ H (ds.drop n) (vs.drop n)
  | ds, vs, 0, h => by simpa using h
  | [], vs, n + 1, h => by simp only [VRs] at h; subst h; exact .nil
  | d :: ds, vs, n + 1, h => by
    simp only [VRs] at h
    obtain ⟨v, r, rfl, h1, h2⟩ := h
    simpa using VRs.drop n h2
theorem VRs.take : ∀ {ds : List Dv} {vs : List V} (n : Nat), VRs K κ ρ H ds vs → VRs K κ ρ H (ds.take n) (vs.take n)
  | ds, vs, 0, h => by simpa using VRs.nil
  | [], vs, n + 1, h => by simp only [VRs] at h; subst h; exact .nil
  | d :: ds, vs, n + 1, h => by
    simp only [VRs] at h
    obtain ⟨v, r, rfl, h1, h2⟩ := h
    simpa using VRs.cons h1 (VRs.take n h2)
theorem VRs.set {d : Dv} {v : V} (h1 : VR K κ ρ H d v) : ∀ {ds : List Dv} {vs : List V} (n : Nat), VRs K κ ρ H ds vs → VRs K κ ρ H (ds.set n d) (vs.set n v)
  | [], vs, n, h => by simp only [VRs] at h; subst h; simpa using VRs.nil
  | e :: ds, vs, 0, h => by
    simp only [VRs] at h
    obtain ⟨u, r, rfl, h3, h2⟩ := h
    simpa using VRs.cons h1 h2
  | e :: ds, vs, n + 1, h => by
    simp only [VRs] at h
    obtain ⟨u, r, rfl, h3, h2⟩ := h
    simpa using VRs.cons h3 (VRs.set h1 n h2)
theorem VRs.cut {ds : List Dv} {vs : List V} {es : List Dv} : ∀ {fs : List Dv}, VRs K κ ρ H (es ++ fs) vs → ∃ us ws, vs = us ++ ws ∧ VRs K κ ρ H es us ∧ VRs K κ ρ H fs ws := by
  intro fs h
  refine ⟨vs.take es.length, vs.drop es.length, (List.take_append_drop _ _).symm, ?_, ?_⟩
  · have := VRs.take es.length h; simpa using this
  · have := VRs.drop es.length h; simpa using this

/-! ### how the list of changing things goes on -/
/-- something new that is no changing thing (a tuple), or that isn't told of -/
theorem Step.lay (n : H a = none) {o : HO} : Step ρ H ρ (upd H a o) :=
  ⟨⟨[], by simp, by simp⟩, fun b u e _ => by rw [upd_ne (ne_of_none e n)]; exact e, fun b e => by
    by_cases h : b = a
    · subst h; rw [upd_same]; simp
    · rw [upd_ne h]; exact e⟩
theorem OR.keep {o : MO} (R : Rel K κ ρ H s) (x : Step ρ H ρ' H') (h : OR K κ ρ H a o) (e : H' a = H a) : OR K κ ρ' H' a o := OR.kp (x.kp R) h e
theorem Rel.lay (R : Rel K κ ρ H s) (n : H a = none) {o : HO} : Rel K κ ρ (upd H a o) s :=
  ⟨R.len, R.nd, fun k b u e1 e2 => (R.obj k b u e1 e2).keep R (Step.lay n) (upd_ne fun z => R.fresh n (z ▸ List.mem_of_getElem? e1))⟩
/-- a new changing thing -/
theorem Step.new (n : H a = none) {o : HO} : Step ρ H (ρ ++ [a]) (upd H a o) :=
  ⟨⟨[a], rfl, fun p hp => by rw [List.mem_singleton.mp hp]; exact n⟩, (Step.lay (ρ := ρ) n).keep, (Step.lay (ρ := ρ) n).live⟩
theorem Rel.new (R : Rel K κ ρ H s) (n : H a = none) {o : HO} {m : MO} (h : OR K κ (ρ ++ [a]) (upd H a o) a m) : Rel K κ (ρ ++ [a]) (upd H a o) (s ++ [m]) := by
  refine ⟨by simp [R.len], ?_, fun k b u e1 e2 => ?_⟩
  · rw [List.nodup_append]
    exact ⟨R.nd, by simp, fun x hx y hy e => R.fresh n (by rw [List.mem_singleton.mp hy] at e; exact e ▸ hx)⟩
  · by_cases hk : k < ρ.length
    · rw [List.getElem?_append_left hk] at e1
      rw [List.getElem?_append_left (by rw [← R.len]; exact hk)] at e2
      exact (R.obj k b u e1 e2).keep R (Step.new n) (upd_ne fun z => R.fresh n (z ▸ List.mem_of_getElem? e1))
    · rw [List.getElem?_append_right (Nat.le_of_not_lt hk)] at e1
      rw [List.getElem?_append_right (by rw [← R.len]; exact Nat.le_of_not_lt hk), ← R.len] at e2
      cases hz : k - ρ.length with
      | zero =>
        rw [hz] at e1 e2
        simp at e1 e2
        subst e1; subst e2
        exact h
      | succ z => rw [hz] at e1; simp at e1
/-- a changing thing is changed -/
theorem Step.put {n : Nat} (e : ρ[n]? = some a) {o : HO} : Step ρ H ρ (upd H a o) :=
  ⟨⟨[], by simp, by simp⟩, fun b u q hb => by rw [upd_ne fun z => hb (by rw [z]; exact List.mem_of_getElem? e)]; exact q, fun b q => by
    by_cases h : b = a
    · subst h; rw [upd_same]; simp
    · rw [upd_ne h]; exact q⟩
theorem Rel.put (R : Rel K κ ρ H s) {n : Nat} (e : ρ[n]? = some a) {o : HO} {m : MO} (h : OR K κ ρ (upd H a o) a m) : Rel K κ ρ (upd H a o) (s.set n m) := by
  refine ⟨by simp [R.len], R.nd, fun k b u e1 e2 => ?_⟩
  by_cases hk : k = n
  · subst hk
    rw [e] at e1; cases e1
    rw [List.getElem?_set_self (by rw [← R.len]; exact (List.getElem?_eq_some_iff.mp e).1)] at e2
    cases e2
    exact h
  · rw [List.getElem?_set_ne (Ne.symm hk)] at e2
    refine (R.obj k b u e1 e2).keep R (Step.put e) (upd_ne fun z => hk ?_)
    subst z
    have l1 := (List.getElem?_eq_some_iff.mp e1)
    have l2 := (List.getElem?_eq_some_iff.mp e)
    exact (List.getElem_inj R.nd).mp (l1.2.trans l2.2.symm)
/-- a list that stands apart is changed -/
theorem Kp.apart {xs ys : List V} (e : H a = some (.lst xs)) : Kp ρ H ρ (upd H a (.lst ys)) :=
  ⟨fun _ _ h => h, fun b zs h => by rw [upd_ne (ne_of h e (by intro z; cases z))]; exact h, fun b o u h => by rw [upd_ne (ne_of h e (by intro z; cases z))]; exact h⟩
theorem Rel.apart (R : Rel K κ ρ H s) {xs ys : List V} (e : H a = some (.lst xs)) (n : a ∉ ρ) : Rel K κ ρ (upd H a (.lst ys)) s :=
  ⟨R.len, R.nd, fun k b u e1 e2 => (R.obj k b u e1 e2).kp (Kp.apart e) (upd_ne fun z => n (z ▸ List.mem_of_getElem? e1))⟩
theorem Kp.add : Kp ρ H (ρ ++ [a]) H := ⟨fun n b h => by rw [List.getElem?_append_left (List.getElem?_eq_some_iff.mp h).1]; exact h, fun _ _ h => h, fun _ _ _ h => h⟩
/-- .. and told of -/
theorem Rel.add (R : Rel K κ ρ H s) {m : MO} (h : OR K κ ρ H a m) (n : a ∉ ρ) : Rel K κ (ρ ++ [a]) H (s ++ [m]) := by
  refine ⟨by simp [R.len], ?_, fun k b u e1 e2 => ?_⟩
  · rw [List.nodup_append]
    exact ⟨R.nd, by simp, fun x hx y hy e => n (by rw [List.mem_singleton.mp hy] at e; exact e ▸ hx)⟩
  · by_cases hk : k < ρ.length
    · rw [List.getElem?_append_left hk] at e1
      rw [List.getElem?_append_left (by rw [← R.len]; exact hk)] at e2
      exact (R.obj k b u e1 e2).kp Kp.add rfl
    · rw [List.getElem?_append_right (Nat.le_of_not_lt hk)] at e1
      rw [List.getElem?_append_right (by rw [← R.len]; exact Nat.le_of_not_lt hk), ← R.len] at e2
      cases hz : k - ρ.length with
      | zero =>
        rw [hz] at e1 e2
        simp at e1 e2
        subst e1; subst e2
        exact h.kp Kp.add rfl
      | succ z => rw [hz] at e1; simp at e1
theorem Rel.loc (R : Rel K κ ρ H s) {n : Nat} {v : V} {o : MO} (h : VR K κ ρ H (.loc n) v) (e : s[n]? = some o) : ∃ a, ρ[n]? = some a ∧ v = .ref a ∧ OR K κ ρ H a o := by
  simp only [VR] at h
  obtain ⟨a, e1, e2⟩ := h
  exact ⟨a, e1, e2, R.obj n a o e1 e⟩
theorem VR.last : VR K κ (ρ ++ [a]) H (.loc ρ.length) (.ref a) := by
  simp only [VR]
  exact ⟨a, by simp, rfl⟩
end
end Mid
/-! Mid2: readings by the plain model; expressions, statements, loops, comprehensions, defs. -/
namespace Mid
open PySem PySem.Spec L2 Classical

section
variable (K : PySem.W.Frag) (κ : Nat → Addr)
/-- how an exception lies -/
def XR (ρ : List Addr) (H : Hp) (e : Xv) (cls : Value) (dx : Option Addr) : Prop :=
  cls = .ref (κ e.cls) ∧ match e.fs with
    | none => dx = none
    | some fs => ∃ d vs, dx = some d ∧ H d = some (.xd vs) ∧ vs.map (·.1) = fs.map (·.1) ∧ VRs K κ ρ H (fs.map (·.2)) (vs.map (·.2))
/-- what an end leaves -/
def Fin {α : Type} (W : WX) (ρ : List Addr) (σ : L2.St) (H : Hp) (r : Rm α) (Q : α → List Addr → Mst → Hp → Prop) : Prop := match r with
  | .ok a s => ∀ ρ' H', Step ρ H ρ' H' → Rel K κ ρ' H' s → Q a ρ' s H'
  | .er e s => ∀ ρ' H' cls dx, Step ρ H ρ' H' → Rel K κ ρ' H' s → XR K κ ρ' H' e cls dx → W cls dx σ H'
  | .bad => False
def rd (W : WX) (m : ME) : TE := fun σ H Q => ∃ ρ σd s, Rel K κ ρ H s ∧ ER K κ ρ H σd σ ∧ Fin K κ W ρ σ H (m σd s) fun d ρ' _ H' => ∀ v, VR K κ ρ' H' d v → Q v H'
def rdT (W : WX) (m : MT) : TT := fun σ H Q => ∃ ρ σd s, Rel K κ ρ H s ∧ ER K κ ρ H σd σ ∧ Fin K κ W ρ σ H (m σd s) fun c _ _ H' => Q c H'
def rdA (W : WX) (m : MA) : TA := fun σ H Q => ∃ ρ σd s, Rel K κ ρ H s ∧ ER K κ ρ H σd σ ∧ Fin K κ W ρ σ H (m σd s) fun ds ρ' _ H' => ∀ vs, VRs K κ ρ' H' ds vs → Q vs H'
def FinS (W : WX) (D : Ends) (ρ : List Addr) (H : Hp) (r : Sm) : Prop := match r with
  | .nx σd s => ∀ ρ' H' σ', Step ρ H ρ' H' → Rel K κ ρ' H' s → ER K κ ρ' H' σd σ' → D.nx σ' H'
  | .ct σd s => ∀ ρ' H' σ', Step ρ H ρ' H' → Rel K κ ρ' H' s → ER K κ ρ' H' σd σ' → D.ct σ' H'
  | .bk σd s => ∀ ρ' H' σ', Step ρ H ρ' H' → Rel K κ ρ' H' s → ER K κ ρ' H' σd σ' → D.bk σ' H'
  | .rt d s => ∀ ρ' H' v, Step ρ H ρ' H' → Rel K κ ρ' H' s → VR K κ ρ' H' d v → D.rt v H'
  | .er e σd s => ∀ ρ' H' σ' cls dx, Step ρ H ρ' H' → Rel K κ ρ' H' s → ER K κ ρ' H' σd σ' → XR K κ ρ' H' e cls dx → W cls dx σ' H'
  | .bad => False
def rdS (W : WX) (m : MS) : TS := fun D σ H => ∃ ρ σd s, Rel K κ ρ H s ∧ ER K κ ρ H σd σ ∧ FinS K κ W D ρ H (m σd s)
/-- a def's promise: it does what F does -/
def spF (n : Nat) (F : MF) : Sp := fun vs H Q E => vs.length = n ∧ ∃ ρ ds s, Rel K κ ρ H s ∧ VRs K κ ρ H ds vs ∧ Fin K κ (fun c d _ H' => E c d H') ρ [] H (F ds s) fun d ρ' _ H' => ∀ v, VR K κ ρ' H' d v → Q v H'
end

section
variable {K : PySem.W.Frag} {κ : Nat → Addr} {W : WX} {ρ ρ1 : List Addr} {σ : L2.St} {H H1 : Hp} {s : Mst} {α β : Type}
theorem Fin.mono {r : Rm α} {Q Q' : α → List Addr → Mst → Hp → Prop} (h : Fin K κ W ρ σ H r Q) (f : ∀ a ρ' s' H', Step ρ H ρ' H' → Rel K κ ρ' H' s' → Q a ρ' s' H' → Q' a ρ' s' H') : Fin K κ W ρ σ H r Q' := by
  cases r with
  | ok a s => exact fun ρ' H' x R => f a ρ' s H' x R (h ρ' H' x R)
  | er e s => exact h
  | bad => exact h
theorem Fin.step {r : Rm α} {Q : α → List Addr → Mst → Hp → Prop} (h : Fin K κ W ρ σ H r Q) (x : Step ρ H ρ1 H1) : Fin K κ W ρ1 σ H1 r Q := by
  cases r with
  | ok a s => exact fun ρ' H' y R => h ρ' H' (x.trans y) R
  | er e s => exact fun ρ' H' cls dx y R => h ρ' H' cls dx (x.trans y) R
  | bad => exact h
theorem Fin.bind {r : Rm α} {f : α → Mst → Rm β} {Q : β → List Addr → Mst → Hp → Prop} (h : Fin K κ W ρ σ H (r.bind f) Q) : Fin K κ W ρ σ H r fun a ρ' s' H' => Fin K κ W ρ' σ H' (f a s') Q := by
  cases r with
  | ok a s => exact fun ρ' H' x R => Fin.step h x
  | er e s => exact h
  | bad => exact h
theorem FinS.step {D : Ends} {r : Sm} (h : FinS K κ W D ρ H r) (x : Step ρ H ρ1 H1) : FinS K κ W D ρ1 H1 r := by
  cases r with
  | nx σd s => exact fun ρ' H' σ' y R => h ρ' H' σ' (x.trans y) R
  | ct σd s => exact fun ρ' H' σ' y R => h ρ' H' σ' (x.trans y) R
  | bk σd s => exact fun ρ' H' σ' y R => h ρ' H' σ' (x.trans y) R
  | rt d s => exact fun ρ' H' σ' y R => h ρ' H' σ' (x.trans y) R
  | er e σd s => exact fun ρ' H' σ' c d y R => h ρ' H' σ' c d (x.trans y) R
  | bad => exact h
/-- a statement that begins with an expression -/
theorem FinS.st {D : Ends} {r : Rm α} {σd : Men} {f : α → Mst → Sm} (h : FinS K κ W D ρ H (r.st σd f)) (R : Rel K κ ρ H s) (hE : ER K κ ρ H σd σ) : Fin K κ W ρ σ H r fun a ρ' s' H' => FinS K κ W D ρ' H' (f a s') := by
  cases r with
  | ok a s => exact fun ρ' H' x R => FinS.step h x
  | er e s => exact fun ρ' H' cls dx x R' q => h ρ' H' σ cls dx x R' (hE.later R x) q
  | bad => exact h
end

/-! ### the rules -/
section
variable {X : Cx} {κ : Nat → Addr} {W : WX}
abbrev LE (X : Cx) (κ : Nat → Addr) (W : WX) (e : Expr) (m : ME) : Prop := PE X e (rd X.K κ W m)
abbrev LT (X : Cx) (κ : Nat → Addr) (W : WX) (e : Expr) (m : MT) : Prop := PT X e (rdT X.K κ W m)
abbrev LA (X : Cx) (κ : Nat → Addr) (W : WX) (es : List Expr) (ms : List ME) : Prop := PA X es (rdA X.K κ W (mArgs ms))
abbrev LS (X : Cx) (κ : Nat → Addr) (W : WX) (st : Stmt) (m : MS) : Prop := PS X st (rdS X.K κ W m)
abbrev LSs (X : Cx) (κ : Nat → Addr) (W : WX) (st : List Stmt) (m : MS) : Prop := PSs X st (rdS X.K κ W m)
theorem PE.by {e : Expr} {t t' : TE} (h : PE X e t) (f : ∀ σ H Q, t' σ H Q → t σ H Q) : PE X e t' := ⟨fun pins s σ H Q I q => h.run pins s σ H Q I (f σ H Q q)⟩
theorem PT.by {e : Expr} {t t' : TT} (h : PT X e t) (f : ∀ σ H Q, t' σ H Q → t σ H Q) : PT X e t' := ⟨fun pins s σ H Q I q => h.run pins s σ H Q I (f σ H Q q)⟩
theorem PA.by {e : List Expr} {t t' : TA} (h : PA X e t) (f : ∀ σ H Q, t' σ H Q → t σ H Q) : PA X e t' := ⟨fun ps pins s σ H Q I q => h.run ps pins s σ H Q I (f σ H Q q)⟩
theorem PS.by {e : Stmt} {t t' : TS} (h : PS X e t) (f : ∀ D σ H, t' D σ H → t D σ H) : PS X e t' := ⟨fun pins s σ H D I q => h.run pins s σ H D I (f D σ H q)⟩
theorem PSs.by {e : List Stmt} {t t' : TS} (h : PSs X e t) (f : ∀ D σ H, t' D σ H → t D σ H) : PSs X e t' := ⟨fun pins s σ H D I q => h.run pins s σ H D I (f D σ H q)⟩

variable {pos : Pos} {a b c e : Expr} {ma mb mc me : ME} {ta tb : MT} {es : List Expr} {ms : List ME}
/-! names and constants -/
theorem le_var (i : Nat) {x : Str} (hN : X.N[i]? = some x := by rfl) (hv : Vis X.env.scope x := by first | exact Or.inl rfl | exact Or.inr (Or.inl rfl) | exact Or.inr (Or.inr rfl)) (hd : (x == ("__debug__" : Str)) = false := by decide)
    (hcd : (x == ("__classdict__" : Str)) = false := by decide) : LE X κ W (.Name x pos) (mVar i) := by
  refine PE.by (pe_var hN hv hd hcd) fun σ H Q ⟨ρ, σd, s, R, hE, h⟩ => ?_
  unfold mVar at h
  cases q : σd[i]? with
  | none => rw [q] at h; exact h.elim
  | some o =>
    cases o with
    | none => rw [q] at h; exact h.elim
    | some d =>
      rw [q] at h
      obtain ⟨v, e, r⟩ := hE.at_ i d q
      exact ⟨v, e, h ρ H Step.refl R v r⟩
theorem le_c {d : Dv} {v : V} (h : PE X e (tC v)) (hd : ∀ (ρ : List Addr) (H : Hp), VR X.K κ ρ H d v) : LE X κ W e (mC d) :=
  PE.by h fun σ H Q ⟨ρ, σd, s, R, hE, h⟩ => h ρ H Step.refl R v (hd ρ H)
theorem le_int {i : Int} {j} : LE X κ W (.Constant (.int i) j pos) (mC (.int i)) := le_c pe_int fun _ _ => by simp only [VR]
theorem le_bl {b : Bool} {j} : LE X κ W (.Constant (.bool b) j pos) (mC (.bl b)) := le_c pe_bl fun _ _ => by simp only [VR]
theorem le_non {j} : LE X κ W (.Constant .none j pos) (mC .non) := le_c pe_non fun _ _ => by simp only [VR]
theorem le_str {x : Str} {j} : LE X κ W (.Constant (.str x) j pos) (mC (.str x)) := le_c pe_str fun _ _ => by simp only [VR]

/-! operators by values -/
def OpL (X : Cx) (κ : Nat → Addr) (r : R2) (f : Dv → Dv → Mst → Rm Dv) : Prop := ∀ W ρ σ H s x y dx dy Q, Rel X.K κ ρ H s → VR X.K κ ρ H dx x → VR X.K κ ρ H dy y → Fin X.K κ W ρ σ H (f dx dy s) (fun d ρ' _ H' => ∀ v, VR X.K κ ρ' H' d v → Q v H') → r x y H Q
def UnL (X : Cx) (κ : Nat → Addr) (r : V → Hp → VK → Prop) (f : Dv → Mst → Rm Dv) : Prop := ∀ W ρ σ H s x dx Q, Rel X.K κ ρ H s → VR X.K κ ρ H dx x → Fin X.K κ W ρ σ H (f dx s) (fun d ρ' _ H' => ∀ v, VR X.K κ ρ' H' d v → Q v H') → r x H Q
theorem rd_op {r : R2} {f : Dv → Dv → Mst → Rm Dv} (L : OpL X κ r f) {σ : L2.St} {H : Hp} {Q : VK} (h : rd X.K κ W (mOp f ma mb) σ H Q) : tOp r (rd X.K κ W ma) (rd X.K κ W mb) σ H Q := by
  obtain ⟨ρ, σd, s, R, hE, h⟩ := h
  exact ⟨ρ, σd, s, R, hE, (Fin.bind h).mono fun dx ρ1 s1 H1 x1 R1 h1 vx hx => ⟨ρ1, σd, s1, R1, hE.later R x1, (Fin.bind h1).mono fun dy ρ2 s2 H2 x2 R2 h2 vy hy => L W ρ2 σ H2 s2 vx vy dx dy Q R2 (VR.later R1 x2 _ _ hx) hy h2⟩⟩
theorem le_op {op : Operator} {r : R2} {f : Dv → Dv → Mst → Rm Dv} (ho : OpR X (binaryOp op) r) (L : OpL X κ r f) (ha : LE X κ W a ma) (hb : LE X κ W b mb) : LE X κ W (.BinOp a op b pos) (mOp f ma mb) :=
  PE.by (pe_op ho ha hb) fun σ H Q h => rd_op L h
theorem le_cmp {op : CmpOp} {r : R2} {f : Dv → Dv → Mst → Rm Dv} (ho : OpR X (compareOp op) r) (L : OpL X κ r f) (ha : LE X κ W a ma) (hb : LE X κ W b mb) (hm : behindInMarks op b = false := by first | exact nomark _ | rfl) : LE X κ W (.Compare a [op] [b] pos) (mOp f ma mb) :=
  PE.by (pe_cmpR ho ha hb hm) fun σ H Q h => rd_op L h
theorem le_un {op : UnaryOp} {r : V → Hp → VK → Prop} {f : Dv → Mst → Rm Dv} (ho : UnR X (unaryOp op) r) (L : UnL X κ r f) (ha : LE X κ W a ma) : LE X κ W (.UnaryOp op a pos) (mUn f ma) :=
  PE.by (pe_un ho ha) fun σ H Q ⟨ρ, σd, s, R, hE, h⟩ => ⟨ρ, σd, s, R, hE, (Fin.bind h).mono fun dx ρ1 s1 H1 x1 R1 h1 vx hx => L W ρ1 σ H1 s1 vx dx Q R1 hx h1⟩
theorem le_ix {r : R2} {f : Dv → Dv → Mst → Rm Dv} (ho : IxR X r) (L : OpL X κ r f) (ha : LE X κ W a ma) (hb : LE X κ W b mb) (hs : PlainIx b) : LE X κ W (.Subscript a b pos) (mOp f ma mb) :=
  PE.by (pe_ix ho ha hb hs) fun σ H Q h => rd_op L h

/-! arguments, displays -/
theorem la_nil : LA X κ W [] [] := PA.by pa_nil fun σ H Q ⟨ρ, σd, s, R, hE, h⟩ => h ρ H Step.refl R [] .nil
theorem la_cons (ha : LE X κ W e me) (hr : LA X κ W es ms) (hs : starEach (e :: es) X.env = (false, eval e X.env) :: starEach es X.env := by rfl) : LA X κ W (e :: es) (me :: ms) :=
  PA.by (pa_cons ha hr hs) fun σ H Q ⟨ρ, σd, s, R, hE, h⟩ => ⟨ρ, σd, s, R, hE, (Fin.bind h).mono fun dx ρ1 s1 H1 x1 R1 h1 vx hx => ⟨ρ1, σd, s1, R1, hE.later R x1, (Fin.bind h1).mono fun ds ρ2 s2 H2 x2 R2 h2 vs hvs =>
    h2 ρ2 H2 Step.refl R2 _ (.cons (VR.later R1 x2 _ _ hx) hvs)⟩⟩
theorem mArgs_len : ∀ {ms : List ME} {σ : Men} {s s1 : Mst} {ds : List Dv}, mArgs ms σ s = .ok ds s1 → ds.length = ms.length
  | [], σ, s, s1, ds, h => by cases h; rfl
  | m :: ms, σ, s, s1, ds, h => by
    have h' : ((m σ s).bind fun d s1 => (mArgs ms σ s1).bind fun ds s2 => .ok (d :: ds) s2) = .ok ds s1 := h
    cases e : m σ s with
    | bad => rw [e] at h'; cases h'
    | er x s2 => rw [e] at h'; cases h'
    | ok d s2 =>
      rw [e] at h'
      simp only [Rm.bind_ok] at h'
      cases e2 : mArgs ms σ s2 with
      | bad => rw [e2] at h'; cases h'
      | er x s3 => rw [e2] at h'; cases h'
      | ok r s3 =>
        rw [e2] at h'
        simp only [Rm.bind_ok] at h'
        cases h'
        simp [mArgs_len e2]
/-- what args give has their number -/
theorem Fin.args {K : PySem.W.Frag} {ρ : List Addr} {σ : L2.St} {H : Hp} {σd : Men} {s : Mst} {Q : List Dv → List Addr → Mst → Hp → Prop} (h : Fin K κ W ρ σ H (mArgs ms σd s) Q) : Fin K κ W ρ σ H (mArgs ms σd s) fun ds ρ' s' H' => ds.length = ms.length ∧ Q ds ρ' s' H' := by
  cases e : mArgs ms σd s with
  | ok ds s1 => rw [e] at h; exact fun ρ' H' x R => ⟨mArgs_len e, h ρ' H' x R⟩
  | er x s1 => rw [e] at h; exact h
  | bad => rw [e] at h; exact h
theorem le_tup {x1} (h : LA X κ W es ms) (hl : ms.length ≤ 1000 := by decide) : LE X κ W (.Tuple es x1 pos) (mTup ms) :=
  PE.by (pe_tup h) fun σ H Q ⟨ρ, σd, s, R, hE, q⟩ => ⟨ρ, σd, s, R, hE, (Fin.args (Fin.bind q)).mono fun ds ρ1 s1 H1 x1 R1 ⟨hn, h1⟩ vs hvs => ⟨by
      have := hvs.length
      have := small1000 hl
      omega, fun p np => h1 ρ1 _ (Step.lay np) (R1.lay np) _ (by simp only [VR]; exact ⟨p, vs, rfl, .inl (.inl upd_same), VRs.later R1 (Step.lay np) _ _ hvs⟩)⟩⟩
theorem le_lst (h : LA X κ W es ms) (hl : ms.length ≤ 1000 := by decide) : LE X κ W (.List es pos) (mLst ms) :=
  PE.by (pe_lst h) fun σ H Q ⟨ρ, σd, s, R, hE, q⟩ => ⟨ρ, σd, s, R, hE, (Fin.args (Fin.bind q)).mono fun ds ρ1 s1 H1 x1 R1 ⟨hn, h1⟩ vs hvs => ⟨by
      have := hvs.length
      have := small1000 hl
      omega, fun p np => h1 _ _ (Step.new np) (R1.new np ⟨vs, upd_same, VRs.later R1 (Step.new np) _ _ hvs⟩) _ (by rw [← R1.len]; exact VR.last)⟩⟩

/-! calls -/
theorem le_call {CX : CXT} {k : Nat} {f : Addr} {fd : FuncData} {ps : List Str} {n : Nat} {F : MF} {x : Str} {p : Pos} {E : XK} (G : FnOk X.prog X.w X.K X.mg X.base CX k f fd ps (spF X.K κ n F)) (hr : Room k X.A) (hg : Gl X x) (hm : X.mg x = some (.ref f))
    (hk : PySem.W.keepIn X.K (.ref f) = true) (hb : Binds X.K fd ps []) (hx : Passes CX X E) (hE : ∀ c d σ H, W c d σ H → E c d H) (ha : LA X κ W (e :: es) ms) (hn : ms.length = n := by rfl) (hdb : (x == ("__debug__" : Str)) = false := by decide) (he : starEach (e :: es) X.env = (false, eval e X.env) :: starEach es X.env := by rfl)
    (hpl : (backTo pos (starEach es X.env)).any (·.1) = false := by rfl) : LE X κ W (.Call (.Name x p) (e :: es) [] pos) (mCall F ms) :=
  PE.by (pe_call (E := E) G hr hg hm hk hb .nil hx ha hdb he hpl) fun σ H Q ⟨ρ, σd, s, R, hEr, q⟩ => ⟨ρ, σd, s, R, hEr, (Fin.args (Fin.bind q)).mono fun ds ρ1 s1 H1 x1 R1 ⟨hnn, h1⟩ vs hvs => by
    show spF X.K κ n F (vs ++ []) H1 Q E
    rw [List.append_nil]
    refine ⟨by rw [hvs.length, hnn, hn], ρ1, ds, s1, R1, hvs, ?_⟩
    cases e2 : F ds s1 with
    | ok d s2 => rw [e2] at h1; exact h1
    | er z s2 => rw [e2] at h1; exact fun ρ' H' c d x R q => hE _ _ σ _ (h1 ρ' H' c d x R q)
    | bad => rw [e2] at h1; exact h1.elim⟩

/-! tests -/
theorem Fin.tval {K : PySem.W.Frag} {ρ : List Addr} {σ : L2.St} {H : Hp} {m : ME} {σd : Men} {s : Mst} {Q : Bool → List Addr → Mst → Hp → Prop} (h : Fin K κ W ρ σ H (mtVal m σd s) Q) :
    Fin K κ W ρ σ H (m σd s) fun d ρ' s' H' => ∃ c, d = .bl c ∧ Fin K κ W ρ' σ H' (.ok c s') Q :=
  (Fin.bind h).mono fun d ρ' s' H' x R q => by
    cases d with
    | bl c => exact ⟨c, rfl, q⟩
    | non => exact q.elim
    | int i => exact q.elim
    | str x => exact q.elim
    | tup l => exact q.elim
    | clst l => exact q.elim
    | loc n => exact q.elim
    | fix n => exact q.elim
    | ty n => exact q.elim
theorem VR.bl {K : PySem.W.Frag} {ρ : List Addr} {H : Hp} {c : Bool} {v : V} (h : VR K κ ρ H (.bl c) v) : v = .bl c := by simpa only [VR] using h
theorem VR.int {K : PySem.W.Frag} {ρ : List Addr} {H : Hp} {c : Int} {v : V} (h : VR K κ ρ H (.int c) v) : v = .int c := by simpa only [VR] using h
theorem VR.str {K : PySem.W.Frag} {ρ : List Addr} {H : Hp} {c : Str} {v : V} (h : VR K κ ρ H (.str c) v) : v = .str c := by simpa only [VR] using h
theorem VR.non {K : PySem.W.Frag} {ρ : List Addr} {H : Hp} {v : V} (h : VR K κ ρ H .non v) : v = .non := by simpa only [VR] using h
theorem lt_val (h : LE X κ W e me) (he : ∀ whole, isTrue e X.env whole = (do let v ← whole; standAt e.pos; holding [v] (truthy v)) := by intro _; rfl) : LT X κ W e (mtVal me) :=
  PT.by (pt_val h he) fun σ H Q ⟨ρ, σd, s, R, hE, q⟩ => ⟨ρ, σd, s, R, hE, (Fin.tval q).mono fun d ρ1 s1 H1 x1 R1 ⟨c, e, h1⟩ v hv => by
    subst e
    exact ⟨c, hv.bl, h1 ρ1 H1 Step.refl R1⟩⟩
theorem lt_cmp {op : CmpOp} {r : R2} {f : Dv → Dv → Mst → Rm Dv} (ho : OpR X (compareOp op) r) (L : OpL X κ r f) (ha : LE X κ W a ma) (hb : LE X κ W b mb) (hm : behindInMarks op b = false := by first | exact nomark _ | rfl) : LT X κ W (.Compare a [op] [b] pos) (mtVal (mOp f ma mb)) :=
  PT.by (pt_cmpR ho ha hb hm) fun σ H Q ⟨ρ, σd, s, R, hE, q⟩ => rd_op L ⟨ρ, σd, s, R, hE, (Fin.tval q).mono fun d ρ1 s1 H1 x1 R1 ⟨c, e, h1⟩ v hv => by
    subst e
    exact ⟨c, hv.bl, h1 ρ1 H1 Step.refl R1⟩⟩
abbrev LW (X : Cx) (κ : Nat → Addr) (W : WX) (e : Expr) (m : MT) : Prop := PW X e (rdT X.K κ W m)
theorem PW.by {e : Expr} {t t' : TT} (h : PW X e t) (f : ∀ σ H Q, t' σ H Q → t σ H Q) : PW X e t' := ⟨fun wh pins s σ H Q I q => h.run wh pins s σ H Q I (f σ H Q q)⟩
theorem lw_and1 (h : LT X κ W a ta) : LW X κ W (.BoolOp .And [a] pos) ta := pw_and1 h
theorem lw_or1 (h : LT X κ W a ta) : LW X κ W (.BoolOp .Or [a] pos) ta := pw_or1 h
theorem lw_and (ha : LT X κ W a ta) (hb : LW X κ W (.BoolOp .And (b :: es) pos) tb) : LW X κ W (.BoolOp .And (a :: b :: es) pos) (mtAnd ta tb) :=
  PW.by (pw_and ha hb) fun σ H Q ⟨ρ, σd, s, R, hE, q⟩ => ⟨ρ, σd, s, R, hE, (Fin.bind q).mono fun c ρ1 s1 H1 x1 R1 h1 => by
    cases c with
    | true => exact ⟨ρ1, σd, s1, R1, hE.later R x1, h1⟩
    | false => exact h1 ρ1 H1 Step.refl R1⟩
theorem lw_or (ha : LT X κ W a ta) (hb : LW X κ W (.BoolOp .Or (b :: es) pos) tb) : LW X κ W (.BoolOp .Or (a :: b :: es) pos) (mtOr ta tb) :=
  PW.by (pw_or ha hb) fun σ H Q ⟨ρ, σd, s, R, hE, q⟩ => ⟨ρ, σd, s, R, hE, (Fin.bind q).mono fun c ρ1 s1 H1 x1 R1 h1 => by
    cases c with
    | false => exact ⟨ρ1, σd, s1, R1, hE.later R x1, h1⟩
    | true => exact h1 ρ1 H1 Step.refl R1⟩
theorem lt_w (h : LW X κ W e ta) : LT X κ W e ta := PW.pt h
theorem lt_not (ha : LT X κ W a ta) : LT X κ W (.UnaryOp .Not a pos) (mtNot ta) :=
  PT.by (pt_not ha) fun σ H Q ⟨ρ, σd, s, R, hE, q⟩ => ⟨ρ, σd, s, R, hE, (Fin.bind q).mono fun c ρ1 s1 H1 x1 R1 h1 => h1 ρ1 H1 Step.refl R1⟩
/-! and, or, not, if as values -/
theorem le_one {op} (h : LE X κ W a ma) : LE X κ W (.BoolOp op [a] pos) ma := pe_one h
theorem le_and (ha : LE X κ W a ma) (hb : LE X κ W (.BoolOp .And (b :: es) pos) mb) : LE X κ W (.BoolOp .And (a :: b :: es) pos) (mAnd ma mb) :=
  PE.by (pe_and ha hb) fun σ H Q ⟨ρ, σd, s, R, hE, q⟩ => ⟨ρ, σd, s, R, hE, (Fin.tval (Fin.bind q)).mono fun d ρ1 s1 H1 x1 R1 ⟨c, e, h1⟩ v hv => by
    subst e
    have h2 := h1 ρ1 H1 Step.refl R1
    refine ⟨c, hv.bl, ?_⟩
    cases c with
    | true => exact ⟨ρ1, σd, s1, R1, hE.later R x1, h2⟩
    | false => exact h2 ρ1 H1 Step.refl R1 _ (by simp only [VR])⟩
theorem le_or (ha : LE X κ W a ma) (hb : LE X κ W (.BoolOp .Or (b :: es) pos) mb) : LE X κ W (.BoolOp .Or (a :: b :: es) pos) (mOr ma mb) :=
  PE.by (pe_or ha hb) fun σ H Q ⟨ρ, σd, s, R, hE, q⟩ => ⟨ρ, σd, s, R, hE, (Fin.tval (Fin.bind q)).mono fun d ρ1 s1 H1 x1 R1 ⟨c, e, h1⟩ v hv => by
    subst e
    have h2 := h1 ρ1 H1 Step.refl R1
    refine ⟨c, hv.bl, ?_⟩
    cases c with
    | false => exact ⟨ρ1, σd, s1, R1, hE.later R x1, h2⟩
    | true => exact h2 ρ1 H1 Step.refl R1 _ (by simp only [VR])⟩
theorem le_not (ha : LE X κ W a ma) : LE X κ W (.UnaryOp .Not a pos) (mNot ma) :=
  PE.by (pe_not ha) fun σ H Q ⟨ρ, σd, s, R, hE, q⟩ => ⟨ρ, σd, s, R, hE, (Fin.tval (Fin.bind q)).mono fun d ρ1 s1 H1 x1 R1 ⟨c, e, h1⟩ v hv => by
    subst e
    have h2 := h1 ρ1 H1 Step.refl R1
    exact ⟨c, hv.bl, h2 ρ1 H1 Step.refl R1 _ (by simp only [VR])⟩⟩
theorem le_if (hc : LT X κ W c ta) (ha : LE X κ W a ma) (hb : LE X κ W b mb) : LE X κ W (.IfExp c a b pos) (mIf ta ma mb) :=
  PE.by (pe_ifExp hc ha hb) fun σ H Q ⟨ρ, σd, s, R, hE, q⟩ => ⟨ρ, σd, s, R, hE, (Fin.bind q).mono fun c ρ1 s1 H1 x1 R1 h1 => by
    cases c with
    | true => exact ⟨ρ1, σd, s1, R1, hE.later R x1, h1⟩
    | false => exact ⟨ρ1, σd, s1, R1, hE.later R x1, h1⟩⟩
end
end Mid
/-! Mid3: statements, targets, loops, comprehensions, defs. -/
namespace Mid
open PySem PySem.Spec L2 Classical

/-- the slots outside ws are as they were -/
def Off (ws : List Nat) (σ σ' : L2.St) : Prop := σ'.length = σ.length ∧ ∀ j, j ∉ ws → σ'[j]? = σ[j]?
theorem Off.refl {ws : List Nat} {σ : L2.St} : Off ws σ σ := ⟨rfl, fun _ _ => rfl⟩
theorem Off.trans {ws us : List Nat} {σ σ1 σ2 : L2.St} (a : Off ws σ σ1) (b : Off us σ1 σ2) : Off (ws ++ us) σ σ2 :=
  ⟨b.1.trans a.1, fun j h => (b.2 j fun z => h (List.mem_append_right _ z)).trans (a.2 j fun z => h (List.mem_append_left _ z))⟩
theorem wipe_get (σ : L2.St) (j : Nat) : ∀ vs : List Nat, (wipe σ vs)[j]? = if j ∈ vs ∧ j < σ.length then some none else σ[j]?
  | [] => by simp [wipe]
  | v :: vs => by
    unfold wipe
    rw [List.getElem?_set]
    rw [wipe_get σ j vs, wipe_length]
    by_cases e : v = j
    · subst e
      by_cases hl : v < σ.length
      · simp [hl]
      · simp [hl, List.getElem?_eq_none (Nat.le_of_not_lt hl)]
    · have e' : ¬ j = v := fun z => e z.symm
      simp [e, e']
theorem wipe_off {ws vs : List Nat} {σ σ' : L2.St} (h : Off ws σ σ') (hs : ∀ w ∈ ws, w ∈ vs) : wipe σ' vs = wipe σ vs := by
  apply List.ext_getElem?
  intro j
  rw [wipe_get, wipe_get, h.1]
  by_cases hj : j ∈ vs ∧ j < σ.length
  · rw [if_pos hj, if_pos hj]
  · rw [if_neg hj, if_neg hj]
    by_cases hv : j ∈ vs
    · have hl : σ.length ≤ j := Nat.le_of_not_lt fun z => hj ⟨hv, z⟩
      rw [List.getElem?_eq_none hl, List.getElem?_eq_none (by rw [h.1]; exact hl)]
    · exact h.2 j fun z => hv (hs j z)
theorem wipe_wipe (σ : L2.St) (vs : List Nat) : wipe (wipe σ vs) vs = wipe σ vs := by
  apply List.ext_getElem?
  intro j
  rw [wipe_get, wipe_length, wipe_get]
  split <;> rfl

section
variable {K : PySem.W.Frag} {κ : Nat → Addr} {W : WX} {ρ ρ1 : List Addr} {σ : L2.St} {H H1 : Hp} {s : Mst}
theorem mWipe_length (σ : Men) : ∀ vs : List Nat, (mWipe σ vs).length = σ.length
  | [] => rfl
  | v :: vs => by unfold mWipe; rw [List.length_set, mWipe_length σ vs]
theorem mWipe_some {σ : Men} {i : Nat} {d : Dv} : ∀ {vs : List Nat}, (mWipe σ vs)[i]? = some (some d) → σ[i]? = some (some d) ∧ i ∉ vs
  | [], h => ⟨h, by simp⟩
  | v :: vs, h => by
    unfold mWipe at h
    by_cases e : v = i
    · subst e
      by_cases hl : v < (mWipe σ vs).length
      · rw [List.getElem?_set_self hl] at h; cases h
      · rw [List.getElem?_eq_none (by simpa using hl)] at h; cases h
    · rw [List.getElem?_set_ne e] at h
      obtain ⟨h1, h2⟩ := mWipe_some h
      exact ⟨h1, by simp only [List.mem_cons, not_or]; exact ⟨fun z => e z.symm, h2⟩⟩
theorem ER.wipe {σd : Men} (h : ER K κ ρ H σd σ) (vs : List Nat) : ER K κ ρ H (mWipe σd vs) (L2.wipe σ vs) := by
  refine ⟨by rw [wipe_length, mWipe_length, h.len], fun i d e => ?_⟩
  obtain ⟨e1, e2⟩ := mWipe_some e
  obtain ⟨v, e3, r⟩ := h.at_ i d e1
  exact ⟨v, by rw [wipe_get, if_neg fun z => e2 z.1]; exact e3, r⟩
theorem ER.set {σd : Men} (h : ER K κ ρ H σd σ) {d : Dv} {v : V} (r : VR K κ ρ H d v) (i : Nat) : ER K κ ρ H (σd.set i (some d)) (σ.set i (some v)) := by
  refine ⟨by simp [h.len], fun j e q => ?_⟩
  by_cases hj : i = j
  · subst hj
    by_cases hl : i < σd.length
    · rw [List.getElem?_set_self hl] at q
      cases q
      exact ⟨v, List.getElem?_set_self (by rw [h.len]; exact hl), r⟩
    · rw [List.getElem?_eq_none (by simpa using hl)] at q; cases q
  · rw [List.getElem?_set_ne hj] at q
    obtain ⟨u, e1, e2⟩ := h.at_ j e q
    exact ⟨u, by rw [List.getElem?_set_ne hj]; exact e1, e2⟩
end

/-! ### targets -/
/-- a target's reading: ws the names that it stores -/
def rdG (K : PySem.W.Frag) (κ : Nat → Addr) (W : WX) (g : MG) (ws : List Nat) : TG := fun v σ H Q => ∃ ρ σd s d, Rel K κ ρ H s ∧ ER K κ ρ H σd σ ∧ VR K κ ρ H d v ∧
  Fin K κ W ρ σ H (g d σd s) fun σd' ρ' _ H' => ∀ σ', ER K κ ρ' H' σd' σ' → Off ws σ σ' → Q σ' H'
def rdGs (K : PySem.W.Frag) (κ : Nat → Addr) (W : WX) (gs : List MG) (ws : List Nat) : TGs := fun vs σ H Q => ∃ ρ σd s ds, Rel K κ ρ H s ∧ ER K κ ρ H σd σ ∧ VRs K κ ρ H ds vs ∧
  Fin K κ W ρ σ H (gEach gs ds σd s) fun σd' ρ' _ H' => ∀ σ', ER K κ ρ' H' σd' σ' → Off ws σ σ' → Q σ' H'
section
variable {X : Cx} {κ : Nat → Addr} {W : WX} {pos : Pos}
abbrev LG (X : Cx) (κ : Nat → Addr) (W : WX) (e : Expr) (g : MG) (ws : List Nat) : Prop := PG X e (rdG X.K κ W g ws)
abbrev LGs (X : Cx) (κ : Nat → Addr) (W : WX) (es : List Expr) (gs : List MG) (ws : List Nat) : Prop := PGs X es (rdGs X.K κ W gs ws)
theorem PG.by {e : Expr} {t t' : TG} (h : PG X e t) (f : ∀ v σ H Q, t' v σ H Q → t v σ H Q) : PG X e t' := ⟨fun pins s σ H v u Q I r q => h.run pins s σ H v u Q I r (f v σ H Q q)⟩
theorem PGs.by {e : List Expr} {t t' : TGs} (h : PGs X e t) (f : ∀ v σ H Q, t' v σ H Q → t v σ H Q) : PGs X e t' := ⟨fun pins s σ H v u Q I r q => h.run pins s σ H v u Q I r (f v σ H Q q)⟩
theorem lg_name (i : Nat) {x : Str} (hN : X.N.Nodup) (hi : X.N[i]? = some x := by rfl) (hx : Loc X.env.scope x := by first | exact Or.inl rfl | exact Or.inr rfl) (hf : X.fn x = true ∨ X.env.scope.names.lookup x = some .local := by first | exact .inl rfl | exact .inr rfl | assumption) : LG X κ W (.Name x pos) (gN i) [i] :=
  PG.by (pg_name hN hi hx hf) fun v σ H Q ⟨ρ, σd, s, d, R, hE, r, h⟩ => h ρ H Step.refl R _ (hE.set r i) ⟨by simp, fun j hj => by rw [List.getElem?_set_ne fun z => hj (by rw [z]; simp)]⟩
theorem lgs_nil : LGs X κ W [] [] [] :=
  PGs.by pgs_nil fun vs σ H Q ⟨ρ, σd, s, ds, R, hE, r, h⟩ => by
    cases ds with
    | cons d ds => exact h.elim
    | nil =>
      simp only [VRs] at r
      exact ⟨r, h ρ H Step.refl R σ hE Off.refl⟩
theorem Fin.noEr {K : PySem.W.Frag} {α : Type} {W' : WX} {ρ : List Addr} {σ σ' : L2.St} {H : Hp} {r : Rm α} {Q : α → List Addr → Mst → Hp → Prop} (h : Fin K κ W ρ σ H r.noEr Q) : Fin K κ W' ρ σ' H r Q := by
  cases r with
  | ok a s => exact h
  | er e s => exact h.elim
  | bad => exact h
theorem Fin.off {K : PySem.W.Frag} {α : Type} {ρ : List Addr} {σ σ' : L2.St} {H : Hp} {r : Rm α} {Q : α → List Addr → Mst → Hp → Prop} (h : Fin K κ (fun _ _ _ _ => False) ρ σ H r Q) : Fin K κ W ρ σ' H r Q := by
  cases r with
  | ok a s => exact h
  | er e s =>
    exact fun ρ' H' c d x R q => (h ρ' H' c d x R q).elim
  | bad => exact h
end
/-- no exception -/
abbrev W0 : WX := fun _ _ _ _ => False
section
variable {X : Cx} {κ : Nat → Addr} {W : WX} {pos : Pos}
/-- the targets' parts raise nothing here -/
theorem lgs_cons {e : Expr} {es : List Expr} {g : MG} {gs : List MG} {ws us : List Nat} (h1 : LG X κ W0 e g ws) (h2 : LGs X κ W0 es gs us) (hs : (assignEach (e :: es) X.env).map (·.2) = assign e X.env :: (assignEach es X.env).map (·.2) := by rfl) :
    LGs X κ W0 (e :: es) (g :: gs) (ws ++ us) :=
  PGs.by (pgs_cons h1 h2 hs) fun vs σ H Q ⟨ρ, σd, s, ds, R, hE, r, h⟩ => by
    cases ds with
    | nil => exact h.elim
    | cons d ds =>
      simp only [VRs] at r
      obtain ⟨v, vr, e, r1, r2⟩ := r
      exact ⟨v, vr, e, ρ, σd, s, d, R, hE, r1, (Fin.bind h).mono fun σ1 ρ1 s1 H1 x1 R1 q σ' hE' ho => ⟨ρ1, σ1, s1, ds, R1, hE', VRs.later R x1 _ _ r2, (Fin.off q).mono fun σ2 ρ2 s2 H2 x2 R2 q2 σ'' hE'' ho2 => q2 σ'' hE'' (ho.trans ho2)⟩⟩
theorem lg_tup {es : List Expr} {k : Nat} {gs : List MG} {ws : List Nat} (hc : X.calm = true) (h : LGs X κ W0 es gs ws) (hl : gs.length = es.length := by rfl)
    (hn : (assignEach es X.env).length = es.length := by rfl) (hst : (assignEach es X.env).findIdx? (·.1) = none := by rfl) : LG X κ W (.Tuple es k pos) (gT gs) ws :=
  PG.by (pg_tup hc h hn hst) fun v σ H Q ⟨ρ, σd, s, d, R, hE, r, h⟩ => by
    cases d with
    | tup l =>
      unfold gT at h
      simp only at h
      by_cases e : l.length = gs.length
      · rw [if_pos e] at h
        simp only [VR] at r
        obtain ⟨a, vs, e1, e2, e3⟩ := r
        refine ⟨a, vs, e1, e2, by rw [e3.length, e, hl], ρ, σd, s, l, R, hE, e3, ?_⟩
        exact Fin.noEr h
      · rw [if_neg e] at h; exact h.elim
    | _ => exact h.elim

/-! ### statements -/
variable {a b c e tg iter o i : Expr} {ma mb me mo mi : ME} {tc : MT} {st : Stmt} {rest body sb sc : List Stmt} {m m1 m2 : MS} {g : MG} {ws : List Nat}
theorem ls_nil : LSs X κ W [] msNx := PSs.by pss_nil fun D σ H ⟨ρ, σd, s, R, hE, h⟩ => h ρ H σ Step.refl R hE
theorem FinS.then {K : PySem.W.Frag} {D : Ends} {ρ : List Addr} {H : Hp} {r : Sm} (h : FinS K κ W D ρ H (r.andThen m)) : FinS K κ W { D with nx := rdS K κ W m D } ρ H r := by
  cases r with
  | nx σ s => exact fun ρ' H' σ' x R hE => ⟨ρ', σ, s, R, hE, h.step x⟩
  | ct σ s => exact h
  | bk σ s => exact h
  | rt d s => exact h
  | er e σ s => exact h
  | bad => exact h
theorem ls_cons (h1 : LS X κ W st m1) (h2 : LSs X κ W rest m2) : LSs X κ W (st :: rest) (msSeq m1 m2) :=
  PSs.by (pss_cons h1 h2) fun D σ H ⟨ρ, σd, s, R, hE, h⟩ => ⟨ρ, σd, s, R, hE, FinS.then h⟩
theorem ls_one (h1 : LS X κ W st m1) : LSs X κ W [st] m1 := pss_one h1
theorem ls_pass : LS X κ W (.Pass pos) msNx := PS.by ps_pass fun D σ H ⟨ρ, σd, s, R, hE, h⟩ => h ρ H σ Step.refl R hE
theorem ls_break : LS X κ W (.Break pos) msBrk := PS.by ps_break fun D σ H ⟨ρ, σd, s, R, hE, h⟩ => h ρ H σ Step.refl R hE
theorem ls_continue : LS X κ W (.Continue pos) msCnt := PS.by ps_continue fun D σ H ⟨ρ, σd, s, R, hE, h⟩ => h ρ H σ Step.refl R hE
theorem ls_never : LS X κ W st msBad := PS.by ps_never fun D σ H ⟨ρ, σd, s, R, hE, h⟩ => h
theorem lss_never : LSs X κ W rest msBad := PSs.by pss_never fun D σ H ⟨ρ, σd, s, R, hE, h⟩ => h
theorem ls_expr (he : LE X κ W e me) (hs : swapsWith e none pos.line X.env = pure false := by rfl) : LS X κ W (.Expr e pos) (msExp me) :=
  PS.by (ps_expr he hs) fun D σ H ⟨ρ, σd, s, R, hE, h⟩ => ⟨ρ, σd, s, R, hE, (FinS.st h R hE).mono fun d ρ1 s1 H1 x1 R1 q v hv => q ρ1 H1 σ Step.refl R1 (hE.later R x1)⟩
theorem ls_ret (he : LE X κ W e me) : LS X κ W (.Return (some e) pos) (msRet me) :=
  PS.by (ps_ret he) fun D σ H ⟨ρ, σd, s, R, hE, h⟩ => ⟨ρ, σd, s, R, hE, (FinS.st h R hE).mono fun d ρ1 s1 H1 x1 R1 q v hv => q ρ1 H1 v Step.refl R1 hv⟩
theorem ls_retN : LS X κ W (.Return none pos) msRetN := PS.by ps_retN fun D σ H ⟨ρ, σd, s, R, hE, h⟩ => h ρ H .non Step.refl R (by simp only [VR])
theorem ls_if (hc : LT X κ W c tc) (ha : LSs X κ W sb m1) (hb : LSs X κ W sc m2) : LS X κ W (.If c sb sc pos) (msIf tc m1 m2) :=
  PS.by (ps_if hc ha hb) fun D σ H ⟨ρ, σd, s, R, hE, h⟩ => ⟨ρ, σd, s, R, hE, (FinS.st h R hE).mono fun d ρ1 s1 H1 x1 R1 q => by
    cases d with
    | true => exact ⟨ρ1, σd, s1, R1, hE.later R x1, q⟩
    | false => exact ⟨ρ1, σd, s1, R1, hE.later R x1, q⟩⟩
theorem ls_set (j : Nat) {x : Str} {pos' : Pos} (hN : X.N.Nodup) (he : LE X κ W e me) (hi : X.N[j]? = some x := by rfl) (hx : Loc X.env.scope x := by first | exact Or.inl rfl | exact Or.inr rfl) (hs : swapsWith e (some (.Name x pos')) pos.line X.env = pure false := by rfl)
    (hf : X.fn x = true ∨ X.env.scope.names.lookup x = some .local := by first | exact .inl rfl | exact .inr rfl | assumption) : LS X κ W (.Assign [.Name x pos'] e pos) (msSet j me) :=
  PS.by (ps_set hN hi hx he hs hf) fun D σ H ⟨ρ, σd, s, R, hE, h⟩ => ⟨ρ, σd, s, R, hE, (FinS.st h R hE).mono fun d ρ1 s1 H1 x1 R1 q v hv => q ρ1 H1 _ Step.refl R1 ((hE.later R x1).set hv j)⟩
theorem ls_asg (he : LE X κ W e me) (hg : LG X κ W tg g ws) (hs : swapsWithSole [tg] e pos.line X.env = pure false := by rfl) (hw : swappedStores [tg] e X.env = pure none := by rfl) (h1 : (assignEach [tg] X.env).map (·.2) = [assign tg X.env] := by rfl) :
    LS X κ W (.Assign [tg] e pos) (msAsg g me) :=
  PS.by (ps_asg he hg hs hw h1) fun D σ H ⟨ρ, σd, s, R, hE, h⟩ => ⟨ρ, σd, s, R, hE, (FinS.st h R hE).mono fun d ρ1 s1 H1 x1 R1 q v hv => ⟨ρ1, σd, s1, d, R1, hE.later R x1, hv, (FinS.st q R1 (hE.later R x1)).mono fun σ2 ρ2 s2 H2 x2 R2 q2 σ' hE' ho => q2 ρ2 H2 σ' Step.refl R2 hE'⟩⟩
/-- a, b = e1, e2: two local names -/
def msPar (i j : Nat) (ea eb : ME) : MS := fun σ s => (ea σ s).st σ fun d s1 => (eb σ s1).st σ fun d' s2 => .nx ((σ.set i (some d)).set j (some d')) s2
theorem ls_par (j k : Nat) {x y : Str} {px py pt : Pos} {kt k2 pt2} (hc : X.calm = true) (hN : X.N.Nodup) (he : LE X κ W a ma) (he2 : LE X κ W b mb) (hi : X.N[j]? = some x := by rfl) (hj : X.N[k]? = some y := by rfl) (hij : j ≠ k := by decide) (hx : X.env.scope.names.lookup x = some .local := by rfl) (hy : X.env.scope.names.lookup y = some .local := by rfl)
    (hw : swappedStores [.Tuple [.Name x px, .Name y py] kt pt] (.Tuple [a, b] k2 pt2) X.env = pure (some [x, y]) := by rfl) (hs : swapsWithSole [.Tuple [.Name x px, .Name y py] kt pt] (.Tuple [a, b] k2 pt2) pos.line X.env = pure false := by rfl)
    (hs1 : starEach [a, b] X.env = (false, eval a X.env) :: starEach [b] X.env := by rfl) (hs2 : starEach [b] X.env = (false, eval b X.env) :: starEach [] X.env := by rfl) : LS X κ W (.Assign [.Tuple [.Name x px, .Name y py] kt pt] (.Tuple [a, b] k2 pt2) pos) (msPar j k ma mb) :=
  PS.by (ps_par hc hN hi hj hij hx hy (pa_cons he (pa_cons he2 pa_nil hs2) hs1) hw hs) fun D σ H ⟨ρ, σd, s, R, hE, h⟩ => ⟨ρ, σd, s, R, hE, (FinS.st h R hE).mono fun d ρ1 s1 H1 x1 R1 q v hv => ⟨ρ1, σd, s1, R1, hE.later R x1, (FinS.st q R1 (hE.later R x1)).mono fun d2 ρ2 s2 H2 x2 R2 q2 v2 hv2 =>
    ⟨v, v2, rfl, q2 ρ2 H2 _ Step.refl R2 ((((hE.later R x1).later R1 x2).set (VR.later R1 x2 _ _ hv) j).set hv2 k)⟩⟩⟩
/-- o[i] = e by values -/
def SetL (X : Cx) (κ : Nat → Addr) (t : TSet) (f : Dv → Dv → Dv → Mst → Rm Unit) : Prop := ∀ W ρ σ H s x y z dx dy dz Q, Rel X.K κ ρ H s → VR X.K κ ρ H dx x → VR X.K κ ρ H dy y → VR X.K κ ρ H dz z → Fin X.K κ W ρ σ H (f dx dy dz s) (fun _ _ _ H' => Q H') → t x y z H Q
theorem ls_put {t : TSet} {f : Dv → Dv → Dv → Mst → Rm Unit} {pos' : Pos} (hp : PSet X t) (L : SetL X κ t f) (he : LE X κ W e me) (ho : LE X κ W o mo) (hi : LE X κ W i mi)
    (ha : ∀ v, assign (.Subscript o i pos') X.env v = (do
      let ov ← holding [v] (eval o X.env)
      let iv ← holding [v, ov] (eval i X.env)
      standAt pos'
      holding [v, ov, iv] (setItem ov iv v)
      release [v, ov, iv] []) := by intro _; rfl)
    (hs : swapsWithSole [.Subscript o i pos'] e pos.line X.env = pure false := by rfl) (hw : swappedStores [.Subscript o i pos'] e X.env = pure none := by rfl) (h1 : (assignEach [.Subscript o i pos'] X.env).map (·.2) = [assign (.Subscript o i pos') X.env] := by rfl) :
    LS X κ W (.Assign [.Subscript o i pos'] e pos) (msPut f mo mi me) :=
  PS.by (ps_asg he (pg_sub ho hi hp ha) hs hw h1) fun D σ H ⟨ρ, σd, s, R, hE, h⟩ => ⟨ρ, σd, s, R, hE, (FinS.st h R hE).mono fun d ρ1 s1 H1 x1 R1 q v hv => ⟨ρ1, σd, s1, R1, hE.later R x1, (FinS.st q R1 (hE.later R x1)).mono fun d2 ρ2 s2 H2 x2 R2 q2 v2 hv2 =>
    ⟨ρ2, σd, s2, R2, (hE.later R x1).later R1 x2, (FinS.st q2 R2 ((hE.later R x1).later R1 x2)).mono fun d3 ρ3 s3 H3 x3 R3 q3 v3 hv3 =>
      L W ρ3 σ H3 s3 v2 v3 v d2 d3 d _ R3 (VR.later R2 x3 _ _ hv2) hv3 (VR.later R2 x3 _ _ (VR.later R1 x2 _ _ hv))
        ((FinS.st q3 R3 (((hE.later R x1).later R1 x2).later R2 x3)).mono fun _ ρ4 s4 H4 x4 R4 q4 => q4 ρ4 H4 σ Step.refl R4 ((((hE.later R x1).later R1 x2).later R2 x3).later R3 x4))⟩⟩⟩

/-! ### while -/
theorem FinS.turn {K : PySem.W.Frag} {D : Ends} {ρ : List Addr} {H : Hp} {r : Sm} {f : MS} {N : L2.St → Hp → Prop} (h : FinS K κ W D ρ H (r.turn f)) (hN : ∀ ρ' σd σ' s' H', Step ρ H ρ' H' → Rel K κ ρ' H' s' → ER K κ ρ' H' σd σ' → FinS K κ W D ρ' H' (f σd s') → N σ' H') :
    FinS K κ W { D with nx := N, ct := N, bk := D.nx } ρ H r := by
  cases r with
  | nx σ s => exact fun ρ' H' σ' x R hE => hN ρ' σ σ' s H' x R hE (h.step x)
  | ct σ s => exact fun ρ' H' σ' x R hE => hN ρ' σ σ' s H' x R hE (h.step x)
  | bk σ s => exact h
  | rt d s => exact h
  | er e σ s => exact h
  | bad => exact h
theorem ls_while (hp : PassesOwn (model X.prog X.w) X.A X.env X.xe) (hc : LT X κ W c tc) (hb : LSs X κ W body m) : LS X κ W (.While c body [] pos) (msWhile tc m) :=
  PS.by (ps_while hp hc hb) fun D σ H ⟨ρ, σd, s, R, hE, h⟩ => by
    have hne : msWhile tc m σd s ≠ .bad := fun z => by rw [z] at h; exact h
    obtain ⟨n, hn⟩ := msWhile_ex hne
    rw [hn] at h
    refine ⟨fun n σ H => ∃ ρ σd s, Rel X.K κ ρ H s ∧ ER X.K κ ρ H σd σ ∧ FinS X.K κ W D ρ H (whileF tc m n σd s), ⟨n, ρ, σd, s, R, hE, h⟩, ?_⟩
    rintro n σ H ⟨ρ, σd, s, R, hE, h⟩
    cases n with
    | zero => exact h.elim
    | succ n =>
      refine ⟨ρ, σd, s, R, hE, (FinS.st h R hE).mono fun d ρ1 s1 H1 x1 R1 q => ?_⟩
      cases d with
      | false => exact q ρ1 H1 σ Step.refl R1 (hE.later R x1)
      | true =>
        refine ⟨fun σ' H' => ∃ ρ σd s, Rel X.K κ ρ H' s ∧ ER X.K κ ρ H' σd σ' ∧ FinS X.K κ W D ρ H' (whileF tc m n σd s), fun σ' H' w => ⟨n, Nat.lt_succ_self n, w⟩, ρ1, σd, s1, R1, hE.later R x1, FinS.turn q fun ρ' σd' σ' s' H' x R hE q => ⟨ρ', σd', s', R, hE, q⟩⟩

/-! ### what is walked -/
/-- J yields what it says -/
def ItOk (K : PySem.W.Frag) (κ : Nat → Addr) (ρ0 : List Addr) (H0 : Hp) (it : Mit) (J : It) : Prop := ∀ ρ H s, Kp ρ0 H0 ρ H → Rel K κ ρ H s → Mit.stays it.src s →
  (∀ i x, it.xs[i]? = some x → J.go i H ∧ ∀ v H', J.yld i H v H' → Step ρ H ρ H' ∧ Rel K κ ρ H' s ∧ VR K κ ρ H' x v) ∧ (∀ i, it.xs.length ≤ i → J.stop i H)
def rdI (K : PySem.W.Frag) (κ : Nat → Addr) (W : WX) (m : MI) : TI := fun σ H R => ∃ ρ σd s, Rel K κ ρ H s ∧ ER K κ ρ H σd σ ∧ Fin K κ W ρ σ H (m σd s) fun it ρ' _ H' => ∀ J, ItOk K κ ρ' H' it J → R J H'
abbrev LI (X : Cx) (κ : Nat → Addr) (W : WX) (tg iter : Expr) (m : MI) : Prop := PI X tg iter (rdI X.K κ W m)
theorem PI.by {tg e : Expr} {t t' : TI} (h : PI X tg e t) (f : ∀ σ H R, t' σ H R → t σ H R) : PI X tg e t' := ⟨fun pins s σ H R I q => h.run pins s σ H R I (f σ H R q)⟩
theorem getElem?_of_drop {α : Type} {l r : List α} {x : α} {i : Nat} (h : l.drop i = x :: r) : l[i]? = some x ∧ l.drop (i + 1) = r := by
  have h1 : l[i]? = (l.drop i)[0]? := by simp
  constructor
  · rw [h1, h]; rfl
  · have : l.drop (i + 1) = (l.drop i).drop 1 := by rw [List.drop_drop]
    rw [this, h]; rfl
theorem length_of_drop {α : Type} {l : List α} {i : Nat} (h : l.drop i = []) : l.length ≤ i := List.drop_eq_nil_iff.mp h
theorem Kp.refl {ρ : List Addr} {H : Hp} : Kp ρ H ρ H := ⟨fun _ _ h => h, fun _ _ h => h, fun _ _ _ h => h⟩
theorem Kp.trans {ρ ρ1 ρ2 : List Addr} {H H1 H2 : Hp} (a : Kp ρ H ρ1 H1) (b : Kp ρ1 H1 ρ2 H2) : Kp ρ H ρ2 H2 :=
  ⟨fun n p h => b.ix n p (a.ix n p h), fun p x h => b.tup p x (a.tup p x h), fun p o u h => b.frz p o u (a.frz p o u h)⟩
theorem ls_for {mit : MI} (hp : PassesOwn (model X.prog X.w) X.A X.env X.xe) (hc : X.calm = true) (hi : LI X κ W tg iter mit) (hg : LG X κ W tg g ws) (hb : LSs X κ W body m) (hs : ∀ x, foldedSetIterable iter X.env x = pure x := by intro _; rfl) :
    LS X κ W (.For tg iter body [] pos) (msFor mit g m) :=
  PS.by (ps_for hp hc hi hg hb hs) fun D σ H ⟨ρ, σd, s, R, hE, h⟩ => ⟨ρ, σd, s, R, hE, (FinS.st h R hE).mono fun it ρ0 s0 H0 x0 R0 q J hJ => by
    refine ⟨fun i n σ H => n = it.xs.length - i ∧ i ≤ it.xs.length ∧ ∃ ρ σd s, Kp ρ0 H0 ρ H ∧ Rel X.K κ ρ H s ∧ ER X.K κ ρ H σd σ ∧ FinS X.K κ W D ρ H (forF it.src g m (it.xs.drop i) σd s),
      ⟨it.xs.length, by simp, Nat.zero_le _, ρ0, σd, s0, Kp.refl, R0, hE.later R x0, by simpa using q⟩, ?_⟩
    rintro i n σ H ⟨rfl, hil, ρ, σd, s, kp, R, hE, h⟩
    by_cases hst : Mit.stays it.src s
    · obtain ⟨hgo, hstop⟩ := hJ ρ H s kp R hst
      cases hd : it.xs.drop i with
      | nil =>
        rw [hd] at h
        unfold forF at h
        rw [if_pos hst] at h
        exact .inl ⟨hstop i (length_of_drop hd), h ρ H σ Step.refl R hE⟩
      | cons x r =>
        rw [hd] at h
        unfold forF at h
        rw [if_pos hst] at h
        obtain ⟨e1, e2⟩ := getElem?_of_drop hd
        obtain ⟨go, yl⟩ := hgo i x e1
        have hlt : i < it.xs.length := (List.getElem?_eq_some_iff.mp e1).1
        refine .inr ⟨go, fun σ' H' => i + 1 ≤ it.xs.length ∧ ∃ ρ σd s, Kp ρ0 H0 ρ H' ∧ Rel X.K κ ρ H' s ∧ ER X.K κ ρ H' σd σ' ∧ FinS X.K κ W D ρ H' (forF it.src g m (it.xs.drop (i + 1)) σd s),
          fun σ' H' ⟨l, w⟩ => ⟨it.xs.length - (i + 1), by omega, rfl, l, w⟩, fun v H1 y => ?_⟩
        obtain ⟨st1, R1, r1⟩ := yl v H1 y
        have kp1 := kp.trans (st1.kp R)
        refine ⟨ρ, σd, s, x, R1, hE.later R st1, r1, ((FinS.st h R hE).step st1).mono fun σ2 ρ2 s2 H2 x2 R2 q2 σ' hE' ho => ⟨ρ2, σ2, s2, R2, hE', FinS.turn q2 fun ρ' σd' σ'' s' H' x3 R3 hE3 q3 => ⟨hlt, ρ', σd', s', (kp1.trans (x2.kp R1)).trans (x3.kp R2), R3, hE3, by rw [e2]; exact q3⟩⟩⟩
    · exfalso
      cases hd : it.xs.drop i with
      | nil => rw [hd] at h; unfold forF at h; rw [if_neg hst] at h; exact h
      | cons x r => rw [hd] at h; unfold forF at h; rw [if_neg hst] at h; exact h⟩
end
end Mid
/-! Mid4: comprehensions, what is walked, defs. -/
namespace Mid
open PySem PySem.Spec L2 Classical
open PyProof.Rows (envOfC)
section
variable {K : PySem.W.Frag} {κ : Nat → Addr} {ρ ρ' ρ0 : List Addr} {H H' H0 : Hp} {s : Mst} {a : Addr}
theorem Step.out (x : Step ρ H ρ' H') {o : HO} (e : H a = some o) (n : a ∉ ρ) : a ∉ ρ' := by
  obtain ⟨l, rfl, hl⟩ := x.pre
  intro h
  rcases List.mem_append.mp h with h | h
  · exact n h
  · rw [hl a h] at e; cases e
theorem Step.apart (x : Step ρ0 H0 ρ H) (n : H0 a = none) {o : HO} : Step ρ0 H0 ρ (upd H a o) :=
  ⟨x.pre, fun b u e hb => by rw [upd_ne (ne_of_none e n)]; exact x.keep b u e hb, fun b e => by
    by_cases h : b = a
    · subst h; rw [upd_same]; simp
    · rw [upd_ne h]; exact x.live b e⟩
theorem Step.add (x : Step ρ0 H0 ρ H) (n : H0 a = none) : Step ρ0 H0 (ρ ++ [a]) H := by
  refine ⟨?_, x.keep, x.live⟩
  obtain ⟨l, rfl, hl⟩ := x.pre
  refine ⟨l ++ [a], by simp, fun p hp => ?_⟩
  rcases List.mem_append.mp hp with h | h
  · exact hl p h
  · rw [List.mem_singleton.mp h]; exact n
end

section
variable {X : Cx} {κ : Nat → Addr} {W : WX} {pos : Pos} {elt tg iter : Expr} {ifs : List Expr} {scope : Scope} {own : List (Str × Nat)} {mit : MI} {g : MG} {tt : MT} {me : ME} {ws : List Nat}
abbrev LTs (X : Cx) (κ : Nat → Addr) (W : WX) (ifs : List Expr) (t : MT) : Prop := PTs X ifs (rdT X.K κ W t)
theorem PTs.by {e : List Expr} {t t' : TT} (h : PTs X e t) (f : ∀ σ H Q, t' σ H Q → t σ H Q) : PTs X e t' := ⟨fun pins s σ H Q I q => h.run pins s σ H Q I (f σ H Q q)⟩
theorem lts_nil : LTs X κ W [] mtYes := PTs.by pts_nil fun σ H Q ⟨ρ, σd, s, R, hE, h⟩ => h ρ H Step.refl R
theorem lts_one {c : Expr} (h : LT X κ W c tt) : LTs X κ W [c] tt := pts_one h

theorem Rm.bind_eq_ok {α β : Type} {r : Rm α} {f : α → Mst → Rm β} {b : β} {s' : Mst} (h : r.bind f = .ok b s') : ∃ a s, r = .ok a s ∧ f a s = .ok b s' := by
  cases r with
  | ok a s => exact ⟨a, s, rfl, h⟩
  | er e s => cases h
  | bad => cases h
theorem Rm.noEr_eq_ok {α : Type} {r : Rm α} {b : α} {s' : Mst} (h : r.noEr = .ok b s') : r = .ok b s' := by
  cases r with
  | ok a s => exact h
  | er e s => cases h
  | bad => cases h
theorem rd_lc (hws : ∀ w ∈ ws, w ∈ own.map (·.2)) {σ : L2.St} {H : Hp} {Q : VK} (h : rd X.K κ W (mLc mit g tt me (own.map (·.2))) σ H Q) :
    tLc (rdI X.K κ W mit) (rdG X.K κ W0 g ws) (rdT X.K κ W0 tt) (rd X.K κ W0 me) (own.map (·.2)) σ H Q := by
  obtain ⟨ρ, σd, s, R, hE, h⟩ := h
  refine ⟨ρ, σd, s, R, hE, (Fin.bind h).mono fun it ρ0 s0 H0 x0 R0 q J hJ D hD => ?_⟩
  generalize hvs : own.map (·.2) = vs at hws q ⊢
  cases e1 : (lcF it.src g tt me (mWipe σd vs) it.xs s0).noEr with
  | bad => rw [e1] at q; exact q.elim
  | er z s1 =>
    cases e2 : lcF it.src g tt me (mWipe σd vs) it.xs s0 with
    | ok a b => rw [e2] at e1; cases e1
    | er a b => rw [e2] at e1; cases e1
    | bad => rw [e2] at e1; cases e1
  | ok ds s2 =>
  rw [e1] at q
  simp only [Rm.bind_ok] at q
  by_cases hlen : it.xs.length < 2 ^ 24
  case neg => rw [if_neg hlen] at q; exact q.elim
  rw [if_pos hlen] at q
  replace e1 := Rm.noEr_eq_ok e1
  have hE0 := hE.later R x0
  refine ⟨fun i n H => n = it.xs.length - i ∧ i ≤ it.xs.length ∧ ∃ ρ s acc da rest, Step ρ0 H0 ρ H ∧ Rel X.K κ ρ H s ∧ H D = some (.lst acc) ∧ D ∉ ρ ∧ acc.length ≤ i ∧ VRs X.K κ ρ H da acc ∧ lcF it.src g tt me (mWipe σd vs) (it.xs.drop i) s = .ok rest s2 ∧ ds = da ++ rest,
    ⟨it.xs.length, by simp, Nat.zero_le _, ρ0, s0, [], [], ds, Step.lay hD, R0.lay hD, upd_same, R0.fresh hD, Nat.le_refl _, .nil, by simpa using e1, rfl⟩, ?_⟩
  rintro i n H1 ⟨rfl, hil, ρ1, s1, acc, da, rest, x1, R1, eD, nD, hacc, hda, hl, hds⟩
  have hst : Mit.stays it.src s1 := by
    by_cases z : Mit.stays it.src s1
    · exact z
    · exfalso
      cases hd : it.xs.drop i with
      | nil => rw [hd] at hl; unfold lcF at hl; rw [if_neg z] at hl; cases hl
      | cons x r => rw [hd] at hl; unfold lcF at hl; rw [if_neg z] at hl; cases hl
  obtain ⟨hgo, hstop⟩ := hJ ρ1 H1 s1 (x1.kp R0) R1 hst
  cases hd : it.xs.drop i with
  | nil =>
    rw [hd] at hl
    unfold lcF at hl
    rw [if_pos hst] at hl
    cases hl
    rw [List.append_nil] at hds
    subst hds
    refine .inl ⟨hstop i (length_of_drop hd), q (ρ1 ++ [D]) H1 (x1.add hD) (R1.add ⟨acc, eD, hda⟩ nD) (.ref D) ?_⟩
    rw [← R1.len]
    exact VR.last
  | cons x r =>
    rw [hd] at hl
    unfold lcF at hl
    rw [if_pos hst] at hl
    obtain ⟨i1, i2⟩ := getElem?_of_drop hd
    obtain ⟨go, yl⟩ := hgo i x i1
    have hlt : i < it.xs.length := (List.getElem?_eq_some_iff.mp i1).1
    obtain ⟨σ2, s3, e3, hl⟩ := Rm.bind_eq_ok hl
    obtain ⟨c, s4, e4, hl⟩ := Rm.bind_eq_ok hl
    refine .inr ⟨go, fun H => i + 1 ≤ it.xs.length ∧ ∃ ρ s acc da rest', Step ρ0 H0 ρ H ∧ Rel X.K κ ρ H s ∧ H D = some (.lst acc) ∧ D ∉ ρ ∧ acc.length ≤ i + 1 ∧ VRs X.K κ ρ H da acc ∧ lcF it.src g tt me (mWipe σd vs) (it.xs.drop (i + 1)) s = .ok rest' s2 ∧ ds = da ++ rest',
      fun H' ⟨l, w⟩ => ⟨it.xs.length - (i + 1), by omega, rfl, l, w⟩, fun v H2 y => ?_⟩
    obtain ⟨st2, R2, r2⟩ := yl v H2 y
    have hE2 := ((hE0.kp (x1.kp R0)).later R1 st2).wipe vs
    refine ⟨ρ1, mWipe σd vs, s1, x, R2, hE2, r2, ?_⟩
    rw [e3]
    intro ρ3 H3 x3 R3 σ3 hE3 ho
    refine ⟨(wipe_off ho hws).trans (wipe_wipe σ vs), ρ3, σ2, s3, R3, hE3, ?_⟩
    rw [e4]
    intro ρ4 H4 x4 R4
    have X4 : Step ρ1 H1 ρ4 H4 := (st2.trans x3).trans x4
    cases c with
    | false =>
      rw [if_neg Bool.false_ne_true] at hl
      exact iteF ⟨hlt, ρ4, s4, acc, da, rest, x1.trans X4, R4, X4.keep _ _ eD nD, X4.out eD nD, Nat.le_succ_of_le hacc, VRs.later R1 X4 _ _ hda, by rw [i2]; exact hl, hds⟩
    | true =>
      rw [if_pos rfl] at hl
      apply iteT
      obtain ⟨d, s5, e5, hl⟩ := Rm.bind_eq_ok hl
      obtain ⟨dr, s6, e6, hl⟩ := Rm.bind_eq_ok hl
      cases hl
      refine ⟨ρ4, σ2, s4, R4, hE3.later R3 x4, ?_⟩
      rw [e5]
      intro ρ5 H5 x5 R5 vy hy
      have X5 := X4.trans x5
      have eD5 : H5 D = some (.lst acc) := X5.keep _ _ eD nD
      have nD5 := X5.out eD nD
      refine ⟨acc, eD5, ?_, hlt, ρ5, s5, acc ++ [vy], da ++ [d], dr, (x1.trans X5).apart hD, R5.apart eD5 nD5, upd_same, nD5, by simpa using hacc, ?_, by rw [i2]; exact e6, by rw [hds]; simp⟩
      · have : (2 : Nat) ^ 24 = sizeLine := rfl
        omega
      · exact (VRs.later R1 X5 _ _ hda).append (.cons hy .nil) |> fun z => VRs.kp (Kp.apart eD5) _ _ z
theorem le_lc {vs : List Nat} (hc : X.calm = true) (hN : X.N.Nodup) (hi : LI X κ W tg iter mit) (ok : BlkOk X.N X.env.scope scope own) (hv : own.map (·.2) = vs) (hws : ∀ w ∈ ws, w ∈ vs)
    (hg : ∀ (s : Shared) (H : Hp) (C : Addr) (cl : List (Str × Addr)) (fp : List Addr), LG (X.blk s H scope (compEnvC scope cl C X.env) fp) κ W0 tg g ws) (ht : ∀ (s : Shared) (H : Hp) (C : Addr) (cl : List (Str × Addr)) (fp : List Addr), LTs (X.blk s H scope (compEnvC scope cl C X.env) fp) κ W0 ifs tt)
    (he : ∀ (s : Shared) (H : Hp) (C : Addr) (cl : List (Str × Addr)) (fp : List Addr), LE (X.blk s H scope (compEnvC scope cl C X.env) fp) κ W0 elt me) (hs : ∀ x, foldedSetIterable iter X.env x = pure x := by intro _; rfl) :
    LE X κ W (.ListComp elt [⟨tg, iter, ifs, 0⟩] scope pos) (mLc mit g tt me vs) :=
  PE.by (pe_lc hc hN hi ok hg ht he hs) fun σ H Q h => by
    subst hv
    exact rd_lc hws h
theorem relabel_cf {env : Env} {x : Str} : ∀ {names : List (Str × NameKind)}, (names.lookup x = some .cell ∨ names.lookup x = some .free) →
    let l := (names.map fun (n, k) => if (k == NameKind.free && env.scope.kind == .function && env.kindOf n == some .cell) then (n, NameKind.cell) else (n, k)).lookup x
    l = some .cell ∨ l = some .free
  | [], h => by simp at h
  | (n, k) :: r, h => by
    intro l
    have ih := @relabel_cf env x r
    have hl : l = List.lookup x ((if (k == NameKind.free && env.scope.kind == .function && env.kindOf n == some .cell) = true then (n, NameKind.cell) else (n, k)) :: (r.map fun (n, k) => if (k == NameKind.free && env.scope.kind == .function && env.kindOf n == some .cell) then (n, NameKind.cell) else (n, k))) := rfl
    rw [hl]
    cases hx : x == n with
    | true =>
      simp only [List.lookup_cons, hx] at h
      by_cases hc : (k == NameKind.free && env.scope.kind == .function && env.kindOf n == some .cell) = true
      · rw [if_pos hc]; simp only [List.lookup_cons, hx]; exact .inl trivial
      · rw [if_neg hc]; simp only [List.lookup_cons, hx]; exact h
    | false =>
      simp only [List.lookup_cons, hx] at h
      by_cases hc : (k == NameKind.free && env.scope.kind == .function && env.kindOf n == some .cell) = true
      · rw [if_pos hc]; simp only [List.lookup_cons, hx]; exact ih h
      · rw [if_neg hc]; simp only [List.lookup_cons, hx]; exact ih h
/-- a block within a block -/
theorem blkOk_in {scope' : Scope} {own' : List (Str × Nat)} {s : Shared} {H : Hp} {C : Addr} {cl : List (Str × Addr)} {fp : List Addr} (ok : BlkOk X.N scope scope' own') : BlkOk (X.blk s H scope (compEnvC scope cl C X.env) fp).N (X.blk s H scope (compEnvC scope cl C X.env) fp).env.scope scope' own' :=
  ⟨ok.kind, ok.uniq, ok.ix, fun y hy e => relabel_cf (ok.free y hy e), ok.own⟩
theorem ls_setLc (j : Nat) {vs : List Nat} {y : Str} {py spos : Pos} (hc : X.calm = true) (hN : X.N.Nodup) (hi : LI X κ W tg iter mit) (ok : BlkOk X.N X.env.scope scope own) (hv : own.map (·.2) = vs) (hws : ∀ w ∈ ws, w ∈ vs)
    (hg : ∀ (s : Shared) (H : Hp) (C : Addr) (cl : List (Str × Addr)) (fp : List Addr), LG (X.blk s H scope (compEnvC scope cl C X.env) fp) κ W0 tg g ws) (ht : ∀ (s : Shared) (H : Hp) (C : Addr) (cl : List (Str × Addr)) (fp : List Addr), LTs (X.blk s H scope (compEnvC scope cl C X.env) fp) κ W0 ifs tt)
    (he : ∀ (s : Shared) (H : Hp) (C : Addr) (cl : List (Str × Addr)) (fp : List Addr), LE (X.blk s H scope (compEnvC scope cl C X.env) fp) κ W0 elt me) (hy : X.N[j]? = some y := by rfl) (hyl : X.env.scope.names.lookup y = some .local := by rfl)
    (hsw : swapsWith (.ListComp elt [⟨tg, iter, ifs, 0⟩] scope pos) (some (.Name y py)) spos.line X.env = pure true := by exact sw_true rfl rfl rfl (by decide +kernel)) (hs : ∀ x, foldedSetIterable iter X.env x = pure x := by intro _; rfl) :
    LS X κ W (.Assign [.Name y py] (.ListComp elt [⟨tg, iter, ifs, 0⟩] scope pos) spos) (msSet j (mLc mit g tt me vs)) :=
  PS.by (L2.ps_setLc hc hN hy hyl hsw hi ok hg ht he hs) fun D σ H ⟨ρ, σd, s, R, hE, h⟩ => by
    subst hv
    exact rd_lc (X := X) (Q := fun x H1 => gName j x σ H1 D.nx) hws ⟨ρ, σd, s, R, hE, (FinS.st h R hE).mono fun d ρ1 s1 H1 x1 R1 q v hv => q ρ1 H1 _ Step.refl R1 ((hE.later R x1).set hv j)⟩
end

/-! ### what is walked -/
section
variable {X : Cx} {κ : Nat → Addr} {W : WX} {pos : Pos} {tg e a b : Expr} {me ma mb : ME}
theorem it_tup {ρ : List Addr} {H : Hp} {l : List Dv} {vs : List V} {p : Addr} (h : SqT X.K H p vs) (r : VRs X.K κ ρ H l vs) : ItOk X.K κ ρ H ⟨l, []⟩ (Itt X.K p) := fun ρ1 H1 s kp R _ => by
  have h1 := SqT.kp kp h
  have r1 := VRs.kp kp _ _ r
  refine ⟨fun i x e => ?_, fun i hi => ⟨vs, h1, by rw [r1.length]; exact hi⟩⟩
  obtain ⟨v, e1, e2⟩ := r1.get e
  refine ⟨⟨vs, v, h1, e1⟩, fun v' H' y => ?_⟩
  obtain ⟨rfl, y⟩ := y
  have := y vs h1
  rw [e1] at this; cases this
  exact ⟨Step.refl, R, e2⟩
theorem SqI.list {K : PySem.W.Frag} {H : Hp} {p : Addr} {vs : List V} (h : SqI K H p vs) : SqL K H p vs := by
  rcases h with ⟨o, h⟩ | h
  · exact .inl (.inr ⟨o, h⟩)
  · exact .inr h
theorem it_clst {ρ : List Addr} {H : Hp} {l : List Dv} {vs : List V} {p : Addr} (h : SqI X.K H p vs) (r : VRs X.K κ ρ H l vs) : ItOk X.K κ ρ H ⟨l, []⟩ (Itl X.K p) := fun ρ1 H1 s kp R _ => by
  have h1 : SqL X.K H1 p vs := SqI.list (SqI.kp kp h)
  have r1 := VRs.kp kp _ _ r
  refine ⟨fun i x e => ?_, fun i hi => ⟨vs, h1, by rw [r1.length]; exact hi⟩⟩
  obtain ⟨v, e1, e2⟩ := r1.get e
  refine ⟨⟨vs, v, h1, e1⟩, fun v' H' y => ?_⟩
  obtain ⟨rfl, y⟩ := y
  have := y vs h1
  rw [e1] at this; cases this
  exact ⟨Step.refl, R, e2⟩
theorem it_loc {ρ : List Addr} {H : Hp} {l : List Dv} {n : Nat} {p : Addr} (hp : ρ[n]? = some p) : ItOk X.K κ ρ H ⟨l, [(n, l)]⟩ (Itl X.K p) := fun ρ1 H1 s kp R st => by
  obtain ⟨vs, e, r1⟩ := R.obj n p _ (kp.ix n p hp) st.1
  have h1 : SqL X.K H1 p vs := .of e
  refine ⟨fun i x e => ?_, fun i hi => ⟨vs, h1, by rw [r1.length]; exact hi⟩⟩
  obtain ⟨v, e1, e2⟩ := r1.get e
  refine ⟨⟨vs, v, h1, e1⟩, fun v' H' y => ?_⟩
  obtain ⟨rfl, y⟩ := y
  have := y vs h1
  rw [e1] at this; cases this
  exact ⟨Step.refl, R, e2⟩
theorem it_str {ρ : List Addr} {H : Hp} {x : Str} : ItOk X.K κ ρ H ⟨x.cps.toList.map fun c => .str ⟨#[c]⟩, []⟩ (Its x) := fun ρ1 H1 s kp R st => by
  refine ⟨fun i d e => ?_, fun i hi => by show x.cps.size ≤ i; simpa using hi⟩
  rw [List.getElem?_map] at e
  cases q : x.cps.toList[i]? with
  | none => rw [q] at e; cases e
  | some c =>
    rw [q] at e
    have hl := (List.getElem?_eq_some_iff.mp q).1
    refine ⟨by show i < x.cps.size; simpa using hl, fun v H' y => ?_⟩
    obtain ⟨rfl, c', h1, rfl⟩ := y
    have h2 : x.cps[i]? = some c := by simpa using q
    rw [h1] at h2; cases h2
    cases e
    exact ⟨Step.refl, R, by simp only [VR]⟩
theorem it_rng {ρ : List Addr} {H : Hp} {lo : Int} {n : Nat} : ItOk X.K κ ρ H ⟨rngI lo n, []⟩ (Itr lo n) := fun ρ1 H1 s kp R st => by
  have len : (rngI lo n).length = n := by simp [rngI]
  refine ⟨fun i d e => ?_, fun i hi => by rw [← len]; exact hi⟩
  have hl := (List.getElem?_eq_some_iff.mp e).1
  rw [len] at hl
  have e' : d = .int (lo + i) := by
    unfold rngI at e
    rw [List.getElem?_map, List.getElem?_range hl] at e
    exact (Option.some.inj e).symm
  subst e'
  refine ⟨hl, fun v H' y => ?_⟩
  obtain ⟨rfl, rfl⟩ := y
  exact ⟨Step.refl, R, by simp only [VR]⟩
/-- a list, a tuple or a text -/
def iAny (K : PySem.W.Frag) (tl : TE) : TI := fun σ H R => tl σ H fun x H1 => (∃ a, x = .ref a ∧ (∃ xs, SqL K H1 a xs) ∧ R (Itl K a) H1) ∨ (∃ a, x = .ref a ∧ (∃ xs, SqT K H1 a xs) ∧ R (Itt K a) H1) ∨ (∃ z, x = .str z ∧ R (Its z) H1)
theorem pi_any {l : Expr} {tl : TE} (hl : PE X l tl) : PI X tg l (iAny X.K tl) := by
  refine ⟨fun pins s σ H R I h => ?_⟩
  refine thn (hl.run pins s σ H _ I h) fun v s1 ⟨x, H1, I1, r1, q1⟩ => ?_
  rcases q1 with ⟨a, e, ⟨xs, hq⟩, q⟩ | ⟨a, e, ⟨xs, hq⟩, q⟩ | ⟨y, e, q⟩
  · subst e
    cases r1
    obtain ⟨its, rv, p, hz⟩ := I1.list hq
    refine wpAny_pyIter_list p.isList ?_
    refine ⟨s1.heap.objs.size, [s1.heap.objs.size], _, _, H1, rfl, I1.kept (t' := s1.toks) fun b o e => Heap.get?_push_of_some _ e, turn_list a _, ⟨_, Heap.get?_push_size _ rfl, rfl, rfl⟩, fun b hb => ?_, q⟩
    have e : b = s1.heap.objs.size := by simpa using hb
    subst e
    exact I1.fpOk (Nat.le_refl _) (I1.hok.fresh (Nat.le_refl _))
  · subst e
    cases r1
    obtain ⟨its, rv, p, hz⟩ := I1.tuple hq
    refine wpAny_pyIter_tuple (show s1.heap.IsTuple a its.toArray from p) ?_
    refine ⟨s1.heap.objs.size, [s1.heap.objs.size], _, _, H1, rfl, I1.kept (t' := s1.toks) fun b o e => Heap.get?_push_of_some _ e, turn_tuple a _, ⟨_, Heap.get?_push_size _ rfl, rfl, rfl⟩, fun b hb => ?_, q⟩
    have e : b = s1.heap.objs.size := by simpa using hb
    subst e
    exact I1.fpOk (Nat.le_refl _) (I1.hok.fresh (Nat.le_refl _))
  · subst e
    obtain ⟨t, rfl⟩ := r1
    cases ha : y.cps.all (· < 128)
    · exact wpAny_pyIter_wide ha (pi_one (tk := s1.toks) I1 _ (turn_str _ y t "str_iterator" (.inr rfl)) ⟨_, Heap.get?_push_size _ rfl, rfl, rfl⟩ q)
    · exact wpAny_pyIter_ascii ha (pi_one (tk := s1.toks) I1 _ (turn_str _ y t "str_ascii_iterator" (.inl rfl)) ⟨_, Heap.get?_push_size _ rfl, rfl, rfl⟩ q)
theorem li_any (he : LE X κ W e me) : LI X κ W tg e (miSeq me) :=
  PI.by (pi_any he) fun σ H Q ⟨ρ, σd, s, R, hE, h⟩ => ⟨ρ, σd, s, R, hE, (Fin.bind h).mono fun d ρ1 s1 H1 x1 R1 q v hv => by
    cases d with
    | tup l =>
      simp only [VR] at hv
      obtain ⟨p, vs, e1, e2, e3⟩ := hv
      exact .inr (.inl ⟨p, e1, ⟨vs, e2⟩, q ρ1 H1 Step.refl R1 _ (it_tup e2 e3)⟩)
    | clst l =>
      simp only [VR] at hv
      obtain ⟨p, vs, e1, e2, e3⟩ := hv
      exact .inl ⟨p, e1, ⟨vs, SqI.list e2⟩, q ρ1 H1 Step.refl R1 _ (it_clst e2 e3)⟩
    | str x => exact .inr (.inr ⟨x, hv.str, q ρ1 H1 Step.refl R1 _ it_str⟩)
    | loc n =>
      unfold itSeq at q
      simp only at q
      cases e : s1[n]? with
      | none => rw [e] at q; exact q.elim
      | some o =>
        rw [e] at q
        cases o with
        | lst l =>
          obtain ⟨p, e1, e2, vs, e3, _⟩ := R1.loc hv e
          exact .inl ⟨p, e2, ⟨vs, .of e3⟩, q ρ1 H1 Step.refl R1 _ (it_loc e1)⟩
        | _ => exact q.elim
    | _ => exact q.elim⟩
theorem li_rng1 {p : Pos} (hg : Gl X "range") (hm : X.mg "range" = none) (ha : LE X κ W a ma) (hs : starEach [a] X.env = [(false, eval a X.env)] := by rfl) (hs' : starEach [a] X.env = (false, eval a X.env) :: starEach [] X.env := by rfl) : LI X κ W tg (.Call (.Name "range" p) [a] [] pos) (miRng1 ma) :=
  PI.by (pi_range1 hg hm (pa_cons ha pa_nil hs') hs) fun σ H Q ⟨ρ, σd, s, R, hE, h⟩ => ⟨ρ, σd, s, R, hE, (Fin.bind h).mono fun d ρ1 s1 H1 x1 R1 q v hv => by
    cases d with
    | int j =>
      simp only at q
      by_cases hj : -(2 ^ 62) ≤ j ∧ j < 2 ^ 62
      · rw [if_pos hj] at q
        exact ⟨j, by rw [hv.int], hj.1, hj.2, q ρ1 H1 Step.refl R1 _ it_rng⟩
      · rw [if_neg hj] at q; exact q.elim
    | _ => exact q.elim⟩
theorem li_rng2 {p : Pos} (hg : Gl X "range") (hm : X.mg "range" = none) (ha : LE X κ W a ma) (hb : LE X κ W b mb) (hs : starEach [a, b] X.env = [(false, eval a X.env), (false, eval b X.env)] := by rfl) (hs2 : starEach [b] X.env = [(false, eval b X.env)] := by rfl) (hs' : starEach [a, b] X.env = (false, eval a X.env) :: starEach [b] X.env := by rfl) (hs2' : starEach [b] X.env = (false, eval b X.env) :: starEach [] X.env := by rfl) :
    LI X κ W tg (.Call (.Name "range" p) [a, b] [] pos) (miRng2 ma mb) :=
  PI.by (pi_range2 hg hm (pa_cons ha (pa_cons hb pa_nil hs2') hs') hs hs2) fun σ H Q ⟨ρ, σd, s, R, hE, h⟩ => ⟨ρ, σd, s, R, hE, (Fin.bind h).mono fun d ρ1 s1 H1 x1 R1 q v hv => ⟨ρ1, σd, s1, R1, hE.later R x1, (Fin.bind q).mono fun d2 ρ2 s2 H2 x2 R2 q2 v2 hv2 => by
    cases d with
    | int i =>
      cases d2 with
      | int j =>
        simp only at q2
        by_cases hj : -(2 ^ 62) ≤ i ∧ i < 2 ^ 62 ∧ -(2 ^ 62) ≤ j ∧ j < 2 ^ 62
        · rw [if_pos hj] at q2
          exact ⟨i, j, by rw [hv.int, hv2.int], hj, q2 ρ2 H2 Step.refl R2 _ it_rng⟩
        · rw [if_neg hj] at q2; exact q2.elim
      | _ => exact q2.elim
    | _ => cases d2 <;> exact q2.elim⟩⟩
end

/-! ### a def -/
section
variable {P : Program} {w : World} {K : PySem.W.Frag} {mg : Str → Option Value} {base : Heap} {κ : Nat → Addr}
/-- a def's promise where nothing is raised -/
def spF0 (K : PySem.W.Frag) (κ : Nat → Addr) (n : Nat) (F : MF) : Sp := fun vs H Q _ => vs.length = n ∧ ∃ ρ ds s, Rel K κ ρ H s ∧ VRs K κ ρ H ds vs ∧ Fin K κ W0 ρ [] H (F ds s) fun d ρ' _ H' => ∀ v, VR K κ ρ' H' d v → Q v H'
theorem er_start {ρ : List Addr} {H : Hp} {ds : List Dv} {vs : List V} {N : List Str} (h : VRs K κ ρ H ds vs) : ER K κ ρ H (mStart N.length ds) (L2.start N vs) := by
  have hl := h.length
  refine ⟨by unfold mStart L2.start; simp [hl], fun i d e => ?_⟩
  unfold mStart at e
  by_cases hi : i < ds.length
  · rw [List.getElem?_append_left (by simpa using hi), List.getElem?_map] at e
    cases q : ds[i]? with
    | none => rw [q] at e; cases e
    | some d' =>
      rw [q] at e; cases e
      obtain ⟨v, e1, e2⟩ := h.get q
      exact ⟨v, by unfold L2.start; rw [List.getElem?_append_left (by simp [hl]; exact hi), List.getElem?_map, e1]; rfl, e2⟩
  · rw [List.getElem?_append_right (by simpa using hi), List.getElem?_replicate] at e
    split at e <;> cases e
theorem fn_ok {x qual : Str} {st : Stmt} {f : Addr} {fd : FuncData} {N ps : List Str} {k : Nat} {m : MS} (F : Fun K x qual st f fd) (S : FnScope N ps (defScope st))
    (hb : ∀ (cdv : Value) (A : Around) (outer : List Env) (s : Shared) (H : Hp) (E : XK), Room k (A.deeper (envOfC qual (defScope st) s.heap.objs.size f cdv)) → LSs (cxOf CX0 P w K mg base N qual (defScope st) f cdv A outer s H E).nox κ W0 (defBody st) m) :
    FnOk P w K mg base CX0 (k + 1) f fd ps (spF0 K κ ps.length (mFun ps.length N.length m)) := by
  refine F.ok S (fun vs H Q E h => h.1) fun cdv A outer s H vs Q E hr h => ?_
  obtain ⟨hl, ρ, ds, st', R, hv, h⟩ := h
  refine ⟨_, hb cdv A outer s H E hr, ρ, mStart N.length ds, st', R, er_start hv, ?_⟩
  unfold mFun at h
  rw [if_pos (by rw [← hv.length]; exact hl)] at h
  cases e : m (mStart N.length ds) st' with
  | nx σ1 s1 => rw [e] at h; exact fun ρ' H' σ' x R hE => h ρ' H' x R _ (by simp only [VR])
  | rt d s1 => rw [e] at h; exact fun ρ' H' v x R hv => h ρ' H' x R v hv
  | er z σ1 s1 => rw [e] at h; exact fun ρ' H' σ' c d x R hE q => h ρ' H' c d x R q
  | ct σ1 s1 => rw [e] at h; exact h.elim
  | bk σ1 s1 => rw [e] at h; exact h.elim
  | bad => rw [e] at h; exact h.elim
section
variable {X : Cx} {W : WX} {e : Expr} {es : List Expr} {ms : List ME} {pos : Pos}
theorem le_call0 {k : Nat} {f : Addr} {fd : FuncData} {ps : List Str} {n : Nat} {F : MF} {x : Str} {p : Pos} (G : FnOk X.prog X.w X.K X.mg X.base CX0 k f fd ps (spF0 X.K κ n F)) (hr : Room k X.A) (hg : Gl X x) (hm : X.mg x = some (.ref f))
    (hk : PySem.W.keepIn X.K (.ref f) = true) (hb : Binds X.K fd ps []) (ha : LA X κ W (e :: es) ms) (hn : ms.length = n := by rfl) (hdb : (x == ("__debug__" : Str)) = false := by decide) (he : starEach (e :: es) X.env = (false, eval e X.env) :: starEach es X.env := by rfl)
    (hpl : (backTo pos (starEach es X.env)).any (·.1) = false := by rfl) : LE X κ W (.Call (.Name x p) (e :: es) [] pos) (mCall (noE F) ms) :=
  PE.by (pe_call (E := E0) G hr hg hm hk hb .nil pass0 ha hdb he hpl) fun σ H Q ⟨ρ, σd, s, R, hEr, q⟩ => ⟨ρ, σd, s, R, hEr, (Fin.args (Fin.bind q)).mono fun ds ρ1 s1 H1 x1 R1 ⟨hnn, h1⟩ vs hvs => by
    show spF0 X.K κ n F (vs ++ []) H1 Q E0
    rw [List.append_nil]
    exact ⟨by rw [hvs.length, hnn, hn], ρ1, ds, s1, R1, hvs, Fin.noEr h1⟩⟩
end
end
end Mid
/-! MidOp: operators, built-ins, methods of the plain model. -/
namespace Mid
open PySem Classical
noncomputable section
def line : Nat := 2 ^ 24
def seqOf (d : Dv) (s : Mst) : Option (List Dv) := match d with
  | .tup l => some l
  | .clst l => some l
  | .loc n => match s[n]? with
    | some (.lst l) => some l
    | _ => none
  | _ => none
def mNew (o : MO) (s : Mst) : Rm Dv := .ok (.loc s.length) (s ++ [o])
def ofO {α : Type} (o : Option α) (s : Mst) : Rm α := match o with
  | some d => .ok d s
  | none => .bad
@[simp] theorem ofO_some {α : Type} (d : α) (s : Mst) : ofO (some d) s = .ok d s := rfl
@[simp] theorem ofO_none {α : Type} (s : Mst) : (ofO none s : Rm α) = .bad := rfl
/-! ### arithmetic -/
def oII (f : Int → Int → Option Dv) : Dv → Dv → Mst → Rm Dv := fun x y s => match x, y with
  | .int i, .int j => ofO (f i j) s
  | _, _ => .bad
def oSub := oII fun i j => some (.int (i - j))
def oMod := oII fun i j => @ite _ (0 < j) (Classical.propDecidable _) (some (.int (i % j))) (none)
def oFdiv := oII fun i j => @ite _ (0 < j ∧ j.natAbs.log2 < 9000) (Classical.propDecidable _) (some (.int (i / j))) (none)
def oPow := oII fun i j => @ite _ (0 ≤ j ∧ j ≤ 1000000 ∧ i.natAbs < 2 ^ 64) (Classical.propDecidable _) (some (.int (i ^ j.toNat))) (none)
def oLt := oII fun i j => some (.bl (decide (i < j)))
def oLe := oII fun i j => some (.bl (decide (i ≤ j)))
def oGt := oII fun i j => some (.bl (decide (j < i)))
def oGe := oII fun i j => some (.bl (decide (j ≤ i)))
def uNeg : Dv → Mst → Rm Dv := fun x s => match x with
  | .int i => .ok (.int (-i)) s
  | _ => .bad
def oAdd : Dv → Dv → Mst → Rm Dv := fun x y s => match x, y with
  | .int i, .int j => .ok (.int (i + j)) s
  | .str a, .str b => @ite _ (a.length + b.length ≤ 2 ^ 24) (Classical.propDecidable _) (.ok (.str (a ++ b)) s) (.bad)
  | .tup l, .tup m => @ite _ (l.length + m.length ≤ 2 ^ 24) (Classical.propDecidable _) (.ok (.tup (l ++ m)) s) (.bad)
  | .loc a, .loc b => match s[a]?, s[b]? with
    | some (.lst l), some (.lst m) => @ite _ (l.length + m.length ≤ 2 ^ 24) (Classical.propDecidable _) (mNew (.lst (l ++ m)) s) (.bad)
    | _, _ => .bad
  | _, _ => .bad
def oMul : Dv → Dv → Mst → Rm Dv := fun x y s => match x, y with
  | .int i, .int j => @ite _ (i.natAbs.log2 + j.natAbs.log2 < 1000000) (Classical.propDecidable _) (.ok (.int (i * j)) s) (.bad)
  | .loc a, .int k => match s[a]? with
    | some (.lst l) => @ite _ (-(2 ^ 63) ≤ k ∧ k < 2 ^ 63 ∧ l.length * k.toNat ≤ 2 ^ 24) (Classical.propDecidable _) (mNew (.lst (List.replicate k.toNat l).flatten) s) (.bad)
    | _ => .bad
  | _, _ => .bad
/-! ### comparisons -/
def oCmpD (f : PyData → PyData → Bool) : Dv → Dv → Mst → Rm Dv := fun x y s => match dat s 66 x, dat s 66 y with
  | some a, some b => if SeqAt.shaped a = true ∧ SeqAt.shaped b = true then .ok (.bl (f a b)) s else .bad
  | _, _ => .bad
def oEq := oCmpD PyData.eqv
def oNe := oCmpD fun a b => !PyData.eqv a b
def isNonQ : Dv → Bool
  | .non => true
  | _ => false
def oIsN : Dv → Dv → Mst → Rm Dv := fun x y s => match y with
  | .non => .ok (.bl (isNonQ x)) s
  | .bl b => match x with
    | .bl a => .ok (.bl (decide (a = b))) s
    | _ => .bad
  | _ => .bad
def oNotN : Dv → Dv → Mst → Rm Dv := fun x y s => match y with
  | .non => .ok (.bl (!isNonQ x)) s
  | .bl b => match x with
    | .bl a => .ok (.bl (!decide (a = b))) s
    | _ => .bad
  | _ => .bad
/-! ### keys -/
abbrev KeyQ := Sum Int Str
def keyQ : Dv → Option KeyQ
  | .int i => some (.inl i)
  | .str x => some (.inr x)
  | _ => none
def kval {α : Type} [DecidableEq α] (kvs : List (α × Dv)) (k : α) : Option Dv := (kvs.find? fun kv => decide (kv.1 = k)).map (·.2)
def kput {α : Type} [DecidableEq α] (kvs : List (α × Dv)) (k : α) (v : Dv) : List (α × Dv) :=
  if (kvs.any fun kv => decide (kv.1 = k)) = true then kvs.map (fun kv => if kv.1 = k then (kv.1, v) else kv) else kvs ++ [(k, v)]
def kputs {α : Type} [DecidableEq α] (kvs more : List (α × Dv)) : List (α × Dv) := more.foldl (fun acc kv => kput acc kv.1 kv.2) kvs
/-- in: x in y -/
def inQ (x y : Dv) (s : Mst) : Option Bool := match y with
  | .loc n => match s[n]? with
    | some (.lst l) => match dat s 66 x, datA (dat s 65) l with
      | some a, some bs => if SeqAt.shaped a = true ∧ SeqAt.shaped (.list bs) = true then some (bs.any fun z => PyData.eqv z a) else none
      | _, _ => none
    | some (.dK kvs) => match keyQ x with
      | some k => some (kval kvs k).isSome
      | none => none
    | _ => none
  | .clst l => match dat s 66 x, datA (dat s 65) l with
      | some a, some bs => if SeqAt.shaped a = true ∧ SeqAt.shaped (.list bs) = true then some (bs.any fun z => PyData.eqv z a) else none
      | _, _ => none
  | .tup l => match dat s 66 x, datA (dat s 65) l with
      | some a, some bs => if SeqAt.shaped a = true ∧ SeqAt.shaped (.tuple bs) = true then some (bs.any fun z => PyData.eqv z a) else none
      | _, _ => none
  | _ => none
def oIn : Dv → Dv → Mst → Rm Dv := fun x y s => ofO ((inQ x y s).map fun b => .bl b) s
def oNotIn : Dv → Dv → Mst → Rm Dv := fun x y s => ofO ((inQ x y s).map fun b => .bl (!b)) s
/-! ### places -/
def ixQ (n : Nat) (i : Int) : Option Nat := if 0 ≤ i then (if i < n then some i.toNat else none) else if -(n : Int) ≤ i then some (i + n).toNat else none
def atQ {α : Type} (xs : List α) (i : Int) : Option α := (ixQ xs.length i).bind fun j => xs[j]?
def getQ (x i : Dv) (s : Mst) : Option Dv := match x with
  | .str z => match i with
    | .int j => @ite _ (z.length ≤ 2 ^ 24) (Classical.propDecidable _) ((atQ z.cps.toList j).map fun c => .str ⟨#[c]⟩) (none)
    | _ => none
  | .tup l => match i with
    | .int j => atQ l j
    | _ => none
  | .clst l => match i with
    | .int j => atQ l j
    | _ => none
  | .loc n => match s[n]? with
    | some (.lst l) => match i with
      | .int j => atQ l j
      | _ => none
    | some (.dK kvs) => match keyQ i with
      | some k => kval kvs k
      | none => none
    | _ => none
  | _ => none
def oGet : Dv → Dv → Mst → Rm Dv := fun x i s => ofO (getQ x i s) s
def putQ (x i v : Dv) (s : Mst) : Option Mst := match x with
  | .loc n => match s[n]? with
    | some (.lst l) => match i with
      | .int j => (ixQ l.length j).map fun k => s.set n (.lst (l.set k v))
      | _ => none
    | some (.dK kvs) => match keyQ i with
      | some k => @ite _ (kvs.length < 2 ^ 24) (Classical.propDecidable _) (some (s.set n (.dK (kput kvs k v)))) (none)
      | none => none
    | _ => none
  | _ => none
def oPut : Dv → Dv → Dv → Mst → Rm Unit := fun x i v s => match putQ x i v s with
  | some s' => .ok () s'
  | none => .bad
/-- how a slice's bound counts -/
def sIxQ (n d : Nat) : Option Int → Nat
  | none => d
  | some v => if v < 0 then (v + (n : Int)).toNat else min v.toNat n
def cutQ {α : Type} (xs : List α) (lo hi : Option Int) : List α := (xs.drop (sIxQ xs.length 0 lo)).take (sIxQ xs.length xs.length hi - sIxQ xs.length 0 lo)
def slQ (x : Dv) (lo hi : Option Int) (s : Mst) : Rm Dv := match x with
  | .tup l => .ok (.tup (cutQ l lo hi)) s
  | .clst l => mNew (.lst (cutQ l lo hi)) s
  | .loc n => match s[n]? with
    | some (.lst l) => mNew (.lst (cutQ l lo hi)) s
    | _ => .bad
  | _ => .bad
abbrev MO' := Men → Mst → Rm (Option Int)
def poN : MO' := fun _ s => .ok none s
def poS (m : ME) : MO' := fun σ s => (m σ s).bind fun d s1 => match d with
  | .int i => .ok (some i) s1
  | _ => .bad
def mSlice (m : ME) (lo hi : MO') : ME := fun σ s => (m σ s).bind fun x s1 => (lo σ s1).bind fun l s2 => (hi σ s2).bind fun h s3 => slQ x l h s3
/-! ### dicts written -/
def dispQ : List (Dv × Dv) → Option (List (KeyQ × Dv))
  | [] => some []
  | (k, v) :: r => match keyQ k, dispQ r with
    | some q, some l => some ((q, v) :: l)
    | _, _ => none
def mPairs : List (ME × ME) → Men → Mst → Rm (List (Dv × Dv))
  | [], _, s => .ok [] s
  | (k, v) :: r, σ, s => (k σ s).bind fun a s1 => (v σ s1).bind fun b s2 => (mPairs r σ s2).bind fun l s3 => .ok ((a, b) :: l) s3
/-- {k: v, ..}, at most fifteen; {} too -/
def mDisp (ps : List (ME × ME)) : ME := fun σ s => (mPairs ps σ s).bind fun l s1 => match dispQ l with
  | some kvs => mNew (.dK (kputs [] kvs)) s1
  | none => .bad
/-! ### built-ins -/
def f1 (f : Dv → Mst → Rm Dv) : MF := fun ds s => match ds with
  | [x] => f x s
  | _ => .bad
def f2 (f : Dv → Dv → Mst → Rm Dv) : MF := fun ds s => match ds with
  | [x, y] => f x y s
  | _ => .bad
def lenQ (x : Dv) (s : Mst) : Option Nat := match x with
  | .str z => @ite _ (z.length ≤ 2 ^ 24) (Classical.propDecidable _) (some z.length) (none)
  | .tup l => some l.length
  | .clst l => some l.length
  | .loc n => match s[n]? with
    | some (.lst l) => some l.length
    | some (.dK kvs) => some kvs.length
    | _ => none
  | _ => none
def bLen : MF := f1 fun x s => ofO ((lenQ x s).map fun n => .int n) s
def bTuple : MF := f1 fun x s => ofO ((seqOf x s).map .tup) s
def bList : MF := f1 fun x s => match seqOf x s with
  | some l => mNew (.lst l) s
  | none => .bad
def intsQ : List Dv → Option (List Int)
  | [] => some []
  | .int i :: r => (intsQ r).map (i :: ·)
  | _ => none
def strsQ : List Dv → Option (List Str)
  | [] => some []
  | .str i :: r => (strsQ r).map (i :: ·)
  | _ => none
def blsQ : List Dv → Option (List Bool)
  | [] => some []
  | .bl i :: r => (blsQ r).map (i :: ·)
  | _ => none
def bAny : MF := f1 fun x s => ofO (((lstQ x s).bind blsQ).map fun bs => .bl (bs.any id)) s
where lstQ (d : Dv) (s : Mst) : Option (List Dv) := match d with
  | .clst l => some l
  | .loc n => match s[n]? with
    | some (.lst l) => some l
    | _ => none
  | _ => none
def bAll : MF := f1 fun x s => ofO (((bAny.lstQ x s).bind blsQ).map fun bs => .bl (bs.all id)) s
/-- ints put in their order -/
def insI (i : Int) : List Int → List Int
  | [] => [i]
  | j :: r => if i ≤ j then i :: j :: r else j :: insI i r
def srtI : List Int → List Int
  | [] => []
  | i :: r => insI i (srtI r)
def insS (x : Str) : List Str → List Str
  | [] => [x]
  | y :: r => if y.cps.toList < x.cps.toList then y :: insS x r else x :: y :: r
def srtS : List Str → List Str
  | [] => []
  | x :: r => insS x (srtS r)
def srtQ (l : List Dv) : Option (List Dv) := match intsQ l with
  | some ns => some ((srtI ns).map .int)
  | none => match strsQ l with
    | some xs => if xs.length < 64 then some ((srtS xs).map .str) else none
    | none => none
def keyD : KeyQ → Dv
  | .inl i => .int i
  | .inr x => .str x
def bSorted : MF := f1 fun x s => match bAny.lstQ x s with
  | some l => match srtQ l with
    | some r => mNew (.lst r) s
    | none => .bad
  | none => match x with
    | .loc n => match s[n]? with
      | some (.dK kvs) => match srtQ (kvs.map fun kv => keyD kv.1) with
        | some r => mNew (.lst r) s
        | none => .bad
      | _ => .bad
    | _ => .bad
def pairQ : Dv → Option (KeyQ × Dv)
  | .tup [k, v] => match keyQ k with
    | some q => some (q, v)
    | none => none
  | _ => none
def pairsQ : List Dv → Option (List (KeyQ × Dv))
  | [] => some []
  | d :: r => match pairQ d, pairsQ r with
    | some p, some l => some (p :: l)
    | _, _ => none
/-- dict of a list of pairs -/
def bDict : MF := f1 fun x s => match (bAny.lstQ x s).bind pairsQ with
  | some kvs => mNew (.dK (kputs [] kvs)) s
  | none => .bad
def bInt : MF := f1 fun x s => match x with
  | .int i => .ok (.int i) s
  | .bl b => .ok (.int (if b then 1 else 0)) s
  | _ => .bad
def tyQ (x : Dv) (s : Mst) : String := match x with
  | .non => "NoneType"
  | .bl _ => "bool"
  | .int _ => "int"
  | .str _ => "str"
  | .tup _ => "tuple"
  | .clst _ => "list"
  | .loc n => match s[n]? with
    | some (.lst _) => "list"
    | some (.dK _) => "dict"
    | some (.dT _) => "dict"
    | _ => "?"
  | _ => "?"
def kinds : List String := ["NoneType", "bool", "int", "str", "tuple", "list", "dict"]
def asked : List String := ["bool", "int", "str", "tuple", "list", "dict"]
def isiQ (t c : String) : Bool := t == c || (t == "bool" && c == "int")
def bIsi : MF := f2 fun x c s => match c with
  | .ty n => if tyQ x s ∈ kinds ∧ n ∈ asked then .ok (.bl (isiQ (tyQ x s) n)) s else .bad
  | _ => .bad
/-! ### methods -/
def mMeth (T : String) (F : MF) (m : ME) (ms : List ME) : ME := fun σ s => (m σ s).bind fun x s1 => if tyQ x s1 = T then (mArgs ms σ s1).bind fun ds s2 => F (x :: ds) s2 else .bad
def onLst (f : List Dv → List Dv → Option (List Dv × Dv)) : MF := fun ds s => match ds with
  | .loc n :: r => match s[n]? with
    | some (.lst l) => match f l r with
      | some (l', d) => .ok d (s.set n (.lst l'))
      | none => .bad
    | _ => .bad
  | _ => .bad
def tAppend : MF := onLst fun l r => match r with
  | [d] => @ite _ (l.length < 2 ^ 24) (Classical.propDecidable _) (some (l ++ [d], .non)) (none)
  | _ => none
def tPop : MF := onLst fun l r => match r with
  | [] => match l[l.length - 1]? with
    | some d => some (l.dropLast, d)
    | none => none
  | [.int i] => match ixQ l.length i with
    | some k => match l[k]? with
      | some d => @ite _ (-(2 ^ 63) ≤ i ∧ i < 2 ^ 63) (Classical.propDecidable _) (some (l.eraseIdx k, d)) (none)
      | none => none
    | none => none
  | _ => none
def tClear : MF := onLst fun _ r => match r with
  | [] => some ([], .non)
  | _ => none
/-- the place of the first equal one -/
def findE (a : PyData) : List PyData → Option Nat
  | [] => none
  | b :: r => if PyData.eqv b a then some 0 else (findE a r).map (· + 1)
def tIndex : MF := f2 fun x y s => match bAny.lstQ x s with
  | some l => match dat s 66 y, datA (dat s 65) l with
    | some a, some bs => if SeqAt.shaped a = true ∧ SeqAt.shaped (.list bs) = true then ofO ((findE a bs).map fun n => .int n) s else .bad
    | _, _ => .bad
  | none => .bad
def tCount : MF := f2 fun x y s => match bAny.lstQ x s with
  | some l => match dat s 66 y, datA (dat s 65) l with
    | some a, some bs => if SeqAt.shaped a = true ∧ SeqAt.shaped (.list bs) = true then .ok (.int (bs.countP fun z => PyData.eqv z a : Nat)) s else .bad
    | _, _ => .bad
  | none => .bad
def tUpdate : MF := f2 fun x y s => match x, y with
  | .loc n, .loc m => match s[n]?, s[m]? with
    | some (.dK kvs), some (.dK more) => @ite _ (n ≠ m ∧ kvs.length + more.length < 2 ^ 24) (Classical.propDecidable _) (.ok .non (s.set n (.dK (kputs kvs more)))) (.bad)
    | _, _ => .bad
  | _, _ => .bad
def tJoin : MF := f2 fun x y s => match x, (seqOf y s).bind strsQ with
  | .str z, some ys => @ite _ ((ys.map (·.length)).sum + ys.length * z.length ≤ 16777216) (Classical.propDecidable _) (.ok (.str (Str.join z ys)) s) (.bad)
  | _, _ => .bad
/-- list(range(..)) -/
def bListRg (a b : ME) : ME := fun σ s => (a σ s).bind fun x s1 => (b σ s1).bind fun y s2 => match x, y with
  | .int i, .int j => @ite _ (-(2 ^ 62) ≤ i ∧ i < 2 ^ 62 ∧ -(2 ^ 62) ≤ j ∧ j < 2 ^ 62 ∧ (j - i).toNat ≤ 2 ^ 24) (Classical.propDecidable _) (mNew (.lst (rngI i (j - i).toNat)) s2) (.bad)
  | _, _ => .bad
end
end Mid
/-! MidOrd: the order that sorted makes. -/
namespace Mid
open PySem Classical
/-! ### orders -/
theorem perm_one {α : Type} {r : α → α → Prop} (anti : ∀ a b, r a b → r b a → a = b) : ∀ {l m : List α}, l.Perm m → l.Pairwise r → m.Pairwise r → l = m
  | [], m, hp, _, _ => (List.nil_perm.mp hp).symm
  | a :: l, [], hp, _, _ => absurd hp.length_eq (by simp)
  | a :: l, b :: m, hp, h1, h2 => by
    have e : a = b := by
      have ha : a ∈ b :: m := hp.mem_iff.mp List.mem_cons_self
      have hb : b ∈ a :: l := hp.mem_iff.mpr List.mem_cons_self
      rcases List.mem_cons.mp ha with e | ha
      · exact e
      · rcases List.mem_cons.mp hb with e | hb
        · exact e.symm
        · exact anti a b (List.rel_of_pairwise_cons h1 hb) (List.rel_of_pairwise_cons h2 ha)
    subst e
    rw [perm_one anti (List.perm_cons _ |>.mp hp) (List.pairwise_cons.mp h1).2 (List.pairwise_cons.mp h2).2]
theorem insI_perm (i : Int) : ∀ l : List Int, (insI i l).Perm (i :: l)
  | [] => .refl _
  | j :: r => by
    unfold insI
    split
    · exact .refl _
    · exact ((insI_perm i r).cons j).trans (.swap i j r)
theorem srtI_perm : ∀ l : List Int, (srtI l).Perm l
  | [] => .refl _
  | i :: r => (insI_perm i (srtI r)).trans ((srtI_perm r).cons i)
theorem insI_rising (i : Int) : ∀ l : List Int, l.Pairwise (· ≤ ·) → (insI i l).Pairwise (· ≤ ·)
  | [], _ => by simp [insI]
  | j :: r, h => by
    unfold insI
    have h' := List.pairwise_cons.mp h
    split
    · rename_i hij
      refine List.pairwise_cons.mpr ⟨fun x hx => ?_, h⟩
      rcases List.mem_cons.mp hx with rfl | hx
      · exact hij
      · exact Int.le_trans hij (h'.1 x hx)
    · rename_i hij
      refine List.pairwise_cons.mpr ⟨fun x hx => ?_, insI_rising i r h'.2⟩
      rcases List.mem_cons.mp ((insI_perm i r).mem_iff.mp hx) with rfl | hx
      · omega
      · exact h'.1 x hx
theorem srtI_rising : ∀ l : List Int, (srtI l).Pairwise (· ≤ ·)
  | [] => .nil
  | i :: r => insI_rising i _ (srtI_rising r)
theorem srtI_one {l m : List Int} (hp : m.Perm l) (h : m.Pairwise (· ≤ ·)) : m = srtI l :=
  perm_one (fun _ _ => Int.le_antisymm) (hp.trans (srtI_perm l).symm) h (srtI_rising l)
/-- texts: not behind -/
def leS (x y : Str) : Prop := ¬ y.cps.toList < x.cps.toList
theorem leS_anti (x y : Str) (h : leS x y) (g : leS y x) : x = y := by
  have e : x.cps.toList = y.cps.toList := List.le_antisymm h g
  cases x; cases y
  simp only [Str.mk.injEq]
  exact Array.toList_inj.mp e
theorem leS_trans {x y z : Str} (h : leS x y) (g : leS y z) : leS x z := List.le_trans (α := Nat) h g
theorem leS_total {x y : Str} (h : ¬ leS x y) : leS y x := fun g => absurd (List.lt_trans (Classical.not_not.mp h) g) (List.lt_irrefl _)
theorem insS_perm (i : Str) : ∀ l : List Str, (insS i l).Perm (i :: l)
  | [] => .refl _
  | j :: r => by
    unfold insS
    split
    · exact ((insS_perm i r).cons j).trans (.swap i j r)
    · exact .refl _
theorem srtS_perm : ∀ l : List Str, (srtS l).Perm l
  | [] => .refl _
  | i :: r => (insS_perm i (srtS r)).trans ((srtS_perm r).cons i)
theorem insS_rising (i : Str) : ∀ l : List Str, l.Pairwise leS → (insS i l).Pairwise leS
  | [], _ => by simp [insS]
  | j :: r, h => by
    unfold insS
    have h' := List.pairwise_cons.mp h
    split
    · rename_i hij
      refine List.pairwise_cons.mpr ⟨fun x hx => ?_, insS_rising i r h'.2⟩
      rcases List.mem_cons.mp ((insS_perm i r).mem_iff.mp hx) with rfl | hx
      · exact leS_total (x := x) (y := j) (fun z => z hij)
      · exact h'.1 x hx
    · rename_i hij
      refine List.pairwise_cons.mpr ⟨fun x hx => ?_, h⟩
      rcases List.mem_cons.mp hx with rfl | hx
      · exact hij
      · exact leS_trans hij (h'.1 x hx)
theorem srtS_rising : ∀ l : List Str, (srtS l).Pairwise leS
  | [] => .nil
  | i :: r => insS_rising i _ (srtS_rising r)
end Mid
/-! Mid5: operators, built-ins, methods: lifted. -/
namespace Mid
open PySem PySem.Spec L2 Classical
section
variable {K : PySem.W.Frag} {κ : Nat → Addr} {W : WX} {ρ : List Addr} {σ : L2.St} {H : Hp} {s : Mst} {Q : VK} {p : Addr}
/-- what an operator's end has to give -/
abbrev EndV (K : PySem.W.Frag) (κ : Nat → Addr) (W : WX) (ρ : List Addr) (σ : L2.St) (H : Hp) (r : Rm Dv) (Q : VK) : Prop := Fin K κ W ρ σ H r fun d ρ' _ H' => ∀ v, VR K κ ρ' H' d v → Q v H'
theorem EndV.ok {d : Dv} (h : EndV K κ W ρ σ H (.ok d s) Q) (R : Rel K κ ρ H s) {v : V} (hv : VR K κ ρ H d v) : Q v H := h ρ H Step.refl R v hv
theorem EndV.new {o : MO} {ho : HO} (h : EndV K κ W ρ σ H (mNew o s) Q) (R : Rel K κ ρ H s) (np : H p = none) (hO : OR K κ (ρ ++ [p]) (upd H p ho) p o) : Q (.ref p) (upd H p ho) :=
  h _ _ (Step.new np) (R.new np hO) _ (by rw [← R.len]; exact VR.last)
theorem EndV.newL {l : List Dv} {vs : List V} (h : EndV K κ W ρ σ H (mNew (.lst l) s) Q) (R : Rel K κ ρ H s) (np : H p = none) (hv : VRs K κ ρ H l vs) : Q (.ref p) (upd H p (.lst vs)) :=
  h.new R np ⟨vs, upd_same, VRs.later R (Step.new np) _ _ hv⟩
theorem EndV.tup {l : List Dv} {vs : List V} (h : EndV K κ W ρ σ H (.ok (.tup l) s) Q) (R : Rel K κ ρ H s) (np : H p = none) (hv : VRs K κ ρ H l vs) : Q (.ref p) (upd H p (.tup vs)) :=
  h ρ _ (Step.lay np) (R.lay np) _ (by simp only [VR]; exact ⟨p, vs, rfl, .inl (.inl upd_same), VRs.later R (Step.lay np) _ _ hv⟩)
theorem EndV.put {n : Nat} {o : MO} {ho : HO} {d : Dv} (h : EndV K κ W ρ σ H (.ok d (s.set n o)) Q) (R : Rel K κ ρ H s) (e : ρ[n]? = some p) (hO : OR K κ ρ (upd H p ho) p o) {v : V} (hv : VR K κ ρ (upd H p ho) d v) : Q v (upd H p ho) :=
  h ρ _ (Step.put e) (R.put e hO) v hv
theorem VR.tupE {l : List Dv} {v : V} (h : VR K κ ρ H (.tup l) v) : ∃ a vs, v = .ref a ∧ SqT K H a vs ∧ VRs K κ ρ H l vs := by simpa only [VR] using h
theorem VR.clstE {l : List Dv} {v : V} (h : VR K κ ρ H (.clst l) v) : ∃ a vs, v = .ref a ∧ SqI K H a vs ∧ VRs K κ ρ H l vs := by simpa only [VR] using h
theorem VR.tyE {n : String} {v : V} (h : VR K κ ρ H (.ty n) v) : v = .ty n := by simpa only [VR] using h
/-- a list as it is read -/
theorem Rel.lstE (R : Rel K κ ρ H s) {d : Dv} {v : V} (h : VR K κ ρ H d v) {l : List Dv} (e : bAny.lstQ d s = some l) : ∃ a vs, v = .ref a ∧ SqL K H a vs ∧ VRs K κ ρ H l vs := by
  cases d with
  | clst m =>
    cases e
    obtain ⟨a, vs, e1, e2, e3⟩ := h.clstE
    exact ⟨a, vs, e1, SqI.list e2, e3⟩
  | loc n =>
    unfold bAny.lstQ at e
    simp only at e
    cases q : s[n]? with
    | none => rw [q] at e; cases e
    | some o =>
      rw [q] at e
      cases o with
      | lst m =>
        cases e
        obtain ⟨a, _, e2, vs, e3, e4⟩ := R.loc h q
        exact ⟨a, vs, e2, .of e3, e4⟩
      | _ => cases e
  | _ => cases e
theorem seqOf_eq {d : Dv} {l : List Dv} (e : seqOf d s = some l) : d = .tup l ∨ bAny.lstQ d s = some l := by
  cases d with
  | tup m => cases e; exact .inl rfl
  | clst m => cases e; exact .inr rfl
  | loc n => exact .inr e
  | _ => cases e

/-! ### data as a whole -/
mutual
theorem dat_ok (R : Rel K κ ρ H s) : ∀ (n : Nat) (d : Dv) (v : V) (a : PyData), VR K κ ρ H d v → dat s n d = some a → Dp K H v a
  | 0, _, _, _, _, e => by cases e
  | n + 1, d, v, a, h, e => by
    unfold dat at e
    cases d with
    | non => cases e; rw [h.non]; exact .non
    | bl b => cases e; rw [h.bl]; exact .bl b
    | int b => cases e; rw [h.int]; exact .int b
    | str b => cases e; rw [h.str]; exact .str b
    | tup l =>
      simp only at e
      cases q : datA (dat s n) l with
      | none => rw [q] at e; cases e
      | some as =>
        rw [q] at e; cases e
        obtain ⟨p, vs, rfl, e2, e3⟩ := h.tupE
        exact .tup e2 (datA_ok R n l vs as e3 q)
    | clst l =>
      simp only at e
      cases q : datA (dat s n) l with
      | none => rw [q] at e; cases e
      | some as =>
        rw [q] at e; cases e
        obtain ⟨p, vs, rfl, e2, e3⟩ := h.clstE
        exact .lst (SqI.list e2) (datA_ok R n l vs as e3 q)
    | loc k =>
      simp only at e
      cases q0 : s[k]? with
      | none => rw [q0] at e; cases e
      | some o =>
        rw [q0] at e
        cases o with
        | lst l =>
          simp only at e
          cases q : datA (dat s n) l with
          | none => rw [q] at e; cases e
          | some as =>
            rw [q] at e; cases e
            obtain ⟨p, _, rfl, vs, e2, e3⟩ := R.loc h q0
            exact .lst (.of e2) (datA_ok R n l vs as e3 q)
        | _ => cases e
    | fix _ => cases e
    | ty _ => cases e
theorem datA_ok (R : Rel K κ ρ H s) : ∀ (n : Nat) (ds : List Dv) (vs : List V) (as : List PyData), VRs K κ ρ H ds vs → datA (dat s n) ds = some as → DpAll K H vs as
  | n, [], vs, as, h, e => by
    simp only [VRs] at h
    subst h
    cases e
    exact .nil
  | n, d :: ds, vs, as, h, e => by
    simp only [VRs] at h
    obtain ⟨v, r, rfl, h1, h2⟩ := h
    unfold datA at e
    cases q1 : dat s n d with
    | none => rw [q1] at e; cases e
    | some a =>
      rw [q1] at e
      cases q2 : datA (dat s n) ds with
      | none => rw [q2] at e; cases e
      | some r =>
        rw [q2] at e
        cases e
        exact .cons (dat_ok R n d v a h1 q1) (datA_ok R n ds _ r h2 q2)
end
/-- a list's data -/
theorem lst_dat (R : Rel K κ ρ H s) {d : Dv} {v : V} (h : VR K κ ρ H d v) {l : List Dv} {as : List PyData} {n : Nat} (e : bAny.lstQ d s = some l) (q : datA (dat s n) l = some as) : Dp K H v (.list as) := by
  obtain ⟨a, vs, rfl, h1, h2⟩ := R.lstE h e
  exact .lst h1 (datA_ok R n l vs as h2 q)
end

section
variable {X : Cx} {κ : Nat → Addr}
/-! ### ints -/
theorem L_ii {C : Int → Int → Prop} {g : Int → Int → V} {f : Int → Int → Option Dv} (hf : ∀ i j d, f i j = some d → C i j ∧ ∀ (ρ : List Addr) (H : Hp), VR X.K κ ρ H d (g i j)) : OpL X κ (rI C g) (oII f) := by
  intro W ρ σ H s x y dx dy Q R hx hy h
  cases dx with
  | int i =>
    cases dy with
    | int j =>
      unfold oII at h
      simp only at h
      cases e : f i j with
      | none => rw [e] at h; exact h.elim
      | some d =>
        rw [e] at h
        exact ⟨i, j, hx.int, hy.int, (hf i j d e).1, EndV.ok h R ((hf i j d e).2 ρ H)⟩
    | _ => exact h.elim
  | _ => cases dy <;> exact h.elim
theorem L_ii0 {g : Int → Int → V} {f : Int → Int → Option Dv} (hf : ∀ i j d, f i j = some d → ∀ (ρ : List Addr) (H : Hp), VR X.K κ ρ H d (g i j)) : OpL X κ (rI0 g) (oII f) := by
  intro W ρ σ H s x y dx dy Q R hx hy h
  obtain ⟨i, j, a, b, _, q⟩ := L_ii (X := X) (κ := κ) (C := fun _ _ => True) (g := g) (f := f) (fun i j d e => ⟨trivial, hf i j d e⟩) W ρ σ H s x y dx dy Q R hx hy h
  exact ⟨i, j, a, b, q⟩
theorem L_sub : OpL X κ (rI0 fun i j => .int (i - j)) oSub := L_ii0 fun i j d e ρ H => by cases e; simp only [VR]
theorem L_lt : OpL X κ (rI0 fun i j => .bl (decide (i < j))) oLt := L_ii0 fun i j d e ρ H => by cases e; simp only [VR]
theorem L_le : OpL X κ (rI0 fun i j => .bl (decide (i ≤ j))) oLe := L_ii0 fun i j d e ρ H => by cases e; simp only [VR]
theorem L_gt : OpL X κ (rI0 fun i j => .bl (decide (j < i))) oGt := L_ii0 fun i j d e ρ H => by cases e; simp only [VR]
theorem L_ge : OpL X κ (rI0 fun i j => .bl (decide (j ≤ i))) oGe := L_ii0 fun i j d e ρ H => by cases e; simp only [VR]
theorem L_mod : OpL X κ (rI (fun _ j => 0 < j) fun i j => .int (i % j)) oMod := L_ii fun i j d e => by
  by_cases h : 0 < j
  · rw [if_pos h] at e; cases e; exact ⟨h, fun ρ H => by simp only [VR]⟩
  · rw [if_neg h] at e; cases e
theorem L_fdiv : OpL X κ (rI CDivW fun i j => .int (i / j)) oFdiv := L_ii fun i j d e => by
  by_cases h : 0 < j ∧ j.natAbs.log2 < 9000
  · rw [if_pos h] at e; cases e; exact ⟨h, fun ρ H => by simp only [VR]⟩
  · rw [if_neg h] at e; cases e
theorem L_pow : OpL X κ (rI CPow fun i j => .int (i ^ j.toNat)) oPow := L_ii fun i j d e => by
  by_cases h : 0 ≤ j ∧ j ≤ 1000000 ∧ i.natAbs < 2 ^ 64
  · rw [if_pos h] at e; cases e; exact ⟨h, fun ρ H => by simp only [VR]⟩
  · rw [if_neg h] at e; cases e
theorem L_neg : UnL X κ (rU fun i => .int (-i)) uNeg := by
  intro W ρ σ H s x dx Q R hx h
  cases dx with
  | int i => exact ⟨i, hx.int, EndV.ok h R (by simp only [VR])⟩
  | _ => exact h.elim
/-! ### + and * -/
def rAddA (K : PySem.W.Frag) : R2 := fun x y H Q => (((rI0 fun i j => .int (i + j)) x y H Q ∨ (∃ i j, x = .str i ∧ y = .str j ∧ i.length + j.length ≤ sizeLine ∧ Q (.str (i ++ j)) H)) ∨ rCatA K x y H Q) ∨ rCat x y H Q
theorem or_add : OpR X (binaryOp .Add) (rAddA X.K) := OpR.or (OpR.or (OpR.or op_add op_add_str) op_catA) op_cat
theorem L_add : OpL X κ (rAddA X.K) oAdd := by
  intro W ρ σ H s x y dx dy Q R hx hy h
  unfold oAdd at h
  cases dx with
  | int i =>
    cases dy with
    | int j => exact .inl (.inl (.inl ⟨i, j, hx.int, hy.int, EndV.ok h R (by simp only [VR])⟩))
    | _ => exact h.elim
  | str i =>
    cases dy with
    | str j =>
      simp only at h
      by_cases hl : i.length + j.length ≤ 2 ^ 24
      · rw [if_pos hl] at h
        exact .inl (.inl (.inr ⟨i, j, hx.str, hy.str, hl, EndV.ok h R (by simp only [VR])⟩))
      · rw [if_neg hl] at h; exact h.elim
    | _ => exact h.elim
  | tup l =>
    cases dy with
    | tup m =>
      simp only at h
      by_cases hl : l.length + m.length ≤ 2 ^ 24
      · rw [if_pos hl] at h
        obtain ⟨a, vs, rfl, a2, a3⟩ := hx.tupE
        obtain ⟨b, us, rfl, b2, b3⟩ := hy.tupE
        refine .inl (.inr ⟨a, b, vs, us, rfl, rfl, a2, b2, by rw [a3.length, b3.length]; exact hl, fun e => ?_, fun _ e => ?_, fun _ _ p np => EndV.tup h R np (a3.append b3)⟩)
        · subst e
          have : l = [] := List.eq_nil_of_length_eq_zero (by rw [← a3.length]; rfl)
          subst this
          exact EndV.ok h R hy
        · subst e
          have : m = [] := List.eq_nil_of_length_eq_zero (by rw [← b3.length]; rfl)
          subst this
          rw [List.append_nil] at h
          exact EndV.ok h R hx
      · rw [if_neg hl] at h; exact h.elim
    | _ => exact h.elim
  | loc a =>
    cases dy with
    | loc b =>
      simp only at h
      cases e1 : s[a]? with
      | none => rw [e1] at h; exact h.elim
      | some o1 =>
        rw [e1] at h
        cases o1 with
        | lst l =>
          cases e2 : s[b]? with
          | none => rw [e2] at h; exact h.elim
          | some o2 =>
            rw [e2] at h
            cases o2 with
            | lst m =>
              simp only at h
              by_cases hl : l.length + m.length ≤ 2 ^ 24
              · rw [if_pos hl] at h
                obtain ⟨p, _, rfl, vs, q1, q2⟩ := R.loc hx e1
                obtain ⟨p', _, rfl, us, r1, r2⟩ := R.loc hy e2
                exact .inr ⟨p, p', vs, us, rfl, rfl, q1, r1, by rw [q2.length, r2.length]; exact hl, fun t nt => EndV.newL h R nt (q2.append r2)⟩
              · rw [if_neg hl] at h; exact h.elim
            | _ => exact h.elim
        | _ => exact h.elim
    | _ => exact h.elim
  | _ => cases dy <;> exact h.elim
theorem VRs.rep {K : PySem.W.Frag} {ρ : List Addr} {H : Hp} {l : List Dv} {vs : List V} (h : VRs K κ ρ H l vs) : ∀ n : Nat, VRs K κ ρ H (List.replicate n l).flatten (List.replicate n vs).flatten
  | 0 => by simpa using VRs.nil
  | n + 1 => by
    rw [List.replicate_succ, List.replicate_succ, List.flatten_cons, List.flatten_cons]
    exact h.append (VRs.rep h n)
def rMulA : R2 := fun x y H Q => (rI CMulW fun i j => .int (i * j)) x y H Q ∨ rRep x y H Q
theorem or_mul : OpR X (binaryOp .Mult) rMulA := OpR.or op_mulW op_rep
theorem L_mul : OpL X κ rMulA oMul := by
  intro W ρ σ H s x y dx dy Q R hx hy h
  unfold oMul at h
  cases dx with
  | int i =>
    cases dy with
    | int j =>
      simp only at h
      by_cases hl : i.natAbs.log2 + j.natAbs.log2 < 1000000
      · rw [if_pos hl] at h
        exact .inl ⟨i, j, hx.int, hy.int, hl, EndV.ok h R (by simp only [VR])⟩
      · rw [if_neg hl] at h; exact h.elim
    | _ => exact h.elim
  | loc a =>
    cases dy with
    | int k =>
      simp only at h
      cases e1 : s[a]? with
      | none => rw [e1] at h; exact h.elim
      | some o1 =>
        rw [e1] at h
        cases o1 with
        | lst l =>
          simp only at h
          by_cases hl : -(2 ^ 63) ≤ k ∧ k < 2 ^ 63 ∧ l.length * k.toNat ≤ 2 ^ 24
          · rw [if_pos hl] at h
            obtain ⟨p, _, rfl, vs, q1, q2⟩ := R.loc hx e1
            exact .inr ⟨p, k, vs, rfl, hy.int, q1, hl.1, hl.2.1, by rw [q2.length]; exact hl.2.2, fun t nt => EndV.newL h R nt (q2.rep _)⟩
          · rw [if_neg hl] at h; exact h.elim
        | _ => exact h.elim
    | _ => exact h.elim
  | _ => cases dy <;> exact h.elim
/-! ### ==, !=, is -/
theorem L_cmpD {f : PyData → PyData → Bool} {r : R2} (hr : ∀ x y H Q, (∃ d e, Dp X.K H x d ∧ Dp X.K H y e ∧ SeqAt.shaped d = true ∧ SeqAt.shaped e = true ∧ Q (.bl (f d e)) H) → r x y H Q) : OpL X κ r (oCmpD f) := by
  intro W ρ σ H s x y dx dy Q R hx hy h
  unfold oCmpD at h
  cases e1 : dat s 66 dx with
  | none => rw [e1] at h; exact h.elim
  | some a =>
    cases e2 : dat s 66 dy with
    | none => rw [e1, e2] at h; exact h.elim
    | some b =>
      rw [e1, e2] at h
      simp only at h
      by_cases hs : SeqAt.shaped a = true ∧ SeqAt.shaped b = true
      · rw [if_pos hs] at h
        exact hr _ _ _ _ ⟨a, b, dat_ok R 66 dx x a hx e1, dat_ok R 66 dy y b hy e2, hs.1, hs.2, EndV.ok h R (by simp only [VR])⟩
      · rw [if_neg hs] at h; exact h.elim
theorem L_eq : OpL X κ (rEqD X.K) oEq := L_cmpD fun _ _ _ _ h => h
theorem L_ne : OpL X κ (rNeD X.K) oNe := L_cmpD fun _ _ _ _ h => h
def rIs : R2 := fun x y H Q => (y = .non ∧ Q (.bl (decide (x = .non))) H) ∨ ∃ a b : Bool, x = .bl a ∧ y = .bl b ∧ Q (.bl (decide (a = b))) H
def rIsNot : R2 := fun x y H Q => (y = .non ∧ Q (.bl (!decide (x = .non))) H) ∨ ∃ a b : Bool, x = .bl a ∧ y = .bl b ∧ Q (.bl (!decide (a = b))) H
theorem or_is : OpR X (compareOp .Is) rIs := OpR.or op_isN op_is_bl
theorem or_isnot : OpR X (compareOp .IsNot) rIsNot := OpR.or op_notN op_isnot_bl
theorem VR.isNon {K : PySem.W.Frag} {ρ : List Addr} {H : Hp} {d : Dv} {v : V} (h : VR K κ ρ H d v) : decide (v = .non) = isNonQ d := by
  cases d with
  | non => simp only [VR] at h; subst h; rfl
  | bl b => simp only [VR] at h; subst h; rfl
  | int b => simp only [VR] at h; subst h; rfl
  | str b => simp only [VR] at h; subst h; rfl
  | tup l => obtain ⟨a, vs, rfl, _⟩ := h.tupE; rfl
  | clst l => obtain ⟨a, vs, rfl, _⟩ := h.clstE; rfl
  | loc n => simp only [VR] at h; obtain ⟨a, _, rfl⟩ := h; rfl
  | fix n => simp only [VR] at h; subst h; rfl
  | ty n => simp only [VR] at h; subst h; rfl
theorem L_is : OpL X κ rIs oIsN := by
  intro W ρ σ H s x y dx dy Q R hx hy h
  unfold oIsN at h
  cases dy with
  | non => exact .inl ⟨hy.non, by rw [hx.isNon]; exact EndV.ok h R (by simp only [VR])⟩
  | bl b =>
    cases dx with
    | bl a => exact .inr ⟨a, b, hx.bl, hy.bl, EndV.ok h R (by simp only [VR])⟩
    | _ => exact h.elim
  | _ => exact h.elim
theorem L_isnot : OpL X κ rIsNot oNotN := by
  intro W ρ σ H s x y dx dy Q R hx hy h
  unfold oNotN at h
  cases dy with
  | non => exact .inl ⟨hy.non, by rw [hx.isNon]; exact EndV.ok h R (by simp only [VR])⟩
  | bl b =>
    cases dx with
    | bl a => exact .inr ⟨a, b, hx.bl, hy.bl, EndV.ok h R (by simp only [VR])⟩
    | _ => exact h.elim
  | _ => exact h.elim
end
end Mid
/-! Mid6: dicts, places, slices, built-ins. -/
namespace Mid
open PySem PySem.Spec L2 Classical
open PyProof.Rows (tail_any)
section
variable {K : PySem.W.Frag} {κ : Nat → Addr} {W : WX} {ρ ρ' : List Addr} {σ : L2.St} {H H' : Hp} {s : Mst} {Q : VK} {p : Addr} {α : Type} [DecidableEq α]
/-- the pairs of a dict -/
def KR (K : PySem.W.Frag) (κ : Nat → Addr) (ρ : List Addr) (H : Hp) (kvs : List (α × Dv)) (vs : List (α × V)) : Prop := vs.map (·.1) = kvs.map (·.1) ∧ VRs K κ ρ H (kvs.map (·.2)) (vs.map (·.2))
theorem KR.nil : KR (α := α) K κ ρ H [] [] := ⟨rfl, .nil⟩
theorem KR.cons {k : α} {d : Dv} {v : V} {kvs : List (α × Dv)} {vs : List (α × V)} (h : VR K κ ρ H d v) (r : KR K κ ρ H kvs vs) : KR K κ ρ H ((k, d) :: kvs) ((k, v) :: vs) :=
  ⟨by simp [r.1], .cons h r.2⟩
theorem KR.ind {kvs : List (α × Dv)} {vs : List (α × V)} (r : KR K κ ρ H kvs vs) : (kvs = [] ∧ vs = []) ∨ ∃ k d v l m, kvs = (k, d) :: l ∧ vs = (k, v) :: m ∧ VR K κ ρ H d v ∧ KR K κ ρ H l m := by
  cases kvs with
  | nil =>
    cases vs with
    | nil => exact .inl ⟨rfl, rfl⟩
    | cons _ _ => have := r.1; simp at this
  | cons a l =>
    cases vs with
    | nil => have := r.1; simp at this
    | cons b m =>
      obtain ⟨k, d⟩ := a
      obtain ⟨k', v⟩ := b
      have e := r.1
      simp only [List.map_cons, List.cons.injEq] at e
      obtain ⟨rfl, e⟩ := e
      have h := r.2
      simp only [List.map_cons, VRs] at h
      obtain ⟨v', r', e2, h1, h2⟩ := h
      simp only [List.cons.injEq] at e2
      obtain ⟨rfl, rfl⟩ := e2
      exact .inr ⟨k', d, v, l, m, rfl, rfl, h1, e, h2⟩
theorem KR.kp {kvs : List (α × Dv)} {vs : List (α × V)} (r : KR K κ ρ H kvs vs) (x : Kp ρ H ρ' H') : KR K κ ρ' H' kvs vs := ⟨r.1, VRs.kp x _ _ r.2⟩
theorem KR.length {kvs : List (α × Dv)} {vs : List (α × V)} (r : KR K κ ρ H kvs vs) : vs.length = kvs.length := by
  have := congrArg List.length r.1
  simpa using this
theorem KR.append {kvs ls : List (α × Dv)} {vs ms : List (α × V)} (r : KR K κ ρ H kvs vs) (q : KR K κ ρ H ls ms) : KR K κ ρ H (kvs ++ ls) (vs ++ ms) :=
  ⟨by rw [List.map_append, List.map_append, r.1, q.1], by rw [List.map_append, List.map_append]; exact r.2.append q.2⟩
theorem KR.val {k : α} : ∀ {kvs : List (α × Dv)} {vs : List (α × V)}, KR K κ ρ H kvs vs → (valV vs k).isSome = (kval kvs k).isSome ∧ ∀ d, kval kvs k = some d → ∃ v, valV vs k = some v ∧ VR K κ ρ H d v := by
  intro kvs
  induction kvs with
  | nil =>
    intro vs r
    rcases r.ind with ⟨_, rfl⟩ | ⟨_, _, _, _, _, e, _⟩
    · exact ⟨rfl, fun d e => by cases e⟩
    · cases e
  | cons a l ih =>
    intro vs r
    rcases r.ind with ⟨e, _⟩ | ⟨k', d, v, l', m, e, rfl, h1, h2⟩
    · cases e
    · cases e
      unfold valV kval
      by_cases hk : k' = k
      · subst hk
        simp only [List.find?_cons, decide_true, Option.map_some]
        exact ⟨rfl, fun d' e => by cases e; exact ⟨v, rfl, h1⟩⟩
      · simp only [List.find?_cons, decide_eq_false hk]
        exact ih h2
theorem KR.any {k : α} : ∀ {kvs : List (α × Dv)} {vs : List (α × V)}, KR K κ ρ H kvs vs → (vs.any fun kv => decide (kv.1 = k)) = (kvs.any fun kv => decide (kv.1 = k)) := by
  intro kvs vs r
  have e : ∀ {β : Type} (l : List (α × β)), (l.any fun kv => decide (kv.1 = k)) = (l.map (·.1)).any fun x => decide (x = k) := fun l => by rw [List.any_map]; rfl
  rw [e, e, r.1]
theorem KR.mapPut {k : α} {d : Dv} {v : V} (h : VR K κ ρ H d v) : ∀ {kvs : List (α × Dv)} {vs : List (α × V)}, KR K κ ρ H kvs vs →
    KR K κ ρ H (kvs.map fun kv => if kv.1 = k then (kv.1, d) else kv) (vs.map fun kv => if kv.1 = k then (kv.1, v) else kv) := by
  intro kvs
  induction kvs with
  | nil =>
    intro vs r
    rcases r.ind with ⟨_, rfl⟩ | ⟨_, _, _, _, _, e, _⟩
    · exact .nil
    · cases e
  | cons a l ih =>
    intro vs r
    rcases r.ind with ⟨e, _⟩ | ⟨k', d', v', l', m, e, rfl, h1, h2⟩
    · cases e
    · cases e
      simp only [List.map_cons]
      by_cases hk : k' = k
      · rw [if_pos hk, if_pos hk]; exact .cons h (ih h2)
      · rw [if_neg hk, if_neg hk]; exact .cons h1 (ih h2)
theorem KR.put {k : α} {d : Dv} {v : V} (h : VR K κ ρ H d v) {kvs : List (α × Dv)} {vs : List (α × V)} (r : KR K κ ρ H kvs vs) : KR K κ ρ H (kput kvs k d) (putK vs k v) := by
  unfold kput putK
  rw [r.any]
  split
  · exact r.mapPut h
  · exact r.append (.cons h .nil)
theorem KR.puts {more : List (KeyQ × Dv)} {ms : List (Key × V)} : ∀ {kvs : List (KeyQ × Dv)} {vs : List (Key × V)}, KR K κ ρ H more ms → KR K κ ρ H kvs vs → KR K κ ρ H (kputs kvs more) (mergeK vs ms) := by
  unfold kputs mergeK
  induction more generalizing ms with
  | nil =>
    intro kvs vs q r
    rcases q.ind with ⟨_, rfl⟩ | ⟨_, _, _, _, _, e, _⟩
    · exact r
    · cases e
  | cons a l ih =>
    intro kvs vs q r
    rcases q.ind with ⟨e, _⟩ | ⟨k', d', v', l', m, e, rfl, h1, h2⟩
    · cases e
    · cases e
      simp only [List.foldl_cons]
      exact ih h2 (r.put h1)
theorem keyQ_ok {d : Dv} {v : V} {k : KeyQ} (h : VR K κ ρ H d v) (e : keyQ d = some k) : v = kV k := by
  cases d with
  | int i => cases e; exact h.int
  | str i => cases e; exact h.str
  | _ => cases e
theorem OR.dk {kvs : List (KeyQ × Dv)} (h : OR K κ ρ H p (.dK kvs)) : ∃ vs : List (Key × V), H p = some (.dK vs) ∧ KR K κ ρ H kvs vs := by
  obtain ⟨vs, e, a, b⟩ := h
  exact ⟨vs, e, a, b⟩
end
section
variable {X : Cx} {κ : Nat → Addr} {W : WX}
/-! ### in -/
def rInDict : R2 := fun x y H Q => ∃ a o, y = .ref a ∧ DGet H a x o ∧ Q (.bl o.isSome) H
def rNotInDict : R2 := fun x y H Q => ∃ a o, y = .ref a ∧ DGet H a x o ∧ Q (.bl (!o.isSome)) H
theorem or_inDict (hu : X.A.units + 1 < cLine) : OpR X (compareOp .In) rInDict := by
  intro pins s σ H x y v u Q I rx ry h
  obtain ⟨a, o, rfl, g, q⟩ := h
  obtain rfl : u = Value.ref a := ry
  exact d_in hu I g rx fun s' I' => ⟨.bl o.isSome, H, I', rfl, q⟩
theorem or_notInDict (hu : X.A.units + 1 < cLine) : OpR X (compareOp .NotIn) rNotInDict := by
  intro pins s σ H x y v u Q I rx ry h
  obtain ⟨a, o, rfl, g, q⟩ := h
  obtain rfl : u = Value.ref a := ry
  exact d_notIn hu I g rx fun s' I' => ⟨.bl (!o.isSome), H, I', rfl, q⟩
theorem room_in {A : Around} {xs : List PyData} {d : PyData} (hd : SeqAt.shaped d = true) (hu : A.units + 65 < cLine) : A.units + 1 + min (PyData.depthAll xs) d.depth < cLine := by
  have h1 := SeqAt.depth_of_shaped hd
  have h2 : min (PyData.depthAll xs) d.depth ≤ d.depth := Nat.min_le_right _ _
  omega
/-- in a tuple of data -/
def rInT (K : PySem.W.Frag) : R2 := fun x y H Q => ∃ d ds, Dp K H x d ∧ Dp K H y (.tuple ds) ∧ SeqAt.shaped d = true ∧ SeqAt.shaped (.tuple ds) = true ∧ Q (.bl (ds.any fun z => PyData.eqv z d)) H
def rNotInT (K : PySem.W.Frag) : R2 := fun x y H Q => ∃ d ds, Dp K H x d ∧ Dp K H y (.tuple ds) ∧ SeqAt.shaped d = true ∧ SeqAt.shaped (.tuple ds) = true ∧ Q (.bl (!ds.any fun z => PyData.eqv z d)) H
theorem or_inT (hu : X.A.units + 65 < cLine) : OpR X (compareOp .In) (rInT X.K) := by
  rintro pins s σ H x y v u Q I rx ry ⟨d, ds, hd, he, sd, se, q⟩
  obtain ⟨_, r1⟩ := Dp.reads I d x v hd rx
  obtain ⟨_, r2⟩ := Dp.reads I (.tuple ds) y u he ry
  have sl : SeqAt.shaped (.list ds) = true := se
  exact SeqAt.in_tuple_reads r2 r1 (SeqAt.canLay_of_shaped sl) (SeqAt.canLay_of_shaped sd) (room_in sd hu) ⟨.bl _, H, I, rfl, q⟩
theorem or_notInT (hu : X.A.units + 65 < cLine) : OpR X (compareOp .NotIn) (rNotInT X.K) := by
  rintro pins s σ H x y v u Q I rx ry ⟨d, ds, hd, he, sd, se, q⟩
  obtain ⟨_, r1⟩ := Dp.reads I d x v hd rx
  obtain ⟨_, r2⟩ := Dp.reads I (.tuple ds) y u he ry
  have sl : SeqAt.shaped (.list ds) = true := se
  exact SeqAt.notIn_tuple_reads r2 r1 (SeqAt.canLay_of_shaped sl) (SeqAt.canLay_of_shaped sd) (room_in sd hu) ⟨.bl _, H, I, rfl, q⟩
def rInA (K : PySem.W.Frag) : R2 := fun x y H Q => (rInD K x y H Q ∨ rInT K x y H Q) ∨ rInDict x y H Q
def rNotInA (K : PySem.W.Frag) : R2 := fun x y H Q => (rNotInD K x y H Q ∨ rNotInT K x y H Q) ∨ rNotInDict x y H Q
theorem hu1 {A : Around} (h : A.units + 65 < cLine) : A.units + 1 < cLine := by omega
theorem or_in (hu : X.A.units + 65 < cLine) : OpR X (compareOp .In) (rInA X.K) := OpR.or (OpR.or (op_inD hu) (or_inT hu)) (or_inDict (hu1 hu))
theorem or_notIn (hu : X.A.units + 65 < cLine) : OpR X (compareOp .NotIn) (rNotInA X.K) := OpR.or (OpR.or (op_notInD hu) (or_notInT hu)) (or_notInDict (hu1 hu))
theorem inQ_ok {K : PySem.W.Frag} {ρ : List Addr} {H : Hp} {s : Mst} (R : Rel K κ ρ H s) {x y : V} {dx dy : Dv} {b : Bool} (hx : VR K κ ρ H dx x) (hy : VR K κ ρ H dy y) (e : inQ dx dy s = some b) :
    (∃ d ds, Dp K H x d ∧ Dp K H y (.list ds) ∧ SeqAt.shaped d = true ∧ SeqAt.shaped (.list ds) = true ∧ b = ds.any fun z => PyData.eqv z d) ∨ (∃ d ds, Dp K H x d ∧ Dp K H y (.tuple ds) ∧ SeqAt.shaped d = true ∧ SeqAt.shaped (.tuple ds) = true ∧ b = ds.any fun z => PyData.eqv z d) ∨ (∃ a o, y = .ref a ∧ DGet H a x o ∧ b = o.isSome) := by
  have lst : ∀ l, bAny.lstQ dy s = some l → (match dat s 66 dx, datA (dat s 65) l with
      | some a, some bs => if SeqAt.shaped a = true ∧ SeqAt.shaped (.list bs) = true then some (bs.any fun z => PyData.eqv z a) else none
      | _, _ => none) = some b → ∃ d ds, Dp K H x d ∧ Dp K H y (.list ds) ∧ SeqAt.shaped d = true ∧ SeqAt.shaped (.list ds) = true ∧ b = ds.any fun z => PyData.eqv z d := fun l hl e => by
    cases e1 : dat s 66 dx with
    | none => rw [e1] at e; cases e
    | some a =>
      cases e2 : datA (dat s 65) l with
      | none => rw [e1, e2] at e; cases e
      | some bs =>
        rw [e1, e2] at e
        simp only at e
        by_cases hs : SeqAt.shaped a = true ∧ SeqAt.shaped (.list bs) = true
        · rw [if_pos hs] at e
          cases e
          exact ⟨a, bs, dat_ok R 66 dx x a hx e1, lst_dat R hy hl e2, hs.1, hs.2, rfl⟩
        · rw [if_neg hs] at e; cases e
  unfold inQ at e
  cases dy with
  | clst l => exact .inl (lst l rfl e)
  | tup l =>
    simp only at e
    cases e1 : dat s 66 dx with
    | none => rw [e1] at e; cases e
    | some a =>
      cases e2 : datA (dat s 65) l with
      | none => rw [e1, e2] at e; cases e
      | some bs =>
        rw [e1, e2] at e
        simp only at e
        by_cases hs : SeqAt.shaped a = true ∧ SeqAt.shaped (.tuple bs) = true
        · rw [if_pos hs] at e
          cases e
          refine .inr (.inl ⟨a, bs, dat_ok R 66 dx x a hx e1, dat_ok R 66 (.tup l) y (.tuple bs) hy ?_, hs.1, hs.2, rfl⟩)
          show (datA (dat s 65) l).map PyData.tuple = _
          rw [e2]; rfl
        · rw [if_neg hs] at e; cases e
  | loc n =>
    simp only at e
    cases q : s[n]? with
    | none => rw [q] at e; cases e
    | some o =>
      rw [q] at e
      cases o with
      | lst l => exact .inl (lst l (by unfold bAny.lstQ; simp only; rw [q]) e)
      | dK kvs =>
        simp only at e
        obtain ⟨p, _, rfl, h⟩ := R.loc hy q
        obtain ⟨vs, h1, h2⟩ := OR.dk h
        cases hk : keyQ dx with
        | none => rw [hk] at e; cases e
        | some k =>
          rw [hk] at e
          cases e
          exact .inr (.inr ⟨p, valV vs k, rfl, by rw [keyQ_ok hx hk]; exact DGet.k h1, (h2.val.1).symm⟩)
      | _ => cases e
  | _ => cases e
theorem L_in : OpL X κ (rInA X.K) oIn := by
  intro W ρ σ H s x y dx dy Q R hx hy h
  unfold oIn at h
  cases e : inQ dx dy s with
  | none => rw [e] at h; exact h.elim
  | some b =>
    rw [e] at h
    have q : Q (.bl b) H := EndV.ok h R (by simp only [VR])
    rcases inQ_ok R hx hy e with ⟨d, ds, a1, a2, a3, a4, rfl⟩ | ⟨d, ds, a1, a2, a3, a4, rfl⟩ | ⟨a, o, a1, a2, rfl⟩
    · exact .inl (.inl ⟨d, ds, a1, a2, a3, a4, q⟩)
    · exact .inl (.inr ⟨d, ds, a1, a2, a3, a4, q⟩)
    · exact .inr ⟨a, o, a1, a2, q⟩
theorem L_notIn : OpL X κ (rNotInA X.K) oNotIn := by
  intro W ρ σ H s x y dx dy Q R hx hy h
  unfold oNotIn at h
  cases e : inQ dx dy s with
  | none => rw [e] at h; exact h.elim
  | some b =>
    rw [e] at h
    have q : Q (.bl (!b)) H := EndV.ok h R (by simp only [VR])
    rcases inQ_ok R hx hy e with ⟨d, ds, a1, a2, a3, a4, rfl⟩ | ⟨d, ds, a1, a2, a3, a4, rfl⟩ | ⟨a, o, a1, a2, rfl⟩
    · exact .inl (.inl ⟨d, ds, a1, a2, a3, a4, q⟩)
    · exact .inl (.inr ⟨d, ds, a1, a2, a3, a4, q⟩)
    · exact .inr ⟨a, o, a1, a2, q⟩
/-! ### subscripts -/
def rIxDict : R2 := fun x y H Q => ∃ a v, x = .ref a ∧ DGet H a y (some v) ∧ Q v H
theorem ix_dict (hu : X.A.units + 1 < cLine) : IxR X rIxDict := by
  intro value slice pins s σ H x y v u Q I rx ry h hs
  obtain ⟨a, z, rfl, g, q⟩ := h
  obtain rfl : v = Value.ref a := rx
  exact tail_any (dict_typeIs I g) PySem.F.slot_dict_getitem.lookup (d_getItem hu I g ry fun w' s' I' r => ⟨z, H, I', r, q⟩) hs
def rIxA (K : PySem.W.Frag) : R2 := fun x y H Q => rIx K x y H Q ∨ rIxDict x y H Q
theorem ix_any (hu : X.A.units + 1 < cLine) : IxR X (rIxA X.K) := IxR.or ix_seq (ix_dict hu)
theorem atQ_eq {α : Type} (xs : List α) (i : Int) : atQ xs i = atI xs i := rfl
theorem at_ok {K : PySem.W.Frag} {ρ : List Addr} {H : Hp} {l : List Dv} {vs : List V} (h : VRs K κ ρ H l vs) {i : Int} {d : Dv} (e : atQ l i = some d) : ∃ v, atI vs i = some v ∧ VR K κ ρ H d v := by
  unfold atQ at e
  unfold atI
  rw [h.length]
  cases q : ixN l.length i with
  | none => rw [show ixQ l.length i = none from q] at e; cases e
  | some j =>
    rw [show ixQ l.length i = some j from q] at e
    exact h.get e
theorem L_get : OpL X κ (rIxA X.K) oGet := by
  intro W ρ σ H s x y dx dy Q R hx hy h
  unfold oGet at h
  cases e : getQ dx dy s with
  | none => rw [e] at h; exact h.elim
  | some d =>
    rw [e] at h
    have q : ∀ v, VR X.K κ ρ H d v → Q v H := fun v hv => EndV.ok h R hv
    unfold getQ at e
    cases dx with
    | str z =>
      cases dy with
      | int j =>
        simp only at e
        by_cases hl : z.length ≤ 2 ^ 24
        · rw [if_pos hl] at e
          cases q2 : atQ z.cps.toList j with
          | none => rw [q2] at e; cases e
          | some c =>
            rw [q2] at e
            cases e
            exact .inl (.inr (.inr ⟨z, j, c, hx.str, hy.int, hl, q2, q _ (by simp only [VR])⟩))
        · rw [if_neg hl] at e; cases e
      | _ => cases e
    | tup l =>
      cases dy with
      | int j =>
        simp only at e
        obtain ⟨a, vs, rfl, e2, e3⟩ := hx.tupE
        obtain ⟨v, e4, e5⟩ := at_ok e3 e
        exact .inl (.inr (.inl ⟨a, vs, j, v, rfl, hy.int, e2, e4, q v e5⟩))
      | _ => cases e
    | clst l =>
      cases dy with
      | int j =>
        simp only at e
        obtain ⟨a, vs, rfl, e2, e3⟩ := hx.clstE
        obtain ⟨v, e4, e5⟩ := at_ok e3 e
        exact .inl (.inl ⟨a, vs, j, v, rfl, hy.int, SqI.list e2, e4, q v e5⟩)
      | _ => cases e
    | loc n =>
      simp only at e
      cases q2 : s[n]? with
      | none => rw [q2] at e; cases e
      | some o =>
        rw [q2] at e
        cases o with
        | lst l =>
          cases dy with
          | int j =>
            simp only at e
            obtain ⟨a, _, rfl, vs, e2, e3⟩ := R.loc hx q2
            obtain ⟨v, e4, e5⟩ := at_ok e3 e
            exact .inl (.inl ⟨a, vs, j, v, rfl, hy.int, .of e2, e4, q v e5⟩)
          | _ => cases e
        | dK kvs =>
          simp only at e
          obtain ⟨p, _, rfl, h⟩ := R.loc hx q2
          obtain ⟨vs, h1, h2⟩ := OR.dk h
          cases hk : keyQ dy with
          | none => rw [hk] at e; cases e
          | some k =>
            rw [hk] at e
            obtain ⟨v, e1, e2⟩ := h2.val.2 d e
            exact .inr ⟨p, v, rfl, by rw [keyQ_ok hy hk, ← e1]; exact DGet.k h1, q v e2⟩
        | _ => cases e
    | _ => cases e
/-! ### o[i] = e -/
def rPutDict : TSet := fun o i v H Q => ∃ a H', o = .ref a ∧ DPut H a i v H' ∧ Q H'
theorem set_dict (hu : X.A.units + 1 < cLine) : PSet X rPutDict := by
  intro pins s σ H o i v ov iv u Q I ro ri rv h
  obtain ⟨a, H', rfl, g, q⟩ := h
  obtain rfl : ov = Value.ref a := ro
  exact d_setItem hu I g ri rv fun s' I' => ⟨H', I', q⟩
def rPutA : TSet := fun o i v H Q => rSetL o i v H Q ∨ rPutDict o i v H Q
theorem set_any (hu : X.A.units + 1 < cLine) : PSet X rPutA := by
  intro pins s σ H o i v ov iv u Q I ro ri rv h
  rcases h with h | h
  · exact set_list pins s σ H o i v ov iv u Q I ro ri rv h
  · exact set_dict hu pins s σ H o i v ov iv u Q I ro ri rv h
theorem L_put : SetL X κ rPutA oPut := by
  intro W ρ σ H s x y z dx dy dz Q R hx hy hz h
  unfold oPut at h
  cases e : putQ dx dy dz s with
  | none => rw [e] at h; exact h.elim
  | some s' =>
    rw [e] at h
    unfold putQ at e
    cases dx with
    | loc n =>
      simp only at e
      cases q2 : s[n]? with
      | none => rw [q2] at e; cases e
      | some o =>
        rw [q2] at e
        cases o with
        | lst l =>
          cases dy with
          | int j =>
            simp only at e
            obtain ⟨a, e0, rfl, vs, e2, e3⟩ := R.loc hx q2
            cases q3 : ixQ l.length j with
            | none => rw [q3] at e; cases e
            | some k =>
              rw [q3] at e
              cases e
              refine .inl ⟨a, vs, j, k, rfl, hy.int, e2, by rw [e3.length]; exact q3, h ρ _ (Step.put e0) (R.put e0 ⟨_, upd_same, ?_⟩)⟩
              exact VRs.later R (Step.put e0) _ _ (VRs.set hz k e3)
          | _ => cases e
        | dK kvs =>
          simp only at e
          obtain ⟨p, e0, rfl, h'⟩ := R.loc hx q2
          obtain ⟨vs, h1, h2⟩ := OR.dk h'
          cases hk : keyQ dy with
          | none => rw [hk] at e; cases e
          | some k =>
            rw [hk] at e
            simp only at e
            by_cases hl : kvs.length < 2 ^ 24
            · rw [if_pos hl] at e
              cases e
              refine .inr ⟨p, _, rfl, by rw [keyQ_ok hy hk]; exact DPut.k h1 (by rw [h2.length]; exact hl), h ρ _ (Step.put e0) (R.put e0 ⟨_, upd_same, ?_⟩)⟩
              have r := (h2.put (k := k) hz).kp ((Step.put (H := H) (o := .dK (putK vs k z)) e0).kp R)
              exact ⟨r.1, r.2⟩
            · rw [if_neg hl] at e; cases e
        | _ => cases e
    | _ => cases e
end
end Mid
/-! Mid7: slices, built-ins, methods. -/
namespace Mid
open PySem PySem.Spec L2 Classical
section
variable {X : Cx} {κ : Nat → Addr} {W : WX} {pos : Pos} {e : Expr} {es : List Expr} {me : ME} {ms : List ME}
/-! ### slices -/
theorem cutQ_eq {α : Type} (xs : List α) (lo hi : Option Int) : cutQ xs lo hi = (xs.drop (HT.sIx xs.length 0 lo)).take (HT.sIx xs.length xs.length hi - HT.sIx xs.length 0 lo) := by
  have e : ∀ n d o, sIxQ n d o = HT.sIx n d o := fun n d o => by cases o <;> rfl
  unfold cutQ
  rw [e, e]
theorem cut_ok {K : PySem.W.Frag} {ρ : List Addr} {H : Hp} {l : List Dv} {vs : List V} (h : VRs K κ ρ H l vs) (lo hi : Option Int) : VRs K κ ρ H (cutQ l lo hi) (cutV vs lo hi) := by
  rw [cutQ_eq]
  unfold cutV
  rw [h.length]
  exact VRs.take _ (VRs.drop _ h)
abbrev rdO (K : PySem.W.Frag) (κ : Nat → Addr) (W : WX) (m : MO') : L2.TO := fun σ H Q => ∃ ρ σd s, Rel K κ ρ H s ∧ ER K κ ρ H σd σ ∧ Fin K κ W ρ σ H (m σd s) fun o _ _ H' => Q o H'
abbrev LO (X : Cx) (κ : Nat → Addr) (W : WX) (e : Option Expr) (m : MO') : Prop := PO X e (rdO X.K κ W m)
theorem PO.by {e : Option Expr} {t t' : L2.TO} (h : PO X e t) (f : ∀ σ H Q, t' σ H Q → t σ H Q) : PO X e t' := ⟨fun pins s σ H Q I q => h.run pins s σ H Q I (f σ H Q q)⟩
theorem lo_none : LO X κ W none poN := PO.by po_none fun σ H Q ⟨ρ, σd, s, R, hE, h⟩ => h ρ H Step.refl R
theorem lo_some (h : LE X κ W e me) : LO X κ W (some e) (poS me) :=
  PO.by (po_some h) fun σ H Q ⟨ρ, σd, s, R, hE, h⟩ => ⟨ρ, σd, s, R, hE, (Fin.bind h).mono fun d ρ1 s1 H1 x1 R1 q v hv => by
    cases d with
    | int i => exact ⟨i, hv.int, q ρ1 H1 Step.refl R1⟩
    | _ => exact q.elim⟩
def rSlAny (K : PySem.W.Frag) : V → Option Int → Option Int → Hp → VK → Prop := fun x lo hi H Q => rSlL K x lo hi H Q ∨ rSlA K x lo hi H Q
theorem sl_any : SlR X (rSlAny X.K) := SlR.or sl_list sl_tupA
theorem sIx_all {n : Nat} {l : List Dv} {lo hi : Option Int} (h : HT.sIx l.length 0 lo = 0 ∧ HT.sIx l.length l.length hi = l.length) : cutQ l lo hi = l := by
  rw [cutQ_eq, h.1, h.2]; simp
theorem L_sl {ρ : List Addr} {σ : L2.St} {H : Hp} {s : Mst} {x : V} {dx : Dv} {lo hi : Option Int} {Q : VK} (R : Rel X.K κ ρ H s) (hx : VR X.K κ ρ H dx x) (h : EndV X.K κ W ρ σ H (slQ dx lo hi s) Q) : rSlAny X.K x lo hi H Q := by
  unfold slQ at h
  cases dx with
  | tup l =>
    simp only at h
    obtain ⟨a, vs, rfl, e2, e3⟩ := hx.tupE
    refine .inr ⟨a, vs, rfl, e2, fun hw => ?_, fun hw p np => EndV.tup h R np (cut_ok e3 lo hi)⟩
    rw [e3.length] at hw
    rw [sIx_all (n := 0) hw] at h
    exact EndV.ok h R hx
  | clst l =>
    obtain ⟨a, vs, rfl, e2, e3⟩ := hx.clstE
    exact .inl ⟨a, vs, rfl, SqI.list e2, fun p np => EndV.newL h R np (cut_ok e3 lo hi)⟩
  | loc n =>
    simp only at h
    cases q2 : s[n]? with
    | none => rw [q2] at h; exact h.elim
    | some o =>
      rw [q2] at h
      cases o with
      | lst l =>
        obtain ⟨a, _, rfl, vs, e2, e3⟩ := R.loc hx q2
        exact .inl ⟨a, vs, rfl, .of e2, fun p np => EndV.newL h R np (cut_ok e3 lo hi)⟩
      | _ => exact h.elim
  | _ => exact h.elim
theorem le_slice {lo hi : Option Expr} {ml mh : MO'} {p2 : Pos} (he : LE X κ W e me) (hl : LO X κ W lo ml) (hh : LO X κ W hi mh) : LE X κ W (.Subscript e (.Slice lo hi none p2) pos) (mSlice me ml mh) :=
  PE.by (pe_slice sl_any he hl hh) fun σ H Q ⟨ρ, σd, s, R, hE, h⟩ => ⟨ρ, σd, s, R, hE, (Fin.bind h).mono fun d ρ1 s1 H1 x1 R1 q v hv => ⟨ρ1, σd, s1, R1, hE.later R x1, (Fin.bind q).mono fun l ρ2 s2 H2 x2 R2 q2 => ⟨ρ2, σd, s2, R2, (hE.later R x1).later R1 x2,
    (Fin.bind q2).mono fun u ρ3 s3 H3 x3 R3 q3 => L_sl R3 (VR.later R2 x3 _ _ (VR.later R1 x2 _ _ hv)) q3⟩⟩⟩
/-! ### dicts written -/
theorem dispQ_ok {K : PySem.W.Frag} {ρ : List Addr} {H : Hp} : ∀ {l : List (Dv × Dv)} {ps : List (V × V)} {kvs : List (KeyQ × Dv)}, VRs K κ ρ H (l.map (·.1)) (ps.map (·.1)) → VRs K κ ρ H (l.map (·.2)) (ps.map (·.2)) → dispQ l = some kvs →
    ∃ vs : List (Key × V), ps = vs.map (fun kv => (kV kv.1, kv.2)) ∧ KR K κ ρ H kvs vs ∧ vs.length = l.length := by
  intro l
  induction l with
  | nil =>
    intro ps kvs h1 _ e
    cases ps with
    | nil => cases e; exact ⟨[], rfl, .nil, rfl⟩
    | cons _ _ => simp [VRs] at h1
  | cons a r ih =>
    intro ps kvs h1 h2 e
    obtain ⟨k, v⟩ := a
    cases ps with
    | nil => simp [VRs] at h1
    | cons b ps =>
      obtain ⟨x, y⟩ := b
      simp only [List.map_cons, VRs] at h1 h2
      obtain ⟨x', r1, e1, hx, t1⟩ := h1
      obtain ⟨y', r2, e2, hy, t2⟩ := h2
      simp only [List.cons.injEq] at e1 e2
      obtain ⟨rfl, rfl⟩ := e1
      obtain ⟨rfl, rfl⟩ := e2
      unfold dispQ at e
      cases q1 : keyQ k with
      | none => rw [q1] at e; cases e
      | some q =>
        cases q2 : dispQ r with
        | none => rw [q1, q2] at e; cases e
        | some l' =>
          rw [q1, q2] at e
          cases e
          obtain ⟨vs, e3, e4, e5⟩ := ih t1 t2 q2
          exact ⟨(q, y) :: vs, by rw [List.map_cons, ← e3, ← keyQ_ok hx q1], .cons hy e4, by simp [e5]⟩
/-- the pairs of a display, from the left -/
inductive LPs (X : Cx) (κ : Nat → Addr) (pos : Pos) : List (Option Expr) → List Expr → List (ME × ME) → Prop where
  | nil : LPs X κ pos [] [] []
  | cons {k v : Expr} {mk mv : ME} {ks : List (Option Expr)} {vs : List Expr} {ps : List (ME × ME)} : LE X κ W0 k mk → LE X κ W0 v mv → LPs X κ pos ks vs ps → LPs X κ pos (some k :: ks) (v :: vs) ((mk, mv) :: ps)
theorem LPs.pps {pos : Pos} {ks : List (Option Expr)} {vs : List Expr} {ps : List (ME × ME)} (h : LPs X κ pos ks vs ps) : PPs X pos ks vs (ps.map fun p => (rd X.K κ W0 p.1, rd X.K κ W0 p.2)) := by
  induction h with
  | nil => exact pps_nil
  | cons a b _ ih => exact pps_cons a b ih
theorem LPs.len {pos : Pos} {ks : List (Option Expr)} {vs : List Expr} {ps : List (ME × ME)} (h : LPs X κ pos ks vs ps) : ks.length = vs.length ∧ ps.length = ks.length ∧ ks.all (·.isSome) = true := by
  induction h with
  | nil => exact ⟨rfl, rfl, rfl⟩
  | cons a b _ ih => exact ⟨by simp [ih.1], by simp [ih.2.1], by simpa using ih.2.2⟩
theorem pairs_rd {K : PySem.W.Frag} : ∀ {ps : List (ME × ME)} {ρ : List Addr} {σ : L2.St} {σd : Men} {H : Hp} {s : Mst} {Q : List (V × V) → Hp → Prop}, Rel K κ ρ H s → ER K κ ρ H σd σ →
    Fin K κ W0 ρ σ H (mPairs ps σd s) (fun l ρ' _ H' => ∀ vs, VRs K κ ρ' H' (l.map (·.1)) (vs.map (·.1)) → VRs K κ ρ' H' (l.map (·.2)) (vs.map (·.2)) → Q vs H') → tPairs (ps.map fun p => (rd K κ W0 p.1, rd K κ W0 p.2)) σ H Q := by
  intro ps
  induction ps with
  | nil => intro ρ σ σd H s Q R hE h; exact h ρ H Step.refl R [] .nil .nil
  | cons a r ih =>
    intro ρ σ σd H s Q R hE h
    obtain ⟨mk, mv⟩ := a
    exact ⟨ρ, σd, s, R, hE, (Fin.bind h).mono fun d ρ1 s1 H1 x1 R1 h1 x hx => ⟨ρ1, σd, s1, R1, hE.later R x1, (Fin.bind h1).mono fun d2 ρ2 s2 H2 x2 R2 h2 y hy =>
      ih R2 ((hE.later R x1).later R1 x2) ((Fin.bind h2).mono fun l ρ3 s3 H3 x3 R3 h3 vs v1 v2 => h3 ρ3 H3 Step.refl R3 ((x, y) :: vs) (.cons (VR.later R2 x3 _ _ (VR.later R1 x2 _ _ hx)) v1) (.cons (VR.later R2 x3 _ _ hy) v2))⟩⟩
theorem mPairs_len : ∀ {ps : List (ME × ME)} {σ : Men} {s s1 : Mst} {l : List (Dv × Dv)}, mPairs ps σ s = .ok l s1 → l.length = ps.length
  | [], σ, s, s1, l, h => by cases h; rfl
  | (a, b) :: ps, σ, s, s1, l, h => by
    obtain ⟨d, s2, e1, h⟩ := Rm.bind_eq_ok h
    obtain ⟨d2, s3, e2, h⟩ := Rm.bind_eq_ok h
    obtain ⟨r, s4, e3, h⟩ := Rm.bind_eq_ok h
    cases h
    simp [mPairs_len e3]
theorem le_disp {ks : List (Option Expr)} {vs : List Expr} {ps : List (ME × ME)} (h : LPs X κ pos ks vs ps) (h0 : ks ≠ [] := by intro z; cases z) (h15 : ks.length ≤ 15 := by decide) : LE X κ W (.Dict ks vs pos) (fun σ s => (mDisp ps σ s).noEr) :=
  PE.by (pe_disp h.pps h.len.2.2 h.len.1 h0 h15) fun σ H Q ⟨ρ, σd, s, R, hE, q⟩ p np => by
    have hm : ∃ l s1 kvs, mPairs ps σd s = .ok l s1 ∧ dispQ l = some kvs := by
      have q1 : Fin X.K κ W ρ σ H (mDisp ps σd s).noEr _ := q
      unfold mDisp at q1
      cases e : mPairs ps σd s with
      | bad => rw [e] at q1; exact q1.elim
      | er z s1 => rw [e] at q1; exact q1.elim
      | ok l s1 =>
        rw [e] at q1
        simp only [Rm.bind_ok] at q1
        cases e2 : dispQ l with
        | none => rw [e2] at q1; exact q1.elim
        | some kvs => exact ⟨l, s1, kvs, rfl, e2⟩
    obtain ⟨l, s1, kvs, e, e2⟩ := hm
    have m0 : (mDisp ps σd s).noEr = .ok (.loc s1.length) (s1 ++ [.dK (kputs [] kvs)]) := by
      unfold mDisp
      rw [e]
      simp only [Rm.bind_ok]
      rw [e2]
      rfl
    refine pairs_rd (R.lay np) (hE.later R (Step.lay np)) ?_
    rw [e]
    intro ρ1 H1 x1 R1 us v1 v2
    have nd : p ∉ ρ := R.fresh np
    have hp1 : H1 p = some (.dK []) := x1.keep _ _ upd_same nd
    have np1 : p ∉ ρ1 := x1.out upd_same nd
    obtain ⟨ws, e3, e4, e5⟩ := dispQ_ok v1 v2 e2
    refine ⟨hp1, ws, e3, by rw [e5, mPairs_len e, h.len.2.1]; exact h15, ?_⟩
    have kpp : Kp ρ1 H1 ρ1 (upd H1 p (.dK (mergeK [] ws))) := ⟨fun _ _ h => h, fun b zs h => by rw [upd_ne (ne_of h hp1 (by intro z; cases z))]; exact h, fun b o u h => by rw [upd_ne (ne_of h hp1 (by intro z; cases z))]; exact h⟩
    have R2 : Rel X.K κ ρ1 (upd H1 p (.dK (mergeK [] ws))) s1 := ⟨R1.len, R1.nd, fun k b u a1 a2 => (R1.obj k b u a1 a2).kp kpp (upd_ne fun z => np1 (z ▸ List.mem_of_getElem? a1))⟩
    have q' : Fin X.K κ W ρ σ H (mDisp ps σd s).noEr fun d ρ' _ H' => ∀ v, VR X.K κ ρ' H' d v → Q v H' := q
    rw [m0] at q'
    have st : Step ρ H (ρ1 ++ [p]) (upd H1 p (.dK (mergeK [] ws))) := by
      have s0 : Step ρ H ρ1 H1 := (Step.lay np).trans x1
      exact (s0.apart np).add np
    have r := (e4.puts .nil).kp kpp
    exact q' _ _ st (R2.add ⟨mergeK [] ws, upd_same, r.1, r.2⟩ np1) (.ref p) (by rw [← R1.len]; exact VR.last)
theorem le_dict0 : LE X κ W (.Dict [] [] pos) (mDisp []) :=
  PE.by pe_dnewK fun σ H Q ⟨ρ, σd, s, R, hE, q⟩ p np => EndV.new q R np ⟨[], upd_same, rfl, .nil⟩
end
end Mid
/-! Mid8: built-ins and methods. -/
namespace Mid
open PySem PySem.Spec L2 Classical
section
variable {X : Cx} {κ : Nat → Addr} {W : WX} {pos p apos : Pos} {x : Str} {e o : Expr} {es : List Expr} {me mo : ME} {ms : List ME} {id T : String} {F : MF}
def CallL (X : Cx) (κ : Nat → Addr) (r : List V → Hp → VK → Prop) (F : MF) : Prop := ∀ W ρ σ H s vs ds Q, Rel X.K κ ρ H s → VRs X.K κ ρ H ds vs → EndV X.K κ W ρ σ H (F ds s) Q → r vs H Q
def MtL (X : Cx) (κ : Nat → Addr) (r : V → List V → Hp → VK → Prop) (F : MF) : Prop := ∀ W ρ σ H s v vs d ds Q, Rel X.K κ ρ H s → VR X.K κ ρ H d v → VRs X.K κ ρ H ds vs → EndV X.K κ W ρ σ H (F (d :: ds) s) Q → r v vs H Q
theorem le_callB {r : List V → Hp → VK → Prop} (hc : CallR X (.builtin id) r) (L : CallL X κ r F) (hg : Gl X x) (hm : X.mg x = none) (hv : bootBuiltins x = some (.builtin id)) (ha : LA X κ W (e :: es) ms) (hn : x ≠ "__name__" := by decide) (hdb : (x == ("__debug__" : Str)) = false := by decide)
    (he : starEach (e :: es) X.env = (false, eval e X.env) :: starEach es X.env := by rfl) (hpl : (backTo pos (starEach es X.env)).any (·.1) = false := by rfl) : LE X κ W (.Call (.Name x p) (e :: es) [] pos) (mCall F ms) :=
  PE.by (pe_callB hc hg hm hv ha hn hdb he hpl) fun σ H Q ⟨ρ, σd, s, R, hE, q⟩ => ⟨ρ, σd, s, R, hE, (Fin.bind q).mono fun ds ρ1 s1 H1 x1 R1 h1 vs hvs => L W ρ1 σ H1 s1 vs ds Q R1 hvs h1⟩
theorem le_callTy {r : List V → Hp → VK → Prop} (hc : CallR X (.type T) r) (L : CallL X κ r F) (hg : Gl X x) (hm : X.mg x = none) (hv : bootBuiltins x = some (.type T)) (ha : LA X κ W (e :: es) ms) (hn : x ≠ "__name__" := by decide) (hdb : (x == ("__debug__" : Str)) = false := by decide)
    (he : starEach (e :: es) X.env = (false, eval e X.env) :: starEach es X.env := by rfl) (hpl : (backTo pos (starEach es X.env)).any (·.1) = false := by rfl) : LE X κ W (.Call (.Name x p) (e :: es) [] pos) (mCall F ms) :=
  PE.by (pe_callTy hc hg hm hv ha hn hdb he hpl) fun σ H Q ⟨ρ, σd, s, R, hE, q⟩ => ⟨ρ, σd, s, R, hE, (Fin.bind q).mono fun ds ρ1 s1 H1 x1 R1 h1 vs hvs => L W ρ1 σ H1 s1 vs ds Q R1 hvs h1⟩
theorem tyQ_ok {K : PySem.W.Frag} {ρ : List Addr} {H : Hp} {s : Mst} (R : Rel K κ ρ H s) {d : Dv} {v : V} (h : VR K κ ρ H d v) (e : tyQ d s = T) (hT : T ∈ ["str", "int", "list", "dict"]) : tyV K T v H := by
  unfold tyQ at e
  cases d with
  | int i => subst e; rw [h.int]; rfl
  | str i => subst e; rw [h.str]; rfl
  | clst l => subst e; obtain ⟨a, vs, rfl, e2, _⟩ := h.clstE; exact .inl ⟨rfl, vs, SqI.list e2⟩
  | loc n =>
    simp only at e
    cases q : s[n]? with
    | none => rw [q] at e; subst e; simp at hT
    | some o =>
      rw [q] at e
      cases o with
      | lst l => subst e; obtain ⟨a, _, rfl, vs, e2, _⟩ := R.loc h q; exact .inl ⟨rfl, vs, .of e2⟩
      | dK l => subst e; obtain ⟨a, _, rfl, vs, e2, _⟩ := R.loc h q; exact .inr (.inr (.inl ⟨rfl, .inl ⟨vs, e2⟩⟩))
      | dT l => subst e; obtain ⟨a, _, rfl, vs, e2, _⟩ := R.loc h q; exact .inr (.inr (.inl ⟨rfl, .inr ⟨vs, e2⟩⟩))
      | ins C l => subst e; simp at hT
  | _ => subst e; simp at hT
theorem le_meth {r : V → List V → Hp → VK → Prop} {name : Str} (pa : PlainAttrs T) (slot : Slot T name id) (hty : typeOf (.builtin id) = pure (.type "method_descriptor")) (hm : MtR X id r) (L : MtL X κ r F) (ho : LE X κ W o mo) (ha : LA X κ W (e :: es) ms) (hT : T ∈ ["str", "int", "list", "dict"] := by decide)
    (hbase : attributeBase o name X.env (eval o X.env) = eval o X.env := by rfl)
    (hfew : ((backTo pos (starEach (e :: es) X.env)).all (fun x => !x.1) && (backToKw pos (keywordEach [] X.env)).all (fun x => x.1.isSome)
      && decide ((e :: es).length + ([] : List Keyword).length + (if ([] : List Keyword).isEmpty then 0 else 1) < 30)) = true := by rfl)
    (hline : (apos.endLine == pos.line) = true := by rfl) (hs : starEach (e :: es) X.env = (false, eval e X.env) :: starEach es X.env := by rfl) (hplain : (backTo pos (starEach es X.env)).any (·.1) = false := by rfl) :
    LE X κ W (.Call (.Attribute o name apos) (e :: es) [] pos) (mMeth T F mo ms) :=
  PE.by (pe_bm pa slot hty hm ho ha hbase hfew hline hs hplain) fun σ H Q ⟨ρ, σd, s, R, hE, q⟩ => ⟨ρ, σd, s, R, hE, (Fin.bind q).mono fun d ρ1 s1 H1 x1 R1 h1 v hv => by
    by_cases hq : tyQ d s1 = T
    · rw [if_pos hq] at h1
      exact ⟨tyQ_ok R1 hv hq hT, ρ1, σd, s1, R1, hE.later R x1, (Fin.bind h1).mono fun ds ρ2 s2 H2 x2 R2 h2 vs hvs => L W ρ2 σ H2 s2 v vs d ds Q R2 (VR.later R1 x2 _ _ hv) hvs h2⟩
    · rw [if_neg hq] at h1; exact h1.elim⟩
theorem le_meth0 {r : V → List V → Hp → VK → Prop} {name : Str} (pa : PlainAttrs T) (slot : Slot T name id) (hty : typeOf (.builtin id) = pure (.type "method_descriptor")) (hm : MtR X id r) (L : MtL X κ r F) (ho : LE X κ W o mo) (hT : T ∈ ["str", "int", "list", "dict"] := by decide)
    (hbase : attributeBase o name X.env (eval o X.env) = eval o X.env := by rfl) (hline : (apos.endLine == pos.line) = true := by rfl) : LE X κ W (.Call (.Attribute o name apos) [] [] pos) (mMeth T F mo []) :=
  PE.by (pe_bm0 pa slot hty hm ho hbase hline) fun σ H Q ⟨ρ, σd, s, R, hE, q⟩ => ⟨ρ, σd, s, R, hE, (Fin.bind q).mono fun d ρ1 s1 H1 x1 R1 h1 v hv => by
    by_cases hq : tyQ d s1 = T
    · rw [if_pos hq] at h1
      exact ⟨tyQ_ok R1 hv hq hT, L W ρ1 σ H1 s1 v [] d [] Q R1 hv .nil ((Fin.bind h1) ρ1 H1 Step.refl R1)⟩
    · rw [if_neg hq] at h1; exact h1.elim⟩
/-- one argument -/
theorem call1 {r : List V → Hp → VK → Prop} {f : Dv → Mst → Rm Dv} (h : ∀ W ρ σ H s v d Q, Rel X.K κ ρ H s → VR X.K κ ρ H d v → EndV X.K κ W ρ σ H (f d s) Q → r [v] H Q) : CallL X κ r (f1 f) := by
  intro W ρ σ H s vs ds Q R hv q
  cases ds with
  | nil => exact q.elim
  | cons d ds =>
    cases ds with
    | nil =>
      simp only [VRs] at hv
      obtain ⟨v, r', rfl, h1, rfl⟩ := hv
      exact h W ρ σ H s v d Q R h1 q
    | cons _ _ => exact q.elim
theorem call2 {r : List V → Hp → VK → Prop} {f : Dv → Dv → Mst → Rm Dv} (h : ∀ W ρ σ H s v u d e Q, Rel X.K κ ρ H s → VR X.K κ ρ H d v → VR X.K κ ρ H e u → EndV X.K κ W ρ σ H (f d e s) Q → r [v, u] H Q) : CallL X κ r (f2 f) := by
  intro W ρ σ H s vs ds Q R hv q
  cases ds with
  | nil => exact q.elim
  | cons d ds =>
    cases ds with
    | nil => exact q.elim
    | cons e ds =>
      cases ds with
      | nil =>
        simp only [VRs] at hv
        obtain ⟨v, r', rfl, h1, u, r'', rfl, h2, rfl⟩ := hv
        exact h W ρ σ H s v u d e Q R h1 h2 q
      | cons _ _ => exact q.elim
theorem meth1 {r : V → List V → Hp → VK → Prop} {f : Dv → Dv → Mst → Rm Dv} (h : ∀ W ρ σ H s v u d e Q, Rel X.K κ ρ H s → VR X.K κ ρ H d v → VR X.K κ ρ H e u → EndV X.K κ W ρ σ H (f d e s) Q → r v [u] H Q) : MtL X κ r (f2 f) := by
  intro W ρ σ H s v vs d ds Q R hd hv q
  cases ds with
  | nil => exact q.elim
  | cons e ds =>
    cases ds with
    | nil =>
      simp only [VRs] at hv
      obtain ⟨u, r', rfl, h1, rfl⟩ := hv
      exact h W ρ σ H s v u d e Q R hd h1 q
    | cons _ _ => exact q.elim
/-! ### len, tuple, list, any, all, int -/
def rLenA (K : PySem.W.Frag) : List V → Hp → VK → Prop := fun xs H Q => (∃ x n, xs = [x] ∧ LenV K x H n ∧ Q (.int n) H) ∨ ∃ a kvs, xs = [V.ref a] ∧ H a = some (.dK kvs) ∧ Q (.int kvs.length) H
theorem cr_len : CallR X (.builtin "len") (rLenA X.K) := CallR.or call_len call_lenD
theorem L_len : CallL X κ (rLenA X.K) bLen := call1 fun W ρ σ H s v d Q R hv q => by
  cases e : lenQ d s with
  | none => rw [e] at q; exact q.elim
  | some n =>
    rw [e] at q
    have q' : Q (.int n) H := EndV.ok q R (by simp only [VR])
    unfold lenQ at e
    cases d with
    | str z =>
      simp only at e
      by_cases hl : z.length ≤ 2 ^ 24
      · rw [if_pos hl] at e; cases e
        exact .inl ⟨v, _, rfl, by rw [hv.str]; exact ⟨hl, rfl⟩, q'⟩
      · rw [if_neg hl] at e; cases e
    | tup l =>
      cases e
      obtain ⟨a, vs, rfl, e2, e3⟩ := hv.tupE
      exact .inl ⟨_, _, rfl, .inr ⟨vs, e2, e3.length.symm⟩, q'⟩
    | clst l =>
      cases e
      obtain ⟨a, vs, rfl, e2, e3⟩ := hv.clstE
      exact .inl ⟨_, _, rfl, .inl ⟨vs, SqI.list e2, e3.length.symm⟩, q'⟩
    | loc k =>
      simp only at e
      cases q2 : s[k]? with
      | none => rw [q2] at e; cases e
      | some o =>
        rw [q2] at e
        cases o with
        | lst l =>
          cases e
          obtain ⟨a, _, rfl, vs, e2, e3⟩ := R.loc hv q2
          exact .inl ⟨_, _, rfl, .inl ⟨vs, .of e2, e3.length.symm⟩, q'⟩
        | dK l =>
          cases e
          obtain ⟨a, _, rfl, h⟩ := R.loc hv q2
          obtain ⟨vs, e2, e3⟩ := OR.dk h
          exact .inr ⟨a, vs, rfl, e2, by rw [e3.length]; exact q'⟩
        | _ => cases e
    | _ => cases e
theorem L_tuple : CallL X κ (fun xs H Q => ∃ p ys, xs = [.ref p] ∧ ((SqL X.K H p ys ∧ ∀ l, H l = none → Q (.ref l) (upd H l (.tup ys))) ∨ (SqT X.K H p ys ∧ Q (.ref p) H))) bTuple := call1 fun W ρ σ H s v d Q R hv q => by
  cases e : seqOf d s with
  | none => rw [e] at q; exact q.elim
  | some l =>
    rw [e] at q
    rcases seqOf_eq e with rfl | e2
    · obtain ⟨a, vs, rfl, e2, e3⟩ := VR.tupE hv
      exact ⟨a, vs, rfl, .inr ⟨e2, EndV.ok q R hv⟩⟩
    · obtain ⟨a, vs, rfl, h1, h2⟩ := R.lstE hv e2
      exact ⟨a, vs, rfl, .inl ⟨h1, fun p np => EndV.tup q R np h2⟩⟩
theorem L_list : CallL X κ (fun xs H Q => ∃ p ys, xs = [.ref p] ∧ (SqL X.K H p ys ∨ SqT X.K H p ys) ∧ ∀ l, H l = none → Q (.ref l) (upd H l (.lst ys))) bList := call1 fun W ρ σ H s v d Q R hv q => by
  cases e : seqOf d s with
  | none => rw [e] at q; exact q.elim
  | some l =>
    rw [e] at q
    rcases seqOf_eq e with rfl | e2
    · obtain ⟨a, vs, rfl, e2, e3⟩ := VR.tupE hv
      exact ⟨a, vs, rfl, .inr e2, fun p np => EndV.newL q R np e3⟩
    · obtain ⟨a, vs, rfl, h1, h2⟩ := R.lstE hv e2
      exact ⟨a, vs, rfl, .inl h1, fun p np => EndV.newL q R np h2⟩
theorem blsQ_ok {K : PySem.W.Frag} {ρ : List Addr} {H : Hp} : ∀ {l : List Dv} {vs : List V} {bs : List Bool}, VRs K κ ρ H l vs → blsQ l = some bs → vs = bs.map V.bl
  | [], vs, bs, h, e => by simp only [VRs] at h; cases e; exact h
  | d :: l, vs, bs, h, e => by
    simp only [VRs] at h
    obtain ⟨v, r, rfl, h1, h2⟩ := h
    cases d with
    | bl b =>
      unfold blsQ at e
      cases q : blsQ l with
      | none => rw [q] at e; cases e
      | some cs => rw [q] at e; cases e; rw [List.map_cons, ← blsQ_ok h2 q, h1.bl]
    | _ => cases e
theorem L_any : CallL X κ (rAny X.K) bAny := call1 fun W ρ σ H s v d Q R hv q => by
  cases e : bAny.lstQ d s with
  | none => rw [e] at q; exact q.elim
  | some l =>
    rw [e] at q
    simp only [Option.bind_some] at q
    cases e2 : blsQ l with
    | none => rw [e2] at q; exact q.elim
    | some bs =>
      rw [e2] at q
      obtain ⟨a, vs, rfl, h1, h2⟩ := R.lstE hv e
      exact ⟨a, bs, rfl, by rw [← blsQ_ok h2 e2]; exact h1, EndV.ok q R (by simp only [VR])⟩
theorem L_all : CallL X κ (rAll X.K) bAll := call1 fun W ρ σ H s v d Q R hv q => by
  cases e : bAny.lstQ d s with
  | none => rw [e] at q; exact q.elim
  | some l =>
    rw [e] at q
    simp only [Option.bind_some] at q
    cases e2 : blsQ l with
    | none => rw [e2] at q; exact q.elim
    | some bs =>
      rw [e2] at q
      obtain ⟨a, vs, rfl, h1, h2⟩ := R.lstE hv e
      exact ⟨a, bs, rfl, by rw [← blsQ_ok h2 e2]; exact h1, EndV.ok q R (by simp only [VR])⟩
theorem L_int : CallL X κ (fun xs H Q => (∃ i, xs = [.int i] ∧ Q (.int i) H) ∨ ∃ k, xs = [.bl k] ∧ Q (.int (if k then 1 else 0)) H) bInt := call1 fun W ρ σ H s v d Q R hv q => by
  cases d with
  | int i => exact .inl ⟨i, by rw [hv.int], EndV.ok q R (by simp only [VR])⟩
  | bl b => exact .inr ⟨b, by rw [hv.bl], EndV.ok q R (by simp only [VR])⟩
  | _ => exact q.elim
/-! ### isinstance -/
theorem tyX_ok {K : PySem.W.Frag} {ρ : List Addr} {H : Hp} {s : Mst} (R : Rel K κ ρ H s) {d : Dv} {v : V} (h : VR K κ ρ H d v) (hk : tyQ d s ∈ kinds) : TyX K H v (.type (tyQ d s)) := by
  unfold tyQ at hk ⊢
  cases d with
  | non => rw [h.non]; exact .base .non
  | bl b => rw [h.bl]; exact .base (.bl b)
  | int i => rw [h.int]; exact .base (.int i)
  | str i => rw [h.str]; exact .base (.str i)
  | tup l =>
    obtain ⟨a, vs, rfl, e2, _⟩ := h.tupE
    rcases e2 with (e2 | ⟨o, e2⟩) | ⟨o, its, n, e1, e2, _⟩
    · exact .base (.tup e2)
    · exact .fTuple e2
    · exact .kTuple e1 e2
  | clst l =>
    obtain ⟨a, vs, rfl, e2, _⟩ := h.clstE
    rcases e2 with ⟨o, e2⟩ | ⟨o, its, n, e1, e2, _⟩
    · exact .base (.frz e2)
    · exact .kList e1 e2
  | loc n =>
    simp only at hk ⊢
    cases q : s[n]? with
    | none => simp [q, kinds] at hk
    | some o =>
      simp only [q] at hk ⊢
      cases o with
      | lst l => obtain ⟨a, _, rfl, vs, e2, _⟩ := R.loc h q; exact .base (.lst e2)
      | dK l => obtain ⟨a, _, rfl, vs, e2, _⟩ := R.loc h q; exact .base (.dK e2)
      | dT l => obtain ⟨a, _, rfl, vs, e2, _⟩ := R.loc h q; exact .base (.dT e2)
      | ins C l => simp [kinds] at hk
  | fix n => simp [kinds] at hk
  | ty n => simp [kinds] at hk
theorem kit_all {K : PySem.W.Frag} {t n : String} (ht : t ∈ kinds) (hn : n ∈ asked) : PySem.W.kitOne K (.type t) (.type n) = some (isiQ t n) := by
  have h : ∀ t ∈ kinds, ∀ n ∈ asked, kitB t n = some (isiQ t n) := by decide +kernel
  exact kit_ty (h t ht n hn)
theorem L_isi : CallL X κ (rIsi X.K) bIsi := call2 fun W ρ σ H s v u d e Q R hv hu q => by
  cases e with
  | ty n =>
    simp only at q
    by_cases hq : tyQ d s ∈ kinds ∧ n ∈ asked
    · rw [if_pos hq] at q
      exact ⟨v, .ty n, _, _, _, by rw [hu.tyE], .ty n, tyX_ok R hv hq.1, kit_all hq.1 hq.2, EndV.ok q R (by simp only [VR])⟩
    · rw [if_neg hq] at q; exact q.elim
  | _ => exact q.elim
/-! ### methods of lists -/
theorem methL {r : V → List V → Hp → VK → Prop} {f : List Dv → List Dv → Option (List Dv × Dv)}
    (h : ∀ (ρ : List Addr) (H : Hp) (l : List Dv) (xs : List V) (ds : List Dv) (vs : List V) (l' : List Dv) (d : Dv) (a : Addr) (Q : VK), VRs X.K κ ρ H l xs → VRs X.K κ ρ H ds vs → f l ds = some (l', d) → H a = some (.lst xs) →
      (∀ xs' v, VRs X.K κ ρ H l' xs' → VR X.K κ ρ H d v → Q v (upd H a (.lst xs'))) → r (.ref a) vs H Q) : MtL X κ r (onLst f) := by
  intro W ρ σ H s v vs d ds Q R hd hv q
  unfold onLst at q
  cases d with
  | loc n =>
    simp only at q
    cases e : s[n]? with
    | none => rw [e] at q; exact q.elim
    | some o =>
      rw [e] at q
      cases o with
      | lst l =>
        simp only at q
        obtain ⟨a, e0, rfl, xs, e2, e3⟩ := R.loc hd e
        cases e4 : f l ds with
        | none => rw [e4] at q; exact q.elim
        | some z =>
          obtain ⟨l', d'⟩ := z
          rw [e4] at q
          exact h ρ H l xs ds vs l' d' a Q e3 hv e4 e2 fun xs' v' h1 h2 => EndV.put q R e0 ⟨xs', upd_same, VRs.later R (Step.put e0) _ _ h1⟩ (VR.later R (Step.put e0) _ _ h2)
      | _ => exact q.elim
  | _ => exact q.elim
theorem L_append : MtL X κ rAppend tAppend := methL fun ρ H l xs ds vs l' d a Q hl hv e ha q => by
  cases ds with
  | nil => cases e
  | cons x r =>
    cases r with
    | nil =>
      simp only at e
      by_cases hz : l.length < 2 ^ 24
      · rw [if_pos hz] at e
        cases e
        simp only [VRs] at hv
        obtain ⟨v, r', rfl, h1, rfl⟩ := hv
        exact ⟨a, xs, v, rfl, rfl, ha, by rw [hl.length]; exact hz, q _ _ (hl.append (.cons h1 .nil)) (by simp only [VR])⟩
      · rw [if_neg hz] at e; cases e
    | cons _ _ => cases e
def rPopA : V → List V → Hp → VK → Prop := fun x vs H Q => rPop x vs H Q ∨ rPopAt x vs H Q
theorem mt_popA : MtR X "list.pop" rPopA := MtR.or mt_pop mt_popAt
theorem VRs.eraseIdx {K : PySem.W.Frag} {ρ : List Addr} {H : Hp} : ∀ {l : List Dv} {vs : List V} (n : Nat), VRs K κ ρ H l vs → VRs K κ ρ H (l.eraseIdx n) (vs.eraseIdx n)
  | [], vs, n, h => by simp only [VRs] at h; subst h; simpa using VRs.nil
  | d :: l, vs, 0, h => by
    simp only [VRs] at h
    obtain ⟨v, r, rfl, h1, h2⟩ := h
    simpa using h2
  | d :: l, vs, n + 1, h => by
    simp only [VRs] at h
    obtain ⟨v, r, rfl, h1, h2⟩ := h
    simpa using VRs.cons h1 (VRs.eraseIdx n h2)
theorem L_pop : MtL X κ rPopA tPop := methL fun ρ H l xs ds vs l' d a Q hl hv e ha q => by
  cases ds with
  | nil =>
    simp only at e
    cases e1 : l[l.length - 1]? with
    | none => rw [e1] at e; cases e
    | some z =>
      rw [e1] at e
      cases e
      simp only [VRs] at hv
      obtain ⟨v, e2, e3⟩ := hl.get e1
      refine .inl ⟨a, xs, v, rfl, hv, ha, by rw [hl.length]; exact e2, q _ _ ?_ e3⟩
      rw [List.dropLast_eq_take, List.dropLast_eq_take, hl.length]
      exact VRs.take _ hl
  | cons x r =>
    cases r with
    | cons _ _ => cases x <;> cases e
    | nil =>
      cases x with
      | int i =>
        simp only at e
        cases e1 : ixQ l.length i with
        | none => rw [e1] at e; cases e
        | some k =>
          rw [e1] at e
          simp only at e
          cases e2 : l[k]? with
          | none => rw [e2] at e; cases e
          | some z =>
            rw [e2] at e
            simp only at e
            by_cases hi : -(2 ^ 63) ≤ i ∧ i < 2 ^ 63
            · rw [if_pos hi] at e
              cases e
              simp only [VRs] at hv
              obtain ⟨v, r', rfl, h1, rfl⟩ := hv
              obtain ⟨u, e3, e4⟩ := hl.get e2
              exact .inr ⟨a, xs, i, k, u, rfl, by rw [h1.int], ha, hi.1, hi.2, (ixN_seq (n := xs.length) (by rw [hl.length]; exact e1)).1, e3, q _ _ (VRs.eraseIdx k hl) e4⟩
            · rw [if_neg hi] at e; cases e
      | _ => cases e
theorem L_clear : MtL X κ rClear tClear := methL fun ρ H l xs ds vs l' d a Q hl hv e ha q => by
  cases ds with
  | nil =>
    cases e
    simp only [VRs] at hv
    exact ⟨a, xs, rfl, hv, ha, q _ _ .nil (by simp only [VR])⟩
  | cons _ _ => cases e
theorem findE_ok (a : PyData) : ∀ {bs : List PyData} {n : Nat}, findE a bs = some n → ∃ z, bs[n]? = some z ∧ PyData.eqv z a = true ∧ ∀ (m : Nat) z', m < n → bs[m]? = some z' → PyData.eqv z' a = false
  | [], n, e => by cases e
  | b :: r, n, e => by
    unfold findE at e
    by_cases h : PyData.eqv b a = true
    · rw [if_pos h] at e; cases e
      exact ⟨b, rfl, h, fun m z' hm => absurd hm (Nat.not_lt_zero m)⟩
    · rw [if_neg h] at e
      cases q : findE a r with
      | none => rw [q] at e; cases e
      | some k =>
        rw [q] at e; cases e
        obtain ⟨z, e1, e2, e3⟩ := findE_ok a q
        refine ⟨z, by simpa using e1, e2, fun m z' hm e4 => ?_⟩
        cases m with
        | zero => simp at e4; subst e4; exact Bool.eq_false_iff.mpr h
        | succ m => exact e3 m z' (Nat.lt_of_succ_lt_succ hm) (by simpa using e4)
theorem L_index : MtL X κ (rIndexD X.K) tIndex := meth1 fun W ρ σ H s v u d e Q R hv hu q => by
  cases e1 : bAny.lstQ d s with
  | none => rw [e1] at q; exact q.elim
  | some l =>
    rw [e1] at q
    simp only at q
    cases e2 : dat s 66 e with
    | none => rw [e2] at q; exact q.elim
    | some a =>
      cases e3 : datA (dat s 65) l with
      | none => rw [e2, e3] at q; exact q.elim
      | some bs =>
        rw [e2, e3] at q
        simp only at q
        by_cases hs : SeqAt.shaped a = true ∧ SeqAt.shaped (.list bs) = true
        · rw [if_pos hs] at q
          cases e4 : findE a bs with
          | none => rw [e4] at q; exact q.elim
          | some n =>
            rw [e4] at q
            obtain ⟨z, f1, f2, f3⟩ := findE_ok a e4
            obtain ⟨p, vs, rfl, _, _⟩ := R.lstE hv e1
            exact ⟨p, u, a, bs, n, z, rfl, rfl, lst_dat R hv e1 e3, dat_ok R 66 e u a hu e2, hs.2, hs.1, f1, f2, f3, EndV.ok q R (by simp only [VR])⟩
        · rw [if_neg hs] at q; exact q.elim
end
end Mid
/-! Mid9: sorted, dicts of pairs, update, count, join, zip. -/
namespace Mid
open PySem PySem.Spec L2 Classical

theorem risingS_all : ∀ (l : List Str) (p : Str), PyProof.Rows.risingS p l = true → (p :: l).Pairwise leS
  | [], p, _ => by simp
  | x :: r, p, h => by
    have h' : (!ltCps x.cps.toList p.cps.toList && PyProof.Rows.risingS x r) = true := h
    rw [Bool.and_eq_true] at h'
    have h1 : leS p x := by
      have q := h'.1
      rw [PyProof.Rows.ltCps_eq] at q
      simpa [leS] using q
    have h2 := risingS_all r x h'.2
    refine List.pairwise_cons.mpr ⟨fun y hy => ?_, h2⟩
    rcases List.mem_cons.mp hy with rfl | hy
    · exact h1
    · exact leS_trans h1 (List.rel_of_pairwise_cons h2 hy)
theorem srtS_one {l m : List Str} (hp : m.Perm l) (h : PyProof.Rows.sortedS m = true) : m = srtS l := by
  refine perm_one leS_anti (hp.trans (srtS_perm l).symm) ?_ (srtS_rising l)
  cases m with
  | nil => exact .nil
  | cons x r => exact risingS_all r x h

section
variable {K : PySem.W.Frag} {κ : Nat → Addr} {ρ : List Addr} {H : Hp}
theorem intsQ_ok : ∀ {l : List Dv} {vs : List V} {ns : List Int}, VRs K κ ρ H l vs → intsQ l = some ns → vs = ns.map V.int ∧ l = ns.map Dv.int
  | [], vs, ns, h, e => by simp only [VRs] at h; cases e; exact ⟨h, rfl⟩
  | d :: l, vs, ns, h, e => by
    simp only [VRs] at h
    obtain ⟨v, r, rfl, h1, h2⟩ := h
    cases d with
    | int i =>
      unfold intsQ at e
      cases q : intsQ l with
      | none => rw [q] at e; cases e
      | some ms =>
        rw [q] at e; cases e
        obtain ⟨e1, e2⟩ := intsQ_ok h2 q
        exact ⟨by rw [List.map_cons, ← e1, h1.int], by rw [List.map_cons, ← e2]⟩
    | _ => cases e
theorem strsQ_ok : ∀ {l : List Dv} {vs : List V} {ns : List Str}, VRs K κ ρ H l vs → strsQ l = some ns → vs = ns.map V.str ∧ l = ns.map Dv.str
  | [], vs, ns, h, e => by simp only [VRs] at h; cases e; exact ⟨h, rfl⟩
  | d :: l, vs, ns, h, e => by
    simp only [VRs] at h
    obtain ⟨v, r, rfl, h1, h2⟩ := h
    cases d with
    | str i =>
      unfold strsQ at e
      cases q : strsQ l with
      | none => rw [q] at e; cases e
      | some ms =>
        rw [q] at e; cases e
        obtain ⟨e1, e2⟩ := strsQ_ok h2 q
        exact ⟨by rw [List.map_cons, ← e1, h1.str], by rw [List.map_cons, ← e2]⟩
    | _ => cases e
theorem VRs.ints (ns : List Int) : VRs K κ ρ H (ns.map Dv.int) (ns.map V.int) := by
  induction ns with
  | nil => exact .nil
  | cons n r ih => exact .cons (by simp only [VR]) ih
theorem VRs.strs (ns : List Str) : VRs K κ ρ H (ns.map Dv.str) (ns.map V.str) := by
  induction ns with
  | nil => exact .nil
  | cons n r ih => exact .cons (by simp only [VR]) ih
/-- the keys of a dict, as values -/
theorem keysQ_ints : ∀ {ks : List KeyQ} {ns : List Int}, intsQ (ks.map keyD) = some ns → ks = ns.map Sum.inl
  | [], ns, e => by cases e; rfl
  | k :: ks, ns, e => by
    cases k with
    | inl i =>
      simp only [List.map_cons, keyD, intsQ] at e
      cases q : intsQ (ks.map keyD) with
      | none => rw [q] at e; cases e
      | some ms => rw [q] at e; cases e; rw [List.map_cons, ← keysQ_ints q]
    | inr x => simp [keyD, intsQ] at e
theorem keysQ_strs : ∀ {ks : List KeyQ} {ns : List Str}, strsQ (ks.map keyD) = some ns → ks = ns.map Sum.inr
  | [], ns, e => by cases e; rfl
  | k :: ks, ns, e => by
    cases k with
    | inr i =>
      simp only [List.map_cons, keyD, strsQ] at e
      cases q : strsQ (ks.map keyD) with
      | none => rw [q] at e; cases e
      | some ms => rw [q] at e; cases e; rw [List.map_cons, ← keysQ_strs q]
    | inl x => simp [keyD, strsQ] at e
end

section
variable {X : Cx} {κ : Nat → Addr} {W : WX}
/-- sorted(d) of a dict, all its keys ints, any number of them -/
def rSortedDI (H0 : Hp) : List V → Hp → VK → Prop := fun xs H Q => ∃ (a : Addr) (kvs : List (Key × V)) (ks : List Int), xs = [.ref a] ∧ Rd H a (.dK kvs) ∧ kvs.map (·.1) = ks.map Sum.inl ∧
    ∀ (ys : List Int) (p : Addr), ys.Perm ks → ys.Pairwise (· ≤ ·) → H p = none → Q (.ref p) (upd H p (.lst (ys.map V.int)))
theorem cr_sortedDI (hcalm : X.calm = true) : CallR X (.builtin "sorted") (rSortedDI X.H_0) := by
  intro pins s σ H xs us Q I r hq
  obtain ⟨a, kvs, ks, ex, hd, hks, fin⟩ := hq
  subst ex
  obtain ⟨u0, eu, rx⟩ := vals1 r
  subst eu
  cases rx
  obtain ⟨hz, lo, vs, rel, dd⟩ := dk_rd I.hok hd
  obtain ⟨ep, hat⟩ := dd.dictAt
  have keys : vs.map (·.1) = ks.map Sum.inl := rel.keys.symm.trans hks
  have len1 : vs.length = ks.length := by simpa using congrArg List.length keys
  have len2 : kvs.length = ks.length := by simpa using congrArg List.length hks
  have big : vs.length ≤ sizeLine := by rw [len1, ← len2]; exact hz
  refine Calls.call_function_entry PyProof.Rows.kind_sorted PyProof.Rows.plain_sorted PyProof.Rows.entry_sorted (PyProof.Rows.args_sorted1 _) ?_
  unfold Builtin.«sorted»
  refine wpAny_bind (m := checkCount "sorted" 1 1 _) (wpAny_pure (wpAny_bind ?_))
  refine PySem.W.kdu_collect (A := X.A.in1) (PySem.W.kdl_dict (knd := mixKind X.prog X.w) (kvs := vs) (ep := ep) lo) (I.ok.hd hcalm) hat big fun g tk acc keep got => ?_
  have len3 : acc.toList.length = ks.length := by rw [Array.length_toList, got.1, len1]
  have hS : PyProof.Rows.IntsAre acc.toList ks := L2.ints_each len3 fun j v e => by
    obtain ⟨k, y, e1, e2⟩ := got.2 j v (by rw [← Array.getElem?_toList]; exact e)
    have e3 : (vs.map (·.1))[j]? = some k := by rw [List.getElem?_map, e1]; rfl
    rw [keys, List.getElem?_map] at e3
    cases e4 : ks[j]? with
    | none => rw [e4] at e3; cases e3
    | some i =>
      rw [e4] at e3
      obtain rfl : Sum.inl i = k := Option.some.inj e3
      obtain ⟨t, ev⟩ := Value.isInt_shape (k := i) (v := v) e2
      exact ⟨i, t, rfl, ev⟩
  have I1 : Inv X pins σ H { s with heap := g, toks := tk } := I.kept keep
  have big2 : acc.toList.length ≤ sizeLine := by rw [len3, ← len1]; exact big
  refine wpAny_bind (wpAny_newList ?_ big2)
  have at0 : (g.push (PyProof.Rows.seqObj "list" acc.toList.toArray 0)).get? g.objs.size = some (PyProof.Rows.seqObj "list" acc.toList.toArray 0) := Heap.get?_push_size _ rfl
  show wpAny _ _ _ _ _ { s with heap := g.push (PyProof.Rows.seqObj "list" acc.toList.toArray 0), toks := tk }
  refine wpAny_bind (wpAny_holding (wpAny_call_entry PyProof.Rows.slot_list_sort ⟨_, at0, rfl⟩ PyProof.Rows.entry_list_sort
    (SrtO.list_sort_ord (s := { s with heap := g.push (PyProof.Rows.seqObj "list" acc.toList.toArray 0), toks := tk }) SrtO.swo_int at0 big2 (fun h2 => SrtO.ints_sortable hS h2) fun out h1 h2 => ⟨_, rfl, ?_⟩) (PyProof.Rows.args_list_sort _)))
  obtain ⟨k1, k2, k3⟩ := SrtO.ints_out hS h1 h2
  obtain ⟨e', he'⟩ := PyProof.Rows.sortedHeap_at (vs := acc.toList) (out := out.toArray) at0
  have len4 : ((out.map SrtO.iv).map V.int).length ≤ sizeLine := by
    rw [List.length_map, k2.length_eq, ← len1]
    exact big
  refine wpAny_pure ⟨_, rfl, .ref g.objs.size, upd H g.objs.size (.lst ((out.map SrtO.iv).map V.int)), I1.laid (t' := tk) (fun b u e => ?_) (Nat.le_refl _)
    ⟨len4, out, e', vals_of_ints k1, he'⟩, rfl, fin _ _ k2 k3 (I1.hok.fresh (Nat.le_refl _))⟩
  have hb : b < g.objs.size := Heap.lt_size e
  rw [PyProof.Rows.sortedHeap_old (Nat.ne_of_lt hb) (by show b < (g.push _).objs.size; rw [Heap.size_push]; exact Nat.lt_succ_of_lt hb)]
  exact Heap.get?_push_of_some _ e

def rSortedA (K : PySem.W.Frag) (H0 : Hp) : List V → Hp → VK → Prop := fun xs H Q => ((rSortedI K xs H Q ∨ rSortedS K xs H Q) ∨ rSortedDI H0 xs H Q) ∨ (∃ (a : Addr) (kvs : List (Key × V)) (ks : List Str), xs = [.ref a] ∧ Rd H a (.dK kvs) ∧ kvs.map (·.1) = ks.map Sum.inr ∧ ks.length < 64 ∧
    ∀ ys p, ys.Perm ks → PyProof.Rows.sortedS ys = true → H p = none → Q (.ref p) (upd H p (.lst (ys.map V.str))))
theorem cr_sortedA (hc : X.calm = true) : CallR X (.builtin "sorted") (rSortedA X.K X.H_0) := CallR.or (CallR.or (CallR.or cr_sortedI cr_sortedS) (cr_sortedDI hc)) (call_sortedD hc)
theorem L_sorted : CallL X κ (rSortedA X.K X.H_0) bSorted := call1 fun W ρ σ H s v d Q R hv q => by
  cases e : bAny.lstQ d s with
  | some l =>
    rw [e] at q
    simp only at q
    obtain ⟨a, vs, rfl, h1, h2⟩ := R.lstE hv e
    unfold srtQ at q
    cases e1 : intsQ l with
    | some ns =>
      rw [e1] at q
      simp only at q
      obtain ⟨rfl, rfl⟩ := intsQ_ok h2 e1
      exact .inl (.inl (.inl ⟨a, ns, rfl, h1, fun ns' p hp hr np => by rw [srtI_one hp hr]; exact EndV.newL q R np (VRs.ints _)⟩))
    | none =>
      rw [e1] at q
      simp only at q
      cases e2 : strsQ l with
      | none => rw [e2] at q; exact q.elim
      | some xs =>
        rw [e2] at q
        simp only at q
        by_cases h64 : xs.length < 64
        · rw [if_pos h64] at q
          obtain ⟨rfl, rfl⟩ := strsQ_ok h2 e2
          exact .inl (.inl (.inr ⟨a, xs, rfl, h1, h64, fun ys p hp hr np => by rw [srtS_one hp hr]; exact EndV.newL q R np (VRs.strs _)⟩))
        · rw [if_neg h64] at q; exact q.elim
  | none =>
    rw [e] at q
    simp only at q
    cases d with
    | loc n =>
      simp only at q
      cases q2 : s[n]? with
      | none => rw [q2] at q; exact q.elim
      | some o =>
        rw [q2] at q
        cases o with
        | dK kvs =>
          simp only at q
          obtain ⟨a, _, rfl, h⟩ := R.loc hv q2
          obtain ⟨vs, e2, e3⟩ := OR.dk h
          have ek : (kvs.map fun kv => keyD kv.1) = (kvs.map (·.1)).map keyD := by rw [List.map_map]; rfl
          rw [ek] at q
          unfold srtQ at q
          cases e1 : intsQ ((kvs.map (·.1)).map keyD) with
          | some ns =>
            rw [e1] at q
            simp only at q
            exact .inl (.inr ⟨a, vs, ns, rfl, .inl e2, e3.1.trans (keysQ_ints e1), fun ys p hp hr np => by rw [srtI_one hp hr]; exact EndV.newL q R np (VRs.ints _)⟩)
          | none =>
            rw [e1] at q
            simp only at q
            cases e4 : strsQ ((kvs.map (·.1)).map keyD) with
            | none => rw [e4] at q; exact q.elim
            | some xs =>
              rw [e4] at q
              simp only at q
              by_cases h64 : xs.length < 64
              · rw [if_pos h64] at q
                exact .inr ⟨a, vs, xs, rfl, .inl e2, e3.1.trans (keysQ_strs e4), h64, fun ys p hp hr np => by rw [srtS_one hp hr]; exact EndV.newL q R np (VRs.strs _)⟩
              · rw [if_neg h64] at q; exact q.elim
        | _ => exact q.elim
    | _ => exact q.elim
/-! ### dict of pairs, update -/
theorem pairsQ_ok {K : PySem.W.Frag} {ρ : List Addr} {H : Hp} : ∀ {l : List Dv} {vs : List V} {kvs : List (KeyQ × Dv)}, VRs K κ ρ H l vs → pairsQ l = some kvs →
    ∃ (ps : List Addr) (ws : List (Key × V)), vs = ps.map V.ref ∧ KR K κ ρ H kvs ws ∧ Paired (fun p kv => SqT K H p [kV kv.1, kv.2]) ps ws
  | [], vs, kvs, h, e => by simp only [VRs] at h; cases e; exact ⟨[], [], h, .nil, .nil⟩
  | d :: l, vs, kvs, h, e => by
    simp only [VRs] at h
    obtain ⟨v, r, rfl, h1, h2⟩ := h
    unfold pairsQ at e
    cases q1 : pairQ d with
    | none => rw [q1] at e; cases e
    | some kd =>
      cases q2 : pairsQ l with
      | none => rw [q1, q2] at e; cases e
      | some m =>
        rw [q1, q2] at e
        cases e
        obtain ⟨ps, ws, rfl, e3, e4⟩ := pairsQ_ok h2 q2
        unfold pairQ at q1
        split at q1
        · rename_i k z
          cases q3 : keyQ k with
          | none => rw [q3] at q1; cases q1
          | some kk =>
            rw [q3] at q1
            cases q1
            obtain ⟨a, us, rfl, f2, f3⟩ := h1.tupE
            simp only [VRs] at f3
            obtain ⟨x, r1, rfl, g1, y, r2, rfl, g2, rfl⟩ := f3
            rw [keyQ_ok g1 q3] at f2
            exact ⟨a :: ps, (kk, y) :: ws, rfl, .cons g2 e3, .cons f2 e4⟩
        · cases q1
theorem L_dict (hc : X.calm = true) : CallL X κ (fun xs H Q => ∃ (a : Addr) (ps : List Addr) (kvs : List (Key × V)), xs = [.ref a] ∧ SqL X.K H a (ps.map V.ref) ∧ Paired (fun p kv => SqT X.K H p [kV kv.1, kv.2]) ps kvs ∧
    ∀ p, H p = none → Q (.ref p) (upd H p (.dK (mergeK [] kvs)))) bDict := call1 fun W ρ σ H s v d Q R hv q => by
  cases e : bAny.lstQ d s with
  | none => rw [e] at q; exact q.elim
  | some l =>
    rw [e] at q
    simp only [Option.bind_some] at q
    cases e2 : pairsQ l with
    | none => rw [e2] at q; exact q.elim
    | some kvs =>
      rw [e2] at q
      simp only at q
      obtain ⟨a, vs, rfl, h1, h2⟩ := R.lstE hv e
      obtain ⟨ps, ws, rfl, e3, e4⟩ := pairsQ_ok h2 e2
      refine ⟨a, ps, ws, rfl, h1, e4, fun p np => EndV.new q R np ?_⟩
      have r := (e3.puts KR.nil).kp ((Step.new (ρ := ρ) np (o := .dK (mergeK [] ws))).kp R)
      exact ⟨_, upd_same, r.1, r.2⟩
def rUpd : V → List V → Hp → VK → Prop := fun x xs H Q => ∃ (a b : Addr) (kvs more : List (Key × V)), x = .ref a ∧ xs = [.ref b] ∧ a ≠ b ∧ H a = some (.dK kvs) ∧ H b = some (.dK more) ∧ kvs.length + more.length ≤ sizeLine ∧ (mergeK kvs more).length ≤ sizeLine ∧ Q .non (upd H a (.dK (mergeK kvs more)))
theorem mt_update : MtR X "dict.update" rUpd := by
  intro pins s σ H x xs v us Q I rx rxs h
  obtain ⟨a, b, kvs, more, rfl, rfl, hab, ha, hb, hz, hz2, q⟩ := h
  cases rx
  obtain ⟨u, rfl, ru⟩ := rxs.one
  cases ru
  obtain ⟨z1, lo1, vs, rel1, dd1⟩ := dk_of I.hok ha
  obtain ⟨z2, lo2, ws, rel2, dd2⟩ := dk_of I.hok hb
  refine call_meetsIn PySem.F.slot_dict_update dd1.typeIs PySem.F.entry_dict_update (PySem.F.args_dict_update_2 _ _) (meets_dict_update (mixKind X.prog X.w) a b hab lo2) ⟨vs, ws, dd1, dd2, by rw [← rel1.length, ← rel2.length]; exact hz, fun h' d1 _ hs => ?_⟩
  have he : ∃ q, h'.get? a = some q := let ⟨q, _, _, hq, _⟩ := d1; ⟨q, hq⟩
  exact ⟨.non, upd H a (.dK (mergeK kvs more)), I.write (x := a) (e := a) (t' := s.toks) (by rw [ha]; trivial) (.inl rfl) (fun c q hc z => (hs.2 c hc).trans z) he (dk_new hz2 lo1 (rel2.merge rel1) d1), rfl, q⟩
theorem mergeK_len (more : List (Key × V)) : ∀ kvs : List (Key × V), (mergeK kvs more).length ≤ kvs.length + more.length := by
  unfold mergeK
  induction more with
  | nil => intro kvs; simp
  | cons a r ih =>
    intro kvs
    simp only [List.foldl_cons, List.length_cons]
    have := ih (putK kvs a.1 a.2)
    have := length_putK kvs a.1 a.2
    omega
theorem L_update : MtL X κ rUpd tUpdate := meth1 fun W ρ σ H s v u d e Q R hv hu q => by
  cases d with
  | loc n =>
    cases e with
    | loc m =>
      simp only at q
      cases e1 : s[n]? with
      | none => rw [e1] at q; exact q.elim
      | some o1 =>
        rw [e1] at q
        cases o1 with
        | dK kvs =>
          cases e2 : s[m]? with
          | none => rw [e2] at q; exact q.elim
          | some o2 =>
            rw [e2] at q
            cases o2 with
            | dK more =>
              simp only at q
              by_cases hq : n ≠ m ∧ kvs.length + more.length < 2 ^ 24
              · rw [if_pos hq] at q
                obtain ⟨a, a0, rfl, h1⟩ := R.loc hv e1
                obtain ⟨b, b0, rfl, h2⟩ := R.loc hu e2
                obtain ⟨vs, f1, f2⟩ := OR.dk h1
                obtain ⟨ws, g1, g2⟩ := OR.dk h2
                have l1 : vs.length + ws.length ≤ sizeLine := by rw [f2.length, g2.length]; exact Nat.le_of_lt hq.2
                have r := (g2.puts f2).kp ((Step.put (H := H) (o := .dK (mergeK vs ws)) a0).kp R)
                refine ⟨a, b, vs, ws, rfl, rfl, fun z => hq.1 ?_, f1, g1, l1, Nat.le_trans (mergeK_len ws vs) l1, EndV.put q R a0 ⟨_, upd_same, r.1, r.2⟩ (by simp only [VR])⟩
                subst z
                have l1 := (List.getElem?_eq_some_iff.mp a0)
                have l2 := (List.getElem?_eq_some_iff.mp b0)
                exact (List.getElem_inj R.nd).mp (l1.2.trans l2.2.symm)
              · rw [if_neg hq] at q; exact q.elim
            | _ => exact q.elim
        | _ => exact q.elim
    | _ => exact q.elim
  | _ => exact q.elim
/-! ### count, join -/
def rCountD (K : PySem.W.Frag) : V → List V → Hp → VK → Prop := fun x xs H Q => ∃ (a : Addr) (y : V) (d : PyData) (ds : List PyData), x = V.ref a ∧ xs = [y] ∧ Dp K H (V.ref a) (.list ds) ∧ Dp K H y d ∧ SeqAt.shaped (.list ds) = true ∧ SeqAt.shaped d = true ∧ Q (.int (ds.countP fun z => PyData.eqv z d : Nat)) H
theorem mt_countD (hu : X.A.units + 65 < cLine) : MtR X "list.count" (rCountD X.K) := by
  intro pins s σ H x xs v us Q I rx rxs h
  obtain ⟨a, y, d, ds, rfl, rfl, hl, hy, sl, sd, q⟩ := h
  cases rx
  obtain ⟨u, rfl, ru⟩ := rxs.one
  obtain ⟨bs, r1⟩ := Dp.reads I d y u hy ru
  cases hl with
  | lst hs ha =>
    obtain ⟨its, rv, ⟨⟨cls, dd, data, sls⟩, n, ho, hc, hdn, hdt⟩, hlen⟩ := I.list hs
    simp only at hc hdt
    subst hc hdt
    obtain ⟨as, h4⟩ := Dp.readsAll I ds _ its ha rv
    have lay : PyData.canLayAll0 ds = true := SeqAt.canLay_of_shaped sl
    have room : X.A.units + 1 + min (PyData.depthAll ds) d.depth < cLine := PyProof.Rows.room_in_shaped sd hu
    have mp : its.map (SeqAt.readOf s.heap) = ds := SeqAt.readsAll_map ds its as lay h4
    refine call_meets PySem.F.slot_list_count ⟨_, ho, rfl⟩ PySem.F.entry_list_count (PySem.F.args_list_count_2 _ _)
      (SeqAt.list_countAt a its.toArray n dd sls u fun z => PyData.eqv (SeqAt.readOf s.heap z) d) ⟨ho, SeqAt.items_eqAt (vs := its.toArray) (show ReadsAll s.heap its.toArray.toList ds as from h4) r1 lay (SeqAt.canLay_of_shaped sd) room, ?_⟩
    refine ⟨.int (ds.countP fun z => PyData.eqv z d : Nat), H, I.tok _, ⟨s.toks, ?_⟩, q⟩
    rw [← mp, List.countP_map]
    rfl
theorem L_count : MtL X κ (rCountD X.K) tCount := meth1 fun W ρ σ H s v u d e Q R hv hu q => by
  cases e1 : bAny.lstQ d s with
  | none => rw [e1] at q; exact q.elim
  | some l =>
    rw [e1] at q
    simp only at q
    cases e2 : dat s 66 e with
    | none => rw [e2] at q; exact q.elim
    | some a =>
      cases e3 : datA (dat s 65) l with
      | none => rw [e2, e3] at q; exact q.elim
      | some bs =>
        rw [e2, e3] at q
        simp only at q
        by_cases hs : SeqAt.shaped a = true ∧ SeqAt.shaped (.list bs) = true
        · rw [if_pos hs] at q
          obtain ⟨p, vs, rfl, _, _⟩ := R.lstE hv e1
          exact ⟨p, u, a, bs, rfl, rfl, lst_dat R hv e1 e3, dat_ok R 66 e u a hu e2, hs.2, hs.1, EndV.ok q R (by simp only [VR])⟩
        · rw [if_neg hs] at q; exact q.elim
theorem L_join : MtL X κ (fun x xs H Q => ∃ a p, ∃ ys : List Str, x = .str a ∧ xs = [.ref p] ∧ (SqL X.K H p (ys.map V.str) ∨ SqT X.K H p (ys.map V.str)) ∧ (ys.map (·.length)).sum + ys.length * a.length ≤ 16777216 ∧ Q (.str (Txt.join a ys)) H) tJoin := meth1 fun W ρ σ H s v u d e Q R hv hu q => by
  cases d with
  | str z =>
    cases e1 : seqOf e s with
    | none => rw [e1] at q; exact q.elim
    | some l =>
      rw [e1] at q
      simp only [Option.bind_some] at q
      cases e2 : strsQ l with
      | none => rw [e2] at q; exact q.elim
      | some ys =>
        rw [e2] at q
        simp only at q
        by_cases hz : (ys.map (·.length)).sum + ys.length * z.length ≤ 16777216
        · rw [if_pos hz] at q
          rcases seqOf_eq e1 with rfl | e3
          · obtain ⟨a, vs, rfl, f2, f3⟩ := VR.tupE hu
            exact ⟨z, a, ys, hv.str, rfl, .inr (by rw [← (strsQ_ok f3 e2).1]; exact f2), hz, EndV.ok q R (by simp only [VR]; rw [TL.join_eq])⟩
          · obtain ⟨a, vs, rfl, h1, h2⟩ := R.lstE hu e3
            exact ⟨z, a, ys, hv.str, rfl, .inl (by rw [← (strsQ_ok h2 e2).1]; exact h1), hz, EndV.ok q R (by simp only [VR]; rw [TL.join_eq])⟩
        · rw [if_neg hz] at q; exact q.elim
  | _ => exact q.elim
end
/-! ### zip, list(range) -/
section
variable {X : Cx} {κ : Nat → Addr} {W : WX} {pos p tpos : Pos} {a b : Expr} {ma mb : ME} {elts : List Expr} {kk : Nat}
theorem zipWith_get {α β γ : Type} {f : α → β → γ} {l : List α} {m : List β} {i : Nat} {z : γ} (h : (List.zipWith f l m)[i]? = some z) : ∃ x y, l[i]? = some x ∧ m[i]? = some y ∧ z = f x y := by
  rw [List.getElem?_zipWith] at h
  cases e1 : l[i]? with
  | none => rw [e1] at h; simp at h
  | some x =>
    cases e2 : m[i]? with
    | none => rw [e1, e2] at h; simp at h
    | some y => rw [e1, e2] at h; simp at h; exact ⟨x, y, rfl, rfl, h.symm⟩
theorem stays_app : ∀ {r q : List (Nat × List Dv)} {s : Mst}, Mit.stays (r ++ q) s → Mit.stays r s ∧ Mit.stays q s
  | [], q, s, h => ⟨trivial, h⟩
  | (n, l) :: r, q, s, h => by
    obtain ⟨h1, h2⟩ := h
    obtain ⟨h3, h4⟩ := stays_app h2
    exact ⟨⟨h1, h3⟩, h4⟩
theorem zipQ_ok {K : PySem.W.Frag} {ρ : List Addr} {H : Hp} {s : Mst} (R : Rel K κ ρ H s) {d : Dv} {v : V} (h : VR K κ ρ H d v) {c : Bool} {l : List Dv} {r : List (Nat × List Dv)} (e : zipQ d s = some (c, l, r)) :
    ∃ t, v = .ref t ∧ ∀ ρ1 H1 s1, Kp ρ H ρ1 H1 → Rel K κ ρ1 H1 s1 → Mit.stays r s1 → ∃ vs, (if c then SqT K H1 t vs else SqL K H1 t vs) ∧ VRs K κ ρ1 H1 l vs := by
  unfold zipQ at e
  cases d with
  | tup m =>
    cases e
    obtain ⟨t, vs, rfl, e2, e3⟩ := h.tupE
    exact ⟨t, rfl, fun ρ1 H1 s1 kp R1 st => ⟨vs, SqT.kp kp e2, VRs.kp kp _ _ e3⟩⟩
  | clst m =>
    cases e
    obtain ⟨t, vs, rfl, e2, e3⟩ := h.clstE
    exact ⟨t, rfl, fun ρ1 H1 s1 kp R1 st => ⟨vs, SqI.list (SqI.kp kp e2), VRs.kp kp _ _ e3⟩⟩
  | loc n =>
    simp only at e
    cases q : s[n]? with
    | none => rw [q] at e; cases e
    | some o =>
      rw [q] at e
      cases o with
      | lst m =>
        cases e
        obtain ⟨t, t0, rfl, _⟩ := R.loc h q
        exact ⟨t, rfl, fun ρ1 H1 s1 kp R1 st => by
          obtain ⟨vs, e1, e2⟩ := R1.obj n t _ (kp.ix n t t0) st.1
          exact ⟨vs, .of e1, e2⟩⟩
      | _ => cases e
  | _ => cases e
theorem it_zip {ρ : List Addr} {H : Hp} {t u : Addr} {l m : List Dv} {r q : List (Nat × List Dv)} (h1 : ∀ ρ1 H1 s1, Kp ρ H ρ1 H1 → Rel X.K κ ρ1 H1 s1 → Mit.stays r s1 → ∃ vs, SqL X.K H1 t vs ∧ VRs X.K κ ρ1 H1 l vs)
    (h2 : ∀ ρ1 H1 s1, Kp ρ H ρ1 H1 → Rel X.K κ ρ1 H1 s1 → Mit.stays q s1 → ∃ vs, SqL X.K H1 u vs ∧ VRs X.K κ ρ1 H1 m vs) : ItOk X.K κ ρ H ⟨List.zipWith (fun x y => .tup [x, y]) l m, r ++ q⟩ (Itz X.K t u) := fun ρ1 H1 s1 kp R st => by
  obtain ⟨st1, st2⟩ := stays_app st
  obtain ⟨vs, a1, a2⟩ := h1 ρ1 H1 s1 kp R st1
  obtain ⟨us, b1, b2⟩ := h2 ρ1 H1 s1 kp R st2
  refine ⟨fun i z e => ?_, fun i hi => ⟨vs, us, a1, b1, ?_⟩⟩
  · obtain ⟨x, y, e1, e2, rfl⟩ := zipWith_get e
    obtain ⟨vx, f1, f2⟩ := a2.get e1
    obtain ⟨vy, g1, g2⟩ := b2.get e2
    refine ⟨⟨vs, us, vx, vy, a1, b1, f1, g1⟩, fun v H' w => ?_⟩
    obtain ⟨T, x', y', rfl, nT, rfl, w1, w2⟩ := w
    have ex := w1 vs a1
    have ey := w2 us b1
    rw [f1] at ex; cases ex
    rw [g1] at ey; cases ey
    refine ⟨Step.lay nT, R.lay nT, ?_⟩
    simp only [VR]
    exact ⟨T, [vx, vy], rfl, .inl (.inl upd_same), .cons (VR.later R (Step.lay nT) _ _ f2) (.cons (VR.later R (Step.lay nT) _ _ g2) .nil)⟩
  · rw [a2.length, b2.length]
    simp only [List.length_zipWith] at hi
    omega
theorem it_zipT {ρ : List Addr} {H : Hp} {t u : Addr} {l m : List Dv} {r q : List (Nat × List Dv)} (h1 : ∀ ρ1 H1 s1, Kp ρ H ρ1 H1 → Rel X.K κ ρ1 H1 s1 → Mit.stays r s1 → ∃ vs, SqT X.K H1 t vs ∧ VRs X.K κ ρ1 H1 l vs)
    (h2 : ∀ ρ1 H1 s1, Kp ρ H ρ1 H1 → Rel X.K κ ρ1 H1 s1 → Mit.stays q s1 → ∃ vs, SqT X.K H1 u vs ∧ VRs X.K κ ρ1 H1 m vs) : ItOk X.K κ ρ H ⟨List.zipWith (fun x y => .tup [x, y]) l m, r ++ q⟩ (RZ.ItzT X.K t u) := fun ρ1 H1 s1 kp R st => by
  obtain ⟨st1, st2⟩ := stays_app st
  obtain ⟨vs, a1, a2⟩ := h1 ρ1 H1 s1 kp R st1
  obtain ⟨us, b1, b2⟩ := h2 ρ1 H1 s1 kp R st2
  refine ⟨fun i z e => ?_, fun i hi => ⟨vs, us, a1, b1, ?_⟩⟩
  · obtain ⟨x, y, e1, e2, rfl⟩ := zipWith_get e
    obtain ⟨vx, f1, f2⟩ := a2.get e1
    obtain ⟨vy, g1, g2⟩ := b2.get e2
    refine ⟨⟨vs, us, vx, vy, a1, b1, f1, g1⟩, fun v H' w => ?_⟩
    obtain ⟨T, x', y', rfl, nT, rfl, w1, w2⟩ := w
    have ex := w1 vs a1
    have ey := w2 us b1
    rw [f1] at ex; cases ex
    rw [g1] at ey; cases ey
    refine ⟨Step.lay nT, R.lay nT, ?_⟩
    simp only [VR]
    exact ⟨T, [vx, vy], rfl, .inl (.inl upd_same), .cons (VR.later R (Step.lay nT) _ _ f2) (.cons (VR.later R (Step.lay nT) _ _ g2) .nil)⟩
  · rw [a2.length, b2.length]
    simp only [List.length_zipWith] at hi
    omega
theorem li_zip (hg : Gl X "zip") (hm : X.mg "zip" = none) (ha : LE X κ W a ma) (hb : LE X κ W b mb) (hs : starEach [a, b] X.env = (false, eval a X.env) :: starEach [b] X.env := by rfl) (hs2 : starEach [b] X.env = (false, eval b X.env) :: starEach [] X.env := by rfl)
    (hpl : (backTo pos (starEach [b] X.env)).any (·.1) = false := by rfl) : LI X κ W (.Tuple elts kk tpos) (.Call (.Name "zip" p) [a, b] [] pos) (miZip ma mb) :=
  PI.by (RZ.pi_zipA hg hm (pa_cons ha (pa_cons hb pa_nil hs2) hs) hs hpl) fun σ H Q ⟨ρ, σd, s, R, hE, h⟩ => ⟨ρ, σd, s, R, hE, (Fin.bind h).mono fun d ρ1 s1 H1 x1 R1 q v hv => ⟨ρ1, σd, s1, R1, hE.later R x1, (Fin.bind q).mono fun e ρ2 s2 H2 x2 R2 q2 u hu => by
    have hv2 := VR.later R1 x2 _ _ hv
    cases e1 : zipQ d s2 with
    | none => rw [e1] at q2; exact q2.elim
    | some z1 =>
      cases e2 : zipQ e s2 with
      | none => rw [e1, e2] at q2; exact q2.elim
      | some z2 =>
        obtain ⟨c1, l1, r1⟩ := z1
        obtain ⟨c2, l2, r2⟩ := z2
        rw [e1, e2] at q2
        simp only at q2
        by_cases hc : c1 = c2
        · rw [if_pos hc] at q2
          subst hc
          obtain ⟨t, rfl, f⟩ := zipQ_ok R2 hv2 e1
          obtain ⟨t', rfl, g⟩ := zipQ_ok R2 hu e2
          have fin := q2 ρ2 H2 Step.refl R2
          cases c1 with
          | true =>
            obtain ⟨vs, i1, _⟩ : ∃ vs, SqT X.K H2 t vs ∧ VRs X.K κ ρ2 H2 l1 vs := by
              unfold zipQ at e1
              cases d with
              | tup m =>
                cases e1
                simp only [VR] at hv2
                obtain ⟨t0, vs, e0, i2, i3⟩ := hv2
                cases e0
                exact ⟨vs, i2, i3⟩
              | loc n =>
                simp only at e1
                split at e1 <;> cases e1
              | _ => cases e1
            obtain ⟨us, j1, _⟩ : ∃ vs, SqT X.K H2 t' vs ∧ VRs X.K κ ρ2 H2 l2 vs := by
              unfold zipQ at e2
              cases e with
              | tup m =>
                cases e2
                simp only [VR] at hu
                obtain ⟨t0, vs, e0, i2, i3⟩ := hu
                cases e0
                exact ⟨vs, i2, i3⟩
              | loc n =>
                simp only at e2
                split at e2 <;> cases e2
              | _ => cases e2
            exact ⟨t, t', vs, us, rfl, .inr ⟨i1, j1, fin _ (it_zipT (fun ρ1 H1 s1 kp R st => f ρ1 H1 s1 kp R st) (fun ρ1 H1 s1 kp R st => g ρ1 H1 s1 kp R st))⟩⟩
          | false =>
            have st1 : Mit.stays r1 s2 := by
              unfold zipQ at e1
              cases d with
              | loc n =>
                simp only at e1
                split at e1
                · rename_i l q; cases e1; exact ⟨q, trivial⟩
                · cases e1
              | clst m => cases e1; trivial
              | _ => cases e1
            have st2 : Mit.stays r2 s2 := by
              unfold zipQ at e2
              cases e with
              | loc n =>
                simp only at e2
                split at e2
                · rename_i l q; cases e2; exact ⟨q, trivial⟩
                · cases e2
              | clst m => cases e2; trivial
              | _ => cases e2
            obtain ⟨vs, i1, _⟩ := f ρ2 H2 s2 Kp.refl R2 st1
            obtain ⟨us, j1, _⟩ := g ρ2 H2 s2 Kp.refl R2 st2
            exact ⟨t, t', vs, us, rfl, .inl ⟨i1, j1, fin _ (it_zip (fun ρ1 H1 s1 kp R st => f ρ1 H1 s1 kp R st) (fun ρ1 H1 s1 kp R st => g ρ1 H1 s1 kp R st))⟩⟩
        · rw [if_neg hc] at q2; exact q2.elim⟩⟩
theorem rgV_ok {K : PySem.W.Frag} {ρ : List Addr} {H : Hp} (i j : Int) : VRs K κ ρ H (rngI i (j - i).toNat) (rgV i j) := by
  unfold rngI rgV
  generalize List.range (j - i).toNat = l
  induction l with
  | nil => exact .nil
  | cons n r ih => exact .cons (by simp only [VR]) ih
theorem le_listRg {p2 pos2 : Pos} (hc : X.calm = true) (hg : Gl X "list") (hm : X.mg "list" = none) (hg2 : Gl X "range") (hm2 : X.mg "range" = none) (ha : LE X κ W a ma) (hb : LE X κ W b mb)
    (na : starEach [a, b] X.env = (false, eval a X.env) :: starEach [b] X.env := by rfl) (nb : starEach [b] X.env = (false, eval b X.env) :: starEach [] X.env := by rfl)
    (np : (backTo pos2 (starEach [b] X.env)).any (·.1) = false := by rfl) (nc : starEach [.Call (.Name "range" p2) [a, b] [] pos2] X.env = (false, eval (.Call (.Name "range" p2) [a, b] [] pos2) X.env) :: starEach [] X.env := by rfl) :
    LE X κ W (.Call (.Name "list" p) [.Call (.Name "range" p2) [a, b] [] pos2] [] pos) (bListRg ma mb) :=
  PE.by (pe_listRg hc hg hm (prg_2 hg2 hm2 ha hb na nb np) nc) fun σ H Q ⟨ρ, σd, s, R, hE, h⟩ => ⟨ρ, σd, s, R, hE, (Fin.bind h).mono fun d ρ1 s1 H1 x1 R1 q v hv => ⟨ρ1, σd, s1, R1, hE.later R x1, (Fin.bind q).mono fun e ρ2 s2 H2 x2 R2 q2 u hu => by
    cases d with
    | int i =>
      cases e with
      | int j =>
        simp only at q2
        by_cases hq : -(2 ^ 62) ≤ i ∧ i < 2 ^ 62 ∧ -(2 ^ 62) ≤ j ∧ j < 2 ^ 62 ∧ (j - i).toNat ≤ 2 ^ 24
        · rw [if_pos hq] at q2
          exact ⟨i, j, hv.int, hu.int, hq, fun p np => EndV.newL q2 R2 np (rgV_ok i j)⟩
        · rw [if_neg hq] at q2; exact q2.elim
      | _ => exact q2.elim
    | _ => cases e <;> exact q2.elim⟩⟩
theorem le_listRg1 {p2 pos2 : Pos} (hc : X.calm = true) (hg : Gl X "list") (hm : X.mg "list" = none) (hg2 : Gl X "range") (hm2 : X.mg "range" = none) (hb : LE X κ W b mb)
    (nb : starEach [b] X.env = (false, eval b X.env) :: starEach [] X.env := by rfl)
    (nc : starEach [.Call (.Name "range" p2) [b] [] pos2] X.env = (false, eval (.Call (.Name "range" p2) [b] [] pos2) X.env) :: starEach [] X.env := by rfl) :
    LE X κ W (.Call (.Name "list" p) [.Call (.Name "range" p2) [b] [] pos2] [] pos) (bListRg (mC (.int 0)) mb) :=
  PE.by (pe_listRg hc hg hm (prg_1 hg2 hm2 hb nb) nc) fun σ H Q ⟨ρ, σd, s, R, hE, h⟩ => ⟨ρ, σd, s, R, hE, (Fin.bind (r := mb σd s) h).mono fun e ρ2 s2 H2 x2 R2 q2 u hu => by
    cases e with
    | int j =>
      simp only at q2
      by_cases hq : -(2 ^ 62) ≤ (0 : Int) ∧ (0 : Int) < 2 ^ 62 ∧ -(2 ^ 62) ≤ j ∧ j < 2 ^ 62 ∧ (j - 0).toNat ≤ 2 ^ 24
      · rw [if_pos hq] at q2
        exact ⟨j, hu.int, hq, fun p np => EndV.newL q2 R2 np (rgV_ok 0 j)⟩
      · rw [if_neg hq] at q2; exact q2.elim
    | _ => exact q2.elim⟩
end
end Mid
/-! Mid10: a def of the text by its name; the law's end. -/
namespace Mid
open PySem PySem.Spec L2 Classical
theorem hu65 {A : Around} {k : Nat} (hr : Room k A) : A.units + 65 < cLine := by have := hr.un; omega
section
variable {P : Program} {w : World} {K : PySem.W.Frag} {mg : Str → Option Value} {base : Heap} {κ : Nat → Addr}
/-- the def called x does what F does -/
def Cal (P : Program) (w : World) (K : PySem.W.Frag) (mg : Str → Option Value) (base : Heap) (κ : Nat → Addr) (k : Nat) (x : Str) (n : Nat) (F : MF) : Prop :=
  ∃ (f : Addr) (fd : FuncData) (ps : List Str), FnOk P w K mg base CX0 k f fd ps (spF0 K κ n F) ∧ mg x = some (.ref f) ∧ PySem.W.keepIn K (.ref f) = true ∧ Binds K fd ps []
theorem fn_bad {k n : Nat} {f : Addr} {fd : FuncData} {ps : List Str} : FnOk P w K mg base CX0 k f fd ps (spF0 K κ n fun _ _ => .bad) :=
  ⟨fun vs H Q E ⟨_, ρ, ds, s, _, _, h⟩ => h.elim, fun A outer s H args us vs Q E _ _ _ _ ⟨_, ρ, ds, s', _, _, h⟩ => h.elim⟩
theorem Cal.mono {j k n : Nat} {x : Str} {F : MF} (c : Cal P w K mg base κ j x n F) (h : j ≤ k) : Cal P w K mg base κ k x n F := by
  obtain ⟨f, fd, ps, a, b, c, d⟩ := c
  exact ⟨f, fd, ps, a.mono h, b, c, d⟩
end
theorem le_calC {X : Cx} {κ : Nat → Addr} {W : WX} {k n : Nat} {x : Str} {F : MF} {e : Expr} {es : List Expr} {ms : List ME} {p pos : Pos} (c : Cal X.prog X.w X.K X.mg X.base κ k x n F) (hr : Room k X.A) (hg : Gl X x) (ha : LA X κ W (e :: es) ms) (hn : ms.length = n := by rfl)
    (hdb : (x == ("__debug__" : Str)) = false := by decide) (he : starEach (e :: es) X.env = (false, eval e X.env) :: starEach es X.env := by rfl) (hpl : (backTo pos (starEach es X.env)).any (·.1) = false := by rfl) : LE X κ W (.Call (.Name x p) (e :: es) [] pos) (mCall (noE F) ms) := by
  obtain ⟨f, fd, ps, G, hm, hk, hb⟩ := c
  exact le_call0 G hr hg hm hk hb ha hn hdb he hpl
/-- the law's end: where the plain model tells True of every script -/
theorem law_end {K : PySem.W.Frag} {κ : Nat → Addr} {F : MF} {H : Hp} {a : Addr} {ns : List Int} (hO : Only H) (hS : SqL K H a (ns.map V.int)) (h : ∃ s, F [.clst (ns.map Dv.int)] [] = .ok (.bl true) s) :
    spF0 K κ 1 F [.ref a] H (fun v _ => v = .bl true) fun _ _ _ => False := by
  obtain ⟨s, h⟩ := h
  have hI : SqI K H a (ns.map V.int) := by
    rcases hS with (hS | ⟨o, hS⟩) | hS
    · rcases hO a with q | ⟨o, xs, q⟩
      · rw [q] at hS; cases hS
      · rw [q] at hS; cases hS
    · exact .inl ⟨o, hS⟩
    · exact .inr hS
  refine ⟨rfl, [], [.clst (ns.map Dv.int)], [], ⟨rfl, List.nodup_nil, fun n a o e _ => by simp at e⟩, .cons (by simp only [VR]; exact ⟨a, _, rfl, hI, VRs.ints ns⟩) .nil, ?_⟩
  rw [h]
  exact fun ρ' H' x R v hv => hv.bl
end Mid
/-! MidW: what holds behind a piece of the plain model. -/
namespace Mid
open PySem Classical
noncomputable section
def Rm.to {α : Type} (r : Rm α) (Q : α → Mst → Prop) : Prop := match r with
  | .ok a s => Q a s
  | _ => False
def Sm.to (r : Sm) (N : Men → Mst → Prop) (R : Dv → Mst → Prop) (C B : Men → Mst → Prop) : Prop := match r with
  | .nx σ s => N σ s
  | .rt d s => R d s
  | .ct σ s => C σ s
  | .bk σ s => B σ s
  | _ => False
def Dv.toB (d : Dv) (Q : Bool → Prop) : Prop := match d with
  | .bl c => Q c
  | _ => False
def Dv.toI (d : Dv) (Q : Int → Prop) : Prop := match d with
  | .int c => Q c
  | _ => False
def Dv.toS (d : Dv) (Q : Str → Prop) : Prop := match d with
  | .str c => Q c
  | _ => False
@[simp] theorem toB_bl (c : Bool) (Q : Bool → Prop) : (Dv.bl c).toB Q = Q c := id rfl
@[simp] theorem toI_int (c : Int) (Q : Int → Prop) : (Dv.int c).toI Q = Q c := id rfl
@[simp] theorem toS_str (c : Str) (Q : Str → Prop) : (Dv.str c).toS Q = Q c := id rfl
section
variable {α β : Type} {Q Q' : α → Mst → Prop} {N N' : Men → Mst → Prop} {R R' : Dv → Mst → Prop} {C B C' B' : Men → Mst → Prop} {σ : Men} {s : Mst}
@[simp] theorem to_ok (a : α) : (Rm.ok a s).to Q = Q a s := id rfl
@[simp] theorem to_bad : (Rm.bad : Rm α).to Q = False := id rfl
theorem to_bind (r : Rm α) (f : α → Mst → Rm β) (Q : β → Mst → Prop) : (r.bind f).to Q = r.to fun a s => (f a s).to Q := by cases r <;> rfl
@[simp] theorem to_noEr (r : Rm α) : r.noEr.to Q = r.to Q := by cases r <;> rfl
theorem to_mono {r : Rm α} (h : r.to Q) (f : ∀ a s, Q a s → Q' a s) : r.to Q' := by
  cases r with
  | ok a s => exact f a s h
  | er e s => exact h
  | bad => exact h
theorem to_ex {r : Rm α} (h : r.to Q) : ∃ a s, r = .ok a s ∧ Q a s := by
  cases r with
  | ok a s => exact ⟨a, s, rfl, h⟩
  | er e s => exact h.elim
  | bad => exact h.elim
theorem sto_mono {r : Sm} (h : r.to N R C B) (f : ∀ a s, N a s → N' a s) (g : ∀ a s, R a s → R' a s) (hc : ∀ a s, C a s → C' a s) (hb : ∀ a s, B a s → B' a s) : r.to N' R' C' B' := by
  cases r with
  | nx a s => exact f a s h
  | rt a s => exact g a s h
  | ct a s => exact hc a s h
  | bk a s => exact hb a s h
  | er e a s => exact h
  | bad => exact h
@[simp] theorem to_nx : (Sm.nx σ s).to N R C B = N σ s := id rfl
@[simp] theorem to_rt (d : Dv) : (Sm.rt d s).to N R C B = R d s := id rfl
theorem to_st (r : Rm α) (f : α → Mst → Sm) : (r.st σ f).to N R C B = r.to fun a s => (f a s).to N R C B := by cases r <;> rfl
theorem to_andThen (r : Sm) (f : MS) : (r.andThen f).to N R C B = r.to (fun σ s => (f σ s).to N R C B) R C B := by cases r <;> rfl
theorem to_turn (r : Sm) (f : MS) : (r.turn f).to N R C B = r.to (fun σ s => (f σ s).to N R C B) R (fun σ s => (f σ s).to N R C B) N := by cases r <;> rfl
/-! statements -/
@[simp] theorem w_seq (a b : MS) : (msSeq a b σ s).to N R C B = (a σ s).to (fun σ s => (b σ s).to N R C B) R C B := to_andThen _ _
@[simp] theorem w_nx : (msNx σ s).to N R C B = N σ s := id rfl
@[simp] theorem w_brk : (msBrk σ s).to N R C B = B σ s := id rfl
@[simp] theorem w_cnt : (msCnt σ s).to N R C B = C σ s := id rfl
@[simp] theorem w_set (i : Nat) (e : ME) : (msSet i e σ s).to N R C B = (e σ s).to fun d s => N (σ.set i (some d)) s := to_st _ _
@[simp] theorem w_asg (g : MG) (e : ME) : (msAsg g e σ s).to N R C B = (e σ s).to fun d s => (g d σ s).to fun σ' s => N σ' s := by
  unfold msAsg; rw [to_st]; congr; funext d s'; rw [to_st]; rfl
@[simp] theorem w_exp (e : ME) : (msExp e σ s).to N R C B = (e σ s).to fun _ s => N σ s := to_st _ _
@[simp] theorem w_ret (e : ME) : (msRet e σ s).to N R C B = (e σ s).to R := to_st _ _
@[simp] theorem w_retN : (msRetN σ s).to N R C B = R .non s := id rfl
@[simp] theorem w_if (t : MT) (a b : MS) : (msIf t a b σ s).to N R C B = (t σ s).to fun c s => if c = true then (a σ s).to N R C B else (b σ s).to N R C B := by
  unfold msIf; rw [to_st]; congr; funext c s'; cases c <;> rfl
@[simp] theorem w_put (f : Dv → Dv → Dv → Mst → Rm Unit) (o i e : ME) : (msPut f o i e σ s).to N R C B = (e σ s).to fun v s => (o σ s).to fun x s => (i σ s).to fun y s => (f x y v s).to fun _ s => N σ s := by
  unfold msPut; rw [to_st]; congr; funext v s1; rw [to_st]; congr; funext x s2; rw [to_st]; congr; funext y s3; rw [to_st]; rfl
@[simp] theorem w_for (it : MI) (g : MG) (b : MS) : (msFor it g b σ s).to N R C B = (it σ s).to fun i s => (forF i.src g b i.xs σ s).to N R C B := to_st _ _
/-! expressions -/
theorem mVar_eq {i : Nat} {d : Dv} (h : σ[i]? = some (some d)) : mVar i σ s = .ok d s := by unfold mVar; rw [h]
@[simp] theorem v0 (d : Dv) (r : Men) : mVar 0 (some d :: r) s = .ok d s := id rfl
@[simp] theorem vS (o : Option Dv) (i : Nat) (r : Men) : mVar (i + 1) (o :: r) s = mVar i r s := id rfl
@[simp] theorem mC_eq (d : Dv) : mC d σ s = .ok d s := id rfl
section
variable {Q : Dv → Mst → Prop}
@[simp] theorem w_op (f : Dv → Dv → Mst → Rm Dv) (a b : ME) : (mOp f a b σ s).to Q = (a σ s).to fun x s => (b σ s).to fun y s => (f x y s).to Q := by
  unfold mOp; rw [to_bind]; congr; funext x s1; rw [to_bind]
@[simp] theorem w_un (f : Dv → Mst → Rm Dv) (a : ME) : (mUn f a σ s).to Q = (a σ s).to fun x s => (f x s).to Q := to_bind _ _ _
@[simp] theorem w_tup (ms : List ME) : (mTup ms σ s).to Q = (mArgs ms σ s).to fun ds s => Q (.tup ds) s := to_bind _ _ _
@[simp] theorem w_lst (ms : List ME) : (mLst ms σ s).to Q = (mArgs ms σ s).to fun ds s => Q (.loc s.length) (s ++ [.lst ds]) := to_bind _ _ _
@[simp] theorem w_call (F : MF) (ms : List ME) : (mCall F ms σ s).to Q = (mArgs ms σ s).to fun ds s => (F ds s).to Q := to_bind _ _ _
@[simp] theorem w_noE (F : MF) (ds : List Dv) : (noE F ds s).to Q = (F ds s).to Q := to_noEr _
@[simp] theorem w_meth (T : String) (F : MF) (m : ME) (ms : List ME) : (mMeth T F m ms σ s).to Q = (m σ s).to fun d s => tyQ d s = T ∧ (mArgs ms σ s).to fun ds s => (F (d :: ds) s).to Q := by
  unfold mMeth; rw [to_bind]; congr; funext x s1
  by_cases h : tyQ x s1 = T
  · rw [if_pos h, to_bind]; simp [h]
  · rw [if_neg h]; simp [h]
@[simp] theorem w_and (a b : ME) : (mAnd a b σ s).to Q = (a σ s).to fun d s => d.toB fun c => if c = true then (b σ s).to Q else Q (.bl false) s := by
  unfold mAnd mtVal; rw [to_bind, to_bind]; congr; funext d s1
  cases d with
  | bl c => cases c <;> rfl
  | _ => rfl
@[simp] theorem w_or (a b : ME) : (mOr a b σ s).to Q = (a σ s).to fun d s => d.toB fun c => if c = true then Q (.bl true) s else (b σ s).to Q := by
  unfold mOr mtVal; rw [to_bind, to_bind]; congr; funext d s1
  cases d with
  | bl c => cases c <;> rfl
  | _ => rfl
@[simp] theorem w_not (a : ME) : (mNot a σ s).to Q = (a σ s).to fun d s => d.toB fun c => Q (.bl (!c)) s := by
  unfold mNot mtVal; rw [to_bind, to_bind]; congr; funext d s1
  cases d <;> rfl
@[simp] theorem w_ife (t : MT) (a b : ME) : (mIf t a b σ s).to Q = (t σ s).to fun c s => if c = true then (a σ s).to Q else (b σ s).to Q := by
  unfold mIf; rw [to_bind]; congr; funext c s1; cases c <;> rfl
@[simp] theorem w_lc (it : MI) (g : MG) (t : MT) (e : ME) (vs : List Nat) : (mLc it g t e vs σ s).to Q = (it σ s).to fun i s => (lcF i.src g t e (mWipe σ vs) i.xs s).to fun ds s => i.xs.length < 2 ^ 24 ∧ Q (.loc s.length) (s ++ [.lst ds]) := by
  unfold mLc; rw [to_bind]; congr; funext i s1; rw [to_bind, to_noEr]; congr; funext ds s2
  by_cases h : i.xs.length < 2 ^ 24
  · rw [if_pos h]; simp [h]
  · rw [if_neg h]; simp [h]
@[simp] theorem w_slice (m : ME) (lo hi : MO') : (mSlice m lo hi σ s).to Q = (m σ s).to fun x s => (lo σ s).to fun l s => (hi σ s).to fun h s => (slQ x l h s).to Q := by
  unfold mSlice; rw [to_bind]; congr; funext x s1; rw [to_bind]; congr; funext l s2; rw [to_bind]
@[simp] theorem w_disp (ps : List (ME × ME)) : (mDisp ps σ s).to Q = (mPairs ps σ s).to fun l s => ∃ kvs, dispQ l = some kvs ∧ Q (.loc s.length) (s ++ [.dK (kputs [] kvs)]) := by
  unfold mDisp; rw [to_bind]; congr; funext l s1
  cases dispQ l with
  | none => simp
  | some kvs => simp [mNew]
@[simp] theorem w_listRg (a b : ME) : (bListRg a b σ s).to Q = (a σ s).to fun x s => (b σ s).to fun y s => x.toI fun i => y.toI fun j => (-(2 ^ 62) ≤ i ∧ i < 2 ^ 62 ∧ -(2 ^ 62) ≤ j ∧ j < 2 ^ 62 ∧ (j - i).toNat ≤ 2 ^ 24) ∧ Q (.loc s.length) (s ++ [.lst (rngI i (j - i).toNat)]) := by
  unfold bListRg; rw [to_bind]; congr; funext x s1; rw [to_bind]; congr; funext y s2
  cases x with
  | int i =>
    cases y with
    | int j =>
      simp only [toI_int]
      by_cases h : -(2 ^ 62) ≤ i ∧ i < 2 ^ 62 ∧ -(2 ^ 62) ≤ j ∧ j < 2 ^ 62 ∧ (j - i).toNat ≤ 2 ^ 24
      · rw [if_pos h]; simp only [h, true_and, and_self]; rfl
      · rw [if_neg h]; simp only [to_bad, false_iff, eq_iff_iff]; exact fun z => h z.1
    | _ => rfl
  | _ => rfl
@[simp] theorem w_ofO (o : Option α) (Q : α → Mst → Prop) : (ofO o s).to Q = ∃ d, o = some d ∧ Q d s := by
  cases o <;> simp
@[simp] theorem w_new (o : MO) : (mNew o s).to Q = Q (.loc s.length) (s ++ [o]) := id rfl
end
@[simp] theorem w_args0 {Q : List Dv → Mst → Prop} : (mArgs [] σ s).to Q = Q [] s := id rfl
@[simp] theorem w_argsS {Q : List Dv → Mst → Prop} (m : ME) (ms : List ME) : (mArgs (m :: ms) σ s).to Q = (m σ s).to fun d s => (mArgs ms σ s).to fun ds s => Q (d :: ds) s := by
  show ((m σ s).bind fun d s1 => (mArgs ms σ s1).bind fun ds s2 => .ok (d :: ds) s2).to Q = _
  rw [to_bind]; congr; funext d s1; rw [to_bind]; rfl
@[simp] theorem w_pairs0 {Q : List (Dv × Dv) → Mst → Prop} : (mPairs [] σ s).to Q = Q [] s := id rfl
@[simp] theorem w_pairsS {Q : List (Dv × Dv) → Mst → Prop} (k v : ME) (r : List (ME × ME)) : (mPairs ((k, v) :: r) σ s).to Q = (k σ s).to fun a s => (v σ s).to fun b s => (mPairs r σ s).to fun l s => Q ((a, b) :: l) s := by
  show ((k σ s).bind fun a s1 => (v σ s1).bind fun b s2 => (mPairs r σ s2).bind fun l s3 => .ok ((a, b) :: l) s3).to Q = _
  rw [to_bind]; congr; funext d s1; rw [to_bind]; congr; funext b s2; rw [to_bind]; rfl
@[simp] theorem w_poN {Q : Option Int → Mst → Prop} : (poN σ s).to Q = Q none s := id rfl
@[simp] theorem w_poS {Q : Option Int → Mst → Prop} (m : ME) : (poS m σ s).to Q = (m σ s).to fun d s => d.toI fun i => Q (some i) s := by
  unfold poS; rw [to_bind]; congr; funext d s1; cases d <;> rfl
/-! tests -/
section
variable {Q : Bool → Mst → Prop}
@[simp] theorem w_tval (m : ME) : (mtVal m σ s).to Q = (m σ s).to fun d s => d.toB fun c => Q c s := by
  unfold mtVal; rw [to_bind]; congr; funext d s1; cases d <;> rfl
@[simp] theorem w_tand (a b : MT) : (mtAnd a b σ s).to Q = (a σ s).to fun c s => if c = true then (b σ s).to Q else Q false s := by
  unfold mtAnd; rw [to_bind]; congr; funext c s1; cases c <;> rfl
@[simp] theorem w_tor (a b : MT) : (mtOr a b σ s).to Q = (a σ s).to fun c s => if c = true then Q true s else (b σ s).to Q := by
  unfold mtOr; rw [to_bind]; congr; funext c s1; cases c <;> rfl
@[simp] theorem w_tnot (a : MT) : (mtNot a σ s).to Q = (a σ s).to fun c s => Q (!c) s := to_bind _ _ _
@[simp] theorem w_tyes : (mtYes σ s).to Q = Q true s := id rfl
end
/-! what is walked; targets -/
section
variable {Q : Mit → Mst → Prop}
@[simp] theorem w_iseq (m : ME) : (miSeq m σ s).to Q = (m σ s).to fun d s => (itSeq d s).to Q := to_bind _ _ _
@[simp] theorem w_irng1 (m : ME) : (miRng1 m σ s).to Q = (m σ s).to fun d s => d.toI fun j => (-(2 ^ 62) ≤ j ∧ j < 2 ^ 62) ∧ Q ⟨rngI 0 j.toNat, []⟩ s := by
  unfold miRng1; rw [to_bind]; congr; funext d s1
  cases d with
  | int j =>
    simp only [toI_int]
    by_cases h : -(2 ^ 62) ≤ j ∧ j < 2 ^ 62
    · rw [if_pos h]; simp only [h, true_and, and_self, to_ok]
    · rw [if_neg h]; simp only [to_bad, false_iff, eq_iff_iff]; exact fun z => h z.1
  | _ => rfl
@[simp] theorem w_irng2 (m1 m2 : ME) : (miRng2 m1 m2 σ s).to Q = (m1 σ s).to fun d s => (m2 σ s).to fun e s => d.toI fun i => e.toI fun j => (-(2 ^ 62) ≤ i ∧ i < 2 ^ 62 ∧ -(2 ^ 62) ≤ j ∧ j < 2 ^ 62) ∧ Q ⟨rngI i (j - i).toNat, []⟩ s := by
  unfold miRng2; rw [to_bind]; congr; funext d s1; rw [to_bind]; congr; funext e s2
  cases d with
  | int i =>
    cases e with
    | int j =>
      simp only [toI_int]
      by_cases h : -(2 ^ 62) ≤ i ∧ i < 2 ^ 62 ∧ -(2 ^ 62) ≤ j ∧ j < 2 ^ 62
      · rw [if_pos h]; simp only [h, true_and, and_self, to_ok]
      · rw [if_neg h]; simp only [to_bad, false_iff, eq_iff_iff]; exact fun z => h z.1
    | _ => rfl
  | _ => rfl
@[simp] theorem w_izip (m1 m2 : ME) : (miZip m1 m2 σ s).to Q = (m1 σ s).to fun d s => (m2 σ s).to fun e s => ∃ b l r m q, zipQ d s = some (b, l, r) ∧ zipQ e s = some (b, m, q) ∧ Q ⟨List.zipWith (fun x y => .tup [x, y]) l m, r ++ q⟩ s := by
  unfold miZip; rw [to_bind]; congr; funext d s1; rw [to_bind]; congr; funext e s2
  cases zipQ d s2 with
  | none => simp
  | some x =>
    cases zipQ e s2 with
    | none => simp
    | some y =>
      obtain ⟨b, l, r⟩ := x
      obtain ⟨c, m, q⟩ := y
      simp only
      by_cases h : b = c
      · subst h
        rw [if_pos rfl, to_ok, eq_iff_iff]
        exact ⟨fun z => ⟨b, l, r, m, q, rfl, rfl, z⟩, fun ⟨b', l', r', m', q', e1, e2, z⟩ => by cases e1; cases e2; exact z⟩
      · rw [if_neg h, to_bad, eq_iff_iff]
        exact ⟨fun z => z.elim, fun ⟨b', l', r', m', q', e1, e2, z⟩ => h (by cases e1; cases e2; rfl)⟩
@[simp] theorem w_ienum (m : ME) : (miEnum m σ s).to Q = (m σ s).to fun d s => ∃ l r, zipQ d s = some (false, l, r) ∧ Q ⟨(l.zipIdx).map fun p => .tup [.int p.2, p.1], r⟩ s := by
  unfold miEnum; rw [to_bind]; congr; funext d s1
  cases zipQ d s1 with
  | none => simp
  | some x =>
    obtain ⟨b, l, r⟩ := x
    cases b with
    | true => simp
    | false =>
      rw [eq_iff_iff]
      exact ⟨fun z => ⟨l, r, rfl, z⟩, fun ⟨l', r', e, z⟩ => by cases e; exact z⟩
end
@[simp] theorem w_gN {Q : Men → Mst → Prop} (i : Nat) (d : Dv) : (gN i d σ s).to Q = Q (σ.set i (some d)) s := id rfl
@[simp] theorem w_gT {Q : Men → Mst → Prop} (gs : List MG) (l : List Dv) : (gT gs (.tup l) σ s).to Q = (l.length = gs.length ∧ (gEach gs l σ s).to Q) := by
  unfold gT
  simp only
  by_cases h : l.length = gs.length
  · rw [if_pos h, to_noEr]; simp [h]
  · rw [if_neg h]; simp [h]
@[simp] theorem w_gE0 {Q : Men → Mst → Prop} : (gEach [] [] σ s).to Q = Q σ s := id rfl
@[simp] theorem w_gES {Q : Men → Mst → Prop} (g : MG) (gs : List MG) (d : Dv) (ds : List Dv) : (gEach (g :: gs) (d :: ds) σ s).to Q = (g d σ s).to fun σ s => (gEach gs ds σ s).to Q := to_bind _ _ _
@[simp] theorem wipe0 : mWipe σ [] = σ := id rfl
@[simp] theorem wipeS (i : Nat) (r : List Nat) : mWipe σ (i :: r) = (mWipe σ r).set i none := id rfl
/-! a def -/
theorem w_fun {k n : Nat} {b : MS} {ds : List Dv} {Q : Dv → Mst → Prop} (hl : ds.length = k) : (mFun k n b ds s).to Q = (b (mStart n ds) s).to (fun _ s => Q .non s) Q (fun _ _ => False) (fun _ _ => False) := by
  unfold mFun
  rw [if_pos hl]
  cases b (mStart n ds) s <;> rfl
end
theorem fun_to {k n : Nat} {b : MS} {ds : List Dv} {s : Mst} {Q : Dv → Mst → Prop} (hl : ds.length = k) (h : (b (mStart n ds) s).to (fun _ s => Q .non s) Q (fun _ _ => False) (fun _ _ => False)) : (mFun k n b ds s).to Q := by
  rw [w_fun hl]; exact h
theorem fun_at {k n : Nat} {b : MS} {ds : List Dv} {s : Mst} {Q : Dv → Mst → Prop} (σ : Men) (hl : ds.length = k) (e : mStart n ds = σ) (h : (b σ s).to (fun _ s => Q .non s) Q (fun _ _ => False) (fun _ _ => False)) : (mFun k n b ds s).to Q := by
  subst e; exact fun_to hl h
/-! ### loops -/
section
variable {N : Men → Mst → Prop} {R : Dv → Mst → Prop} {C B : Men → Mst → Prop} {σ : Men} {s : Mst}
/-- a for: I by the number of items gone through -/
theorem for_by {src : List (Nat × List Dv)} {g : MG} {b : MS} {xs : List Dv} (I : Nat → Men → Mst → Prop) (h0 : I 0 σ s) (hst : ∀ i σ s, I i σ s → Mit.stays src s)
    (step : ∀ i x σ s, xs[i]? = some x → I i σ s → (g x σ s).to fun σ s => (b σ s).to (I (i + 1)) R (I (i + 1)) N) (fin : ∀ σ s, I xs.length σ s → N σ s) : (forF src g b xs σ s).to N R C B := by
  have key : ∀ (r : List Dv) (i : Nat) σ s, xs.drop i = r → i ≤ xs.length → I i σ s → (forF src g b r σ s).to N R C B := by
    intro r
    induction r with
    | nil =>
      intro i σ s hd hi h
      unfold forF
      rw [if_pos (hst i σ s h), to_nx]
      have : i = xs.length := Nat.le_antisymm hi (List.drop_eq_nil_iff.mp hd)
      subst this
      exact fin σ s h
    | cons x r ih =>
      intro i σ s hd hi h
      have h1 : xs[i]? = some x := by
        have : xs[i]? = (xs.drop i)[0]? := by simp
        rw [this, hd]; rfl
      have h2 : xs.drop (i + 1) = r := by
        have : xs.drop (i + 1) = (xs.drop i).drop 1 := by rw [List.drop_drop]
        rw [this, hd]; rfl
      have h3 : i < xs.length := (List.getElem?_eq_some_iff.mp h1).1
      unfold forF
      rw [if_pos (hst i σ s h), to_st]
      refine to_mono (step i x σ s h1 h) fun σ1 s1 h4 => ?_
      rw [to_turn]
      exact sto_mono h4 (fun σ2 s2 h5 => ih (i + 1) σ2 s2 h2 h3 h5) (fun _ _ z => z) (fun σ2 s2 h5 => ih (i + 1) σ2 s2 h2 h3 h5) (fun _ _ z => z)
  exact key xs 0 σ s rfl (Nat.zero_le _) h0
/-- a while: I, and a measure that falls -/
theorem while_by {t : MT} {b : MS} (I : Men → Mst → Prop) (μ : Men → Mst → Nat) (h0 : I σ s)
    (step : ∀ σ s, I σ s → (t σ s).to fun c s1 => if c = true then (b σ s1).to (fun σ2 s2 => I σ2 s2 ∧ μ σ2 s2 < μ σ s) R (fun σ2 s2 => I σ2 s2 ∧ μ σ2 s2 < μ σ s) N else N σ s1) : (msWhile t b σ s).to N R C B := by
  have key : ∀ (n : Nat) σ s, μ σ s < n → I σ s → (whileF t b n σ s).to N R C B := by
    intro n
    induction n with
    | zero => intro σ s h _; exact absurd h (Nat.not_lt_zero _)
    | succ n ih =>
      intro σ s h hI
      show ((t σ s).st σ fun c s1 => if c then (b σ s1).turn (whileF t b n) else .nx σ s1).to N R C B
      rw [to_st]
      refine to_mono (step σ s hI) fun c s1 h1 => ?_
      cases c with
      | false => simpa using h1
      | true =>
        simp only [if_true] at h1 ⊢
        rw [to_turn]
        exact sto_mono h1 (fun σ2 s2 ⟨a, b⟩ => ih σ2 s2 (by omega) a) (fun _ _ z => z) (fun σ2 s2 ⟨a, b⟩ => ih σ2 s2 (by omega) a) (fun _ _ z => z)
  have h := key (μ σ s + 1) σ s (Nat.lt_succ_self _) h0
  have e : msWhile t b σ s = whileF t b (μ σ s + 1) σ s := msWhile_of fun z => by rw [z] at h; exact h
  rw [e]
  exact h
/-- a while: I by a measure -/
theorem while_m {t : MT} {b : MS} (I : Nat → Men → Mst → Prop) (h0 : ∃ m, I m σ s)
    (step : ∀ m σ s, I m σ s → (t σ s).to fun c s1 => if c = true then (b σ s1).to (fun σ2 s2 => ∃ m', m' < m ∧ I m' σ2 s2) R (fun σ2 s2 => ∃ m', m' < m ∧ I m' σ2 s2) N else N σ s1) : (msWhile t b σ s).to N R C B := by
  have key : ∀ (n : Nat) m σ s, m < n → I m σ s → (whileF t b n σ s).to N R C B := by
    intro n
    induction n with
    | zero => intro m σ s h _; exact absurd h (Nat.not_lt_zero _)
    | succ n ih =>
      intro m σ s h hI
      show ((t σ s).st σ fun c s1 => if c then (b σ s1).turn (whileF t b n) else .nx σ s1).to N R C B
      rw [to_st]
      refine to_mono (step m σ s hI) fun c s1 h1 => ?_
      cases c with
      | false => simpa using h1
      | true =>
        simp only [if_true] at h1 ⊢
        rw [to_turn]
        exact sto_mono h1 (fun σ2 s2 ⟨m', a, b⟩ => ih m' σ2 s2 (by omega) b) (fun _ _ z => z) (fun σ2 s2 ⟨m', a, b⟩ => ih m' σ2 s2 (by omega) b) (fun _ _ z => z)
  obtain ⟨m, hm⟩ := h0
  have h := key (m + 1) m σ s (Nat.lt_succ_self _) hm
  have e : msWhile t b σ s = whileF t b (m + 1) σ s := msWhile_of fun z => by rw [z] at h; exact h
  rw [e]
  exact h
/-- a comprehension: I by the number of items and what is made -/
theorem lc_by {src : List (Nat × List Dv)} {g : MG} {t : MT} {e : ME} {xs : List Dv} {Q : List Dv → Mst → Prop} (I : Nat → List Dv → Mst → Prop) (h0 : I 0 [] s) (hst : ∀ i ds s, I i ds s → Mit.stays src s)
    (step : ∀ i x ds s, xs[i]? = some x → I i ds s → (g x σ s).to fun σ1 s => (t σ1 s).to fun c s => if c = true then (e σ1 s).to fun d s => I (i + 1) (ds ++ [d]) s else I (i + 1) ds s) (fin : ∀ ds s, I xs.length ds s → Q ds s) : (lcF src g t e σ xs s).to Q := by
  have key : ∀ (r : List Dv) (i : Nat) ds s, xs.drop i = r → i ≤ xs.length → I i ds s → (lcF src g t e σ r s).to fun es s => Q (ds ++ es) s := by
    intro r
    induction r with
    | nil =>
      intro i ds s hd hi h
      unfold lcF
      rw [if_pos (hst i ds s h), to_ok, List.append_nil]
      have : i = xs.length := Nat.le_antisymm hi (List.drop_eq_nil_iff.mp hd)
      subst this
      exact fin ds s h
    | cons x r ih =>
      intro i ds s hd hi h
      have h1 : xs[i]? = some x := by
        have : xs[i]? = (xs.drop i)[0]? := by simp
        rw [this, hd]; rfl
      have h2 : xs.drop (i + 1) = r := by
        have : xs.drop (i + 1) = (xs.drop i).drop 1 := by rw [List.drop_drop]
        rw [this, hd]; rfl
      have h3 : i < xs.length := (List.getElem?_eq_some_iff.mp h1).1
      unfold lcF
      rw [if_pos (hst i ds s h), to_bind]
      refine to_mono (step i x ds s h1 h) fun σ1 s1 h4 => ?_
      rw [to_bind]
      refine to_mono h4 fun c s2 h5 => ?_
      cases c with
      | false =>
        simp only [Bool.false_eq_true, if_false] at h5 ⊢
        exact ih (i + 1) ds s2 h2 h3 h5
      | true =>
        simp only [if_true] at h5 ⊢
        rw [to_bind]
        refine to_mono h5 fun d s3 h6 => ?_
        rw [to_bind]
        refine to_mono (ih (i + 1) (ds ++ [d]) s3 h2 h3 h6) fun es s4 h7 => ?_
        simpa using h7
  simpa using key xs 0 [] s rfl (Nat.zero_le _) h0
end
end
end Mid
/-! MidV: what changes and what stays; operators at known values; data. -/
namespace Mid
open PySem
noncomputable section
/-! ### the list of changing things -/
/-- all but what stands at X stays -/
def Fr (X : List Nat) (s s' : Mst) : Prop := s.length ≤ s'.length ∧ ∀ n, n ∉ X → n < s.length → s'[n]? = s[n]?
section
variable {X Y : List Nat} {s s' s'' t : Mst} {n m : Nat} {o o' : MO}
theorem Fr.refl : Fr X s s := ⟨Nat.le_refl _, fun _ _ _ => rfl⟩
theorem Fr.trans (a : Fr X s s') (b : Fr X s' s'') : Fr X s s'' := ⟨Nat.le_trans a.1 b.1, fun n h l => (b.2 n h (Nat.lt_of_lt_of_le l a.1)).trans (a.2 n h l)⟩
theorem Fr.mono (a : Fr X s s') (h : ∀ n ∈ X, n ∈ Y ∨ s.length ≤ n) : Fr Y s s' := ⟨a.1, fun n hn l => a.2 n (fun z => by
  rcases h n z with q | q
  · exact hn q
  · omega) l⟩
theorem Fr.trans2 (a : Fr X s s') (b : Fr Y s' s'') (h : ∀ n ∈ Y, n ∈ X ∨ s.length ≤ n) : Fr X s s'' := ⟨Nat.le_trans a.1 b.1, fun n hn l => (b.2 n (fun z => by
  rcases h n z with q | q
  · exact hn q
  · omega) (Nat.lt_of_lt_of_le l a.1)).trans (a.2 n hn l)⟩
theorem Fr.app : Fr X s (s ++ t) := ⟨by simp, fun n _ l => List.getElem?_append_left l⟩
theorem Fr.put (a : Fr X s s') (h : n ∈ X ∨ s.length ≤ n) : Fr X s (s'.set n o) := ⟨by simpa using a.1, fun m hm l => by
  rw [List.getElem?_set_ne (fun e => by
    subst e
    rcases h with q | q
    · exact hm q
    · omega)]
  exact a.2 m hm l⟩
theorem Fr.get (a : Fr X s s') (h : s[n]? = some o) (hn : n ∉ X) : s'[n]? = some o := by
  rw [a.2 n hn (List.getElem?_eq_some_iff.mp h).1]; exact h
theorem lt_of (h : s[n]? = some o) : n < s.length := (List.getElem?_eq_some_iff.mp h).1
theorem look_app (h : s[n]? = some o) : (s ++ t)[n]? = some o := by rw [List.getElem?_append_left (lt_of h)]; exact h
theorem look_put (h : s[n]? = some o) : (s.set n o')[n]? = some o' := List.getElem?_set_self (lt_of h)
theorem look_ne (h : s[n]? = some o) (e : m ≠ n) : (s.set m o')[n]? = some o := by rw [List.getElem?_set_ne e]; exact h
@[simp] theorem look_new0 : (s ++ t)[s.length]? = t[0]? := by rw [List.getElem?_append_right (Nat.le_refl _), Nat.sub_self]
@[simp] theorem look_newS (k : Nat) : (s ++ t)[s.length + k]? = t[k]? := by rw [List.getElem?_append_right (Nat.le_add_right _ _), Nat.add_sub_cancel_left]
@[simp] theorem set_new0 : (s ++ t).set s.length o = s ++ t.set 0 o := by rw [List.set_append_right _ _ (Nat.le_refl _), Nat.sub_self]
@[simp] theorem set_newS (k : Nat) : (s ++ t).set (s.length + k) o = s ++ t.set k o := by rw [List.set_append_right _ _ (Nat.le_add_right _ _), Nat.add_sub_cancel_left]
theorem ne_len (h : s[n]? = some o) : n ≠ s.length := Nat.ne_of_lt (lt_of h)
theorem stays_nil : Mit.stays [] s := trivial
end
/-! ### operators at known values -/
section
variable {s : Mst} {i j : Int} {x y : Str} {l m : List Dv} {d e : Dv} {n k : Nat}
@[simp] theorem oAdd_int : oAdd (.int i) (.int j) s = .ok (.int (i + j)) s := id rfl
theorem oAdd_str (h : x.length + y.length ≤ 2 ^ 24) : oAdd (.str x) (.str y) s = .ok (.str (x ++ y)) s := if_pos h
theorem oAdd_tup (h : l.length + m.length ≤ 2 ^ 24) : oAdd (.tup l) (.tup m) s = .ok (.tup (l ++ m)) s := if_pos h
theorem oAdd_lst (h1 : s[n]? = some (.lst l)) (h2 : s[k]? = some (.lst m)) (h : l.length + m.length ≤ 2 ^ 24) : oAdd (.loc n) (.loc k) s = .ok (.loc s.length) (s ++ [.lst (l ++ m)]) := by
  unfold oAdd; simp only; rw [h1, h2]; exact if_pos h
@[simp] theorem oSub_int : oSub (.int i) (.int j) s = .ok (.int (i - j)) s := id rfl
theorem oMod_int (h : 0 < j) : oMod (.int i) (.int j) s = .ok (.int (i % j)) s := by unfold oMod oII; simp only; rw [if_pos h]; rfl
theorem oFdiv_int (h : 0 < j) (h2 : j.natAbs.log2 < 9000) : oFdiv (.int i) (.int j) s = .ok (.int (i / j)) s := by unfold oFdiv oII; simp only; rw [if_pos ⟨h, h2⟩]; rfl
theorem oPow_int (h : 0 ≤ j ∧ j ≤ 1000000 ∧ i.natAbs < 2 ^ 64) : oPow (.int i) (.int j) s = .ok (.int (i ^ j.toNat)) s := by unfold oPow oII; simp only; rw [if_pos h]; rfl
theorem oMul_int (h : i.natAbs.log2 + j.natAbs.log2 < 1000000) : oMul (.int i) (.int j) s = .ok (.int (i * j)) s := if_pos h
@[simp] theorem oLt_int : oLt (.int i) (.int j) s = .ok (.bl (decide (i < j))) s := id rfl
@[simp] theorem oLe_int : oLe (.int i) (.int j) s = .ok (.bl (decide (i ≤ j))) s := id rfl
@[simp] theorem oGt_int : oGt (.int i) (.int j) s = .ok (.bl (decide (j < i))) s := id rfl
@[simp] theorem oGe_int : oGe (.int i) (.int j) s = .ok (.bl (decide (j ≤ i))) s := id rfl
@[simp] theorem uNeg_int : uNeg (.int i) s = .ok (.int (-i)) s := id rfl
@[simp] theorem oIsN_non : oIsN d .non s = .ok (.bl (isNonQ d)) s := id rfl
@[simp] theorem oNotN_non : oNotN d .non s = .ok (.bl (!isNonQ d)) s := id rfl
@[simp] theorem isNonQ_tup : isNonQ (.tup l) = false := id rfl
@[simp] theorem isNonQ_non : isNonQ .non = true := id rfl
@[simp] theorem isNonQ_int : isNonQ (.int i) = false := id rfl
@[simp] theorem isNonQ_bl (b : Bool) : isNonQ (.bl b) = false := id rfl
@[simp] theorem isNonQ_str : isNonQ (.str x) = false := id rfl
@[simp] theorem isNonQ_loc : isNonQ (.loc n) = false := id rfl
/-! scalars compared -/
theorem shaped_int : SeqAt.shaped (.int i) = true := by simp [SeqAt.shaped, PyData.canLay0, PyData.depth]
theorem shaped_bool (b : Bool) : SeqAt.shaped (.bool b) = true := by simp [SeqAt.shaped, PyData.canLay0, PyData.depth]
theorem shaped_none : SeqAt.shaped .none = true := by simp [SeqAt.shaped, PyData.canLay0, PyData.depth]
@[simp] theorem oEq_int : oEq (.int i) (.int j) s = .ok (.bl (decide (i = j))) s := by
  unfold oEq oCmpD
  simp only [dat, shaped_int, and_self, if_true, PyData.eqv]
  rw [Bool.beq_eq_decide_eq]
@[simp] theorem oNe_int : oNe (.int i) (.int j) s = .ok (.bl (!decide (i = j))) s := by
  unfold oNe oCmpD
  simp only [dat, shaped_int, and_self, if_true, PyData.eqv]
  rw [Bool.beq_eq_decide_eq]
@[simp] theorem oEq_bl (b c : Bool) : oEq (.bl b) (.bl c) s = .ok (.bl (b == c)) s := by
  unfold oEq oCmpD
  simp only [dat, shaped_bool, and_self, if_true, PyData.eqv]
@[simp] theorem oNe_bl (b c : Bool) : oNe (.bl b) (.bl c) s = .ok (.bl (!(b == c))) s := by
  unfold oNe oCmpD
  simp only [dat, shaped_bool, and_self, if_true, PyData.eqv]
/-! places -/
theorem ixQ_nat {a b : Nat} (h : b < a) : ixQ a (b : Int) = some b := by
  unfold ixQ; rw [if_pos (by omega), if_pos (by omega)]; simp
theorem atQ_nat {α : Type} {xs : List α} {b : Nat} {z : α} (h : xs[b]? = some z) : atQ xs (b : Int) = some z := by
  unfold atQ; rw [ixQ_nat (List.getElem?_eq_some_iff.mp h).1]; exact h
theorem ixQ_last {a : Nat} (h : 0 < a) : ixQ a (-1) = some (a - 1) := by
  unfold ixQ; rw [if_neg (by omega), if_pos (by omega)]; congr 1; omega
theorem atQ_last {α : Type} {xs : List α} {z : α} (h : xs[xs.length - 1]? = some z) : atQ xs (-1) = some z := by
  unfold atQ; rw [ixQ_last (by have := (List.getElem?_eq_some_iff.mp h).1; omega)]; exact h
theorem getQ_seq (h : seqOf d s = some l) : getQ d (.int i) s = atQ l i := by
  unfold seqOf at h
  unfold getQ
  cases d with
  | tup m => cases h; rfl
  | clst m => cases h; rfl
  | loc n =>
    simp only at h ⊢
    cases q : s[n]? with
    | none => rw [q] at h; cases h
    | some o =>
      rw [q] at h
      cases o with
      | lst m => cases h; rfl
      | _ => cases h
  | _ => cases h
theorem oGet_seq (h : seqOf d s = some l) {b : Nat} {z : Dv} (hz : l[b]? = some z) : oGet d (.int (b : Int)) s = .ok z s := by
  unfold oGet; rw [getQ_seq h, atQ_nat hz]; rfl
theorem oGet_lst (h : s[n]? = some (.lst l)) {b : Nat} {z : Dv} (hz : l[b]? = some z) : oGet (.loc n) (.int (b : Int)) s = .ok z s :=
  oGet_seq (by unfold seqOf; simp only; rw [h]) hz
theorem oGet_tup {b : Nat} {z : Dv} (hz : l[b]? = some z) : oGet (.tup l) (.int (b : Int)) s = .ok z s := oGet_seq rfl hz
theorem oGet_last (h : seqOf d s = some l) {z : Dv} (hz : l[l.length - 1]? = some z) : oGet d (.int (-1)) s = .ok z s := by
  unfold oGet; rw [getQ_seq h, atQ_last hz]; rfl
@[simp] theorem oGet_tup0 : oGet (.tup (d :: l)) (.int 0) s = .ok d s := oGet_tup (b := 0) rfl
@[simp] theorem oGet_tup1 : oGet (.tup (d :: e :: l)) (.int 1) s = .ok e s := oGet_tup (b := 1) rfl
theorem seqOf_lst (h : s[n]? = some (.lst l)) : seqOf (.loc n) s = some l := by unfold seqOf; simp only; rw [h]
@[simp] theorem seqOf_tup : seqOf (.tup l) s = some l := id rfl
theorem lenQ_seq (h : seqOf d s = some l) : lenQ d s = some l.length := by
  unfold seqOf at h
  unfold lenQ
  cases d with
  | tup m => cases h; rfl
  | clst m => cases h; rfl
  | loc n =>
    simp only at h ⊢
    cases q : s[n]? with
    | none => rw [q] at h; cases h
    | some o =>
      rw [q] at h
      cases o with
      | lst m => cases h; rfl
      | _ => cases h
  | _ => cases h
theorem bLen_seq (h : seqOf d s = some l) : bLen [d] s = .ok (.int l.length) s := by
  show ofO ((lenQ d s).map fun n => Dv.int n) s = _; rw [lenQ_seq h]; rfl
theorem bTuple_seq (h : seqOf d s = some l) : bTuple [d] s = .ok (.tup l) s := by
  show ofO ((seqOf d s).map Dv.tup) s = _; rw [h]; rfl
theorem bList_seq (h : seqOf d s = some l) : bList [d] s = .ok (.loc s.length) (s ++ [.lst l]) := by
  show (match seqOf d s with | some l => mNew (.lst l) s | none => .bad) = _; rw [h]; rfl
theorem lstQ_loc (h : s[n]? = some (.lst l)) : bAny.lstQ (.loc n) s = some l := by unfold bAny.lstQ; simp only; rw [h]
theorem blsQ_map (bs : List Bool) : blsQ (bs.map .bl) = some bs := by
  induction bs with
  | nil => rfl
  | cons b r ih => show (blsQ (r.map .bl)).map (b :: ·) = _; rw [ih]; rfl
theorem bAny_lst {bs : List Bool} (h : s[n]? = some (.lst (bs.map .bl))) : bAny [.loc n] s = .ok (.bl (bs.any id)) s := by
  show ofO (((bAny.lstQ (.loc n) s).bind blsQ).map fun bs => Dv.bl (bs.any id)) s = _
  rw [lstQ_loc h, Option.bind_some, blsQ_map]; rfl
theorem bAll_lst {bs : List Bool} (h : s[n]? = some (.lst (bs.map .bl))) : bAll [.loc n] s = .ok (.bl (bs.all id)) s := by
  show ofO (((bAny.lstQ (.loc n) s).bind blsQ).map fun bs => Dv.bl (bs.all id)) s = _
  rw [lstQ_loc h, Option.bind_some, blsQ_map]; rfl
theorem intsQ_map (ns : List Int) : intsQ (ns.map .int) = some ns := by
  induction ns with
  | nil => rfl
  | cons b r ih => show (intsQ (r.map .int)).map (b :: ·) = _; rw [ih]; rfl
theorem strsQ_map (ns : List Str) : strsQ (ns.map .str) = some ns := by
  induction ns with
  | nil => rfl
  | cons b r ih => show (strsQ (r.map .str)).map (b :: ·) = _; rw [ih]; rfl
theorem bSorted_ints {ns : List Int} (h : s[n]? = some (.lst (ns.map .int))) : bSorted [.loc n] s = .ok (.loc s.length) (s ++ [.lst ((srtI ns).map .int)]) := by
  show (match bAny.lstQ (.loc n) s with | some l => _ | none => _) = _
  rw [lstQ_loc h]
  simp only [srtQ, intsQ_map]
  rfl
theorem bSorted_strs {ns : List Str} (h : s[n]? = some (.lst (ns.map .str))) (hl : ns.length < 64) : bSorted [.loc n] s = .ok (.loc s.length) (s ++ [.lst ((srtS ns).map .str)]) := by
  show (match bAny.lstQ (.loc n) s with | some l => _ | none => _) = _
  rw [lstQ_loc h]
  cases ns with
  | nil => rfl
  | cons a r =>
    have e : intsQ ((a :: r).map Dv.str) = none := rfl
    simp only [srtQ, e, strsQ_map, if_pos hl]
    rfl
theorem bSorted_keys {kvs : List (KeyQ × Dv)} {ns : List Int} (h : s[n]? = some (.dK kvs)) (e : kvs.map (·.1) = ns.map Sum.inl) : bSorted [.loc n] s = .ok (.loc s.length) (s ++ [.lst ((srtI ns).map .int)]) := by
  show (match bAny.lstQ (.loc n) s with | some l => _ | none => _) = _
  have e1 : bAny.lstQ (.loc n) s = none := by unfold bAny.lstQ; simp only; rw [h]
  have e2 : (kvs.map fun kv => keyD kv.1) = ns.map .int := by
    have : (kvs.map fun kv => keyD kv.1) = (kvs.map (·.1)).map keyD := by rw [List.map_map]; rfl
    rw [this, e, List.map_map]; rfl
  rw [e1]
  simp only [h, e2, srtQ, intsQ_map]
  rfl
/-! dicts -/
theorem kval_some {α : Type} [DecidableEq α] {kvs : List (α × Dv)} {k : α} : (kval kvs k).isSome = true ↔ k ∈ kvs.map (·.1) := by
  unfold kval
  induction kvs with
  | nil => simp
  | cons a r ih =>
    by_cases h : a.1 = k
    · simp [List.find?_cons, h]
    · have h' : ¬ k = a.1 := fun z => h z.symm
      simp only [List.find?_cons, decide_eq_false h, List.map_cons, List.mem_cons, h', false_or]
      simpa using ih
theorem inQ_dict {kvs : List (KeyQ × Dv)} {q : KeyQ} (h : s[n]? = some (.dK kvs)) (hk : keyQ d = some q) : inQ d (.loc n) s = some (kval kvs q).isSome := by
  unfold inQ
  simp only [h, hk]
theorem oIn_dict {kvs : List (KeyQ × Dv)} {q : KeyQ} (h : s[n]? = some (.dK kvs)) (hk : keyQ d = some q) : oIn d (.loc n) s = .ok (.bl (kval kvs q).isSome) s := by
  unfold oIn; rw [inQ_dict h hk]; rfl
theorem oNotIn_dict {kvs : List (KeyQ × Dv)} {q : KeyQ} (h : s[n]? = some (.dK kvs)) (hk : keyQ d = some q) : oNotIn d (.loc n) s = .ok (.bl (!(kval kvs q).isSome)) s := by
  unfold oNotIn; rw [inQ_dict h hk]; rfl
theorem kput_new {α : Type} [DecidableEq α] {kvs : List (α × Dv)} {k : α} (h : k ∉ kvs.map (·.1)) : kput kvs k d = kvs ++ [(k, d)] := by
  unfold kput
  rw [if_neg]
  intro z
  rw [List.any_eq_true] at z
  obtain ⟨a, ha, hb⟩ := z
  exact h (List.mem_map.mpr ⟨a, ha, of_decide_eq_true hb⟩)
theorem oGet_dict {kvs : List (KeyQ × Dv)} {q : KeyQ} {z : Dv} (h : s[n]? = some (.dK kvs)) (hk : keyQ d = some q) (hz : kval kvs q = some z) : oGet (.loc n) d s = .ok z s := by
  unfold oGet getQ; simp only [h, hk, hz]; rfl
theorem oPut_dict {kvs : List (KeyQ × Dv)} {q : KeyQ} (h : s[n]? = some (.dK kvs)) (hk : keyQ d = some q) (hl : kvs.length < 2 ^ 24) : oPut (.loc n) d e s = .ok () (s.set n (.dK (kput kvs q e))) := by
  unfold oPut putQ; simp only [h, hk, if_pos hl]
theorem oPut_lst (h : s[n]? = some (.lst l)) (hl : k < l.length) : oPut (.loc n) (.int (k : Int)) e s = .ok () (s.set n (.lst (l.set k e))) := by
  unfold oPut putQ; simp only [h, ixQ_nat hl]; rfl
/-! lists -/
theorem tAppend_lst (h : s[n]? = some (.lst l)) (hl : l.length < 2 ^ 24) : tAppend [.loc n, d] s = .ok .non (s.set n (.lst (l ++ [d]))) := by
  unfold tAppend onLst; simp only [h, if_pos hl]
theorem tClear_lst (h : s[n]? = some (.lst l)) : tClear [.loc n] s = .ok .non (s.set n (.lst [])) := by
  unfold tClear onLst; simp only [h]
theorem tPop_lst (h : s[n]? = some (.lst (l ++ [d]))) : tPop [.loc n] s = .ok d (s.set n (.lst l)) := by
  unfold tPop onLst; simp only [h]
  have : (l ++ [d])[(l ++ [d]).length - 1]? = some d := by simp
  rw [this]; simp
theorem tyQ_lst (h : s[n]? = some (.lst l)) : tyQ (.loc n) s = "list" := by unfold tyQ; simp only [h]
theorem tyQ_dict {kvs : List (KeyQ × Dv)} (h : s[n]? = some (.dK kvs)) : tyQ (.loc n) s = "dict" := by unfold tyQ; simp only [h]
@[simp] theorem tyQ_str : tyQ (.str x) s = "str" := id rfl
@[simp] theorem itSeq_tup : itSeq (.tup l) s = .ok ⟨l, []⟩ s := id rfl
@[simp] theorem itSeq_clst : itSeq (.clst l) s = .ok ⟨l, []⟩ s := id rfl
theorem itSeq_lst (h : s[n]? = some (.lst l)) : itSeq (.loc n) s = .ok ⟨l, [(n, l)]⟩ s := by unfold itSeq; simp only [h]
end
end
end Mid
/-! MidD: data of a type: how it stands, how it is compared. -/
namespace Mid
open PySem
noncomputable section
/-! ### two lists, item by item -/
inductive All2 {α β : Type} (R : α → β → Prop) : List α → List β → Prop where
  | nil : All2 R [] []
  | cons {a b l m} : R a b → All2 R l m → All2 R (a :: l) (b :: m)
namespace All2
variable {α β γ : Type} {R S : α → β → Prop} {l l' : List α} {m m' : List β}
theorem len (h : All2 R l m) : l.length = m.length := by induction h with
  | nil => rfl
  | cons _ _ ih => simp [ih]
theorem imp (h : All2 R l m) (f : ∀ a b, a ∈ l → b ∈ m → R a b → S a b) : All2 S l m := by induction h with
  | nil => exact .nil
  | cons a _ ih => exact .cons (f _ _ (by simp) (by simp) a) (ih fun x y hx hy => f x y (by simp [hx]) (by simp [hy]))
theorem app (h : All2 R l m) (g : All2 R l' m') : All2 R (l ++ l') (m ++ m') := by induction h with
  | nil => exact g
  | cons a _ ih => exact .cons a ih
theorem snoc {a : α} {b : β} (h : All2 R l m) (g : R a b) : All2 R (l ++ [a]) (m ++ [b]) := h.app (.cons g .nil)
theorem get (h : All2 R l m) {i : Nat} {a : α} (g : l[i]? = some a) : ∃ b, m[i]? = some b ∧ R a b := by
  induction h generalizing i with
  | nil => cases g
  | cons x _ ih => cases i with
    | zero => cases g; exact ⟨_, rfl, x⟩
    | succ i => exact ih g
theorem get' (h : All2 R l m) {i : Nat} {b : β} (g : m[i]? = some b) : ∃ a, l[i]? = some a ∧ R a b := by
  induction h generalizing i with
  | nil => cases g
  | cons x _ ih => cases i with
    | zero => cases g; exact ⟨_, rfl, x⟩
    | succ i => exact ih g
theorem of_map {f : β → α} (h : ∀ b ∈ m, R (f b) b) : All2 R (m.map f) m := by induction m with
  | nil => exact .nil
  | cons b m ih => exact .cons (h b (by simp)) (ih fun x hx => h x (by simp [hx]))
theorem to_map {f : β → α} (h : All2 R l m) (g : ∀ a b, a ∈ l → b ∈ m → R a b → a = f b) : l = m.map f := by induction h with
  | nil => rfl
  | cons a _ ih => rw [List.map_cons, g _ _ (by simp) (by simp) a, ih fun x y hx hy => g x y (by simp [hx]) (by simp [hy])]
theorem drop (h : All2 R l m) (i : Nat) : All2 R (l.drop i) (m.drop i) := by
  induction h generalizing i with
  | nil => simp; exact .nil
  | cons x y ih => cases i with
    | zero => exact .cons x y
    | succ i => exact ih i
end All2
/-! ### a type's data -/
structure Enc (α : Type) where
  rep : (Nat → Prop) → Mst → Dv → α → Prop
  py : α → PyData
  dep : Nat
  mono : ∀ {P P' s d a}, rep P s d a → (∀ n, P' n → P n ∨ s.length ≤ n) → rep P' s d a
  fr : ∀ {P X s s' d a}, rep P s d a → Fr X s s' → (∀ n ∈ X, P n) → rep P s' d a
  dat : ∀ {P s d a n}, rep P s d a → dep < n → dat s n d = some (py a)
  lay : ∀ {P s d a}, rep P s d a → (py a).canLay0 = true
  depth : ∀ a, (py a).depth ≤ dep
  eqv : ∀ a b, PyData.eqv (py a) (py b) = true ↔ a = b
variable {α β : Type} {P P' : Nat → Prop} {X : List Nat} {s s' : Mst} {d e : Dv}
def noP : Nat → Prop := fun _ => False
theorem Enc.fr0 (A : Enc α) {a : α} (h : A.rep P s d a) (f : Fr [] s s') : A.rep P s' d a := A.fr h f (by simp)
theorem Enc.toNo (A : Enc α) {a : α} (h : A.rep P s d a) : A.rep noP s d a := A.mono h fun _ z => z.elim
def Enc.int : Enc Int where
  rep _ _ d a := d = .int a
  py := .int
  dep := 0
  mono h _ := h
  fr h _ _ := h
  dat h hn := by subst h; cases ‹Nat› with
    | zero => omega
    | succ n => rfl
  lay _ := by simp [PyData.canLay0]
  depth _ := by simp [PyData.depth]
  eqv a b := by simp [PyData.eqv]
def Enc.nat : Enc Nat where
  rep _ _ d a := d = .int a
  py a := .int a
  dep := 0
  mono h _ := h
  fr h _ _ := h
  dat h hn := by subst h; cases ‹Nat› with
    | zero => omega
    | succ n => rfl
  lay _ := by simp [PyData.canLay0]
  depth _ := by simp [PyData.depth]
  eqv a b := by simp [PyData.eqv]; omega
def Enc.bool : Enc Bool where
  rep _ _ d a := d = .bl a
  py a := .bool a
  dep := 0
  mono h _ := h
  fr h _ _ := h
  dat h hn := by subst h; cases ‹Nat› with
    | zero => omega
    | succ n => rfl
  lay _ := by simp [PyData.canLay0]
  depth _ := by simp [PyData.depth]
  eqv a b := by simp [PyData.eqv]
def Enc.str : Enc Str where
  rep _ _ d a := d = .str a ∧ PyData.strOk a = true
  py a := .str a
  dep := 0
  mono h _ := h
  fr h _ _ := h
  dat h hn := by obtain ⟨rfl, _⟩ := h; cases ‹Nat› with
    | zero => omega
    | succ n => rfl
  lay h := by simp [PyData.canLay0, h.2]
  depth _ := by simp [PyData.depth]
  eqv a b := by simp [PyData.eqv]
def Enc.pair (A : Enc α) (B : Enc β) : Enc (α × β) where
  rep P s d a := ∃ x y, d = .tup [x, y] ∧ A.rep P s x a.1 ∧ B.rep P s y a.2
  py a := .tuple [A.py a.1, B.py a.2]
  dep := max A.dep B.dep + 1
  mono h f := by obtain ⟨x, y, rfl, h1, h2⟩ := h; exact ⟨x, y, rfl, A.mono h1 f, B.mono h2 f⟩
  fr h f g := by obtain ⟨x, y, rfl, h1, h2⟩ := h; exact ⟨x, y, rfl, A.fr h1 f g, B.fr h2 f g⟩
  dat h hn := by
    obtain ⟨x, y, rfl, h1, h2⟩ := h
    cases ‹Nat› with
    | zero => omega
    | succ n => simp [Mid.dat, datA, A.dat h1 (n := n) (by omega), B.dat h2 (n := n) (by omega)]
  lay h := by obtain ⟨x, y, rfl, h1, h2⟩ := h; simp [PyData.canLay0, PyData.canLayAll0, A.lay h1, B.lay h2]
  depth a := by
    have := A.depth a.1
    have := B.depth a.2
    simp [PyData.depth, PyData.depthAll]; omega
  eqv a b := by
    simp [PyData.eqv, PyData.eqvAll, A.eqv, B.eqv]
    exact ⟨fun h => Prod.ext h.1 h.2, fun h => by rw [h]; exact ⟨rfl, rfl⟩⟩
theorem datA_all2 {A : Enc α} {ds : List Dv} {l : List α} (h : All2 (A.rep P s) ds l) {n : Nat} (hn : A.dep < n) : datA (Mid.dat s n) ds = some (l.map A.py) := by
  induction h with
  | nil => rfl
  | cons a _ ih => simp [datA, A.dat a hn, ih]
theorem lay_all2 {A : Enc α} {ds : List Dv} {l : List α} (h : All2 (A.rep P s) ds l) : PyData.canLayAll0 (l.map A.py) = true := by
  induction h with
  | nil => simp [PyData.canLayAll0]
  | cons a _ ih => simp [PyData.canLayAll0, A.lay a, ih]
theorem depth_all (A : Enc α) (l : List α) : PyData.depthAll (l.map A.py) ≤ A.dep := by
  induction l with
  | nil => simp [PyData.depthAll]
  | cons a l ih => have := A.depth a; simp [PyData.depthAll]; omega
theorem eqv_all (A : Enc α) (l m : List α) : PyData.eqvAll (l.map A.py) (m.map A.py) = true ↔ l = m := by
  induction l generalizing m with
  | nil => cases m <;> simp [PyData.eqvAll]
  | cons a l ih => cases m with
    | nil => simp [PyData.eqvAll]
    | cons b m => simp [PyData.eqvAll, A.eqv, ih]
def Enc.tupOf (A : Enc α) : Enc (List α) where
  rep P s d a := ∃ ds, d = .tup ds ∧ All2 (A.rep P s) ds a
  py a := .tuple (a.map A.py)
  dep := A.dep + 1
  mono h f := by obtain ⟨ds, rfl, h⟩ := h; exact ⟨ds, rfl, h.imp fun _ _ _ _ z => A.mono z f⟩
  fr h f g := by obtain ⟨ds, rfl, h⟩ := h; exact ⟨ds, rfl, h.imp fun _ _ _ _ z => A.fr z f g⟩
  dat h hn := by
    obtain ⟨ds, rfl, h⟩ := h
    cases ‹Nat› with
    | zero => omega
    | succ n => simp [Mid.dat, datA_all2 h (n := n) (by omega)]
  lay h := by obtain ⟨ds, rfl, h⟩ := h; simp [PyData.canLay0, lay_all2 h]
  depth a := by have := depth_all A a; simp [PyData.depth]; omega
  eqv a b := by simp only [PyData.eqv]; exact eqv_all A a b
def Enc.lstOf (A : Enc α) : Enc (List α) where
  rep P s d a := ∃ n ds, d = .loc n ∧ ¬ P n ∧ s[n]? = some (.lst ds) ∧ All2 (A.rep P s) ds a
  py a := .list (a.map A.py)
  dep := A.dep + 1
  mono h f := by
    obtain ⟨n, ds, rfl, hp, hs, h⟩ := h
    refine ⟨n, ds, rfl, fun z => ?_, hs, h.imp fun _ _ _ _ z => A.mono z f⟩
    rcases f n z with q | q
    · exact hp q
    · have := lt_of hs; omega
  fr h f g := by
    obtain ⟨n, ds, rfl, hp, hs, h⟩ := h
    exact ⟨n, ds, rfl, hp, f.get hs fun z => hp (g n z), h.imp fun _ _ _ _ z => A.fr z f g⟩
  dat h hn := by
    obtain ⟨k, ds, rfl, hp, hs, h⟩ := h
    rename_i n'
    cases n' with
    | zero => omega
    | succ n => simp [Mid.dat, hs, datA_all2 h (n := n) (by omega)]
  lay h := by obtain ⟨n, ds, rfl, hp, hs, h⟩ := h; simp [PyData.canLay0, lay_all2 h]
  depth a := by have := depth_all A a; simp [PyData.depth]; omega
  eqv a b := by simp only [PyData.eqv]; exact eqv_all A a b
/-! ### compared -/
theorem Enc.shaped (A : Enc α) {a : α} (h : A.rep P s d a) (hd : A.dep ≤ 64) : SeqAt.shaped (A.py a) = true := by
  have := A.depth a
  simp only [SeqAt.shaped, A.lay h, Bool.true_and, decide_eq_true_iff]; omega
theorem oEq_enc [DecidableEq α] (A : Enc α) {a b : α} (h : A.rep P s d a) (g : A.rep P' s e b) (hd : A.dep ≤ 64) : oEq d e s = .ok (.bl (decide (a = b))) s := by
  unfold oEq oCmpD
  rw [A.dat h (by omega), A.dat g (by omega)]
  simp only [A.shaped h hd, A.shaped g hd, and_self, if_true]
  congr 2
  rw [Bool.eq_iff_iff, A.eqv, decide_eq_true_iff]
theorem oNe_enc [DecidableEq α] (A : Enc α) {a b : α} (h : A.rep P s d a) (g : A.rep P' s e b) (hd : A.dep ≤ 64) : oNe d e s = .ok (.bl (!decide (a = b))) s := by
  unfold oNe oCmpD
  rw [A.dat h (by omega), A.dat g (by omega)]
  simp only [A.shaped h hd, A.shaped g hd, and_self, if_true]
  congr 3
  rw [Bool.eq_iff_iff, A.eqv, decide_eq_true_iff]
theorem inQ_enc [DecidableEq α] (A : Enc α) {a : α} {l : List α} (h : A.rep P s d a) (g : A.lstOf.rep P' s e l) (hd : A.dep < 64) : inQ d e s = some (decide (a ∈ l)) := by
  obtain ⟨n, ds, rfl, hp, hs, hl⟩ := g
  have g' : A.lstOf.rep P' s (.loc n) l := ⟨n, ds, rfl, hp, hs, hl⟩
  have sh := A.lstOf.shaped g' (show A.dep + 1 ≤ 64 from hd)
  unfold inQ
  simp only [hs]
  rw [A.dat h (by omega), datA_all2 hl (by omega)]
  simp only [A.shaped h (by omega), true_and]
  rw [if_pos (show SeqAt.shaped (.list (l.map A.py)) = true from sh)]
  congr 1
  rw [Bool.eq_iff_iff, decide_eq_true_iff, List.any_eq_true]
  simp only [List.mem_map]
  exact ⟨fun ⟨z, ⟨b, hb, e⟩, q⟩ => by rw [← e, A.eqv] at q; rw [← q]; exact hb, fun q => ⟨_, ⟨a, q, rfl⟩, (A.eqv _ _).mpr rfl⟩⟩
theorem oIn_enc [DecidableEq α] (A : Enc α) {a : α} {l : List α} (h : A.rep P s d a) (g : A.lstOf.rep P' s e l) (hd : A.dep < 64) : oIn d e s = .ok (.bl (decide (a ∈ l))) s := by
  unfold oIn; rw [inQ_enc A h g hd]; rfl
theorem oNotIn_enc [DecidableEq α] (A : Enc α) {a : α} {l : List α} (h : A.rep P s d a) (g : A.lstOf.rep P' s e l) (hd : A.dep < 64) : oNotIn d e s = .ok (.bl (!decide (a ∈ l))) s := by
  unfold oNotIn; rw [inQ_enc A h g hd]; rfl
/-! ### lists of numbers -/
def nD (k : Nat) : Dv := .int k
theorem nat_all {l : List Nat} : All2 (Enc.nat.rep P s) (l.map nD) l := .of_map fun _ _ => rfl
theorem nat_of {l : List Nat} {ds : List Dv} (h : All2 (Enc.nat.rep P s) ds l) : ds = l.map nD := h.to_map fun _ _ _ _ z => z
abbrev NL : Enc (List Nat) := .lstOf .nat
abbrev NLL : Enc (List (List Nat)) := .lstOf NL
theorem nl_iff {l : List Nat} : NL.rep P s d l ↔ ∃ n, d = .loc n ∧ ¬ P n ∧ s[n]? = some (.lst (l.map nD)) :=
  ⟨fun ⟨n, ds, e, hp, hs, h⟩ => ⟨n, e, hp, by rw [hs, nat_of h]⟩, fun ⟨n, e, hp, hs⟩ => ⟨n, _, e, hp, hs, nat_all⟩⟩
theorem oIn_nat {n k : Nat} {l : List Nat} (h : s[n]? = some (.lst (l.map nD))) : oIn (nD k) (.loc n) s = .ok (.bl (decide (k ∈ l))) s :=
  oIn_enc Enc.nat (P := noP) rfl (nl_iff (P := noP).mpr ⟨n, rfl, id, h⟩) (by decide)
theorem oNotIn_nat {n k : Nat} {l : List Nat} (h : s[n]? = some (.lst (l.map nD))) : oNotIn (nD k) (.loc n) s = .ok (.bl (!decide (k ∈ l))) s :=
  oNotIn_enc Enc.nat (P := noP) rfl (nl_iff (P := noP).mpr ⟨n, rfl, id, h⟩) (by decide)
theorem inQ_tupE [DecidableEq α] (A : Enc α) {a : α} {l : List α} (h : A.rep P s d a) (g : A.tupOf.rep P' s e l) (hd : A.dep < 64) : inQ d e s = some (decide (a ∈ l)) := by
  obtain ⟨ds, rfl, hl⟩ := g
  have g' : A.tupOf.rep P' s (.tup ds) l := ⟨ds, rfl, hl⟩
  have sh := A.tupOf.shaped g' (show A.dep + 1 ≤ 64 from hd)
  unfold inQ
  simp only
  rw [A.dat h (by omega), datA_all2 hl (by omega)]
  simp only [A.shaped h (by omega), true_and]
  rw [if_pos (show SeqAt.shaped (.tuple (l.map A.py)) = true from sh)]
  congr 1
  rw [Bool.eq_iff_iff, decide_eq_true_iff, List.any_eq_true]
  simp only [List.mem_map]
  exact ⟨fun ⟨z, ⟨b, hb, e⟩, q⟩ => by rw [← e, A.eqv] at q; rw [← q]; exact hb, fun q => ⟨_, ⟨a, q, rfl⟩, (A.eqv _ _).mpr rfl⟩⟩
theorem oIn_tupE [DecidableEq α] (A : Enc α) {a : α} {l : List α} (h : A.rep P s d a) (g : A.tupOf.rep P' s e l) (hd : A.dep < 64) : oIn d e s = .ok (.bl (decide (a ∈ l))) s := by
  unfold oIn; rw [inQ_tupE A h g hd]; rfl
/-! ### lists of texts -/
abbrev SL : Enc (List Str) := .lstOf .str
theorem str_of {l : List Str} {ds : List Dv} (h : All2 (Enc.str.rep P s) ds l) : ds = l.map Dv.str := h.to_map fun _ _ _ _ z => z.1
theorem str_all {l : List Str} (h : ∀ x ∈ l, PyData.strOk x = true) : All2 (Enc.str.rep P s) (l.map Dv.str) l := .of_map fun x hx => ⟨rfl, h x hx⟩
theorem sl_rep {l : List Str} {n : Nat} (hn : ¬ P n) (hs : s[n]? = some (.lst (l.map Dv.str))) (h : ∀ x ∈ l, PyData.strOk x = true) : SL.rep P s (.loc n) l := ⟨n, _, rfl, hn, hs, str_all h⟩
theorem oNotIn_str {n : Nat} {x : Str} {l : List Str} (hs : s[n]? = some (.lst (l.map Dv.str))) (hx : PyData.strOk x = true) (h : ∀ x ∈ l, PyData.strOk x = true) : oNotIn (.str x) (.loc n) s = .ok (.bl (!decide (x ∈ l))) s :=
  oNotIn_enc Enc.str (P := noP) ⟨rfl, hx⟩ (sl_rep (P := noP) id hs h) (by decide)
/-! ### a list of two kinds -/
def Enc.two (A : Enc α) (B : Enc β) : Enc (α × β) where
  rep P s d a := ∃ n x y, d = .loc n ∧ ¬ P n ∧ s[n]? = some (.lst [x, y]) ∧ A.rep P s x a.1 ∧ B.rep P s y a.2
  py a := .list [A.py a.1, B.py a.2]
  dep := max A.dep B.dep + 1
  mono h f := by
    obtain ⟨n, x, y, rfl, hp, hs, h1, h2⟩ := h
    refine ⟨n, x, y, rfl, fun z => ?_, hs, A.mono h1 f, B.mono h2 f⟩
    rcases f n z with q | q
    · exact hp q
    · have := lt_of hs; omega
  fr h f g := by
    obtain ⟨n, x, y, rfl, hp, hs, h1, h2⟩ := h
    exact ⟨n, x, y, rfl, hp, f.get hs fun z => hp (g n z), A.fr h1 f g, B.fr h2 f g⟩
  dat h hn := by
    obtain ⟨k, x, y, rfl, hp, hs, h1, h2⟩ := h
    rename_i n'
    cases n' with
    | zero => omega
    | succ n => simp [Mid.dat, hs, datA, A.dat h1 (n := n) (by omega), B.dat h2 (n := n) (by omega)]
  lay h := by obtain ⟨n, x, y, rfl, hp, hs, h1, h2⟩ := h; simp [PyData.canLay0, PyData.canLayAll0, A.lay h1, B.lay h2]
  depth a := by
    have := A.depth a.1
    have := B.depth a.2
    simp [PyData.depth, PyData.depthAll]; omega
  eqv a b := by
    simp [PyData.eqv, PyData.eqvAll, A.eqv, B.eqv]
    exact ⟨fun h => Prod.ext h.1 h.2, fun h => by rw [h]; exact ⟨rfl, rfl⟩⟩
end
end Mid
/-! MidE: comprehensions and loops over data. -/
namespace Mid
open PySem
noncomputable section
variable {α β : Type} {P : Nat → Prop} {s : Mst} {σ : Men}
theorem bDict_pairs {n : Nat} {l : List Dv} {kvs : List (KeyQ × Dv)} (h : s[n]? = some (.lst l)) (hp : pairsQ l = some kvs) : bDict [.loc n] s = .ok (.loc s.length) (s ++ [.dK (kputs [] kvs)]) := by
  show (match (bAny.lstQ (.loc n) s).bind pairsQ with | some kvs => _ | none => _) = _
  rw [lstQ_loc h, Option.bind_some, hp]; rfl
theorem tUpdate_dict {n m : Nat} {kvs more : List (KeyQ × Dv)} (h : s[n]? = some (.dK kvs)) (h2 : s[m]? = some (.dK more)) (hn : n ≠ m) (hl : kvs.length + more.length < 2 ^ 24) : tUpdate [.loc n, .loc m] s = .ok .non (s.set n (.dK (kputs kvs more))) := by
  show (match s[n]?, s[m]? with | some (.dK kvs), some (.dK more) => _ | _, _ => _) = _
  rw [h, h2]
  exact if_pos ⟨hn, hl⟩
theorem r62 {n : Nat} (h : n ≤ 2 ^ 24) : -(2 ^ 62) ≤ (n : Int) ∧ (n : Int) < 2 ^ 62 := by
  have e : (2 : Int) ^ 62 = 4611686018427387904 := by decide
  rw [e]; omega
theorem rng0 (n : Nat) : rngI 0 n = (List.range n).map nD := by
  simp [rngI, nD]
theorem rngN (b n : Nat) : rngI (b : Int) n = (List.range' b n).map nD := by
  rw [List.range'_eq_map_range]; simp [rngI, nD]
theorem take_filter_map {xs : List α} {p : α → Bool} {f : α → β} {i : Nat} {a : α} (h : xs[i]? = some a) :
    ((xs.take (i + 1)).filter p).map f = ((xs.take i).filter p).map f ++ (if p a = true then [f a] else []) := by
  rw [List.take_add_one, h, List.filter_append, List.map_append]
  by_cases q : p a = true <;> simp [q]
/-- a comprehension whose items are data made anew -/
theorem lc_new {src : List (Nat × List Dv)} {g : MG} {t : MT} {e : ME} {Q : List Dv → Mst → Prop} (E : Enc β) (xs : List α) (enc : α → Dv) (p : α → Bool) (f : α → β)
    (hst : ∀ s', Fr [] s s' → Mit.stays src s')
    (step : ∀ a ∈ xs, ∀ s', Fr [] s s' → (g (enc a) σ s').to fun σ1 s1 => (t σ1 s1).to fun c s2 => c = p a ∧ Fr [] s' s2 ∧ (p a = true → (e σ1 s2).to fun d s3 => Fr [] s2 s3 ∧ E.rep P s3 d (f a)))
    (fin : ∀ ds s', Fr [] s s' → All2 (E.rep P s') ds ((xs.filter p).map f) → Q ds s') : (lcF src g t e σ (xs.map enc) s).to Q := by
  refine lc_by (fun i ds s' => Fr [] s s' ∧ All2 (E.rep P s') ds (((xs.take i).filter p).map f)) ⟨.refl, by simpa using .nil⟩ (fun _ _ _ h => hst _ h.1) ?_ ?_
  · rintro i x ds s' hx ⟨hf, ha⟩
    rw [List.getElem?_map] at hx
    cases q : xs[i]? with
    | none => rw [q] at hx; cases hx
    | some a =>
      rw [q] at hx; cases hx
      refine to_mono (step a (List.mem_of_getElem? q) s' hf) fun σ1 s1 h1 => to_mono h1 fun c s2 ⟨hc, f2, h2⟩ => ?_
      rw [take_filter_map q, hc]
      by_cases hp : p a = true
      · simp only [hp, if_true]
        refine to_mono (h2 hp) fun d s3 ⟨f3, r3⟩ => ⟨hf.trans (f2.trans f3), (ha.imp fun _ _ _ _ z => E.fr0 z (f2.trans f3)).snoc r3⟩
      · simp only [hp, Bool.false_eq_true, if_false, List.append_nil]
        exact ⟨hf.trans f2, ha.imp fun _ _ _ _ z => E.fr0 z f2⟩
  · rintro ds s' ⟨hf, ha⟩
    rw [List.length_map, List.take_length] at ha
    exact fin ds s' hf ha
/-- a comprehension that makes nothing anew -/
theorem lc_pure {src : List (Nat × List Dv)} {g : MG} {t : MT} {e : ME} {Q : List Dv → Mst → Prop} (xs : List α) (enc : α → Dv) (p : α → Bool) (f : α → Dv)
    (hst : Mit.stays src s)
    (step : ∀ a ∈ xs, (g (enc a) σ s).to fun σ1 s1 => (t σ1 s1).to fun c s2 => c = p a ∧ (p a = true → (e σ1 s2).to fun d s3 => d = f a ∧ s3 = s) ∧ (p a = false → s2 = s))
    (fin : Q ((xs.filter p).map f) s) : (lcF src g t e σ (xs.map enc) s).to Q := by
  refine lc_by (fun i ds s' => s' = s ∧ ds = ((xs.take i).filter p).map f) ⟨rfl, by simp⟩ (fun _ _ _ h => by rw [h.1]; exact hst) ?_ ?_
  · rintro i x ds s' hx ⟨rfl, rfl⟩
    rw [List.getElem?_map] at hx
    cases q : xs[i]? with
    | none => rw [q] at hx; cases hx
    | some a =>
      rw [q] at hx; cases hx
      refine to_mono (step a (List.mem_of_getElem? q)) fun σ1 s1 h1 => to_mono h1 fun c s2 ⟨hc, h2, h3⟩ => ?_
      rw [take_filter_map q, hc]
      by_cases hp : p a = true
      · simp only [hp, if_true]
        refine to_mono (h2 hp) fun d s3 ⟨e1, e2⟩ => ⟨e2, by rw [e1]⟩
      · simp only [hp, Bool.false_eq_true, if_false, List.append_nil]
        exact ⟨h3 (by simpa using hp), trivial⟩
  · rintro ds s' ⟨rfl, rfl⟩
    rw [List.length_map, List.take_length]
    exact fin
/-- a for over known things -/
theorem for_map {N : Men → Mst → Prop} {R : Dv → Mst → Prop} {C B : Men → Mst → Prop} {src : List (Nat × List Dv)} {g : MG} {b : MS} (xs : List α) (enc : α → Dv) (I : Nat → Men → Mst → Prop) (h0 : I 0 σ s) (hst : ∀ i σ s, I i σ s → Mit.stays src s)
    (step : ∀ i a σ s, xs[i]? = some a → I i σ s → (g (enc a) σ s).to fun σ s => (b σ s).to (I (i + 1)) R (I (i + 1)) N) (fin : ∀ σ s, I xs.length σ s → N σ s) : (forF src g b (xs.map enc) σ s).to N R C B := by
  refine for_by I h0 hst ?_ ?_
  · intro i x σ s hx h
    rw [List.getElem?_map] at hx
    cases q : xs[i]? with
    | none => rw [q] at hx; cases hx
    | some a => rw [q] at hx; cases hx; exact step i a σ s q h
  · rw [List.length_map]; exact fin
theorem range_at {n i a : Nat} (h : (List.range n)[i]? = some a) : a = i ∧ i < n := by
  have := List.getElem?_eq_some_iff.mp h
  obtain ⟨h1, h2⟩ := this
  simp at h1 h2
  exact ⟨h2.symm, h1⟩
end
end Mid
namespace Mid
open PySem Classical
noncomputable section
def m_come_to : MS := msSeq (msSet 2 (fun σ s => (mDisp [(mVar 1, mC (.bl true))] σ s).noEr))
    (msSeq (msSet 3 (mLst [mVar 1]))
    (msSeq (msWhile (mtVal (mOp oGt (mCall bLen [mVar 3]) (mC (.int 0)))) (msFor (miSeq (mOp oGet (mOp oGet (mVar 0) (mMeth "list" tPop (mVar 3) [])) (mC (.int 1)))) (gT [gN 4, gN 5]) (msIf (mtVal (mOp oNotIn (mVar 5) (mVar 2))) (msSeq (msPut oPut (mVar 2) (mVar 5) (mC (.bl true)))
    (msExp (mMeth "list" tAppend (mVar 3) [mVar 5]))) (msNx))))
    (msRet (mVar 2))))
def f_come_to : MF := mFun 2 6 m_come_to
def m_orbits : MS := msSeq (msSet 2 (mLc (miRng1 (mCall bLen [mVar 0])) (gN 1) (mtYes) (mCall (noE f_come_to) [mVar 0, mVar 1]) [1]))
    (msSeq (msSet 3 (mDisp []))
    (msSeq (msSet 4 (mLst []))
    (msSeq (msFor (miRng1 (mCall bLen [mVar 0])) (gN 1) (msIf (mtVal (mOp oNotIn (mVar 1) (mVar 3))) (msSeq (msSet 5 (mLc (miSeq (mCall bSorted [mOp oGet (mVar 2) (mVar 1)])) (gN 6) (mtVal (mOp oIn (mVar 1) (mOp oGet (mVar 2) (mVar 6)))) (mVar 6) [6]))
    (msSeq (msExp (mMeth "dict" tUpdate (mVar 3) [mCall bDict [mLc (miSeq (mVar 5)) (gN 6) (mtYes) (mTup [mVar 6, mC (.bl true)]) [6]]]))
    (msExp (mMeth "list" tAppend (mVar 4) [mVar 5])))) (msNx)))
    (msRet (mVar 4)))))
def f_orbits : MF := mFun 1 7 m_orbits
def m_leads_out : MS := msSeq (msAsg (gT [gN 3, gN 4]) (mOp oGet (mVar 0) (mVar 2)))
    (msRet (mTup [mVar 3, mCall bTuple [mLc (miSeq (mVar 4)) (gN 5) (mtVal (mOp oNotIn (mOp oGet (mVar 5) (mC (.int 1))) (mVar 1))) (mVar 5) [5]]]))
def f_leads_out : MF := mFun 3 6 m_leads_out
def m_gates : MS := msRet (mLc (miSeq (mVar 1)) (gN 2) (mtVal (mOp oNe (mCall (noE f_leads_out) [mVar 0, mVar 1, mVar 2]) (mTup [mC (.bl false), mTup []]))) (mVar 2) [2])
def f_gates : MF := mFun 2 3 m_gates
def m_unlike_gates : MS := msSeq (msSet 2 (mCall (noE f_gates) [mVar 0, mVar 1]))
    (msSeq (msFor (miSeq (mVar 2)) (gN 3) (msIf (mtVal (mOp oNe (mCall (noE f_leads_out) [mVar 0, mVar 1, mVar 3]) (mCall (noE f_leads_out) [mVar 0, mVar 1, mOp oGet (mVar 2) (mC (.int 0))]))) (msRet (mTup [mOp oGet (mVar 2) (mC (.int 0)), mVar 3])) (msNx)))
    (msRet (mC .non)))
def f_unlike_gates : MF := mFun 2 4 m_unlike_gates
def m_is_even : MS := msRet (mOp oIsN (mCall (noE f_unlike_gates) [mVar 0, mVar 1]) (mC .non))
def f_is_even : MF := mFun 2 2 m_is_even
def m_steady : MS := msSeq (msSet 1 (mLc (miSeq (mVar 0)) (gT [gN 2, gN 3]) (mtVal (mVar 2)) (mVar 3) [2, 3]))
    (msRet (mLc (miSeq (mOp oGet (mVar 1) (mC (.int 0)))) (gN 4) (mtVal (mCall bAll [mLc (miSeq (mVar 1)) (gN 3) (mtYes) (mOp oIn (mVar 4) (mVar 3)) [3]])) (mOp oGet (mVar 4) (mC (.int 0))) [4]))
def f_steady : MF := mFun 1 5 m_steady
def m_cut_machine : MS := msSeq (msSet 1 (mCall (noE f_steady) [mVar 0]))
    (msSeq (msSet 2 (mLst []))
    (msSeq (msFor (miSeq (mVar 0)) (gT [gN 3, gN 4]) (msExp (mMeth "list" tAppend (mVar 2) [mTup [mVar 3, mCall bTuple [mLc (miSeq (mVar 4)) (gN 5) (mtOr (mtNot (mtVal (mVar 3))) (mtVal (mOp oNotIn (mOp oGet (mVar 5) (mC (.int 0))) (mVar 1)))) (mVar 5) [5]]]])))
    (msRet (mCall bTuple [mVar 2]))))
def f_cut_machine : MF := mFun 1 6 m_cut_machine
def m_cut_orbits : MS := msRet (mCall (noE f_orbits) [mCall (noE f_cut_machine) [mVar 0]])
def f_cut_orbits : MF := mFun 1 1 m_cut_orbits
def m_cut_gates : MS := msRet (mCall (noE f_gates) [mCall (noE f_cut_machine) [mVar 0], mVar 1])
def f_cut_gates : MF := mFun 2 2 m_cut_gates
def m_is_cut_even : MS := msRet (mCall (noE f_is_even) [mCall (noE f_cut_machine) [mVar 0], mVar 1])
def f_is_cut_even : MF := mFun 2 2 m_is_cut_even
def m_law_gpen : MS := msSeq (msSet 1 (mC (.int 7)))
    (msSeq (msFor (miSeq (mVar 0)) (gN 2) (msSet 1 (mOp oMod (mOp oAdd (mOp oAdd (mOp oMul (mVar 1) (mC (.int 48271))) (mOp oMod (mVar 2) (mC (.int 1000000007)))) (mC (.int 11))) (mC (.int 2147483629)))))
    (msRet (fun σ s => (mDisp [(mC (.str (Str.ofString "mixed")), mVar 1), (mC (.str (Str.ofString "turn")), mC (.int 0)), (mC (.str (Str.ofString "wide")), mLc (miSeq (mVar 0)) (gN 2) (mtVal (mOp oGe (mVar 2) (mOp oPow (mC (.int 10)) (mC (.int 15))))) (mVar 2) [2])] σ s).noEr)))
def f_law_gpen : MF := mFun 1 3 m_law_gpen
def m_law_gdraw : MS := msSeq (msIf (mtAnd (mtVal (mOp oGt (mCall bLen [mOp oGet (mVar 0) (mC (.str (Str.ofString "wide")))]) (mC (.int 0)))) (mtVal (mOp oLt (mOp oGet (mOp oGet (mVar 0) (mC (.str (Str.ofString "wide")))) (mC (.int 0))) (mVar 1)))) (msExp (mMeth "list" tPop (mOp oGet (mVar 0) (mC (.str (Str.ofString "wide")))) [mC (.int 0)])) (msNx))
    (msSeq (msIf (mtVal (mOp oGt (mCall bLen [mOp oGet (mVar 0) (mC (.str (Str.ofString "wide")))]) (mC (.int 0)))) (msSeq (msSet 2 (mOp oMod (mOp oGet (mOp oGet (mVar 0) (mC (.str (Str.ofString "wide")))) (mC (.int 0))) (mVar 1)))
    (msSeq (msPut oPut (mOp oGet (mVar 0) (mC (.str (Str.ofString "wide")))) (mC (.int 0)) (mOp oFdiv (mOp oGet (mOp oGet (mVar 0) (mC (.str (Str.ofString "wide")))) (mC (.int 0))) (mVar 1)))
    (msRet (mVar 2)))) (msNx))
    (msSeq (msPut oPut (mVar 0) (mC (.str (Str.ofString "turn"))) (mOp oAdd (mOp oGet (mVar 0) (mC (.str (Str.ofString "turn")))) (mC (.int 1))))
    (msSeq (msSet 3 (mOp oMod (mOp oAdd (mOp oGet (mVar 0) (mC (.str (Str.ofString "mixed")))) (mOp oMul (mOp oMul (mC (.int 7919)) (mOp oGet (mVar 0) (mC (.str (Str.ofString "turn"))))) (mOp oGet (mVar 0) (mC (.str (Str.ofString "turn")))))) (mC (.int 2147483629))))
    (msSeq (msSet 4 (mOp oMod (mOp oAdd (mOp oAdd (mOp oMul (mVar 3) (mVar 3)) (mOp oMul (mC (.int 40692)) (mOp oGet (mVar 0) (mC (.str (Str.ofString "turn")))))) (mC (.int 3))) (mC (.int 998244353))))
    (msRet (mOp oMod (mOp oFdiv (mOp oMod (mOp oAdd (mOp oMul (mVar 4) (mVar 4)) (mVar 3)) (mC (.int 2147483587))) (mC (.int 16))) (mVar 1)))))))
def f_law_gdraw : MF := mFun 2 5 m_law_gdraw
def m_law_gsigns : MS := msSeq (msSet 2 (mC (.str (Str.ofString "abcdefghijklmnopqrstuvwxyz"))))
    (msSeq (msSet 3 (mMeth "str" tJoin (mC (.str (Str.ofString ""))) [mLc (miRng1 (mOp oGet (mLst [mC (.int 0), mC (.int 0), mC (.int 1), mC (.int 2), mC (.int 5)]) (mCall (noE f_law_gdraw) [mVar 0, mC (.int 5)]))) (gN 5) (mtYes) (mOp oGet (mVar 2) (mCall (noE f_law_gdraw) [mVar 0, mC (.int 26)])) [5]]))
    (msSeq (msSet 4 (mCall (noE f_law_gdraw) [mVar 0, mC (.int 26)]))
    (msRet (mLc (miRng1 (mVar 1)) (gN 5) (mtYes) (mOp oAdd (mVar 3) (mOp oGet (mVar 2) (mOp oMod (mOp oAdd (mVar 4) (mOp oMul (mC (.int 7)) (mVar 5))) (mC (.int 26))))) [5]))))
def f_law_gsigns : MF := mFun 2 6 m_law_gsigns
def m_law_gto_end : MS := msSeq (msSet 2 (mLc (miRng1 (mCall bLen [mVar 0])) (gN 1) (mtVal (mOp oGet (mOp oGet (mVar 0) (mVar 1)) (mC (.int 0)))) (mVar 1) [1]))
    (msSeq (msFor (miRng1 (mCall bLen [mVar 0])) (gN 3) (msFor (miRng1 (mCall bLen [mVar 0])) (gN 1) (msIf (mtAnd (mtVal (mOp oNotIn (mVar 1) (mVar 2))) (mtVal (mCall bAny [mLc (miSeq (mOp oGet (mOp oGet (mVar 0) (mVar 1)) (mC (.int 1)))) (gT [gN 4, gN 5]) (mtYes) (mOp oIn (mVar 5) (mVar 2)) [4, 5]]))) (msExp (mMeth "list" tAppend (mVar 2) [mVar 1])) (msNx))))
    (msRet (mVar 2)))
def f_law_gto_end : MF := mFun 1 6 m_law_gto_end
def m_law_gtrim : MS := msSeq (msIf (mtVal (mOp oNotIn (mC (.int 0)) (mCall (noE f_law_gto_end) [mVar 0]))) (msSet 0 (mOp oAdd (mLst [mTup [mC (.bl true), mOp oGet (mOp oGet (mVar 0) (mC (.int 0))) (mC (.int 1))]]) (mSlice (mVar 0) (poS (mC (.int 1))) (poN)))) (msNx))
    (msSeq (msSet 1 (mCall (noE f_law_gto_end) [mVar 0]))
    (msSeq (msSet 2 (mLst [mC (.int 0)]))
    (msSeq (msSet 3 (mC (.int 0)))
    (msSeq (msWhile (mtVal (mOp oLt (mVar 3) (mCall bLen [mVar 2]))) (msSeq (msFor (miSeq (mOp oGet (mOp oGet (mVar 0) (mOp oGet (mVar 2) (mVar 3))) (mC (.int 1)))) (gT [gN 4, gN 5]) (msIf (mtAnd (mtVal (mOp oIn (mVar 5) (mVar 1))) (mtVal (mOp oNotIn (mVar 5) (mVar 2)))) (msExp (mMeth "list" tAppend (mVar 2) [mVar 5])) (msNx)))
    (msSet 3 (mOp oAdd (mVar 3) (mC (.int 1))))))
    (msSeq (msSet 6 (mLst []))
    (msSeq (msFor (miSeq (mVar 2)) (gN 7) (msSeq (msSet 8 (mLc (miSeq (mOp oGet (mOp oGet (mVar 0) (mVar 7)) (mC (.int 1)))) (gT [gN 4, gN 5]) (mtVal (mOp oIn (mVar 5) (mVar 1))) (mTup [mVar 4, mMeth "list" tIndex (mVar 2) [mVar 5]]) [4, 5]))
    (msExp (mMeth "list" tAppend (mVar 6) [mTup [mOp oGet (mOp oGet (mVar 0) (mVar 7)) (mC (.int 0)), mCall bTuple [mVar 8]]]))))
    (msRet (mCall bTuple [mVar 6]))))))))
def f_law_gtrim : MF := mFun 1 9 m_law_gtrim
def m_law_gmachine : MS := msSeq (msSet 3 (mOp oAdd (mC (.int 1)) (mCall (noE f_law_gdraw) [mVar 0, mVar 1])))
    (msSeq (msSet 4 (mOp oAdd (mC (.int 1)) (mCall (noE f_law_gdraw) [mVar 0, mC (.int 4)])))
    (msSeq (msSet 5 (mCall (noE f_law_gdraw) [mVar 0, mC (.int 2)]))
    (msSeq (msSet 6 (mLst []))
    (msSeq (msFor (miRng1 (mVar 3)) (gN 7) (msSeq (msSet 8 (mLst []))
    (msSeq (msFor (miSeq (mCall bSorted [mVar 2])) (gN 9) (msIf (mtVal (mOp oLt (mCall (noE f_law_gdraw) [mVar 0, mC (.int 4)]) (mVar 4))) (msExp (mMeth "list" tAppend (mVar 8) [mTup [mVar 9, mOp oGet (mLst [mCall (noE f_law_gdraw) [mVar 0, mVar 3], mOp oMod (mOp oAdd (mVar 7) (mCall (noE f_law_gdraw) [mVar 0, mC (.int 2)])) (mVar 3)]) (mVar 5)]])) (msNx)))
    (msExp (mMeth "list" tAppend (mVar 6) [mTup [mOp oEq (mCall (noE f_law_gdraw) [mVar 0, mC (.int 3)]) (mC (.int 0)), mCall bTuple [mVar 8]]])))))
    (msRet (mCall (noE f_law_gtrim) [mVar 6]))))))
def f_law_gmachine : MF := mFun 3 10 m_law_gmachine
def m_law_greach : MS := msSeq (msSet 2 (mLst [mVar 1]))
    (msSeq (msSet 3 (mC (.int 0)))
    (msSeq (msWhile (mtVal (mOp oLt (mVar 3) (mCall bLen [mVar 2]))) (msSeq (msFor (miSeq (mOp oGet (mOp oGet (mVar 0) (mOp oGet (mVar 2) (mVar 3))) (mC (.int 1)))) (gT [gN 4, gN 5]) (msIf (mtVal (mOp oNotIn (mVar 5) (mVar 2))) (msExp (mMeth "list" tAppend (mVar 2) [mVar 5])) (msNx)))
    (msSet 3 (mOp oAdd (mVar 3) (mC (.int 1))))))
    (msRet (mVar 2))))
def f_law_greach : MF := mFun 2 6 m_law_greach
def m_law_gorbits : MS := msSeq (msSet 1 (mLst []))
    (msSeq (msFor (miRng1 (mCall bLen [mVar 0])) (gN 2) (msSeq (msSet 3 (mCall bSorted [mLc (miSeq (mCall (noE f_law_greach) [mVar 0, mVar 2])) (gN 4) (mtVal (mOp oIn (mVar 2) (mCall (noE f_law_greach) [mVar 0, mVar 4]))) (mVar 4) [4]]))
    (msIf (mtVal (mOp oNotIn (mVar 3) (mVar 1))) (msExp (mMeth "list" tAppend (mVar 1) [mVar 3])) (msNx))))
    (msRet (mVar 1)))
def f_law_gorbits : MF := mFun 1 5 m_law_gorbits
def m_law_gout : MS := msRet (mTup [mOp oGet (mOp oGet (mVar 0) (mVar 2)) (mC (.int 0)), mLc (miSeq (mOp oGet (mOp oGet (mVar 0) (mVar 2)) (mC (.int 1)))) (gN 3) (mtVal (mOp oNotIn (mOp oGet (mVar 3) (mC (.int 1))) (mVar 1))) (mVar 3) [3]])
def f_law_gout : MF := mFun 3 4 m_law_gout
def m_law_ggates : MS := msRet (mLc (miSeq (mVar 1)) (gN 2) (mtOr (mtVal (mOp oGet (mOp oGet (mVar 0) (mVar 2)) (mC (.int 0)))) (mtVal (mOp oNe (mOp oGet (mCall (noE f_law_gout) [mVar 0, mVar 1, mVar 2]) (mC (.int 1))) (mLst [])))) (mVar 2) [2])
def f_law_ggates : MF := mFun 2 3 m_law_ggates
def m_law_gis_even : MS := msSeq (msSet 2 (mLc (miSeq (mCall (noE f_law_ggates) [mVar 0, mVar 1])) (gN 3) (mtYes) (mCall (noE f_law_gout) [mVar 0, mVar 1, mVar 3]) [3]))
    (msRet (mOr (mOp oEq (mVar 2) (mLst [])) (mOp oEq (mMeth "list" tCount (mVar 2) [mOp oGet (mVar 2) (mC (.int 0))]) (mCall bLen [mVar 2]))))
def f_law_gis_even : MF := mFun 2 4 m_law_gis_even
def m_law_ggoal : MS := msRet (mLc (miSeq (mVar 0)) (gT [gN 2, gN 3]) (mtVal (mOp oEq (mVar 2) (mVar 1))) (mVar 3) [2, 3])
def f_law_ggoal : MF := mFun 2 4 m_law_ggoal
def m_law_gsteady : MS := msSeq (msSet 1 (mLc (miSeq (mVar 0)) (gT [gN 5, gN 6]) (mtVal (mVar 5)) (mVar 6) [5, 6]))
    (msSeq (msSet 2 (mLst []))
    (msSeq (msFor (miSeq (mCall bSorted [mLc (miSeq (mOp oGet (mVar 1) (mC (.int 0)))) (gN 7) (mtYes) (mOp oGet (mVar 7) (mC (.int 0))) [7]])) (gN 3) (msSeq (msSet 4 (mLc (miSeq (mVar 1)) (gN 6) (mtYes) (mCall (noE f_law_ggoal) [mVar 6, mVar 3]) [6]))
    (msIf (mtVal (mOp oEq (mMeth "list" tCount (mVar 4) [mOp oGet (mVar 4) (mC (.int 0))]) (mCall bLen [mVar 4]))) (msExp (mMeth "list" tAppend (mVar 2) [mVar 3])) (msNx))))
    (msRet (mVar 2))))
def f_law_gsteady : MF := mFun 1 8 m_law_gsteady
def m_law_gcut : MS := msSeq (msSet 1 (mCall (noE f_law_gsteady) [mVar 0]))
    (msSeq (msSet 2 (mLst []))
    (msSeq (msFor (miSeq (mVar 0)) (gT [gN 3, gN 4]) (msExp (mMeth "list" tAppend (mVar 2) [mTup [mVar 3, mCall bTuple [mLc (miSeq (mVar 4)) (gN 5) (mtOr (mtNot (mtVal (mVar 3))) (mtVal (mOp oNotIn (mOp oGet (mVar 5) (mC (.int 0))) (mVar 1)))) (mVar 5) [5]]]])))
    (msRet (mCall bTuple [mVar 2]))))
def f_law_gcut : MF := mFun 1 6 m_law_gcut
def m_law_gsame (fself : MF) : MS := msSeq (msIf (mtVal (mOp oIsN (mVar 1) (mC .non))) (msRet (mOp oIsN (mVar 0) (mC .non))) (msNx))
    (msSeq (msIf (mtVal (mCall bIsi [mVar 1, mC (.ty "bool")])) (msRet (mAnd (mCall bIsi [mVar 0, mC (.ty "bool")]) (mOp oEq (mVar 0) (mVar 1)))) (msNx))
    (msSeq (msIf (mtVal (mCall bIsi [mVar 1, mC (.ty "int")])) (msRet (mAnd (mCall bIsi [mVar 0, mC (.ty "int")]) (mAnd (mNot (mCall bIsi [mVar 0, mC (.ty "bool")])) (mOp oEq (mVar 0) (mVar 1))))) (msNx))
    (msSeq (msIf (mtVal (mCall bIsi [mVar 1, mC (.ty "str")])) (msRet (mAnd (mCall bIsi [mVar 0, mC (.ty "str")]) (mOp oEq (mVar 0) (mVar 1)))) (msNx))
    (msSeq (msIf (mtOr (mtVal (mOp oNe (mCall bIsi [mVar 1, mC (.ty "tuple")]) (mCall bIsi [mVar 0, mC (.ty "tuple")]))) (mtVal (mOp oNe (mCall bIsi [mVar 1, mC (.ty "list")]) (mCall bIsi [mVar 0, mC (.ty "list")])))) (msRet (mC (.bl false))) (msNx))
    (msRet (mAnd (mOp oEq (mCall bLen [mVar 0]) (mCall bLen [mVar 1])) (mCall bAll [mLc (miZip (mVar 0) (mVar 1)) (gT [gN 2, gN 3]) (mtYes) (mCall (noE fself) [mVar 2, mVar 3]) [2, 3]])))))))
def f_law_gsame : Nat → MF
  | 0 => fun _ _ => .bad
  | n + 1 => mFun 2 4 (m_law_gsame (f_law_gsame n))
def m_law_galike : MS := msSeq (msSet 2 (mLc (miRng1 (mCall bLen [mVar 1])) (gN 7) (mtVal (mOp oGet (mOp oGet (mVar 1) (mVar 7)) (mC (.int 0)))) (mVar 7) [7]))
    (msSeq (msSet 3 (mOp oGet (mOp oGet (mVar 1) (mOp oGet (mVar 2) (mCall (noE f_law_gdraw) [mVar 0, mCall bLen [mVar 2]]))) (mC (.int 1))))
    (msSeq (msSet 4 (mLst []))
    (msSeq (msFor (miSeq (mVar 1)) (gT [gN 5, gN 6]) (msExp (mMeth "list" tAppend (mVar 4) [mTup [mVar 5, mIf (mtAnd (mtVal (mVar 5)) (mtVal (mOp oGt (mCall (noE f_law_gdraw) [mVar 0, mC (.int 4)]) (mC (.int 0))))) (mVar 3) (mVar 6)]])))
    (msRet (mCall (noE f_law_gtrim) [mVar 4])))))
def f_law_galike : MF := mFun 2 8 m_law_galike
def m_law_gring_right : MS := msSeq (msSet 2 (mOp oAdd (mC (.int 3)) (mCall (noE f_law_gdraw) [mVar 0, mC (.int 88)])))
    (msSeq (msSet 3 (mOp oAdd (mC (.int 1)) (mCall (noE f_law_gdraw) [mVar 0, mOp oSub (mVar 2) (mC (.int 1))])))
    (msSeq (msSet 4 (mLc (miRng1 (mVar 2)) (gN 9) (mtYes) (mTup [mOp oEq (mVar 9) (mC (.int 0)), mTup [mTup [mVar 1, mOp oMod (mOp oAdd (mVar 9) (mC (.int 1))) (mVar 2)]]]) [9]))
    (msSeq (msSet 5 (mLc (miRng1 (mVar 2)) (gN 9) (mtYes) (mTup [mOp oEq (mVar 9) (mOp oSub (mVar 2) (mC (.int 1))), mTup [mTup [mVar 1, mOp oMod (mOp oAdd (mVar 9) (mC (.int 1))) (mVar 2)]]]) [9]))
    (msSeq (msIf (mtNot (mtVal (mCall (noE (f_law_gsame 8)) [mLst [mCall (noE f_steady) [mCall bTuple [mVar 5]], mCall (noE f_cut_orbits) [mCall bTuple [mVar 5]]], mLst [mLst [mVar 1], mLc (miRng1 (mVar 2)) (gN 9) (mtYes) (mLst [mVar 9]) [9]]]))) (msRet (mC (.bl false))) (msNx))
    (msSeq (msSet 6 (mCall (noE f_law_gdraw) [mVar 0, mVar 2]))
    (msSeq (msIf (mtOr (mtVal (mOp oNe (mCall (noE f_cut_gates) [mCall bTuple [mVar 5], mLst [mVar 6]]) (mLst [mVar 6]))) (mtVal (mOp oNotN (mCall (noE f_is_cut_even) [mCall bTuple [mVar 5], mLst [mVar 6]]) (mC (.bl true))))) (msRet (mC (.bl false))) (msNx))
    (msSeq (msPut oPut (mVar 4) (mVar 3) (mTup [mC (.bl true), mOp oGet (mOp oGet (mVar 4) (mVar 3)) (mC (.int 1))]))
    (msSeq (msSet 7 (mCall bTuple [mVar 4]))
    (msSeq (msSet 8 (bListRg (mC (.int 0)) (mVar 2)))
    (msSeq (msIf (mtOr (mtVal (mOp oNe (mCall (noE f_steady) [mVar 7]) (mLst []))) (mtOr (mtVal (mOp oNe (mCall (noE f_cut_orbits) [mVar 7]) (mLst [mVar 8]))) (mtVal (mOp oNe (mCall (noE f_cut_gates) [mVar 7, mCall bList [mVar 8]]) (mLst [mC (.int 0), mVar 3]))))) (msRet (mC (.bl false))) (msNx))
    (msRet (mOp oIsN (mCall (noE f_is_cut_even) [mVar 7, mCall bList [mVar 8]]) (mC (.bl true))))))))))))))
def f_law_gring_right : MF := mFun 2 10 m_law_gring_right
def m_law : MS := msSeq (msSet 1 (mCall (noE f_law_gpen) [mVar 0]))
    (msSeq (msIf (mtNot (mtVal (mCall (noE f_law_gring_right) [mVar 1, mOp oGet (mCall (noE f_law_gsigns) [mVar 1, mC (.int 1)]) (mC (.int 0))]))) (msRet (mC (.bl false))) (msNx))
    (msSeq (msFor (miRng1 (mC (.int 4))) (gN 2) (msSeq (msSet 3 (mCall (noE f_law_gsigns) [mVar 1, mOp oAdd (mC (.int 1)) (mCall (noE f_law_gdraw) [mVar 1, mC (.int 6)])]))
    (msSeq (msSet 4 (mCall (noE f_law_gmachine) [mVar 1, mC (.int 9), mVar 3]))
    (msSeq (msIf (mtVal (mOp oEq (mCall (noE f_law_gdraw) [mVar 1, mC (.int 2)]) (mC (.int 0)))) (msSet 4 (mCall (noE f_law_galike) [mVar 1, mVar 4])) (msNx))
    (msSeq (msSet 5 (mCall (noE f_law_gsteady) [mVar 4]))
    (msSeq (msSet 6 (mCall (noE f_law_gcut) [mVar 4]))
    (msSeq (msFor (miRng1 (mC (.int 2))) (gN 7) (msSeq (msSet 8 (mCall (noE f_steady) [mVar 4]))
    (msSeq (msSet 9 (mCall (noE f_cut_orbits) [mVar 4]))
    (msSeq (msIf (mtOr (mtNot (mtVal (mCall (noE (f_law_gsame 8)) [mVar 8, mVar 5]))) (mtNot (mtVal (mCall (noE (f_law_gsame 8)) [mVar 9, mCall (noE f_law_gorbits) [mVar 6]])))) (msRet (mC (.bl false))) (msNx))
    (msSeq (msExp (mMeth "list" tAppend (mVar 8) [mC (.str (Str.ofString "q"))]))
    (msExp (mMeth "list" tAppend (mOp oGet (mVar 9) (mC (.int 0))) [mC (.int 5)])))))))
    (msFor (miSeq (mCall (noE f_law_gorbits) [mVar 6])) (gN 10) (msSeq (msSet 11 (mCall bList [mVar 10]))
    (msSeq (msFor (miRng1 (mC (.int 2))) (gN 7) (msSeq (msSet 12 (mCall (noE f_cut_gates) [mVar 4, mVar 11]))
    (msSeq (msIf (mtNot (mtVal (mCall (noE (f_law_gsame 8)) [mVar 12, mCall (noE f_law_ggates) [mVar 6, mVar 10]]))) (msRet (mC (.bl false))) (msNx))
    (msExp (mMeth "list" tAppend (mVar 12) [mC (.int 3)])))))
    (msSeq (msIf (mtNot (mtVal (mCall (noE (f_law_gsame 8)) [mCall (noE f_is_cut_even) [mVar 4, mVar 11], mCall (noE f_law_gis_even) [mVar 6, mVar 10]]))) (msRet (mC (.bl false))) (msNx))
    (msIf (mtVal (mOp oNe (mVar 11) (mVar 10))) (msRet (mC (.bl false))) (msNx)))))))))))))
    (msRet (mC (.bl true)))))
def f_law : MF := mFun 1 13 m_law
end
end Mid
namespace Mid
open PySem PySem.Spec L2 Classical
open PyProof.Rows (envOfC)
namespace Tk81
def topS (i : Nat) : Stmt := PySem.Challenge.pw_soleway_k81_steady_signs_and_cuts.main.body.getD i (.Pass ⟨0, 0, 0, 0⟩)
/-- the built-in names that the text doesn't take -/
structure Zs (mg : Str → Option Value) : Prop where
  z_all : mg "all" = none
  z_any : mg "any" = none
  z_bool : mg "bool" = none
  z_dict : mg "dict" = none
  z_int : mg "int" = none
  z_isinstance : mg "isinstance" = none
  z_len : mg "len" = none
  z_list : mg "list" = none
  z_range : mg "range" = none
  z_sorted : mg "sorted" = none
  z_str : mg "str" = none
  z_tuple : mg "tuple" = none
  z_zip : mg "zip" = none
section
variable {P : Program} {w : World} {K : PySem.W.Frag} {mg : Str → Option Value} {base : Heap} {κ : Nat → Addr}
abbrev s_come_to : Stmt := topS 1
abbrev N_come_to : List Str := ["machine", "room", "found", "waiting", "sign", "there"]
theorem sc_come_to : FnScope N_come_to ["machine", "room"] (defScope s_come_to) := ⟨rfl, rfl, rfl, by decide +kernel, rfl, by decide +kernel, by decide +kernel⟩
set_option maxHeartbeats 4000000 in
theorem fn_come_to {f : Addr} {fd : FuncData} (F : Fun K "come_to" "come_to" s_come_to f fd) (G : mg "come_to" = some (.ref f)) (Z : Zs mg) : FnOk P w K mg base CX0 1 f fd ["machine", "room"] (spF0 K κ 2 f_come_to) :=
  fn_ok (κ := κ) F sc_come_to fun cdv A outer s H E hr => ls_cons (ls_set 2 sc_come_to.nd (le_disp (.cons (le_var 1) (le_bl) (.nil))))
    (ls_cons (ls_set 3 sc_come_to.nd (le_lst (la_cons (le_var 1) (la_nil))))
    (ls_cons (ls_while PassesOwn.never (lt_cmp op_gt L_gt (le_callB cr_len L_len (by rfl) Z.z_len (by decide +kernel) (la_cons (le_var 3) (la_nil))) (le_int)) (ls_one (ls_for PassesOwn.never rfl (li_any (le_ix (ix_any (hu1 (hu65 hr))) L_get (le_ix (ix_any (hu1 (hu65 hr))) L_get (le_var 0) (le_meth0 PySem.F.plainAttrs_list PySem.F.slot_list_pop PySem.F.type_list_pop mt_popA L_pop (le_var 3)) (fun _ _ => rfl)) (le_int) (fun _ _ => rfl))) (lg_tup rfl (lgs_cons (lg_name 4 sc_come_to.nd) (lgs_cons (lg_name 5 sc_come_to.nd) (lgs_nil)))) (ls_one (ls_if (lt_cmp (or_notIn (hu65 hr)) L_notIn (le_var 5) (le_var 2)) (ls_cons (ls_put (set_any (hu1 (hu65 hr))) L_put (le_bl) (le_var 2) (le_var 5))
    (ls_one (ls_expr (le_meth PySem.F.plainAttrs_list PySem.F.slot_list_append PySem.F.type_list_append mt_append L_append (le_var 3) (la_cons (le_var 5) (la_nil)))))) (ls_nil))))))
    (ls_one (ls_ret (le_var 2)))))
theorem ok_come_to {f : Addr} {fd : FuncData} (F : Fun K "come_to" "come_to" s_come_to f fd) (G : mg "come_to" = some (.ref f)) (Z : Zs mg) : Cal P w K mg base κ 1 "come_to" 2 f_come_to := ⟨f, fd, _, fn_come_to F G Z, G, F.kp, F.binds (ps := ["machine", "room"]) fun _ _ _ _ _ _ us hl => match us, hl with | [_, _], _ => rfl⟩
abbrev s_orbits : Stmt := topS 2
abbrev N_orbits : List Str := ["machine", "room", "reached", "placed", "found", "orbit", "other"]
theorem sc_orbits : FnScope N_orbits ["machine"] (defScope s_orbits) := ⟨rfl, rfl, rfl, by decide +kernel, rfl, by decide +kernel, by decide +kernel⟩
set_option maxHeartbeats 4000000 in
theorem fn_orbits {f : Addr} {fd : FuncData} (F : Fun K "orbits" "orbits" s_orbits f fd) (G : mg "orbits" = some (.ref f)) (Z : Zs mg) (C_come_to : Cal P w K mg base κ 1 "come_to" 2 f_come_to) : FnOk P w K mg base CX0 2 f fd ["machine"] (spF0 K κ 1 f_orbits) :=
  fn_ok (κ := κ) F sc_orbits fun cdv A outer s H E hr => ls_cons (ls_set 2 sc_orbits.nd (le_lc rfl sc_orbits.nd (li_rng1 (by rfl) Z.z_range (le_callB cr_len L_len (by rfl) Z.z_len (by decide +kernel) (la_cons (le_var 0) (la_nil)))) (blkOk_by (own := [("room", 1)]) (N := N_orbits) (sc := defScope s_orbits) (by decide +kernel)) rfl (by decide) (fun _ _ _ _ _ => lg_name 1 sc_orbits.nd) (fun _ _ _ _ _ => lts_nil) (fun _ _ _ _ _ => le_calC C_come_to (hr.mono (by decide)) (by rfl) (la_cons (le_var 0) (la_cons (le_var 1) (la_nil))))))
    (ls_cons (ls_set 3 sc_orbits.nd (le_dict0))
    (ls_cons (ls_set 4 sc_orbits.nd (le_lst (la_nil)))
    (ls_cons (ls_for PassesOwn.never rfl (li_rng1 (by rfl) Z.z_range (le_callB cr_len L_len (by rfl) Z.z_len (by decide +kernel) (la_cons (le_var 0) (la_nil)))) (lg_name 1 sc_orbits.nd) (ls_one (ls_if (lt_cmp (or_notIn (hu65 hr)) L_notIn (le_var 1) (le_var 3)) (ls_cons (ls_setLc 5 rfl sc_orbits.nd (li_any (le_callB (cr_sortedA rfl) L_sorted (by rfl) Z.z_sorted (by decide +kernel) (la_cons (le_ix (ix_any (hu1 (hu65 hr))) L_get (le_var 2) (le_var 1) (fun _ _ => rfl)) (la_nil)))) (blkOk_by (own := [("other", 6)]) (N := N_orbits) (sc := defScope s_orbits) (by decide +kernel)) rfl (by decide) (fun _ _ _ _ _ => lg_name 6 sc_orbits.nd) (fun _ _ _ _ _ => lts_one (lt_cmp (or_in (hu65 hr)) L_in (le_var 1) (le_ix (ix_any (hu1 (hu65 hr))) L_get (le_var 2) (le_var 6) (fun _ _ => rfl)))) (fun _ _ _ _ _ => le_var 6))
    (ls_cons (ls_expr (le_meth PySem.F.plainAttrs_dict PySem.F.slot_dict_update PySem.F.type_dict_update mt_update L_update (le_var 3) (la_cons (le_callTy (call_dictP rfl) (L_dict rfl) (by rfl) Z.z_dict (by decide +kernel) (la_cons (le_lc rfl sc_orbits.nd (li_any (le_var 5)) (blkOk_by (own := [("other", 6)]) (N := N_orbits) (sc := defScope s_orbits) (by decide +kernel)) rfl (by decide) (fun _ _ _ _ _ => lg_name 6 sc_orbits.nd) (fun _ _ _ _ _ => lts_nil) (fun _ _ _ _ _ => le_tup (la_cons (le_var 6) (la_cons (le_bl) (la_nil))))) (la_nil))) (la_nil))))
    (ls_one (ls_expr (le_meth PySem.F.plainAttrs_list PySem.F.slot_list_append PySem.F.type_list_append mt_append L_append (le_var 4) (la_cons (le_var 5) (la_nil))))))) (ls_nil))))
    (ls_one (ls_ret (le_var 4))))))
theorem ok_orbits {f : Addr} {fd : FuncData} (F : Fun K "orbits" "orbits" s_orbits f fd) (G : mg "orbits" = some (.ref f)) (Z : Zs mg) (C_come_to : Cal P w K mg base κ 1 "come_to" 2 f_come_to) : Cal P w K mg base κ 2 "orbits" 1 f_orbits := ⟨f, fd, _, fn_orbits F G Z C_come_to, G, F.kp, F.binds (ps := ["machine"]) fun _ _ _ _ _ _ us hl => match us, hl with | [_], _ => rfl⟩
abbrev s_leads_out : Stmt := topS 3
abbrev N_leads_out : List Str := ["machine", "orbit", "room", "ends", "some", "step"]
theorem sc_leads_out : FnScope N_leads_out ["machine", "orbit", "room"] (defScope s_leads_out) := ⟨rfl, rfl, rfl, by decide +kernel, rfl, by decide +kernel, by decide +kernel⟩
set_option maxHeartbeats 4000000 in
theorem fn_leads_out {f : Addr} {fd : FuncData} (F : Fun K "leads_out" "leads_out" s_leads_out f fd) (G : mg "leads_out" = some (.ref f)) (Z : Zs mg) : FnOk P w K mg base CX0 1 f fd ["machine", "orbit", "room"] (spF0 K κ 3 f_leads_out) :=
  fn_ok (κ := κ) F sc_leads_out fun cdv A outer s H E hr => ls_cons (ls_asg (le_ix (ix_any (hu1 (hu65 hr))) L_get (le_var 0) (le_var 2) (fun _ _ => rfl)) (lg_tup rfl (lgs_cons (lg_name 3 sc_leads_out.nd) (lgs_cons (lg_name 4 sc_leads_out.nd) (lgs_nil)))))
    (ls_one (ls_ret (le_tup (la_cons (le_var 3) (la_cons (le_callTy call_tuple_of L_tuple (by rfl) Z.z_tuple (by decide +kernel) (la_cons (le_lc rfl sc_leads_out.nd (li_any (le_var 4)) (blkOk_by (own := [("step", 5)]) (N := N_leads_out) (sc := defScope s_leads_out) (by decide +kernel)) rfl (by decide) (fun _ _ _ _ _ => lg_name 5 sc_leads_out.nd) (fun _ _ _ _ _ => lts_one (lt_cmp (or_notIn (hu65 hr)) L_notIn (le_ix (ix_any (hu1 (hu65 hr))) L_get (le_var 5) (le_int) (fun _ _ => rfl)) (le_var 1))) (fun _ _ _ _ _ => le_var 5)) (la_nil))) (la_nil))))))
theorem ok_leads_out {f : Addr} {fd : FuncData} (F : Fun K "leads_out" "leads_out" s_leads_out f fd) (G : mg "leads_out" = some (.ref f)) (Z : Zs mg) : Cal P w K mg base κ 1 "leads_out" 3 f_leads_out := ⟨f, fd, _, fn_leads_out F G Z, G, F.kp, F.binds (ps := ["machine", "orbit", "room"]) fun _ _ _ _ _ _ us hl => match us, hl with | [_, _, _], _ => rfl⟩
abbrev s_gates : Stmt := topS 4
abbrev N_gates : List Str := ["machine", "orbit", "room"]
theorem sc_gates : FnScope N_gates ["machine", "orbit"] (defScope s_gates) := ⟨rfl, rfl, rfl, by decide +kernel, rfl, by decide +kernel, by decide +kernel⟩
set_option maxHeartbeats 4000000 in
theorem fn_gates {f : Addr} {fd : FuncData} (F : Fun K "gates" "gates" s_gates f fd) (G : mg "gates" = some (.ref f)) (Z : Zs mg) (C_leads_out : Cal P w K mg base κ 1 "leads_out" 3 f_leads_out) : FnOk P w K mg base CX0 2 f fd ["machine", "orbit"] (spF0 K κ 2 f_gates) :=
  fn_ok (κ := κ) F sc_gates fun cdv A outer s H E hr => ls_one (ls_ret (le_lc rfl sc_gates.nd (li_any (le_var 1)) (blkOk_by (own := [("room", 2)]) (N := N_gates) (sc := defScope s_gates) (by decide +kernel)) rfl (by decide) (fun _ _ _ _ _ => lg_name 2 sc_gates.nd) (fun _ _ _ _ _ => lts_one (lt_cmp (op_neD hr.units) L_ne (le_calC C_leads_out (hr.mono (by decide)) (by rfl) (la_cons (le_var 0) (la_cons (le_var 1) (la_cons (le_var 2) (la_nil))))) (le_tup (la_cons (le_bl) (la_cons (le_tup (la_nil)) (la_nil)))))) (fun _ _ _ _ _ => le_var 2)))
theorem ok_gates {f : Addr} {fd : FuncData} (F : Fun K "gates" "gates" s_gates f fd) (G : mg "gates" = some (.ref f)) (Z : Zs mg) (C_leads_out : Cal P w K mg base κ 1 "leads_out" 3 f_leads_out) : Cal P w K mg base κ 2 "gates" 2 f_gates := ⟨f, fd, _, fn_gates F G Z C_leads_out, G, F.kp, F.binds (ps := ["machine", "orbit"]) fun _ _ _ _ _ _ us hl => match us, hl with | [_, _], _ => rfl⟩
abbrev s_unlike_gates : Stmt := topS 5
abbrev N_unlike_gates : List Str := ["machine", "orbit", "some", "room"]
theorem sc_unlike_gates : FnScope N_unlike_gates ["machine", "orbit"] (defScope s_unlike_gates) := ⟨rfl, rfl, rfl, by decide +kernel, rfl, by decide +kernel, by decide +kernel⟩
set_option maxHeartbeats 4000000 in
theorem fn_unlike_gates {f : Addr} {fd : FuncData} (F : Fun K "unlike_gates" "unlike_gates" s_unlike_gates f fd) (G : mg "unlike_gates" = some (.ref f)) (Z : Zs mg) (C_gates : Cal P w K mg base κ 2 "gates" 2 f_gates) (C_leads_out : Cal P w K mg base κ 1 "leads_out" 3 f_leads_out) : FnOk P w K mg base CX0 3 f fd ["machine", "orbit"] (spF0 K κ 2 f_unlike_gates) :=
  fn_ok (κ := κ) F sc_unlike_gates fun cdv A outer s H E hr => ls_cons (ls_set 2 sc_unlike_gates.nd (le_calC C_gates (hr.mono (by decide)) (by rfl) (la_cons (le_var 0) (la_cons (le_var 1) (la_nil)))))
    (ls_cons (ls_for PassesOwn.never rfl (li_any (le_var 2)) (lg_name 3 sc_unlike_gates.nd) (ls_one (ls_if (lt_cmp (op_neD hr.units) L_ne (le_calC C_leads_out (hr.mono (by decide)) (by rfl) (la_cons (le_var 0) (la_cons (le_var 1) (la_cons (le_var 3) (la_nil))))) (le_calC C_leads_out (hr.mono (by decide)) (by rfl) (la_cons (le_var 0) (la_cons (le_var 1) (la_cons (le_ix (ix_any (hu1 (hu65 hr))) L_get (le_var 2) (le_int) (fun _ _ => rfl)) (la_nil)))))) (ls_one (ls_ret (le_tup (la_cons (le_ix (ix_any (hu1 (hu65 hr))) L_get (le_var 2) (le_int) (fun _ _ => rfl)) (la_cons (le_var 3) (la_nil)))))) (ls_nil))))
    (ls_one (ls_ret (le_non))))
theorem ok_unlike_gates {f : Addr} {fd : FuncData} (F : Fun K "unlike_gates" "unlike_gates" s_unlike_gates f fd) (G : mg "unlike_gates" = some (.ref f)) (Z : Zs mg) (C_gates : Cal P w K mg base κ 2 "gates" 2 f_gates) (C_leads_out : Cal P w K mg base κ 1 "leads_out" 3 f_leads_out) : Cal P w K mg base κ 3 "unlike_gates" 2 f_unlike_gates := ⟨f, fd, _, fn_unlike_gates F G Z C_gates C_leads_out, G, F.kp, F.binds (ps := ["machine", "orbit"]) fun _ _ _ _ _ _ us hl => match us, hl with | [_, _], _ => rfl⟩
abbrev s_is_even : Stmt := topS 6
abbrev N_is_even : List Str := ["machine", "orbit"]
theorem sc_is_even : FnScope N_is_even ["machine", "orbit"] (defScope s_is_even) := ⟨rfl, rfl, rfl, by decide +kernel, rfl, by decide +kernel, by decide +kernel⟩
set_option maxHeartbeats 4000000 in
theorem fn_is_even {f : Addr} {fd : FuncData} (F : Fun K "is_even" "is_even" s_is_even f fd) (G : mg "is_even" = some (.ref f)) (Z : Zs mg) (C_unlike_gates : Cal P w K mg base κ 3 "unlike_gates" 2 f_unlike_gates) : FnOk P w K mg base CX0 4 f fd ["machine", "orbit"] (spF0 K κ 2 f_is_even) :=
  fn_ok (κ := κ) F sc_is_even fun cdv A outer s H E hr => ls_one (ls_ret (le_cmp or_is L_is (le_calC C_unlike_gates (hr.mono (by decide)) (by rfl) (la_cons (le_var 0) (la_cons (le_var 1) (la_nil)))) (le_non)))
theorem ok_is_even {f : Addr} {fd : FuncData} (F : Fun K "is_even" "is_even" s_is_even f fd) (G : mg "is_even" = some (.ref f)) (Z : Zs mg) (C_unlike_gates : Cal P w K mg base κ 3 "unlike_gates" 2 f_unlike_gates) : Cal P w K mg base κ 4 "is_even" 2 f_is_even := ⟨f, fd, _, fn_is_even F G Z C_unlike_gates, G, F.kp, F.binds (ps := ["machine", "orbit"]) fun _ _ _ _ _ _ us hl => match us, hl with | [_, _], _ => rfl⟩
abbrev s_steady : Stmt := topS 7
abbrev N_steady : List Str := ["machine", "some", "ends", "leads", "step"]
theorem sc_steady : FnScope N_steady ["machine"] (defScope s_steady) := ⟨rfl, rfl, rfl, by decide +kernel, rfl, by decide +kernel, by decide +kernel⟩
set_option maxHeartbeats 4000000 in
theorem fn_steady {f : Addr} {fd : FuncData} (F : Fun K "steady" "steady" s_steady f fd) (G : mg "steady" = some (.ref f)) (Z : Zs mg) : FnOk P w K mg base CX0 1 f fd ["machine"] (spF0 K κ 1 f_steady) :=
  fn_ok (κ := κ) F sc_steady fun cdv A outer s H E hr => ls_cons (ls_set 1 sc_steady.nd (le_lc rfl sc_steady.nd (li_any (le_var 0)) (blkOk_by (own := [("ends", 2), ("leads", 3)]) (N := N_steady) (sc := defScope s_steady) (by decide +kernel)) rfl (by decide) (fun _ _ _ _ _ => lg_tup rfl (lgs_cons (lg_name 2 sc_steady.nd) (lgs_cons (lg_name 3 sc_steady.nd) (lgs_nil)))) (fun _ _ _ _ _ => lts_one (lt_val (le_var 2))) (fun _ _ _ _ _ => le_var 3)))
    (ls_one (ls_ret (le_lc rfl sc_steady.nd (li_any (le_ix (ix_any (hu1 (hu65 hr))) L_get (le_var 1) (le_int) (fun _ _ => rfl))) (blkOk_by (own := [("step", 4)]) (N := N_steady) (sc := defScope s_steady) (by decide +kernel)) rfl (by decide) (fun _ _ _ _ _ => lg_name 4 sc_steady.nd) (fun _ _ _ _ _ => lts_one (lt_val (le_callB (cr_all rfl) L_all (by rfl) Z.z_all (by decide +kernel) (la_cons (le_lc rfl sc_steady.nd (li_any (le_var 1)) (blkOk_in (blkOk_by (own := [("leads", 3)]) (N := N_steady) (by decide +kernel))) rfl (by decide) (fun _ _ _ _ _ => lg_name 3 sc_steady.nd) (fun _ _ _ _ _ => lts_nil) (fun _ _ _ _ _ => le_cmp (or_in (hu65 hr)) L_in (le_var 4) (le_var 3))) (la_nil))))) (fun _ _ _ _ _ => le_ix (ix_any (hu1 (hu65 hr))) L_get (le_var 4) (le_int) (fun _ _ => rfl)))))
theorem ok_steady {f : Addr} {fd : FuncData} (F : Fun K "steady" "steady" s_steady f fd) (G : mg "steady" = some (.ref f)) (Z : Zs mg) : Cal P w K mg base κ 1 "steady" 1 f_steady := ⟨f, fd, _, fn_steady F G Z, G, F.kp, F.binds (ps := ["machine"]) fun _ _ _ _ _ _ us hl => match us, hl with | [_], _ => rfl⟩
abbrev s_cut_machine : Stmt := topS 8
abbrev N_cut_machine : List Str := ["machine", "signs", "found", "ends", "leads", "step"]
theorem sc_cut_machine : FnScope N_cut_machine ["machine"] (defScope s_cut_machine) := ⟨rfl, rfl, rfl, by decide +kernel, rfl, by decide +kernel, by decide +kernel⟩
set_option maxHeartbeats 4000000 in
theorem fn_cut_machine {f : Addr} {fd : FuncData} (F : Fun K "cut_machine" "cut_machine" s_cut_machine f fd) (G : mg "cut_machine" = some (.ref f)) (Z : Zs mg) (C_steady : Cal P w K mg base κ 1 "steady" 1 f_steady) : FnOk P w K mg base CX0 2 f fd ["machine"] (spF0 K κ 1 f_cut_machine) :=
  fn_ok (κ := κ) F sc_cut_machine fun cdv A outer s H E hr => ls_cons (ls_set 1 sc_cut_machine.nd (le_calC C_steady (hr.mono (by decide)) (by rfl) (la_cons (le_var 0) (la_nil))))
    (ls_cons (ls_set 2 sc_cut_machine.nd (le_lst (la_nil)))
    (ls_cons (ls_for PassesOwn.never rfl (li_any (le_var 0)) (lg_tup rfl (lgs_cons (lg_name 3 sc_cut_machine.nd) (lgs_cons (lg_name 4 sc_cut_machine.nd) (lgs_nil)))) (ls_one (ls_expr (le_meth PySem.F.plainAttrs_list PySem.F.slot_list_append PySem.F.type_list_append mt_append L_append (le_var 2) (la_cons (le_tup (la_cons (le_var 3) (la_cons (le_callTy call_tuple_of L_tuple (by rfl) Z.z_tuple (by decide +kernel) (la_cons (le_lc rfl sc_cut_machine.nd (li_any (le_var 4)) (blkOk_by (own := [("step", 5)]) (N := N_cut_machine) (sc := defScope s_cut_machine) (by decide +kernel)) rfl (by decide) (fun _ _ _ _ _ => lg_name 5 sc_cut_machine.nd) (fun _ _ _ _ _ => lts_one (lt_w (lw_or (lt_not (lt_val (le_var 3))) (lw_or1 (lt_cmp (or_notIn (hu65 hr)) L_notIn (le_ix (ix_any (hu1 (hu65 hr))) L_get (le_var 5) (le_int) (fun _ _ => rfl)) (le_var 1)))))) (fun _ _ _ _ _ => le_var 5)) (la_nil))) (la_nil)))) (la_nil))))))
    (ls_one (ls_ret (le_callTy call_tuple_of L_tuple (by rfl) Z.z_tuple (by decide +kernel) (la_cons (le_var 2) (la_nil)))))))
theorem ok_cut_machine {f : Addr} {fd : FuncData} (F : Fun K "cut_machine" "cut_machine" s_cut_machine f fd) (G : mg "cut_machine" = some (.ref f)) (Z : Zs mg) (C_steady : Cal P w K mg base κ 1 "steady" 1 f_steady) : Cal P w K mg base κ 2 "cut_machine" 1 f_cut_machine := ⟨f, fd, _, fn_cut_machine F G Z C_steady, G, F.kp, F.binds (ps := ["machine"]) fun _ _ _ _ _ _ us hl => match us, hl with | [_], _ => rfl⟩
abbrev s_cut_orbits : Stmt := topS 9
abbrev N_cut_orbits : List Str := ["machine"]
theorem sc_cut_orbits : FnScope N_cut_orbits ["machine"] (defScope s_cut_orbits) := ⟨rfl, rfl, rfl, by decide +kernel, rfl, by decide +kernel, by decide +kernel⟩
set_option maxHeartbeats 4000000 in
theorem fn_cut_orbits {f : Addr} {fd : FuncData} (F : Fun K "cut_orbits" "cut_orbits" s_cut_orbits f fd) (G : mg "cut_orbits" = some (.ref f)) (Z : Zs mg) (C_cut_machine : Cal P w K mg base κ 2 "cut_machine" 1 f_cut_machine) (C_orbits : Cal P w K mg base κ 2 "orbits" 1 f_orbits) : FnOk P w K mg base CX0 3 f fd ["machine"] (spF0 K κ 1 f_cut_orbits) :=
  fn_ok (κ := κ) F sc_cut_orbits fun cdv A outer s H E hr => ls_one (ls_ret (le_calC C_orbits (hr.mono (by decide)) (by rfl) (la_cons (le_calC C_cut_machine (hr.mono (by decide)) (by rfl) (la_cons (le_var 0) (la_nil))) (la_nil))))
theorem ok_cut_orbits {f : Addr} {fd : FuncData} (F : Fun K "cut_orbits" "cut_orbits" s_cut_orbits f fd) (G : mg "cut_orbits" = some (.ref f)) (Z : Zs mg) (C_cut_machine : Cal P w K mg base κ 2 "cut_machine" 1 f_cut_machine) (C_orbits : Cal P w K mg base κ 2 "orbits" 1 f_orbits) : Cal P w K mg base κ 3 "cut_orbits" 1 f_cut_orbits := ⟨f, fd, _, fn_cut_orbits F G Z C_cut_machine C_orbits, G, F.kp, F.binds (ps := ["machine"]) fun _ _ _ _ _ _ us hl => match us, hl with | [_], _ => rfl⟩
abbrev s_cut_gates : Stmt := topS 10
abbrev N_cut_gates : List Str := ["machine", "orbit"]
theorem sc_cut_gates : FnScope N_cut_gates ["machine", "orbit"] (defScope s_cut_gates) := ⟨rfl, rfl, rfl, by decide +kernel, rfl, by decide +kernel, by decide +kernel⟩
set_option maxHeartbeats 4000000 in
theorem fn_cut_gates {f : Addr} {fd : FuncData} (F : Fun K "cut_gates" "cut_gates" s_cut_gates f fd) (G : mg "cut_gates" = some (.ref f)) (Z : Zs mg) (C_cut_machine : Cal P w K mg base κ 2 "cut_machine" 1 f_cut_machine) (C_gates : Cal P w K mg base κ 2 "gates" 2 f_gates) : FnOk P w K mg base CX0 3 f fd ["machine", "orbit"] (spF0 K κ 2 f_cut_gates) :=
  fn_ok (κ := κ) F sc_cut_gates fun cdv A outer s H E hr => ls_one (ls_ret (le_calC C_gates (hr.mono (by decide)) (by rfl) (la_cons (le_calC C_cut_machine (hr.mono (by decide)) (by rfl) (la_cons (le_var 0) (la_nil))) (la_cons (le_var 1) (la_nil)))))
theorem ok_cut_gates {f : Addr} {fd : FuncData} (F : Fun K "cut_gates" "cut_gates" s_cut_gates f fd) (G : mg "cut_gates" = some (.ref f)) (Z : Zs mg) (C_cut_machine : Cal P w K mg base κ 2 "cut_machine" 1 f_cut_machine) (C_gates : Cal P w K mg base κ 2 "gates" 2 f_gates) : Cal P w K mg base κ 3 "cut_gates" 2 f_cut_gates := ⟨f, fd, _, fn_cut_gates F G Z C_cut_machine C_gates, G, F.kp, F.binds (ps := ["machine", "orbit"]) fun _ _ _ _ _ _ us hl => match us, hl with | [_, _], _ => rfl⟩
abbrev s_is_cut_even : Stmt := topS 11
abbrev N_is_cut_even : List Str := ["machine", "orbit"]
theorem sc_is_cut_even : FnScope N_is_cut_even ["machine", "orbit"] (defScope s_is_cut_even) := ⟨rfl, rfl, rfl, by decide +kernel, rfl, by decide +kernel, by decide +kernel⟩
set_option maxHeartbeats 4000000 in
theorem fn_is_cut_even {f : Addr} {fd : FuncData} (F : Fun K "is_cut_even" "is_cut_even" s_is_cut_even f fd) (G : mg "is_cut_even" = some (.ref f)) (Z : Zs mg) (C_cut_machine : Cal P w K mg base κ 2 "cut_machine" 1 f_cut_machine) (C_is_even : Cal P w K mg base κ 4 "is_even" 2 f_is_even) : FnOk P w K mg base CX0 5 f fd ["machine", "orbit"] (spF0 K κ 2 f_is_cut_even) :=
  fn_ok (κ := κ) F sc_is_cut_even fun cdv A outer s H E hr => ls_one (ls_ret (le_calC C_is_even (hr.mono (by decide)) (by rfl) (la_cons (le_calC C_cut_machine (hr.mono (by decide)) (by rfl) (la_cons (le_var 0) (la_nil))) (la_cons (le_var 1) (la_nil)))))
theorem ok_is_cut_even {f : Addr} {fd : FuncData} (F : Fun K "is_cut_even" "is_cut_even" s_is_cut_even f fd) (G : mg "is_cut_even" = some (.ref f)) (Z : Zs mg) (C_cut_machine : Cal P w K mg base κ 2 "cut_machine" 1 f_cut_machine) (C_is_even : Cal P w K mg base κ 4 "is_even" 2 f_is_even) : Cal P w K mg base κ 5 "is_cut_even" 2 f_is_cut_even := ⟨f, fd, _, fn_is_cut_even F G Z C_cut_machine C_is_even, G, F.kp, F.binds (ps := ["machine", "orbit"]) fun _ _ _ _ _ _ us hl => match us, hl with | [_, _], _ => rfl⟩
abbrev s_law_gpen : Stmt := topS 13
abbrev N_law_gpen : List Str := ["script", "mixed", "cell"]
theorem sc_law_gpen : FnScope N_law_gpen ["script"] (defScope s_law_gpen) := ⟨rfl, rfl, rfl, by decide +kernel, rfl, by decide +kernel, by decide +kernel⟩
set_option maxHeartbeats 4000000 in
theorem fn_law_gpen {f : Addr} {fd : FuncData} (F : Fun K "_law_gpen" "_law_gpen" s_law_gpen f fd) (G : mg "_law_gpen" = some (.ref f)) (Z : Zs mg) : FnOk P w K mg base CX0 1 f fd ["script"] (spF0 K κ 1 f_law_gpen) :=
  fn_ok (κ := κ) F sc_law_gpen fun cdv A outer s H E hr => ls_cons (ls_set 1 sc_law_gpen.nd (le_int))
    (ls_cons (ls_for PassesOwn.never rfl (li_any (le_var 0)) (lg_name 2 sc_law_gpen.nd) (ls_one (ls_set 1 sc_law_gpen.nd (le_op op_mod L_mod (le_op or_add L_add (le_op or_add L_add (le_op or_mul L_mul (le_var 1) (le_int)) (le_op op_mod L_mod (le_var 2) (le_int))) (le_int)) (le_int)))))
    (ls_one (ls_ret (le_disp (.cons (le_str) (le_var 1) (.cons (le_str) (le_int) (.cons (le_str) (le_lc rfl sc_law_gpen.nd (li_any (le_var 0)) (blkOk_by (own := [("cell", 2)]) (N := N_law_gpen) (sc := defScope s_law_gpen) (by decide +kernel)) rfl (by decide) (fun _ _ _ _ _ => lg_name 2 sc_law_gpen.nd) (fun _ _ _ _ _ => lts_one (lt_cmp op_ge L_ge (le_var 2) (le_op op_pow L_pow (le_int) (le_int)))) (fun _ _ _ _ _ => le_var 2)) (.nil))))))))
theorem ok_law_gpen {f : Addr} {fd : FuncData} (F : Fun K "_law_gpen" "_law_gpen" s_law_gpen f fd) (G : mg "_law_gpen" = some (.ref f)) (Z : Zs mg) : Cal P w K mg base κ 1 "_law_gpen" 1 f_law_gpen := ⟨f, fd, _, fn_law_gpen F G Z, G, F.kp, F.binds (ps := ["script"]) fun _ _ _ _ _ _ us hl => match us, hl with | [_], _ => rfl⟩
abbrev s_law_gdraw : Stmt := topS 14
abbrev N_law_gdraw : List Str := ["pen", "many", "found", "one", "two"]
theorem sc_law_gdraw : FnScope N_law_gdraw ["pen", "many"] (defScope s_law_gdraw) := ⟨rfl, rfl, rfl, by decide +kernel, rfl, by decide +kernel, by decide +kernel⟩
set_option maxHeartbeats 4000000 in
theorem fn_law_gdraw {f : Addr} {fd : FuncData} (F : Fun K "_law_gdraw" "_law_gdraw" s_law_gdraw f fd) (G : mg "_law_gdraw" = some (.ref f)) (Z : Zs mg) : FnOk P w K mg base CX0 1 f fd ["pen", "many"] (spF0 K κ 2 f_law_gdraw) :=
  fn_ok (κ := κ) F sc_law_gdraw fun cdv A outer s H E hr => ls_cons (ls_if (lt_w (lw_and (lt_cmp op_gt L_gt (le_callB cr_len L_len (by rfl) Z.z_len (by decide +kernel) (la_cons (le_ix (ix_any (hu1 (hu65 hr))) L_get (le_var 0) (le_str) (fun _ _ => rfl)) (la_nil))) (le_int)) (lw_and1 (lt_cmp op_lt L_lt (le_ix (ix_any (hu1 (hu65 hr))) L_get (le_ix (ix_any (hu1 (hu65 hr))) L_get (le_var 0) (le_str) (fun _ _ => rfl)) (le_int) (fun _ _ => rfl)) (le_var 1))))) (ls_one (ls_expr (le_meth PySem.F.plainAttrs_list PySem.F.slot_list_pop PySem.F.type_list_pop mt_popA L_pop (le_ix (ix_any (hu1 (hu65 hr))) L_get (le_var 0) (le_str) (fun _ _ => rfl)) (la_cons (le_int) (la_nil))))) (ls_nil))
    (ls_cons (ls_if (lt_cmp op_gt L_gt (le_callB cr_len L_len (by rfl) Z.z_len (by decide +kernel) (la_cons (le_ix (ix_any (hu1 (hu65 hr))) L_get (le_var 0) (le_str) (fun _ _ => rfl)) (la_nil))) (le_int)) (ls_cons (ls_set 2 sc_law_gdraw.nd (le_op op_mod L_mod (le_ix (ix_any (hu1 (hu65 hr))) L_get (le_ix (ix_any (hu1 (hu65 hr))) L_get (le_var 0) (le_str) (fun _ _ => rfl)) (le_int) (fun _ _ => rfl)) (le_var 1)))
    (ls_cons (ls_put (set_any (hu1 (hu65 hr))) L_put (le_op op_fdivW L_fdiv (le_ix (ix_any (hu1 (hu65 hr))) L_get (le_ix (ix_any (hu1 (hu65 hr))) L_get (le_var 0) (le_str) (fun _ _ => rfl)) (le_int) (fun _ _ => rfl)) (le_var 1)) (le_ix (ix_any (hu1 (hu65 hr))) L_get (le_var 0) (le_str) (fun _ _ => rfl)) (le_int))
    (ls_one (ls_ret (le_var 2))))) (ls_nil))
    (ls_cons (ls_put (set_any (hu1 (hu65 hr))) L_put (le_op or_add L_add (le_ix (ix_any (hu1 (hu65 hr))) L_get (le_var 0) (le_str) (fun _ _ => rfl)) (le_int)) (le_var 0) (le_str))
    (ls_cons (ls_set 3 sc_law_gdraw.nd (le_op op_mod L_mod (le_op or_add L_add (le_ix (ix_any (hu1 (hu65 hr))) L_get (le_var 0) (le_str) (fun _ _ => rfl)) (le_op or_mul L_mul (le_op or_mul L_mul (le_int) (le_ix (ix_any (hu1 (hu65 hr))) L_get (le_var 0) (le_str) (fun _ _ => rfl))) (le_ix (ix_any (hu1 (hu65 hr))) L_get (le_var 0) (le_str) (fun _ _ => rfl)))) (le_int)))
    (ls_cons (ls_set 4 sc_law_gdraw.nd (le_op op_mod L_mod (le_op or_add L_add (le_op or_add L_add (le_op or_mul L_mul (le_var 3) (le_var 3)) (le_op or_mul L_mul (le_int) (le_ix (ix_any (hu1 (hu65 hr))) L_get (le_var 0) (le_str) (fun _ _ => rfl)))) (le_int)) (le_int)))
    (ls_one (ls_ret (le_op op_mod L_mod (le_op op_fdivW L_fdiv (le_op op_mod L_mod (le_op or_add L_add (le_op or_mul L_mul (le_var 4) (le_var 4)) (le_var 3)) (le_int)) (le_int)) (le_var 1))))))))
theorem ok_law_gdraw {f : Addr} {fd : FuncData} (F : Fun K "_law_gdraw" "_law_gdraw" s_law_gdraw f fd) (G : mg "_law_gdraw" = some (.ref f)) (Z : Zs mg) : Cal P w K mg base κ 1 "_law_gdraw" 2 f_law_gdraw := ⟨f, fd, _, fn_law_gdraw F G Z, G, F.kp, F.binds (ps := ["pen", "many"]) fun _ _ _ _ _ _ us hl => match us, hl with | [_, _], _ => rfl⟩
abbrev s_law_gsigns : Stmt := topS 15
abbrev N_law_gsigns : List Str := ["pen", "many", "letters", "ahead", "first", "k"]
theorem sc_law_gsigns : FnScope N_law_gsigns ["pen", "many"] (defScope s_law_gsigns) := ⟨rfl, rfl, rfl, by decide +kernel, rfl, by decide +kernel, by decide +kernel⟩
set_option maxHeartbeats 4000000 in
theorem fn_law_gsigns {f : Addr} {fd : FuncData} (F : Fun K "_law_gsigns" "_law_gsigns" s_law_gsigns f fd) (G : mg "_law_gsigns" = some (.ref f)) (Z : Zs mg) (C_law_gdraw : Cal P w K mg base κ 1 "_law_gdraw" 2 f_law_gdraw) : FnOk P w K mg base CX0 2 f fd ["pen", "many"] (spF0 K κ 2 f_law_gsigns) :=
  fn_ok (κ := κ) F sc_law_gsigns fun cdv A outer s H E hr => ls_cons (ls_set 2 sc_law_gsigns.nd (le_str))
    (ls_cons (ls_set 3 sc_law_gsigns.nd (le_meth PySem.F.plainAttrs_str PySem.F.slot_str_join PySem.F.type_str_join mt_join L_join (le_str) (la_cons (le_lc rfl sc_law_gsigns.nd (li_rng1 (by rfl) Z.z_range (le_ix (ix_any (hu1 (hu65 hr))) L_get (le_lst (la_cons (le_int) (la_cons (le_int) (la_cons (le_int) (la_cons (le_int) (la_cons (le_int) (la_nil))))))) (le_calC C_law_gdraw (hr.mono (by decide)) (by rfl) (la_cons (le_var 0) (la_cons (le_int) (la_nil)))) (fun _ _ => rfl))) (blkOk_by (own := [("k", 5)]) (N := N_law_gsigns) (sc := defScope s_law_gsigns) (by decide +kernel)) rfl (by decide) (fun _ _ _ _ _ => lg_name 5 sc_law_gsigns.nd) (fun _ _ _ _ _ => lts_nil) (fun _ _ _ _ _ => le_ix (ix_any (hu1 (hu65 hr))) L_get (le_var 2) (le_calC C_law_gdraw (hr.mono (by decide)) (by rfl) (la_cons (le_var 0) (la_cons (le_int) (la_nil)))) (fun _ _ => rfl))) (la_nil))))
    (ls_cons (ls_set 4 sc_law_gsigns.nd (le_calC C_law_gdraw (hr.mono (by decide)) (by rfl) (la_cons (le_var 0) (la_cons (le_int) (la_nil)))))
    (ls_one (ls_ret (le_lc rfl sc_law_gsigns.nd (li_rng1 (by rfl) Z.z_range (le_var 1)) (blkOk_by (own := [("k", 5)]) (N := N_law_gsigns) (sc := defScope s_law_gsigns) (by decide +kernel)) rfl (by decide) (fun _ _ _ _ _ => lg_name 5 sc_law_gsigns.nd) (fun _ _ _ _ _ => lts_nil) (fun _ _ _ _ _ => le_op or_add L_add (le_var 3) (le_ix (ix_any (hu1 (hu65 hr))) L_get (le_var 2) (le_op op_mod L_mod (le_op or_add L_add (le_var 4) (le_op or_mul L_mul (le_int) (le_var 5))) (le_int)) (fun _ _ => rfl))))))))
theorem ok_law_gsigns {f : Addr} {fd : FuncData} (F : Fun K "_law_gsigns" "_law_gsigns" s_law_gsigns f fd) (G : mg "_law_gsigns" = some (.ref f)) (Z : Zs mg) (C_law_gdraw : Cal P w K mg base κ 1 "_law_gdraw" 2 f_law_gdraw) : Cal P w K mg base κ 2 "_law_gsigns" 2 f_law_gsigns := ⟨f, fd, _, fn_law_gsigns F G Z C_law_gdraw, G, F.kp, F.binds (ps := ["pen", "many"]) fun _ _ _ _ _ _ us hl => match us, hl with | [_, _], _ => rfl⟩
abbrev s_law_gto_end : Stmt := topS 16
abbrev N_law_gto_end : List Str := ["rooms", "k", "found", "turn", "sign", "there"]
theorem sc_law_gto_end : FnScope N_law_gto_end ["rooms"] (defScope s_law_gto_end) := ⟨rfl, rfl, rfl, by decide +kernel, rfl, by decide +kernel, by decide +kernel⟩
set_option maxHeartbeats 4000000 in
theorem fn_law_gto_end {f : Addr} {fd : FuncData} (F : Fun K "_law_gto_end" "_law_gto_end" s_law_gto_end f fd) (G : mg "_law_gto_end" = some (.ref f)) (Z : Zs mg) : FnOk P w K mg base CX0 1 f fd ["rooms"] (spF0 K κ 1 f_law_gto_end) :=
  fn_ok (κ := κ) F sc_law_gto_end fun cdv A outer s H E hr => ls_cons (ls_set 2 sc_law_gto_end.nd (le_lc rfl sc_law_gto_end.nd (li_rng1 (by rfl) Z.z_range (le_callB cr_len L_len (by rfl) Z.z_len (by decide +kernel) (la_cons (le_var 0) (la_nil)))) (blkOk_by (own := [("k", 1)]) (N := N_law_gto_end) (sc := defScope s_law_gto_end) (by decide +kernel)) rfl (by decide) (fun _ _ _ _ _ => lg_name 1 sc_law_gto_end.nd) (fun _ _ _ _ _ => lts_one (lt_val (le_ix (ix_any (hu1 (hu65 hr))) L_get (le_ix (ix_any (hu1 (hu65 hr))) L_get (le_var 0) (le_var 1) (fun _ _ => rfl)) (le_int) (fun _ _ => rfl)))) (fun _ _ _ _ _ => le_var 1)))
    (ls_cons (ls_for PassesOwn.never rfl (li_rng1 (by rfl) Z.z_range (le_callB cr_len L_len (by rfl) Z.z_len (by decide +kernel) (la_cons (le_var 0) (la_nil)))) (lg_name 3 sc_law_gto_end.nd) (ls_one (ls_for PassesOwn.never rfl (li_rng1 (by rfl) Z.z_range (le_callB cr_len L_len (by rfl) Z.z_len (by decide +kernel) (la_cons (le_var 0) (la_nil)))) (lg_name 1 sc_law_gto_end.nd) (ls_one (ls_if (lt_w (lw_and (lt_cmp (or_notIn (hu65 hr)) L_notIn (le_var 1) (le_var 2)) (lw_and1 (lt_val (le_callB (cr_any rfl) L_any (by rfl) Z.z_any (by decide +kernel) (la_cons (le_lc rfl sc_law_gto_end.nd (li_any (le_ix (ix_any (hu1 (hu65 hr))) L_get (le_ix (ix_any (hu1 (hu65 hr))) L_get (le_var 0) (le_var 1) (fun _ _ => rfl)) (le_int) (fun _ _ => rfl))) (blkOk_by (own := [("sign", 4), ("there", 5)]) (N := N_law_gto_end) (sc := defScope s_law_gto_end) (by decide +kernel)) rfl (by decide) (fun _ _ _ _ _ => lg_tup rfl (lgs_cons (lg_name 4 sc_law_gto_end.nd) (lgs_cons (lg_name 5 sc_law_gto_end.nd) (lgs_nil)))) (fun _ _ _ _ _ => lts_nil) (fun _ _ _ _ _ => le_cmp (or_in (hu65 hr)) L_in (le_var 5) (le_var 2))) (la_nil))))))) (ls_one (ls_expr (le_meth PySem.F.plainAttrs_list PySem.F.slot_list_append PySem.F.type_list_append mt_append L_append (le_var 2) (la_cons (le_var 1) (la_nil))))) (ls_nil))))))
    (ls_one (ls_ret (le_var 2))))
theorem ok_law_gto_end {f : Addr} {fd : FuncData} (F : Fun K "_law_gto_end" "_law_gto_end" s_law_gto_end f fd) (G : mg "_law_gto_end" = some (.ref f)) (Z : Zs mg) : Cal P w K mg base κ 1 "_law_gto_end" 1 f_law_gto_end := ⟨f, fd, _, fn_law_gto_end F G Z, G, F.kp, F.binds (ps := ["rooms"]) fun _ _ _ _ _ _ us hl => match us, hl with | [_], _ => rfl⟩
abbrev s_law_gtrim : Stmt := topS 17
abbrev N_law_gtrim : List Str := ["rooms", "good", "order", "at", "sign", "there", "found", "k", "leads"]
theorem sc_law_gtrim : FnScope N_law_gtrim ["rooms"] (defScope s_law_gtrim) := ⟨rfl, rfl, rfl, by decide +kernel, rfl, by decide +kernel, by decide +kernel⟩
set_option maxHeartbeats 4000000 in
theorem fn_law_gtrim {f : Addr} {fd : FuncData} (F : Fun K "_law_gtrim" "_law_gtrim" s_law_gtrim f fd) (G : mg "_law_gtrim" = some (.ref f)) (Z : Zs mg) (C_law_gto_end : Cal P w K mg base κ 1 "_law_gto_end" 1 f_law_gto_end) : FnOk P w K mg base CX0 2 f fd ["rooms"] (spF0 K κ 1 f_law_gtrim) :=
  fn_ok (κ := κ) F sc_law_gtrim fun cdv A outer s H E hr => ls_cons (ls_if (lt_cmp (or_notIn (hu65 hr)) L_notIn (le_int) (le_calC C_law_gto_end (hr.mono (by decide)) (by rfl) (la_cons (le_var 0) (la_nil)))) (ls_one (ls_set 0 sc_law_gtrim.nd (le_op or_add L_add (le_lst (la_cons (le_tup (la_cons (le_bl) (la_cons (le_ix (ix_any (hu1 (hu65 hr))) L_get (le_ix (ix_any (hu1 (hu65 hr))) L_get (le_var 0) (le_int) (fun _ _ => rfl)) (le_int) (fun _ _ => rfl)) (la_nil)))) (la_nil))) (le_slice (le_var 0) (lo_some (le_int)) (lo_none))))) (ls_nil))
    (ls_cons (ls_set 1 sc_law_gtrim.nd (le_calC C_law_gto_end (hr.mono (by decide)) (by rfl) (la_cons (le_var 0) (la_nil))))
    (ls_cons (ls_set 2 sc_law_gtrim.nd (le_lst (la_cons (le_int) (la_nil))))
    (ls_cons (ls_set 3 sc_law_gtrim.nd (le_int))
    (ls_cons (ls_while PassesOwn.never (lt_cmp op_lt L_lt (le_var 3) (le_callB cr_len L_len (by rfl) Z.z_len (by decide +kernel) (la_cons (le_var 2) (la_nil)))) (ls_cons (ls_for PassesOwn.never rfl (li_any (le_ix (ix_any (hu1 (hu65 hr))) L_get (le_ix (ix_any (hu1 (hu65 hr))) L_get (le_var 0) (le_ix (ix_any (hu1 (hu65 hr))) L_get (le_var 2) (le_var 3) (fun _ _ => rfl)) (fun _ _ => rfl)) (le_int) (fun _ _ => rfl))) (lg_tup rfl (lgs_cons (lg_name 4 sc_law_gtrim.nd) (lgs_cons (lg_name 5 sc_law_gtrim.nd) (lgs_nil)))) (ls_one (ls_if (lt_w (lw_and (lt_cmp (or_in (hu65 hr)) L_in (le_var 5) (le_var 1)) (lw_and1 (lt_cmp (or_notIn (hu65 hr)) L_notIn (le_var 5) (le_var 2))))) (ls_one (ls_expr (le_meth PySem.F.plainAttrs_list PySem.F.slot_list_append PySem.F.type_list_append mt_append L_append (le_var 2) (la_cons (le_var 5) (la_nil))))) (ls_nil))))
    (ls_one (ls_set 3 sc_law_gtrim.nd (le_op or_add L_add (le_var 3) (le_int))))))
    (ls_cons (ls_set 6 sc_law_gtrim.nd (le_lst (la_nil)))
    (ls_cons (ls_for PassesOwn.never rfl (li_any (le_var 2)) (lg_name 7 sc_law_gtrim.nd) (ls_cons (ls_setLc 8 rfl sc_law_gtrim.nd (li_any (le_ix (ix_any (hu1 (hu65 hr))) L_get (le_ix (ix_any (hu1 (hu65 hr))) L_get (le_var 0) (le_var 7) (fun _ _ => rfl)) (le_int) (fun _ _ => rfl))) (blkOk_by (own := [("sign", 4), ("there", 5)]) (N := N_law_gtrim) (sc := defScope s_law_gtrim) (by decide +kernel)) rfl (by decide) (fun _ _ _ _ _ => lg_tup rfl (lgs_cons (lg_name 4 sc_law_gtrim.nd) (lgs_cons (lg_name 5 sc_law_gtrim.nd) (lgs_nil)))) (fun _ _ _ _ _ => lts_one (lt_cmp (or_in (hu65 hr)) L_in (le_var 5) (le_var 1))) (fun _ _ _ _ _ => le_tup (la_cons (le_var 4) (la_cons (le_meth PySem.F.plainAttrs_list PySem.F.slot_list_index PySem.F.type_list_index (mt_indexD (hu65 hr)) L_index (le_var 2) (la_cons (le_var 5) (la_nil))) (la_nil)))))
    (ls_one (ls_expr (le_meth PySem.F.plainAttrs_list PySem.F.slot_list_append PySem.F.type_list_append mt_append L_append (le_var 6) (la_cons (le_tup (la_cons (le_ix (ix_any (hu1 (hu65 hr))) L_get (le_ix (ix_any (hu1 (hu65 hr))) L_get (le_var 0) (le_var 7) (fun _ _ => rfl)) (le_int) (fun _ _ => rfl)) (la_cons (le_callTy call_tuple_of L_tuple (by rfl) Z.z_tuple (by decide +kernel) (la_cons (le_var 8) (la_nil))) (la_nil)))) (la_nil)))))))
    (ls_one (ls_ret (le_callTy call_tuple_of L_tuple (by rfl) Z.z_tuple (by decide +kernel) (la_cons (le_var 6) (la_nil)))))))))))
theorem ok_law_gtrim {f : Addr} {fd : FuncData} (F : Fun K "_law_gtrim" "_law_gtrim" s_law_gtrim f fd) (G : mg "_law_gtrim" = some (.ref f)) (Z : Zs mg) (C_law_gto_end : Cal P w K mg base κ 1 "_law_gto_end" 1 f_law_gto_end) : Cal P w K mg base κ 2 "_law_gtrim" 1 f_law_gtrim := ⟨f, fd, _, fn_law_gtrim F G Z C_law_gto_end, G, F.kp, F.binds (ps := ["rooms"]) fun _ _ _ _ _ _ us hl => match us, hl with | [_], _ => rfl⟩
abbrev s_law_gmachine : Stmt := topS 18
abbrev N_law_gmachine : List Str := ["pen", "most", "signs", "many", "often", "near", "rooms", "k", "leads", "sign"]
theorem sc_law_gmachine : FnScope N_law_gmachine ["pen", "most", "signs"] (defScope s_law_gmachine) := ⟨rfl, rfl, rfl, by decide +kernel, rfl, by decide +kernel, by decide +kernel⟩
set_option maxHeartbeats 4000000 in
theorem fn_law_gmachine {f : Addr} {fd : FuncData} (F : Fun K "_law_gmachine" "_law_gmachine" s_law_gmachine f fd) (G : mg "_law_gmachine" = some (.ref f)) (Z : Zs mg) (C_law_gdraw : Cal P w K mg base κ 1 "_law_gdraw" 2 f_law_gdraw) (C_law_gtrim : Cal P w K mg base κ 2 "_law_gtrim" 1 f_law_gtrim) : FnOk P w K mg base CX0 3 f fd ["pen", "most", "signs"] (spF0 K κ 3 f_law_gmachine) :=
  fn_ok (κ := κ) F sc_law_gmachine fun cdv A outer s H E hr => ls_cons (ls_set 3 sc_law_gmachine.nd (le_op or_add L_add (le_int) (le_calC C_law_gdraw (hr.mono (by decide)) (by rfl) (la_cons (le_var 0) (la_cons (le_var 1) (la_nil))))))
    (ls_cons (ls_set 4 sc_law_gmachine.nd (le_op or_add L_add (le_int) (le_calC C_law_gdraw (hr.mono (by decide)) (by rfl) (la_cons (le_var 0) (la_cons (le_int) (la_nil))))))
    (ls_cons (ls_set 5 sc_law_gmachine.nd (le_calC C_law_gdraw (hr.mono (by decide)) (by rfl) (la_cons (le_var 0) (la_cons (le_int) (la_nil)))))
    (ls_cons (ls_set 6 sc_law_gmachine.nd (le_lst (la_nil)))
    (ls_cons (ls_for PassesOwn.never rfl (li_rng1 (by rfl) Z.z_range (le_var 3)) (lg_name 7 sc_law_gmachine.nd) (ls_cons (ls_set 8 sc_law_gmachine.nd (le_lst (la_nil)))
    (ls_cons (ls_for PassesOwn.never rfl (li_any (le_callB (cr_sortedA rfl) L_sorted (by rfl) Z.z_sorted (by decide +kernel) (la_cons (le_var 2) (la_nil)))) (lg_name 9 sc_law_gmachine.nd) (ls_one (ls_if (lt_cmp op_lt L_lt (le_calC C_law_gdraw (hr.mono (by decide)) (by rfl) (la_cons (le_var 0) (la_cons (le_int) (la_nil)))) (le_var 4)) (ls_one (ls_expr (le_meth PySem.F.plainAttrs_list PySem.F.slot_list_append PySem.F.type_list_append mt_append L_append (le_var 8) (la_cons (le_tup (la_cons (le_var 9) (la_cons (le_ix (ix_any (hu1 (hu65 hr))) L_get (le_lst (la_cons (le_calC C_law_gdraw (hr.mono (by decide)) (by rfl) (la_cons (le_var 0) (la_cons (le_var 3) (la_nil)))) (la_cons (le_op op_mod L_mod (le_op or_add L_add (le_var 7) (le_calC C_law_gdraw (hr.mono (by decide)) (by rfl) (la_cons (le_var 0) (la_cons (le_int) (la_nil))))) (le_var 3)) (la_nil)))) (le_var 5) (fun _ _ => rfl)) (la_nil)))) (la_nil))))) (ls_nil))))
    (ls_one (ls_expr (le_meth PySem.F.plainAttrs_list PySem.F.slot_list_append PySem.F.type_list_append mt_append L_append (le_var 6) (la_cons (le_tup (la_cons (le_cmp (op_eqD hr.units) L_eq (le_calC C_law_gdraw (hr.mono (by decide)) (by rfl) (la_cons (le_var 0) (la_cons (le_int) (la_nil)))) (le_int)) (la_cons (le_callTy call_tuple_of L_tuple (by rfl) Z.z_tuple (by decide +kernel) (la_cons (le_var 8) (la_nil))) (la_nil)))) (la_nil))))))))
    (ls_one (ls_ret (le_calC C_law_gtrim (hr.mono (by decide)) (by rfl) (la_cons (le_var 6) (la_nil)))))))))
theorem ok_law_gmachine {f : Addr} {fd : FuncData} (F : Fun K "_law_gmachine" "_law_gmachine" s_law_gmachine f fd) (G : mg "_law_gmachine" = some (.ref f)) (Z : Zs mg) (C_law_gdraw : Cal P w K mg base κ 1 "_law_gdraw" 2 f_law_gdraw) (C_law_gtrim : Cal P w K mg base κ 2 "_law_gtrim" 1 f_law_gtrim) : Cal P w K mg base κ 3 "_law_gmachine" 3 f_law_gmachine := ⟨f, fd, _, fn_law_gmachine F G Z C_law_gdraw C_law_gtrim, G, F.kp, F.binds (ps := ["pen", "most", "signs"]) fun _ _ _ _ _ _ us hl => match us, hl with | [_, _, _], _ => rfl⟩
abbrev s_law_greach : Stmt := topS 19
abbrev N_law_greach : List Str := ["rooms", "k", "found", "at", "sign", "there"]
theorem sc_law_greach : FnScope N_law_greach ["rooms", "k"] (defScope s_law_greach) := ⟨rfl, rfl, rfl, by decide +kernel, rfl, by decide +kernel, by decide +kernel⟩
set_option maxHeartbeats 4000000 in
theorem fn_law_greach {f : Addr} {fd : FuncData} (F : Fun K "_law_greach" "_law_greach" s_law_greach f fd) (G : mg "_law_greach" = some (.ref f)) (Z : Zs mg) : FnOk P w K mg base CX0 1 f fd ["rooms", "k"] (spF0 K κ 2 f_law_greach) :=
  fn_ok (κ := κ) F sc_law_greach fun cdv A outer s H E hr => ls_cons (ls_set 2 sc_law_greach.nd (le_lst (la_cons (le_var 1) (la_nil))))
    (ls_cons (ls_set 3 sc_law_greach.nd (le_int))
    (ls_cons (ls_while PassesOwn.never (lt_cmp op_lt L_lt (le_var 3) (le_callB cr_len L_len (by rfl) Z.z_len (by decide +kernel) (la_cons (le_var 2) (la_nil)))) (ls_cons (ls_for PassesOwn.never rfl (li_any (le_ix (ix_any (hu1 (hu65 hr))) L_get (le_ix (ix_any (hu1 (hu65 hr))) L_get (le_var 0) (le_ix (ix_any (hu1 (hu65 hr))) L_get (le_var 2) (le_var 3) (fun _ _ => rfl)) (fun _ _ => rfl)) (le_int) (fun _ _ => rfl))) (lg_tup rfl (lgs_cons (lg_name 4 sc_law_greach.nd) (lgs_cons (lg_name 5 sc_law_greach.nd) (lgs_nil)))) (ls_one (ls_if (lt_cmp (or_notIn (hu65 hr)) L_notIn (le_var 5) (le_var 2)) (ls_one (ls_expr (le_meth PySem.F.plainAttrs_list PySem.F.slot_list_append PySem.F.type_list_append mt_append L_append (le_var 2) (la_cons (le_var 5) (la_nil))))) (ls_nil))))
    (ls_one (ls_set 3 sc_law_greach.nd (le_op or_add L_add (le_var 3) (le_int))))))
    (ls_one (ls_ret (le_var 2)))))
theorem ok_law_greach {f : Addr} {fd : FuncData} (F : Fun K "_law_greach" "_law_greach" s_law_greach f fd) (G : mg "_law_greach" = some (.ref f)) (Z : Zs mg) : Cal P w K mg base κ 1 "_law_greach" 2 f_law_greach := ⟨f, fd, _, fn_law_greach F G Z, G, F.kp, F.binds (ps := ["rooms", "k"]) fun _ _ _ _ _ _ us hl => match us, hl with | [_, _], _ => rfl⟩
abbrev s_law_gorbits : Stmt := topS 20
abbrev N_law_gorbits : List Str := ["rooms", "found", "k", "orbit", "other"]
theorem sc_law_gorbits : FnScope N_law_gorbits ["rooms"] (defScope s_law_gorbits) := ⟨rfl, rfl, rfl, by decide +kernel, rfl, by decide +kernel, by decide +kernel⟩
set_option maxHeartbeats 4000000 in
theorem fn_law_gorbits {f : Addr} {fd : FuncData} (F : Fun K "_law_gorbits" "_law_gorbits" s_law_gorbits f fd) (G : mg "_law_gorbits" = some (.ref f)) (Z : Zs mg) (C_law_greach : Cal P w K mg base κ 1 "_law_greach" 2 f_law_greach) : FnOk P w K mg base CX0 2 f fd ["rooms"] (spF0 K κ 1 f_law_gorbits) :=
  fn_ok (κ := κ) F sc_law_gorbits fun cdv A outer s H E hr => ls_cons (ls_set 1 sc_law_gorbits.nd (le_lst (la_nil)))
    (ls_cons (ls_for PassesOwn.never rfl (li_rng1 (by rfl) Z.z_range (le_callB cr_len L_len (by rfl) Z.z_len (by decide +kernel) (la_cons (le_var 0) (la_nil)))) (lg_name 2 sc_law_gorbits.nd) (ls_cons (ls_set 3 sc_law_gorbits.nd (le_callB (cr_sortedA rfl) L_sorted (by rfl) Z.z_sorted (by decide +kernel) (la_cons (le_lc rfl sc_law_gorbits.nd (li_any (le_calC C_law_greach (hr.mono (by decide)) (by rfl) (la_cons (le_var 0) (la_cons (le_var 2) (la_nil))))) (blkOk_by (own := [("other", 4)]) (N := N_law_gorbits) (sc := defScope s_law_gorbits) (by decide +kernel)) rfl (by decide) (fun _ _ _ _ _ => lg_name 4 sc_law_gorbits.nd) (fun _ _ _ _ _ => lts_one (lt_cmp (or_in (hu65 hr)) L_in (le_var 2) (le_calC C_law_greach (hr.mono (by decide)) (by rfl) (la_cons (le_var 0) (la_cons (le_var 4) (la_nil)))))) (fun _ _ _ _ _ => le_var 4)) (la_nil))))
    (ls_one (ls_if (lt_cmp (or_notIn (hu65 hr)) L_notIn (le_var 3) (le_var 1)) (ls_one (ls_expr (le_meth PySem.F.plainAttrs_list PySem.F.slot_list_append PySem.F.type_list_append mt_append L_append (le_var 1) (la_cons (le_var 3) (la_nil))))) (ls_nil)))))
    (ls_one (ls_ret (le_var 1))))
theorem ok_law_gorbits {f : Addr} {fd : FuncData} (F : Fun K "_law_gorbits" "_law_gorbits" s_law_gorbits f fd) (G : mg "_law_gorbits" = some (.ref f)) (Z : Zs mg) (C_law_greach : Cal P w K mg base κ 1 "_law_greach" 2 f_law_greach) : Cal P w K mg base κ 2 "_law_gorbits" 1 f_law_gorbits := ⟨f, fd, _, fn_law_gorbits F G Z C_law_greach, G, F.kp, F.binds (ps := ["rooms"]) fun _ _ _ _ _ _ us hl => match us, hl with | [_], _ => rfl⟩
abbrev s_law_gout : Stmt := topS 21
abbrev N_law_gout : List Str := ["rooms", "orbit", "k", "step"]
theorem sc_law_gout : FnScope N_law_gout ["rooms", "orbit", "k"] (defScope s_law_gout) := ⟨rfl, rfl, rfl, by decide +kernel, rfl, by decide +kernel, by decide +kernel⟩
set_option maxHeartbeats 4000000 in
theorem fn_law_gout {f : Addr} {fd : FuncData} (F : Fun K "_law_gout" "_law_gout" s_law_gout f fd) (G : mg "_law_gout" = some (.ref f)) (Z : Zs mg) : FnOk P w K mg base CX0 1 f fd ["rooms", "orbit", "k"] (spF0 K κ 3 f_law_gout) :=
  fn_ok (κ := κ) F sc_law_gout fun cdv A outer s H E hr => ls_one (ls_ret (le_tup (la_cons (le_ix (ix_any (hu1 (hu65 hr))) L_get (le_ix (ix_any (hu1 (hu65 hr))) L_get (le_var 0) (le_var 2) (fun _ _ => rfl)) (le_int) (fun _ _ => rfl)) (la_cons (le_lc rfl sc_law_gout.nd (li_any (le_ix (ix_any (hu1 (hu65 hr))) L_get (le_ix (ix_any (hu1 (hu65 hr))) L_get (le_var 0) (le_var 2) (fun _ _ => rfl)) (le_int) (fun _ _ => rfl))) (blkOk_by (own := [("step", 3)]) (N := N_law_gout) (sc := defScope s_law_gout) (by decide +kernel)) rfl (by decide) (fun _ _ _ _ _ => lg_name 3 sc_law_gout.nd) (fun _ _ _ _ _ => lts_one (lt_cmp (or_notIn (hu65 hr)) L_notIn (le_ix (ix_any (hu1 (hu65 hr))) L_get (le_var 3) (le_int) (fun _ _ => rfl)) (le_var 1))) (fun _ _ _ _ _ => le_var 3)) (la_nil)))))
theorem ok_law_gout {f : Addr} {fd : FuncData} (F : Fun K "_law_gout" "_law_gout" s_law_gout f fd) (G : mg "_law_gout" = some (.ref f)) (Z : Zs mg) : Cal P w K mg base κ 1 "_law_gout" 3 f_law_gout := ⟨f, fd, _, fn_law_gout F G Z, G, F.kp, F.binds (ps := ["rooms", "orbit", "k"]) fun _ _ _ _ _ _ us hl => match us, hl with | [_, _, _], _ => rfl⟩
abbrev s_law_ggates : Stmt := topS 22
abbrev N_law_ggates : List Str := ["rooms", "orbit", "k"]
theorem sc_law_ggates : FnScope N_law_ggates ["rooms", "orbit"] (defScope s_law_ggates) := ⟨rfl, rfl, rfl, by decide +kernel, rfl, by decide +kernel, by decide +kernel⟩
set_option maxHeartbeats 4000000 in
theorem fn_law_ggates {f : Addr} {fd : FuncData} (F : Fun K "_law_ggates" "_law_ggates" s_law_ggates f fd) (G : mg "_law_ggates" = some (.ref f)) (Z : Zs mg) (C_law_gout : Cal P w K mg base κ 1 "_law_gout" 3 f_law_gout) : FnOk P w K mg base CX0 2 f fd ["rooms", "orbit"] (spF0 K κ 2 f_law_ggates) :=
  fn_ok (κ := κ) F sc_law_ggates fun cdv A outer s H E hr => ls_one (ls_ret (le_lc rfl sc_law_ggates.nd (li_any (le_var 1)) (blkOk_by (own := [("k", 2)]) (N := N_law_ggates) (sc := defScope s_law_ggates) (by decide +kernel)) rfl (by decide) (fun _ _ _ _ _ => lg_name 2 sc_law_ggates.nd) (fun _ _ _ _ _ => lts_one (lt_w (lw_or (lt_val (le_ix (ix_any (hu1 (hu65 hr))) L_get (le_ix (ix_any (hu1 (hu65 hr))) L_get (le_var 0) (le_var 2) (fun _ _ => rfl)) (le_int) (fun _ _ => rfl))) (lw_or1 (lt_cmp (op_neD hr.units) L_ne (le_ix (ix_any (hu1 (hu65 hr))) L_get (le_calC C_law_gout (hr.mono (by decide)) (by rfl) (la_cons (le_var 0) (la_cons (le_var 1) (la_cons (le_var 2) (la_nil))))) (le_int) (fun _ _ => rfl)) (le_lst (la_nil))))))) (fun _ _ _ _ _ => le_var 2)))
theorem ok_law_ggates {f : Addr} {fd : FuncData} (F : Fun K "_law_ggates" "_law_ggates" s_law_ggates f fd) (G : mg "_law_ggates" = some (.ref f)) (Z : Zs mg) (C_law_gout : Cal P w K mg base κ 1 "_law_gout" 3 f_law_gout) : Cal P w K mg base κ 2 "_law_ggates" 2 f_law_ggates := ⟨f, fd, _, fn_law_ggates F G Z C_law_gout, G, F.kp, F.binds (ps := ["rooms", "orbit"]) fun _ _ _ _ _ _ us hl => match us, hl with | [_, _], _ => rfl⟩
abbrev s_law_gis_even : Stmt := topS 23
abbrev N_law_gis_even : List Str := ["rooms", "orbit", "outs", "k"]
theorem sc_law_gis_even : FnScope N_law_gis_even ["rooms", "orbit"] (defScope s_law_gis_even) := ⟨rfl, rfl, rfl, by decide +kernel, rfl, by decide +kernel, by decide +kernel⟩
set_option maxHeartbeats 4000000 in
theorem fn_law_gis_even {f : Addr} {fd : FuncData} (F : Fun K "_law_gis_even" "_law_gis_even" s_law_gis_even f fd) (G : mg "_law_gis_even" = some (.ref f)) (Z : Zs mg) (C_law_ggates : Cal P w K mg base κ 2 "_law_ggates" 2 f_law_ggates) (C_law_gout : Cal P w K mg base κ 1 "_law_gout" 3 f_law_gout) : FnOk P w K mg base CX0 3 f fd ["rooms", "orbit"] (spF0 K κ 2 f_law_gis_even) :=
  fn_ok (κ := κ) F sc_law_gis_even fun cdv A outer s H E hr => ls_cons (ls_setLc 2 rfl sc_law_gis_even.nd (li_any (le_calC C_law_ggates (hr.mono (by decide)) (by rfl) (la_cons (le_var 0) (la_cons (le_var 1) (la_nil))))) (blkOk_by (own := [("k", 3)]) (N := N_law_gis_even) (sc := defScope s_law_gis_even) (by decide +kernel)) rfl (by decide) (fun _ _ _ _ _ => lg_name 3 sc_law_gis_even.nd) (fun _ _ _ _ _ => lts_nil) (fun _ _ _ _ _ => le_calC C_law_gout (hr.mono (by decide)) (by rfl) (la_cons (le_var 0) (la_cons (le_var 1) (la_cons (le_var 3) (la_nil))))))
    (ls_one (ls_ret (le_or (le_cmp (op_eqD hr.units) L_eq (le_var 2) (le_lst (la_nil))) (le_one (le_cmp (op_eqD hr.units) L_eq (le_meth PySem.F.plainAttrs_list PySem.F.slot_list_count PySem.F.type_list_count (mt_countD (hu65 hr)) L_count (le_var 2) (la_cons (le_ix (ix_any (hu1 (hu65 hr))) L_get (le_var 2) (le_int) (fun _ _ => rfl)) (la_nil))) (le_callB cr_len L_len (by rfl) Z.z_len (by decide +kernel) (la_cons (le_var 2) (la_nil))))))))
theorem ok_law_gis_even {f : Addr} {fd : FuncData} (F : Fun K "_law_gis_even" "_law_gis_even" s_law_gis_even f fd) (G : mg "_law_gis_even" = some (.ref f)) (Z : Zs mg) (C_law_ggates : Cal P w K mg base κ 2 "_law_ggates" 2 f_law_ggates) (C_law_gout : Cal P w K mg base κ 1 "_law_gout" 3 f_law_gout) : Cal P w K mg base κ 3 "_law_gis_even" 2 f_law_gis_even := ⟨f, fd, _, fn_law_gis_even F G Z C_law_ggates C_law_gout, G, F.kp, F.binds (ps := ["rooms", "orbit"]) fun _ _ _ _ _ _ us hl => match us, hl with | [_, _], _ => rfl⟩
abbrev s_law_ggoal : Stmt := topS 24
abbrev N_law_ggoal : List Str := ["leads", "sign", "one", "there"]
theorem sc_law_ggoal : FnScope N_law_ggoal ["leads", "sign"] (defScope s_law_ggoal) := ⟨rfl, rfl, rfl, by decide +kernel, rfl, by decide +kernel, by decide +kernel⟩
set_option maxHeartbeats 4000000 in
theorem fn_law_ggoal {f : Addr} {fd : FuncData} (F : Fun K "_law_ggoal" "_law_ggoal" s_law_ggoal f fd) (G : mg "_law_ggoal" = some (.ref f)) (Z : Zs mg) : FnOk P w K mg base CX0 1 f fd ["leads", "sign"] (spF0 K κ 2 f_law_ggoal) :=
  fn_ok (κ := κ) F sc_law_ggoal fun cdv A outer s H E hr => ls_one (ls_ret (le_lc rfl sc_law_ggoal.nd (li_any (le_var 0)) (blkOk_by (own := [("one", 2), ("there", 3)]) (N := N_law_ggoal) (sc := defScope s_law_ggoal) (by decide +kernel)) rfl (by decide) (fun _ _ _ _ _ => lg_tup rfl (lgs_cons (lg_name 2 sc_law_ggoal.nd) (lgs_cons (lg_name 3 sc_law_ggoal.nd) (lgs_nil)))) (fun _ _ _ _ _ => lts_one (lt_cmp (op_eqD hr.units) L_eq (le_var 2) (le_var 1))) (fun _ _ _ _ _ => le_var 3)))
theorem ok_law_ggoal {f : Addr} {fd : FuncData} (F : Fun K "_law_ggoal" "_law_ggoal" s_law_ggoal f fd) (G : mg "_law_ggoal" = some (.ref f)) (Z : Zs mg) : Cal P w K mg base κ 1 "_law_ggoal" 2 f_law_ggoal := ⟨f, fd, _, fn_law_ggoal F G Z, G, F.kp, F.binds (ps := ["leads", "sign"]) fun _ _ _ _ _ _ us hl => match us, hl with | [_, _], _ => rfl⟩
abbrev s_law_gsteady : Stmt := topS 25
abbrev N_law_gsteady : List Str := ["rooms", "ends", "found", "sign", "goals", "is_end", "leads", "step"]
theorem sc_law_gsteady : FnScope N_law_gsteady ["rooms"] (defScope s_law_gsteady) := ⟨rfl, rfl, rfl, by decide +kernel, rfl, by decide +kernel, by decide +kernel⟩
set_option maxHeartbeats 4000000 in
theorem fn_law_gsteady {f : Addr} {fd : FuncData} (F : Fun K "_law_gsteady" "_law_gsteady" s_law_gsteady f fd) (G : mg "_law_gsteady" = some (.ref f)) (Z : Zs mg) (C_law_ggoal : Cal P w K mg base κ 1 "_law_ggoal" 2 f_law_ggoal) : FnOk P w K mg base CX0 2 f fd ["rooms"] (spF0 K κ 1 f_law_gsteady) :=
  fn_ok (κ := κ) F sc_law_gsteady fun cdv A outer s H E hr => ls_cons (ls_setLc 1 rfl sc_law_gsteady.nd (li_any (le_var 0)) (blkOk_by (own := [("is_end", 5), ("leads", 6)]) (N := N_law_gsteady) (sc := defScope s_law_gsteady) (by decide +kernel)) rfl (by decide) (fun _ _ _ _ _ => lg_tup rfl (lgs_cons (lg_name 5 sc_law_gsteady.nd) (lgs_cons (lg_name 6 sc_law_gsteady.nd) (lgs_nil)))) (fun _ _ _ _ _ => lts_one (lt_val (le_var 5))) (fun _ _ _ _ _ => le_var 6))
    (ls_cons (ls_set 2 sc_law_gsteady.nd (le_lst (la_nil)))
    (ls_cons (ls_for PassesOwn.never rfl (li_any (le_callB (cr_sortedA rfl) L_sorted (by rfl) Z.z_sorted (by decide +kernel) (la_cons (le_lc rfl sc_law_gsteady.nd (li_any (le_ix (ix_any (hu1 (hu65 hr))) L_get (le_var 1) (le_int) (fun _ _ => rfl))) (blkOk_by (own := [("step", 7)]) (N := N_law_gsteady) (sc := defScope s_law_gsteady) (by decide +kernel)) rfl (by decide) (fun _ _ _ _ _ => lg_name 7 sc_law_gsteady.nd) (fun _ _ _ _ _ => lts_nil) (fun _ _ _ _ _ => le_ix (ix_any (hu1 (hu65 hr))) L_get (le_var 7) (le_int) (fun _ _ => rfl))) (la_nil)))) (lg_name 3 sc_law_gsteady.nd) (ls_cons (ls_setLc 4 rfl sc_law_gsteady.nd (li_any (le_var 1)) (blkOk_by (own := [("leads", 6)]) (N := N_law_gsteady) (sc := defScope s_law_gsteady) (by decide +kernel)) rfl (by decide) (fun _ _ _ _ _ => lg_name 6 sc_law_gsteady.nd) (fun _ _ _ _ _ => lts_nil) (fun _ _ _ _ _ => le_calC C_law_ggoal (hr.mono (by decide)) (by rfl) (la_cons (le_var 6) (la_cons (le_var 3) (la_nil)))))
    (ls_one (ls_if (lt_cmp (op_eqD hr.units) L_eq (le_meth PySem.F.plainAttrs_list PySem.F.slot_list_count PySem.F.type_list_count (mt_countD (hu65 hr)) L_count (le_var 4) (la_cons (le_ix (ix_any (hu1 (hu65 hr))) L_get (le_var 4) (le_int) (fun _ _ => rfl)) (la_nil))) (le_callB cr_len L_len (by rfl) Z.z_len (by decide +kernel) (la_cons (le_var 4) (la_nil)))) (ls_one (ls_expr (le_meth PySem.F.plainAttrs_list PySem.F.slot_list_append PySem.F.type_list_append mt_append L_append (le_var 2) (la_cons (le_var 3) (la_nil))))) (ls_nil)))))
    (ls_one (ls_ret (le_var 2)))))
theorem ok_law_gsteady {f : Addr} {fd : FuncData} (F : Fun K "_law_gsteady" "_law_gsteady" s_law_gsteady f fd) (G : mg "_law_gsteady" = some (.ref f)) (Z : Zs mg) (C_law_ggoal : Cal P w K mg base κ 1 "_law_ggoal" 2 f_law_ggoal) : Cal P w K mg base κ 2 "_law_gsteady" 1 f_law_gsteady := ⟨f, fd, _, fn_law_gsteady F G Z C_law_ggoal, G, F.kp, F.binds (ps := ["rooms"]) fun _ _ _ _ _ _ us hl => match us, hl with | [_], _ => rfl⟩
abbrev s_law_gcut : Stmt := topS 26
abbrev N_law_gcut : List Str := ["rooms", "signs", "found", "is_end", "leads", "step"]
theorem sc_law_gcut : FnScope N_law_gcut ["rooms"] (defScope s_law_gcut) := ⟨rfl, rfl, rfl, by decide +kernel, rfl, by decide +kernel, by decide +kernel⟩
set_option maxHeartbeats 4000000 in
theorem fn_law_gcut {f : Addr} {fd : FuncData} (F : Fun K "_law_gcut" "_law_gcut" s_law_gcut f fd) (G : mg "_law_gcut" = some (.ref f)) (Z : Zs mg) (C_law_gsteady : Cal P w K mg base κ 2 "_law_gsteady" 1 f_law_gsteady) : FnOk P w K mg base CX0 3 f fd ["rooms"] (spF0 K κ 1 f_law_gcut) :=
  fn_ok (κ := κ) F sc_law_gcut fun cdv A outer s H E hr => ls_cons (ls_set 1 sc_law_gcut.nd (le_calC C_law_gsteady (hr.mono (by decide)) (by rfl) (la_cons (le_var 0) (la_nil))))
    (ls_cons (ls_set 2 sc_law_gcut.nd (le_lst (la_nil)))
    (ls_cons (ls_for PassesOwn.never rfl (li_any (le_var 0)) (lg_tup rfl (lgs_cons (lg_name 3 sc_law_gcut.nd) (lgs_cons (lg_name 4 sc_law_gcut.nd) (lgs_nil)))) (ls_one (ls_expr (le_meth PySem.F.plainAttrs_list PySem.F.slot_list_append PySem.F.type_list_append mt_append L_append (le_var 2) (la_cons (le_tup (la_cons (le_var 3) (la_cons (le_callTy call_tuple_of L_tuple (by rfl) Z.z_tuple (by decide +kernel) (la_cons (le_lc rfl sc_law_gcut.nd (li_any (le_var 4)) (blkOk_by (own := [("step", 5)]) (N := N_law_gcut) (sc := defScope s_law_gcut) (by decide +kernel)) rfl (by decide) (fun _ _ _ _ _ => lg_name 5 sc_law_gcut.nd) (fun _ _ _ _ _ => lts_one (lt_w (lw_or (lt_not (lt_val (le_var 3))) (lw_or1 (lt_cmp (or_notIn (hu65 hr)) L_notIn (le_ix (ix_any (hu1 (hu65 hr))) L_get (le_var 5) (le_int) (fun _ _ => rfl)) (le_var 1)))))) (fun _ _ _ _ _ => le_var 5)) (la_nil))) (la_nil)))) (la_nil))))))
    (ls_one (ls_ret (le_callTy call_tuple_of L_tuple (by rfl) Z.z_tuple (by decide +kernel) (la_cons (le_var 2) (la_nil)))))))
theorem ok_law_gcut {f : Addr} {fd : FuncData} (F : Fun K "_law_gcut" "_law_gcut" s_law_gcut f fd) (G : mg "_law_gcut" = some (.ref f)) (Z : Zs mg) (C_law_gsteady : Cal P w K mg base κ 2 "_law_gsteady" 1 f_law_gsteady) : Cal P w K mg base κ 3 "_law_gcut" 1 f_law_gcut := ⟨f, fd, _, fn_law_gcut F G Z C_law_gsteady, G, F.kp, F.binds (ps := ["rooms"]) fun _ _ _ _ _ _ us hl => match us, hl with | [_], _ => rfl⟩
abbrev s_law_gsame : Stmt := topS 27
abbrev N_law_gsame : List Str := ["found", "due", "one", "other"]
theorem sc_law_gsame : FnScope N_law_gsame ["found", "due"] (defScope s_law_gsame) := ⟨rfl, rfl, rfl, by decide +kernel, rfl, by decide +kernel, by decide +kernel⟩
set_option maxHeartbeats 4000000 in
theorem fn_law_gsame {f : Addr} {fd : FuncData} (F : Fun K "_law_gsame" "_law_gsame" s_law_gsame f fd) (G : mg "_law_gsame" = some (.ref f)) (Z : Zs mg) : ∀ n : Nat, FnOk P w K mg base CX0 (0 + n) f fd ["found", "due"] (spF0 K κ 2 (f_law_gsame n))
  | 0 => fn_bad
  | n + 1 => by
    have C_law_gsame : Cal P w K mg base κ (0 + n) "_law_gsame" 2 (f_law_gsame n) := ⟨f, fd, _, fn_law_gsame F G Z n, G, F.kp, F.binds (ps := ["found", "due"]) fun _ _ _ _ _ _ us hl => match us, hl with | [_, _], _ => rfl⟩
    exact fn_ok (κ := κ) F sc_law_gsame fun cdv A outer s H E hr => ls_cons (ls_if (lt_cmp or_is L_is (le_var 1) (le_non)) (ls_one (ls_ret (le_cmp or_is L_is (le_var 0) (le_non)))) (ls_nil))
        (ls_cons (ls_if (lt_val (le_callB call_isi L_isi (by rfl) Z.z_isinstance (by decide +kernel) (la_cons (le_var 1) (la_cons (le_c (pe_bltn (v := .ty "bool") (by rfl) Z.z_bool (by decide +kernel) rfl) (fun _ _ => by simp only [VR])) (la_nil))))) (ls_one (ls_ret (le_and (le_callB call_isi L_isi (by rfl) Z.z_isinstance (by decide +kernel) (la_cons (le_var 0) (la_cons (le_c (pe_bltn (v := .ty "bool") (by rfl) Z.z_bool (by decide +kernel) rfl) (fun _ _ => by simp only [VR])) (la_nil)))) (le_one (le_cmp (op_eqD hr.units) L_eq (le_var 0) (le_var 1)))))) (ls_nil))
        (ls_cons (ls_if (lt_val (le_callB call_isi L_isi (by rfl) Z.z_isinstance (by decide +kernel) (la_cons (le_var 1) (la_cons (le_c (pe_bltn (v := .ty "int") (by rfl) Z.z_int (by decide +kernel) rfl) (fun _ _ => by simp only [VR])) (la_nil))))) (ls_one (ls_ret (le_and (le_callB call_isi L_isi (by rfl) Z.z_isinstance (by decide +kernel) (la_cons (le_var 0) (la_cons (le_c (pe_bltn (v := .ty "int") (by rfl) Z.z_int (by decide +kernel) rfl) (fun _ _ => by simp only [VR])) (la_nil)))) (le_and (le_not (le_callB call_isi L_isi (by rfl) Z.z_isinstance (by decide +kernel) (la_cons (le_var 0) (la_cons (le_c (pe_bltn (v := .ty "bool") (by rfl) Z.z_bool (by decide +kernel) rfl) (fun _ _ => by simp only [VR])) (la_nil))))) (le_one (le_cmp (op_eqD hr.units) L_eq (le_var 0) (le_var 1))))))) (ls_nil))
        (ls_cons (ls_if (lt_val (le_callB call_isi L_isi (by rfl) Z.z_isinstance (by decide +kernel) (la_cons (le_var 1) (la_cons (le_c (pe_bltn (v := .ty "str") (by rfl) Z.z_str (by decide +kernel) rfl) (fun _ _ => by simp only [VR])) (la_nil))))) (ls_one (ls_ret (le_and (le_callB call_isi L_isi (by rfl) Z.z_isinstance (by decide +kernel) (la_cons (le_var 0) (la_cons (le_c (pe_bltn (v := .ty "str") (by rfl) Z.z_str (by decide +kernel) rfl) (fun _ _ => by simp only [VR])) (la_nil)))) (le_one (le_cmp (op_eqD hr.units) L_eq (le_var 0) (le_var 1)))))) (ls_nil))
        (ls_cons (ls_if (lt_w (lw_or (lt_cmp (op_neD hr.units) L_ne (le_callB call_isi L_isi (by rfl) Z.z_isinstance (by decide +kernel) (la_cons (le_var 1) (la_cons (le_c (pe_bltn (v := .ty "tuple") (by rfl) Z.z_tuple (by decide +kernel) rfl) (fun _ _ => by simp only [VR])) (la_nil)))) (le_callB call_isi L_isi (by rfl) Z.z_isinstance (by decide +kernel) (la_cons (le_var 0) (la_cons (le_c (pe_bltn (v := .ty "tuple") (by rfl) Z.z_tuple (by decide +kernel) rfl) (fun _ _ => by simp only [VR])) (la_nil))))) (lw_or1 (lt_cmp (op_neD hr.units) L_ne (le_callB call_isi L_isi (by rfl) Z.z_isinstance (by decide +kernel) (la_cons (le_var 1) (la_cons (le_c (pe_bltn (v := .ty "list") (by rfl) Z.z_list (by decide +kernel) rfl) (fun _ _ => by simp only [VR])) (la_nil)))) (le_callB call_isi L_isi (by rfl) Z.z_isinstance (by decide +kernel) (la_cons (le_var 0) (la_cons (le_c (pe_bltn (v := .ty "list") (by rfl) Z.z_list (by decide +kernel) rfl) (fun _ _ => by simp only [VR])) (la_nil)))))))) (ls_one (ls_ret (le_bl))) (ls_nil))
        (ls_one (ls_ret (le_and (le_cmp (op_eqD hr.units) L_eq (le_callB cr_len L_len (by rfl) Z.z_len (by decide +kernel) (la_cons (le_var 0) (la_nil))) (le_callB cr_len L_len (by rfl) Z.z_len (by decide +kernel) (la_cons (le_var 1) (la_nil)))) (le_one (le_callB (cr_all rfl) L_all (by rfl) Z.z_all (by decide +kernel) (la_cons (le_lc rfl sc_law_gsame.nd (li_zip (by rfl) Z.z_zip (le_var 0) (le_var 1)) (blkOk_by (own := [("one", 2), ("other", 3)]) (N := N_law_gsame) (sc := defScope s_law_gsame) (by decide +kernel)) rfl (by decide) (fun _ _ _ _ _ => lg_tup rfl (lgs_cons (lg_name 2 sc_law_gsame.nd) (lgs_cons (lg_name 3 sc_law_gsame.nd) (lgs_nil)))) (fun _ _ _ _ _ => lts_nil) (fun _ _ _ _ _ => le_calC C_law_gsame hr (by rfl) (la_cons (le_var 2) (la_cons (le_var 3) (la_nil))))) (la_nil)))))))))))
theorem ok_law_gsame {f : Addr} {fd : FuncData} (F : Fun K "_law_gsame" "_law_gsame" s_law_gsame f fd) (G : mg "_law_gsame" = some (.ref f)) (Z : Zs mg) (n : Nat) : Cal P w K mg base κ (0 + n) "_law_gsame" 2 (f_law_gsame n) := ⟨f, fd, _, fn_law_gsame F G Z n, G, F.kp, F.binds (ps := ["found", "due"]) fun _ _ _ _ _ _ us hl => match us, hl with | [_, _], _ => rfl⟩
abbrev s_law_galike : Stmt := topS 28
abbrev N_law_galike : List Str := ["pen", "machine", "ends", "leads", "rooms", "is_end", "some", "k"]
theorem sc_law_galike : FnScope N_law_galike ["pen", "machine"] (defScope s_law_galike) := ⟨rfl, rfl, rfl, by decide +kernel, rfl, by decide +kernel, by decide +kernel⟩
set_option maxHeartbeats 4000000 in
theorem fn_law_galike {f : Addr} {fd : FuncData} (F : Fun K "_law_galike" "_law_galike" s_law_galike f fd) (G : mg "_law_galike" = some (.ref f)) (Z : Zs mg) (C_law_gdraw : Cal P w K mg base κ 1 "_law_gdraw" 2 f_law_gdraw) (C_law_gtrim : Cal P w K mg base κ 2 "_law_gtrim" 1 f_law_gtrim) : FnOk P w K mg base CX0 3 f fd ["pen", "machine"] (spF0 K κ 2 f_law_galike) :=
  fn_ok (κ := κ) F sc_law_galike fun cdv A outer s H E hr => ls_cons (ls_setLc 2 rfl sc_law_galike.nd (li_rng1 (by rfl) Z.z_range (le_callB cr_len L_len (by rfl) Z.z_len (by decide +kernel) (la_cons (le_var 1) (la_nil)))) (blkOk_by (own := [("k", 7)]) (N := N_law_galike) (sc := defScope s_law_galike) (by decide +kernel)) rfl (by decide) (fun _ _ _ _ _ => lg_name 7 sc_law_galike.nd) (fun _ _ _ _ _ => lts_one (lt_val (le_ix (ix_any (hu1 (hu65 hr))) L_get (le_ix (ix_any (hu1 (hu65 hr))) L_get (le_var 1) (le_var 7) (fun _ _ => rfl)) (le_int) (fun _ _ => rfl)))) (fun _ _ _ _ _ => le_var 7))
    (ls_cons (ls_set 3 sc_law_galike.nd (le_ix (ix_any (hu1 (hu65 hr))) L_get (le_ix (ix_any (hu1 (hu65 hr))) L_get (le_var 1) (le_ix (ix_any (hu1 (hu65 hr))) L_get (le_var 2) (le_calC C_law_gdraw (hr.mono (by decide)) (by rfl) (la_cons (le_var 0) (la_cons (le_callB cr_len L_len (by rfl) Z.z_len (by decide +kernel) (la_cons (le_var 2) (la_nil))) (la_nil)))) (fun _ _ => rfl)) (fun _ _ => rfl)) (le_int) (fun _ _ => rfl)))
    (ls_cons (ls_set 4 sc_law_galike.nd (le_lst (la_nil)))
    (ls_cons (ls_for PassesOwn.never rfl (li_any (le_var 1)) (lg_tup rfl (lgs_cons (lg_name 5 sc_law_galike.nd) (lgs_cons (lg_name 6 sc_law_galike.nd) (lgs_nil)))) (ls_one (ls_expr (le_meth PySem.F.plainAttrs_list PySem.F.slot_list_append PySem.F.type_list_append mt_append L_append (le_var 4) (la_cons (le_tup (la_cons (le_var 5) (la_cons (le_if (lt_w (lw_and (lt_val (le_var 5)) (lw_and1 (lt_cmp op_gt L_gt (le_calC C_law_gdraw (hr.mono (by decide)) (by rfl) (la_cons (le_var 0) (la_cons (le_int) (la_nil)))) (le_int))))) (le_var 3) (le_var 6)) (la_nil)))) (la_nil))))))
    (ls_one (ls_ret (le_calC C_law_gtrim (hr.mono (by decide)) (by rfl) (la_cons (le_var 4) (la_nil))))))))
theorem ok_law_galike {f : Addr} {fd : FuncData} (F : Fun K "_law_galike" "_law_galike" s_law_galike f fd) (G : mg "_law_galike" = some (.ref f)) (Z : Zs mg) (C_law_gdraw : Cal P w K mg base κ 1 "_law_gdraw" 2 f_law_gdraw) (C_law_gtrim : Cal P w K mg base κ 2 "_law_gtrim" 1 f_law_gtrim) : Cal P w K mg base κ 3 "_law_galike" 2 f_law_galike := ⟨f, fd, _, fn_law_galike F G Z C_law_gdraw C_law_gtrim, G, F.kp, F.binds (ps := ["pen", "machine"]) fun _ _ _ _ _ _ us hl => match us, hl with | [_, _], _ => rfl⟩
abbrev s_law_gring_right : Stmt := topS 29
abbrev N_law_gring_right : List Str := ["pen", "sign", "many", "end", "rooms", "one", "at", "two", "whole", "k"]
theorem sc_law_gring_right : FnScope N_law_gring_right ["pen", "sign"] (defScope s_law_gring_right) := ⟨rfl, rfl, rfl, by decide +kernel, rfl, by decide +kernel, by decide +kernel⟩
set_option maxHeartbeats 4000000 in
theorem fn_law_gring_right {f : Addr} {fd : FuncData} (F : Fun K "_law_gring_right" "_law_gring_right" s_law_gring_right f fd) (G : mg "_law_gring_right" = some (.ref f)) (Z : Zs mg) (C_law_gdraw : Cal P w K mg base κ 1 "_law_gdraw" 2 f_law_gdraw) (C_steady : Cal P w K mg base κ 1 "steady" 1 f_steady) (C_cut_orbits : Cal P w K mg base κ 3 "cut_orbits" 1 f_cut_orbits) (C_law_gsame : Cal P w K mg base κ 8 "_law_gsame" 2 (f_law_gsame 8)) (C_is_cut_even : Cal P w K mg base κ 5 "is_cut_even" 2 f_is_cut_even) (C_cut_gates : Cal P w K mg base κ 3 "cut_gates" 2 f_cut_gates) : FnOk P w K mg base CX0 9 f fd ["pen", "sign"] (spF0 K κ 2 f_law_gring_right) :=
  fn_ok (κ := κ) F sc_law_gring_right fun cdv A outer s H E hr => ls_cons (ls_set 2 sc_law_gring_right.nd (le_op or_add L_add (le_int) (le_calC C_law_gdraw (hr.mono (by decide)) (by rfl) (la_cons (le_var 0) (la_cons (le_int) (la_nil))))))
    (ls_cons (ls_set 3 sc_law_gring_right.nd (le_op or_add L_add (le_int) (le_calC C_law_gdraw (hr.mono (by decide)) (by rfl) (la_cons (le_var 0) (la_cons (le_op op_sub L_sub (le_var 2) (le_int)) (la_nil))))))
    (ls_cons (ls_setLc 4 rfl sc_law_gring_right.nd (li_rng1 (by rfl) Z.z_range (le_var 2)) (blkOk_by (own := [("k", 9)]) (N := N_law_gring_right) (sc := defScope s_law_gring_right) (by decide +kernel)) rfl (by decide) (fun _ _ _ _ _ => lg_name 9 sc_law_gring_right.nd) (fun _ _ _ _ _ => lts_nil) (fun _ _ _ _ _ => le_tup (la_cons (le_cmp (op_eqD hr.units) L_eq (le_var 9) (le_int)) (la_cons (le_tup (la_cons (le_tup (la_cons (le_var 1) (la_cons (le_op op_mod L_mod (le_op or_add L_add (le_var 9) (le_int)) (le_var 2)) (la_nil)))) (la_nil))) (la_nil)))))
    (ls_cons (ls_setLc 5 rfl sc_law_gring_right.nd (li_rng1 (by rfl) Z.z_range (le_var 2)) (blkOk_by (own := [("k", 9)]) (N := N_law_gring_right) (sc := defScope s_law_gring_right) (by decide +kernel)) rfl (by decide) (fun _ _ _ _ _ => lg_name 9 sc_law_gring_right.nd) (fun _ _ _ _ _ => lts_nil) (fun _ _ _ _ _ => le_tup (la_cons (le_cmp (op_eqD hr.units) L_eq (le_var 9) (le_op op_sub L_sub (le_var 2) (le_int))) (la_cons (le_tup (la_cons (le_tup (la_cons (le_var 1) (la_cons (le_op op_mod L_mod (le_op or_add L_add (le_var 9) (le_int)) (le_var 2)) (la_nil)))) (la_nil))) (la_nil)))))
    (ls_cons (ls_if (lt_not (lt_val (le_calC C_law_gsame (hr.mono (by decide)) (by rfl) (la_cons (le_lst (la_cons (le_calC C_steady (hr.mono (by decide)) (by rfl) (la_cons (le_callTy call_tuple_of L_tuple (by rfl) Z.z_tuple (by decide +kernel) (la_cons (le_var 5) (la_nil))) (la_nil))) (la_cons (le_calC C_cut_orbits (hr.mono (by decide)) (by rfl) (la_cons (le_callTy call_tuple_of L_tuple (by rfl) Z.z_tuple (by decide +kernel) (la_cons (le_var 5) (la_nil))) (la_nil))) (la_nil)))) (la_cons (le_lst (la_cons (le_lst (la_cons (le_var 1) (la_nil))) (la_cons (le_lc rfl sc_law_gring_right.nd (li_rng1 (by rfl) Z.z_range (le_var 2)) (blkOk_by (own := [("k", 9)]) (N := N_law_gring_right) (sc := defScope s_law_gring_right) (by decide +kernel)) rfl (by decide) (fun _ _ _ _ _ => lg_name 9 sc_law_gring_right.nd) (fun _ _ _ _ _ => lts_nil) (fun _ _ _ _ _ => le_lst (la_cons (le_var 9) (la_nil)))) (la_nil)))) (la_nil)))))) (ls_one (ls_ret (le_bl))) (ls_nil))
    (ls_cons (ls_set 6 sc_law_gring_right.nd (le_calC C_law_gdraw (hr.mono (by decide)) (by rfl) (la_cons (le_var 0) (la_cons (le_var 2) (la_nil)))))
    (ls_cons (ls_if (lt_w (lw_or (lt_cmp (op_neD hr.units) L_ne (le_calC C_cut_gates (hr.mono (by decide)) (by rfl) (la_cons (le_callTy call_tuple_of L_tuple (by rfl) Z.z_tuple (by decide +kernel) (la_cons (le_var 5) (la_nil))) (la_cons (le_lst (la_cons (le_var 6) (la_nil))) (la_nil)))) (le_lst (la_cons (le_var 6) (la_nil)))) (lw_or1 (lt_cmp or_isnot L_isnot (le_calC C_is_cut_even (hr.mono (by decide)) (by rfl) (la_cons (le_callTy call_tuple_of L_tuple (by rfl) Z.z_tuple (by decide +kernel) (la_cons (le_var 5) (la_nil))) (la_cons (le_lst (la_cons (le_var 6) (la_nil))) (la_nil)))) (le_bl))))) (ls_one (ls_ret (le_bl))) (ls_nil))
    (ls_cons (ls_put (set_any (hu1 (hu65 hr))) L_put (le_tup (la_cons (le_bl) (la_cons (le_ix (ix_any (hu1 (hu65 hr))) L_get (le_ix (ix_any (hu1 (hu65 hr))) L_get (le_var 4) (le_var 3) (fun _ _ => rfl)) (le_int) (fun _ _ => rfl)) (la_nil)))) (le_var 4) (le_var 3))
    (ls_cons (ls_set 7 sc_law_gring_right.nd (le_callTy call_tuple_of L_tuple (by rfl) Z.z_tuple (by decide +kernel) (la_cons (le_var 4) (la_nil))))
    (ls_cons (ls_set 8 sc_law_gring_right.nd (le_listRg1 rfl (by rfl) Z.z_list (by rfl) Z.z_range (le_var 2)))
    (ls_cons (ls_if (lt_w (lw_or (lt_cmp (op_neD hr.units) L_ne (le_calC C_steady (hr.mono (by decide)) (by rfl) (la_cons (le_var 7) (la_nil))) (le_lst (la_nil))) (lw_or (lt_cmp (op_neD hr.units) L_ne (le_calC C_cut_orbits (hr.mono (by decide)) (by rfl) (la_cons (le_var 7) (la_nil))) (le_lst (la_cons (le_var 8) (la_nil)))) (lw_or1 (lt_cmp (op_neD hr.units) L_ne (le_calC C_cut_gates (hr.mono (by decide)) (by rfl) (la_cons (le_var 7) (la_cons (le_callTy call_list_of L_list (by rfl) Z.z_list (by decide +kernel) (la_cons (le_var 8) (la_nil))) (la_nil)))) (le_lst (la_cons (le_int) (la_cons (le_var 3) (la_nil))))))))) (ls_one (ls_ret (le_bl))) (ls_nil))
    (ls_one (ls_ret (le_cmp or_is L_is (le_calC C_is_cut_even (hr.mono (by decide)) (by rfl) (la_cons (le_var 7) (la_cons (le_callTy call_list_of L_list (by rfl) Z.z_list (by decide +kernel) (la_cons (le_var 8) (la_nil))) (la_nil)))) (le_bl))))))))))))))
theorem ok_law_gring_right {f : Addr} {fd : FuncData} (F : Fun K "_law_gring_right" "_law_gring_right" s_law_gring_right f fd) (G : mg "_law_gring_right" = some (.ref f)) (Z : Zs mg) (C_law_gdraw : Cal P w K mg base κ 1 "_law_gdraw" 2 f_law_gdraw) (C_steady : Cal P w K mg base κ 1 "steady" 1 f_steady) (C_cut_orbits : Cal P w K mg base κ 3 "cut_orbits" 1 f_cut_orbits) (C_law_gsame : Cal P w K mg base κ 8 "_law_gsame" 2 (f_law_gsame 8)) (C_is_cut_even : Cal P w K mg base κ 5 "is_cut_even" 2 f_is_cut_even) (C_cut_gates : Cal P w K mg base κ 3 "cut_gates" 2 f_cut_gates) : Cal P w K mg base κ 9 "_law_gring_right" 2 f_law_gring_right := ⟨f, fd, _, fn_law_gring_right F G Z C_law_gdraw C_steady C_cut_orbits C_law_gsame C_is_cut_even C_cut_gates, G, F.kp, F.binds (ps := ["pen", "sign"]) fun _ _ _ _ _ _ us hl => match us, hl with | [_, _], _ => rfl⟩
abbrev s_law : Stmt := topS 30
abbrev N_law : List Str := ["script", "pen", "turn", "signs", "machine", "due", "there", "again", "found", "groups", "orbit", "handed", "told"]
theorem sc_law : FnScope N_law ["script"] (defScope s_law) := ⟨rfl, rfl, rfl, by decide +kernel, rfl, by decide +kernel, by decide +kernel⟩
set_option maxHeartbeats 4000000 in
theorem fn_law {f : Addr} {fd : FuncData} (F : Fun K "law" "law" s_law f fd) (G : mg "law" = some (.ref f)) (Z : Zs mg) (C_law_gpen : Cal P w K mg base κ 1 "_law_gpen" 1 f_law_gpen) (C_law_gsigns : Cal P w K mg base κ 2 "_law_gsigns" 2 f_law_gsigns) (C_law_gring_right : Cal P w K mg base κ 9 "_law_gring_right" 2 f_law_gring_right) (C_law_gdraw : Cal P w K mg base κ 1 "_law_gdraw" 2 f_law_gdraw) (C_law_gmachine : Cal P w K mg base κ 3 "_law_gmachine" 3 f_law_gmachine) (C_law_galike : Cal P w K mg base κ 3 "_law_galike" 2 f_law_galike) (C_law_gsteady : Cal P w K mg base κ 2 "_law_gsteady" 1 f_law_gsteady) (C_law_gcut : Cal P w K mg base κ 3 "_law_gcut" 1 f_law_gcut) (C_steady : Cal P w K mg base κ 1 "steady" 1 f_steady) (C_cut_orbits : Cal P w K mg base κ 3 "cut_orbits" 1 f_cut_orbits) (C_law_gorbits : Cal P w K mg base κ 2 "_law_gorbits" 1 f_law_gorbits) (C_law_gsame : Cal P w K mg base κ 8 "_law_gsame" 2 (f_law_gsame 8)) (C_cut_gates : Cal P w K mg base κ 3 "cut_gates" 2 f_cut_gates) (C_law_ggates : Cal P w K mg base κ 2 "_law_ggates" 2 f_law_ggates) (C_is_cut_even : Cal P w K mg base κ 5 "is_cut_even" 2 f_is_cut_even) (C_law_gis_even : Cal P w K mg base κ 3 "_law_gis_even" 2 f_law_gis_even) : FnOk P w K mg base CX0 10 f fd ["script"] (spF0 K κ 1 f_law) :=
  fn_ok (κ := κ) F sc_law fun cdv A outer s H E hr => ls_cons (ls_set 1 sc_law.nd (le_calC C_law_gpen (hr.mono (by decide)) (by rfl) (la_cons (le_var 0) (la_nil))))
    (ls_cons (ls_if (lt_not (lt_val (le_calC C_law_gring_right (hr.mono (by decide)) (by rfl) (la_cons (le_var 1) (la_cons (le_ix (ix_any (hu1 (hu65 hr))) L_get (le_calC C_law_gsigns (hr.mono (by decide)) (by rfl) (la_cons (le_var 1) (la_cons (le_int) (la_nil)))) (le_int) (fun _ _ => rfl)) (la_nil)))))) (ls_one (ls_ret (le_bl))) (ls_nil))
    (ls_cons (ls_for PassesOwn.never rfl (li_rng1 (by rfl) Z.z_range (le_int)) (lg_name 2 sc_law.nd) (ls_cons (ls_set 3 sc_law.nd (le_calC C_law_gsigns (hr.mono (by decide)) (by rfl) (la_cons (le_var 1) (la_cons (le_op or_add L_add (le_int) (le_calC C_law_gdraw (hr.mono (by decide)) (by rfl) (la_cons (le_var 1) (la_cons (le_int) (la_nil))))) (la_nil)))))
    (ls_cons (ls_set 4 sc_law.nd (le_calC C_law_gmachine (hr.mono (by decide)) (by rfl) (la_cons (le_var 1) (la_cons (le_int) (la_cons (le_var 3) (la_nil))))))
    (ls_cons (ls_if (lt_cmp (op_eqD hr.units) L_eq (le_calC C_law_gdraw (hr.mono (by decide)) (by rfl) (la_cons (le_var 1) (la_cons (le_int) (la_nil)))) (le_int)) (ls_one (ls_set 4 sc_law.nd (le_calC C_law_galike (hr.mono (by decide)) (by rfl) (la_cons (le_var 1) (la_cons (le_var 4) (la_nil)))))) (ls_nil))
    (ls_cons (ls_set 5 sc_law.nd (le_calC C_law_gsteady (hr.mono (by decide)) (by rfl) (la_cons (le_var 4) (la_nil))))
    (ls_cons (ls_set 6 sc_law.nd (le_calC C_law_gcut (hr.mono (by decide)) (by rfl) (la_cons (le_var 4) (la_nil))))
    (ls_cons (ls_for PassesOwn.never rfl (li_rng1 (by rfl) Z.z_range (le_int)) (lg_name 7 sc_law.nd) (ls_cons (ls_set 8 sc_law.nd (le_calC C_steady (hr.mono (by decide)) (by rfl) (la_cons (le_var 4) (la_nil))))
    (ls_cons (ls_set 9 sc_law.nd (le_calC C_cut_orbits (hr.mono (by decide)) (by rfl) (la_cons (le_var 4) (la_nil))))
    (ls_cons (ls_if (lt_w (lw_or (lt_not (lt_val (le_calC C_law_gsame (hr.mono (by decide)) (by rfl) (la_cons (le_var 8) (la_cons (le_var 5) (la_nil)))))) (lw_or1 (lt_not (lt_val (le_calC C_law_gsame (hr.mono (by decide)) (by rfl) (la_cons (le_var 9) (la_cons (le_calC C_law_gorbits (hr.mono (by decide)) (by rfl) (la_cons (le_var 6) (la_nil))) (la_nil))))))))) (ls_one (ls_ret (le_bl))) (ls_nil))
    (ls_cons (ls_expr (le_meth PySem.F.plainAttrs_list PySem.F.slot_list_append PySem.F.type_list_append mt_append L_append (le_var 8) (la_cons (le_str) (la_nil))))
    (ls_one (ls_expr (le_meth PySem.F.plainAttrs_list PySem.F.slot_list_append PySem.F.type_list_append mt_append L_append (le_ix (ix_any (hu1 (hu65 hr))) L_get (le_var 9) (le_int) (fun _ _ => rfl)) (la_cons (le_int) (la_nil))))))))))
    (ls_one (ls_for PassesOwn.never rfl (li_any (le_calC C_law_gorbits (hr.mono (by decide)) (by rfl) (la_cons (le_var 6) (la_nil)))) (lg_name 10 sc_law.nd) (ls_cons (ls_set 11 sc_law.nd (le_callTy call_list_of L_list (by rfl) Z.z_list (by decide +kernel) (la_cons (le_var 10) (la_nil))))
    (ls_cons (ls_for PassesOwn.never rfl (li_rng1 (by rfl) Z.z_range (le_int)) (lg_name 7 sc_law.nd) (ls_cons (ls_set 12 sc_law.nd (le_calC C_cut_gates (hr.mono (by decide)) (by rfl) (la_cons (le_var 4) (la_cons (le_var 11) (la_nil)))))
    (ls_cons (ls_if (lt_not (lt_val (le_calC C_law_gsame (hr.mono (by decide)) (by rfl) (la_cons (le_var 12) (la_cons (le_calC C_law_ggates (hr.mono (by decide)) (by rfl) (la_cons (le_var 6) (la_cons (le_var 10) (la_nil)))) (la_nil)))))) (ls_one (ls_ret (le_bl))) (ls_nil))
    (ls_one (ls_expr (le_meth PySem.F.plainAttrs_list PySem.F.slot_list_append PySem.F.type_list_append mt_append L_append (le_var 12) (la_cons (le_int) (la_nil))))))))
    (ls_cons (ls_if (lt_not (lt_val (le_calC C_law_gsame (hr.mono (by decide)) (by rfl) (la_cons (le_calC C_is_cut_even (hr.mono (by decide)) (by rfl) (la_cons (le_var 4) (la_cons (le_var 11) (la_nil)))) (la_cons (le_calC C_law_gis_even (hr.mono (by decide)) (by rfl) (la_cons (le_var 6) (la_cons (le_var 10) (la_nil)))) (la_nil)))))) (ls_one (ls_ret (le_bl))) (ls_nil))
    (ls_one (ls_if (lt_cmp (op_neD hr.units) L_ne (le_var 11) (le_var 10)) (ls_one (ls_ret (le_bl))) (ls_nil)))))))))))))))
    (ls_one (ls_ret (le_bl)))))
theorem ok_law {f : Addr} {fd : FuncData} (F : Fun K "law" "law" s_law f fd) (G : mg "law" = some (.ref f)) (Z : Zs mg) (C_law_gpen : Cal P w K mg base κ 1 "_law_gpen" 1 f_law_gpen) (C_law_gsigns : Cal P w K mg base κ 2 "_law_gsigns" 2 f_law_gsigns) (C_law_gring_right : Cal P w K mg base κ 9 "_law_gring_right" 2 f_law_gring_right) (C_law_gdraw : Cal P w K mg base κ 1 "_law_gdraw" 2 f_law_gdraw) (C_law_gmachine : Cal P w K mg base κ 3 "_law_gmachine" 3 f_law_gmachine) (C_law_galike : Cal P w K mg base κ 3 "_law_galike" 2 f_law_galike) (C_law_gsteady : Cal P w K mg base κ 2 "_law_gsteady" 1 f_law_gsteady) (C_law_gcut : Cal P w K mg base κ 3 "_law_gcut" 1 f_law_gcut) (C_steady : Cal P w K mg base κ 1 "steady" 1 f_steady) (C_cut_orbits : Cal P w K mg base κ 3 "cut_orbits" 1 f_cut_orbits) (C_law_gorbits : Cal P w K mg base κ 2 "_law_gorbits" 1 f_law_gorbits) (C_law_gsame : Cal P w K mg base κ 8 "_law_gsame" 2 (f_law_gsame 8)) (C_cut_gates : Cal P w K mg base κ 3 "cut_gates" 2 f_cut_gates) (C_law_ggates : Cal P w K mg base κ 2 "_law_ggates" 2 f_law_ggates) (C_is_cut_even : Cal P w K mg base κ 5 "is_cut_even" 2 f_is_cut_even) (C_law_gis_even : Cal P w K mg base κ 3 "_law_gis_even" 2 f_law_gis_even) : Cal P w K mg base κ 10 "law" 1 f_law := ⟨f, fd, _, fn_law F G Z C_law_gpen C_law_gsigns C_law_gring_right C_law_gdraw C_law_gmachine C_law_galike C_law_gsteady C_law_gcut C_steady C_cut_orbits C_law_gorbits C_law_gsame C_cut_gates C_law_ggates C_is_cut_even C_law_gis_even, G, F.kp, F.binds (ps := ["script"]) fun _ _ _ _ _ _ us hl => match us, hl with | [_], _ => rfl⟩
end
theorem all_ok {l : PySem.W.OpenLaw} {w : World} {K : PySem.W.Frag} {h : Heap} {mg : Str → Option Value} {fa : Addr} (κ : Nat → Addr) (X : K.In h) (G : h.Ns mainGlobals mg) (hfa : mg "law" = some (.ref fa))
    {f0 : Addr} {od0 an0 : Option Addr} {sl0 : Array (Option Value)} {oc0 kV0 dc0 pm0 cd0 ct0 : Value}
    (a0 : PySem.W.nsIn K mainGlobals "come_to" = some (some (.ref f0))) (l0 : K.lookup f0 = some ⟨oc0, od0, .func (PySem.W.fnOf "come_to" "come_to" (defArgs s_come_to) (defBody s_come_to) (defScope s_come_to) .none kV0 dc0 pm0 an0 cd0 ct0), sl0⟩) (c0 : PySem.W.codeIn K cd0 "come_to" = true) (k0 : PySem.W.keepIn K (.ref f0) = true)
    {f1 : Addr} {od1 an1 : Option Addr} {sl1 : Array (Option Value)} {oc1 kV1 dc1 pm1 cd1 ct1 : Value}
    (a1 : PySem.W.nsIn K mainGlobals "orbits" = some (some (.ref f1))) (l1 : K.lookup f1 = some ⟨oc1, od1, .func (PySem.W.fnOf "orbits" "orbits" (defArgs s_orbits) (defBody s_orbits) (defScope s_orbits) .none kV1 dc1 pm1 an1 cd1 ct1), sl1⟩) (c1 : PySem.W.codeIn K cd1 "orbits" = true) (k1 : PySem.W.keepIn K (.ref f1) = true)
    {f2 : Addr} {od2 an2 : Option Addr} {sl2 : Array (Option Value)} {oc2 kV2 dc2 pm2 cd2 ct2 : Value}
    (a2 : PySem.W.nsIn K mainGlobals "leads_out" = some (some (.ref f2))) (l2 : K.lookup f2 = some ⟨oc2, od2, .func (PySem.W.fnOf "leads_out" "leads_out" (defArgs s_leads_out) (defBody s_leads_out) (defScope s_leads_out) .none kV2 dc2 pm2 an2 cd2 ct2), sl2⟩) (c2 : PySem.W.codeIn K cd2 "leads_out" = true) (k2 : PySem.W.keepIn K (.ref f2) = true)
    {f3 : Addr} {od3 an3 : Option Addr} {sl3 : Array (Option Value)} {oc3 kV3 dc3 pm3 cd3 ct3 : Value}
    (a3 : PySem.W.nsIn K mainGlobals "gates" = some (some (.ref f3))) (l3 : K.lookup f3 = some ⟨oc3, od3, .func (PySem.W.fnOf "gates" "gates" (defArgs s_gates) (defBody s_gates) (defScope s_gates) .none kV3 dc3 pm3 an3 cd3 ct3), sl3⟩) (c3 : PySem.W.codeIn K cd3 "gates" = true) (k3 : PySem.W.keepIn K (.ref f3) = true)
    {f4 : Addr} {od4 an4 : Option Addr} {sl4 : Array (Option Value)} {oc4 kV4 dc4 pm4 cd4 ct4 : Value}
    (a4 : PySem.W.nsIn K mainGlobals "unlike_gates" = some (some (.ref f4))) (l4 : K.lookup f4 = some ⟨oc4, od4, .func (PySem.W.fnOf "unlike_gates" "unlike_gates" (defArgs s_unlike_gates) (defBody s_unlike_gates) (defScope s_unlike_gates) .none kV4 dc4 pm4 an4 cd4 ct4), sl4⟩) (c4 : PySem.W.codeIn K cd4 "unlike_gates" = true) (k4 : PySem.W.keepIn K (.ref f4) = true)
    {f5 : Addr} {od5 an5 : Option Addr} {sl5 : Array (Option Value)} {oc5 kV5 dc5 pm5 cd5 ct5 : Value}
    (a5 : PySem.W.nsIn K mainGlobals "is_even" = some (some (.ref f5))) (l5 : K.lookup f5 = some ⟨oc5, od5, .func (PySem.W.fnOf "is_even" "is_even" (defArgs s_is_even) (defBody s_is_even) (defScope s_is_even) .none kV5 dc5 pm5 an5 cd5 ct5), sl5⟩) (c5 : PySem.W.codeIn K cd5 "is_even" = true) (k5 : PySem.W.keepIn K (.ref f5) = true)
    {f6 : Addr} {od6 an6 : Option Addr} {sl6 : Array (Option Value)} {oc6 kV6 dc6 pm6 cd6 ct6 : Value}
    (a6 : PySem.W.nsIn K mainGlobals "steady" = some (some (.ref f6))) (l6 : K.lookup f6 = some ⟨oc6, od6, .func (PySem.W.fnOf "steady" "steady" (defArgs s_steady) (defBody s_steady) (defScope s_steady) .none kV6 dc6 pm6 an6 cd6 ct6), sl6⟩) (c6 : PySem.W.codeIn K cd6 "steady" = true) (k6 : PySem.W.keepIn K (.ref f6) = true)
    {f7 : Addr} {od7 an7 : Option Addr} {sl7 : Array (Option Value)} {oc7 kV7 dc7 pm7 cd7 ct7 : Value}
    (a7 : PySem.W.nsIn K mainGlobals "cut_machine" = some (some (.ref f7))) (l7 : K.lookup f7 = some ⟨oc7, od7, .func (PySem.W.fnOf "cut_machine" "cut_machine" (defArgs s_cut_machine) (defBody s_cut_machine) (defScope s_cut_machine) .none kV7 dc7 pm7 an7 cd7 ct7), sl7⟩) (c7 : PySem.W.codeIn K cd7 "cut_machine" = true) (k7 : PySem.W.keepIn K (.ref f7) = true)
    {f8 : Addr} {od8 an8 : Option Addr} {sl8 : Array (Option Value)} {oc8 kV8 dc8 pm8 cd8 ct8 : Value}
    (a8 : PySem.W.nsIn K mainGlobals "cut_orbits" = some (some (.ref f8))) (l8 : K.lookup f8 = some ⟨oc8, od8, .func (PySem.W.fnOf "cut_orbits" "cut_orbits" (defArgs s_cut_orbits) (defBody s_cut_orbits) (defScope s_cut_orbits) .none kV8 dc8 pm8 an8 cd8 ct8), sl8⟩) (c8 : PySem.W.codeIn K cd8 "cut_orbits" = true) (k8 : PySem.W.keepIn K (.ref f8) = true)
    {f9 : Addr} {od9 an9 : Option Addr} {sl9 : Array (Option Value)} {oc9 kV9 dc9 pm9 cd9 ct9 : Value}
    (a9 : PySem.W.nsIn K mainGlobals "cut_gates" = some (some (.ref f9))) (l9 : K.lookup f9 = some ⟨oc9, od9, .func (PySem.W.fnOf "cut_gates" "cut_gates" (defArgs s_cut_gates) (defBody s_cut_gates) (defScope s_cut_gates) .none kV9 dc9 pm9 an9 cd9 ct9), sl9⟩) (c9 : PySem.W.codeIn K cd9 "cut_gates" = true) (k9 : PySem.W.keepIn K (.ref f9) = true)
    {f10 : Addr} {od10 an10 : Option Addr} {sl10 : Array (Option Value)} {oc10 kV10 dc10 pm10 cd10 ct10 : Value}
    (a10 : PySem.W.nsIn K mainGlobals "is_cut_even" = some (some (.ref f10))) (l10 : K.lookup f10 = some ⟨oc10, od10, .func (PySem.W.fnOf "is_cut_even" "is_cut_even" (defArgs s_is_cut_even) (defBody s_is_cut_even) (defScope s_is_cut_even) .none kV10 dc10 pm10 an10 cd10 ct10), sl10⟩) (c10 : PySem.W.codeIn K cd10 "is_cut_even" = true) (k10 : PySem.W.keepIn K (.ref f10) = true)
    {f11 : Addr} {od11 an11 : Option Addr} {sl11 : Array (Option Value)} {oc11 kV11 dc11 pm11 cd11 ct11 : Value}
    (a11 : PySem.W.nsIn K mainGlobals "_law_gpen" = some (some (.ref f11))) (l11 : K.lookup f11 = some ⟨oc11, od11, .func (PySem.W.fnOf "_law_gpen" "_law_gpen" (defArgs s_law_gpen) (defBody s_law_gpen) (defScope s_law_gpen) .none kV11 dc11 pm11 an11 cd11 ct11), sl11⟩) (c11 : PySem.W.codeIn K cd11 "_law_gpen" = true) (k11 : PySem.W.keepIn K (.ref f11) = true)
    {f12 : Addr} {od12 an12 : Option Addr} {sl12 : Array (Option Value)} {oc12 kV12 dc12 pm12 cd12 ct12 : Value}
    (a12 : PySem.W.nsIn K mainGlobals "_law_gdraw" = some (some (.ref f12))) (l12 : K.lookup f12 = some ⟨oc12, od12, .func (PySem.W.fnOf "_law_gdraw" "_law_gdraw" (defArgs s_law_gdraw) (defBody s_law_gdraw) (defScope s_law_gdraw) .none kV12 dc12 pm12 an12 cd12 ct12), sl12⟩) (c12 : PySem.W.codeIn K cd12 "_law_gdraw" = true) (k12 : PySem.W.keepIn K (.ref f12) = true)
    {f13 : Addr} {od13 an13 : Option Addr} {sl13 : Array (Option Value)} {oc13 kV13 dc13 pm13 cd13 ct13 : Value}
    (a13 : PySem.W.nsIn K mainGlobals "_law_gsigns" = some (some (.ref f13))) (l13 : K.lookup f13 = some ⟨oc13, od13, .func (PySem.W.fnOf "_law_gsigns" "_law_gsigns" (defArgs s_law_gsigns) (defBody s_law_gsigns) (defScope s_law_gsigns) .none kV13 dc13 pm13 an13 cd13 ct13), sl13⟩) (c13 : PySem.W.codeIn K cd13 "_law_gsigns" = true) (k13 : PySem.W.keepIn K (.ref f13) = true)
    {f14 : Addr} {od14 an14 : Option Addr} {sl14 : Array (Option Value)} {oc14 kV14 dc14 pm14 cd14 ct14 : Value}
    (a14 : PySem.W.nsIn K mainGlobals "_law_gto_end" = some (some (.ref f14))) (l14 : K.lookup f14 = some ⟨oc14, od14, .func (PySem.W.fnOf "_law_gto_end" "_law_gto_end" (defArgs s_law_gto_end) (defBody s_law_gto_end) (defScope s_law_gto_end) .none kV14 dc14 pm14 an14 cd14 ct14), sl14⟩) (c14 : PySem.W.codeIn K cd14 "_law_gto_end" = true) (k14 : PySem.W.keepIn K (.ref f14) = true)
    {f15 : Addr} {od15 an15 : Option Addr} {sl15 : Array (Option Value)} {oc15 kV15 dc15 pm15 cd15 ct15 : Value}
    (a15 : PySem.W.nsIn K mainGlobals "_law_gtrim" = some (some (.ref f15))) (l15 : K.lookup f15 = some ⟨oc15, od15, .func (PySem.W.fnOf "_law_gtrim" "_law_gtrim" (defArgs s_law_gtrim) (defBody s_law_gtrim) (defScope s_law_gtrim) .none kV15 dc15 pm15 an15 cd15 ct15), sl15⟩) (c15 : PySem.W.codeIn K cd15 "_law_gtrim" = true) (k15 : PySem.W.keepIn K (.ref f15) = true)
    {f16 : Addr} {od16 an16 : Option Addr} {sl16 : Array (Option Value)} {oc16 kV16 dc16 pm16 cd16 ct16 : Value}
    (a16 : PySem.W.nsIn K mainGlobals "_law_gmachine" = some (some (.ref f16))) (l16 : K.lookup f16 = some ⟨oc16, od16, .func (PySem.W.fnOf "_law_gmachine" "_law_gmachine" (defArgs s_law_gmachine) (defBody s_law_gmachine) (defScope s_law_gmachine) .none kV16 dc16 pm16 an16 cd16 ct16), sl16⟩) (c16 : PySem.W.codeIn K cd16 "_law_gmachine" = true) (k16 : PySem.W.keepIn K (.ref f16) = true)
    {f17 : Addr} {od17 an17 : Option Addr} {sl17 : Array (Option Value)} {oc17 kV17 dc17 pm17 cd17 ct17 : Value}
    (a17 : PySem.W.nsIn K mainGlobals "_law_greach" = some (some (.ref f17))) (l17 : K.lookup f17 = some ⟨oc17, od17, .func (PySem.W.fnOf "_law_greach" "_law_greach" (defArgs s_law_greach) (defBody s_law_greach) (defScope s_law_greach) .none kV17 dc17 pm17 an17 cd17 ct17), sl17⟩) (c17 : PySem.W.codeIn K cd17 "_law_greach" = true) (k17 : PySem.W.keepIn K (.ref f17) = true)
    {f18 : Addr} {od18 an18 : Option Addr} {sl18 : Array (Option Value)} {oc18 kV18 dc18 pm18 cd18 ct18 : Value}
    (a18 : PySem.W.nsIn K mainGlobals "_law_gorbits" = some (some (.ref f18))) (l18 : K.lookup f18 = some ⟨oc18, od18, .func (PySem.W.fnOf "_law_gorbits" "_law_gorbits" (defArgs s_law_gorbits) (defBody s_law_gorbits) (defScope s_law_gorbits) .none kV18 dc18 pm18 an18 cd18 ct18), sl18⟩) (c18 : PySem.W.codeIn K cd18 "_law_gorbits" = true) (k18 : PySem.W.keepIn K (.ref f18) = true)
    {f19 : Addr} {od19 an19 : Option Addr} {sl19 : Array (Option Value)} {oc19 kV19 dc19 pm19 cd19 ct19 : Value}
    (a19 : PySem.W.nsIn K mainGlobals "_law_gout" = some (some (.ref f19))) (l19 : K.lookup f19 = some ⟨oc19, od19, .func (PySem.W.fnOf "_law_gout" "_law_gout" (defArgs s_law_gout) (defBody s_law_gout) (defScope s_law_gout) .none kV19 dc19 pm19 an19 cd19 ct19), sl19⟩) (c19 : PySem.W.codeIn K cd19 "_law_gout" = true) (k19 : PySem.W.keepIn K (.ref f19) = true)
    {f20 : Addr} {od20 an20 : Option Addr} {sl20 : Array (Option Value)} {oc20 kV20 dc20 pm20 cd20 ct20 : Value}
    (a20 : PySem.W.nsIn K mainGlobals "_law_ggates" = some (some (.ref f20))) (l20 : K.lookup f20 = some ⟨oc20, od20, .func (PySem.W.fnOf "_law_ggates" "_law_ggates" (defArgs s_law_ggates) (defBody s_law_ggates) (defScope s_law_ggates) .none kV20 dc20 pm20 an20 cd20 ct20), sl20⟩) (c20 : PySem.W.codeIn K cd20 "_law_ggates" = true) (k20 : PySem.W.keepIn K (.ref f20) = true)
    {f21 : Addr} {od21 an21 : Option Addr} {sl21 : Array (Option Value)} {oc21 kV21 dc21 pm21 cd21 ct21 : Value}
    (a21 : PySem.W.nsIn K mainGlobals "_law_gis_even" = some (some (.ref f21))) (l21 : K.lookup f21 = some ⟨oc21, od21, .func (PySem.W.fnOf "_law_gis_even" "_law_gis_even" (defArgs s_law_gis_even) (defBody s_law_gis_even) (defScope s_law_gis_even) .none kV21 dc21 pm21 an21 cd21 ct21), sl21⟩) (c21 : PySem.W.codeIn K cd21 "_law_gis_even" = true) (k21 : PySem.W.keepIn K (.ref f21) = true)
    {f22 : Addr} {od22 an22 : Option Addr} {sl22 : Array (Option Value)} {oc22 kV22 dc22 pm22 cd22 ct22 : Value}
    (a22 : PySem.W.nsIn K mainGlobals "_law_ggoal" = some (some (.ref f22))) (l22 : K.lookup f22 = some ⟨oc22, od22, .func (PySem.W.fnOf "_law_ggoal" "_law_ggoal" (defArgs s_law_ggoal) (defBody s_law_ggoal) (defScope s_law_ggoal) .none kV22 dc22 pm22 an22 cd22 ct22), sl22⟩) (c22 : PySem.W.codeIn K cd22 "_law_ggoal" = true) (k22 : PySem.W.keepIn K (.ref f22) = true)
    {f23 : Addr} {od23 an23 : Option Addr} {sl23 : Array (Option Value)} {oc23 kV23 dc23 pm23 cd23 ct23 : Value}
    (a23 : PySem.W.nsIn K mainGlobals "_law_gsteady" = some (some (.ref f23))) (l23 : K.lookup f23 = some ⟨oc23, od23, .func (PySem.W.fnOf "_law_gsteady" "_law_gsteady" (defArgs s_law_gsteady) (defBody s_law_gsteady) (defScope s_law_gsteady) .none kV23 dc23 pm23 an23 cd23 ct23), sl23⟩) (c23 : PySem.W.codeIn K cd23 "_law_gsteady" = true) (k23 : PySem.W.keepIn K (.ref f23) = true)
    {f24 : Addr} {od24 an24 : Option Addr} {sl24 : Array (Option Value)} {oc24 kV24 dc24 pm24 cd24 ct24 : Value}
    (a24 : PySem.W.nsIn K mainGlobals "_law_gcut" = some (some (.ref f24))) (l24 : K.lookup f24 = some ⟨oc24, od24, .func (PySem.W.fnOf "_law_gcut" "_law_gcut" (defArgs s_law_gcut) (defBody s_law_gcut) (defScope s_law_gcut) .none kV24 dc24 pm24 an24 cd24 ct24), sl24⟩) (c24 : PySem.W.codeIn K cd24 "_law_gcut" = true) (k24 : PySem.W.keepIn K (.ref f24) = true)
    {f25 : Addr} {od25 an25 : Option Addr} {sl25 : Array (Option Value)} {oc25 kV25 dc25 pm25 cd25 ct25 : Value}
    (a25 : PySem.W.nsIn K mainGlobals "_law_gsame" = some (some (.ref f25))) (l25 : K.lookup f25 = some ⟨oc25, od25, .func (PySem.W.fnOf "_law_gsame" "_law_gsame" (defArgs s_law_gsame) (defBody s_law_gsame) (defScope s_law_gsame) .none kV25 dc25 pm25 an25 cd25 ct25), sl25⟩) (c25 : PySem.W.codeIn K cd25 "_law_gsame" = true) (k25 : PySem.W.keepIn K (.ref f25) = true)
    {f26 : Addr} {od26 an26 : Option Addr} {sl26 : Array (Option Value)} {oc26 kV26 dc26 pm26 cd26 ct26 : Value}
    (a26 : PySem.W.nsIn K mainGlobals "_law_galike" = some (some (.ref f26))) (l26 : K.lookup f26 = some ⟨oc26, od26, .func (PySem.W.fnOf "_law_galike" "_law_galike" (defArgs s_law_galike) (defBody s_law_galike) (defScope s_law_galike) .none kV26 dc26 pm26 an26 cd26 ct26), sl26⟩) (c26 : PySem.W.codeIn K cd26 "_law_galike" = true) (k26 : PySem.W.keepIn K (.ref f26) = true)
    {f27 : Addr} {od27 an27 : Option Addr} {sl27 : Array (Option Value)} {oc27 kV27 dc27 pm27 cd27 ct27 : Value}
    (a27 : PySem.W.nsIn K mainGlobals "_law_gring_right" = some (some (.ref f27))) (l27 : K.lookup f27 = some ⟨oc27, od27, .func (PySem.W.fnOf "_law_gring_right" "_law_gring_right" (defArgs s_law_gring_right) (defBody s_law_gring_right) (defScope s_law_gring_right) .none kV27 dc27 pm27 an27 cd27 ct27), sl27⟩) (c27 : PySem.W.codeIn K cd27 "_law_gring_right" = true) (k27 : PySem.W.keepIn K (.ref f27) = true)
    {f28 : Addr} {od28 an28 : Option Addr} {sl28 : Array (Option Value)} {oc28 kV28 dc28 pm28 cd28 ct28 : Value}
    (a28 : PySem.W.nsIn K mainGlobals "law" = some (some (.ref f28))) (l28 : K.lookup f28 = some ⟨oc28, od28, .func (PySem.W.fnOf "law" "law" (defArgs s_law) (defBody s_law) (defScope s_law) .none kV28 dc28 pm28 an28 cd28 ct28), sl28⟩) (c28 : PySem.W.codeIn K cd28 "law" = true) (k28 : PySem.W.keepIn K (.ref f28) = true)
    (z_all : PySem.W.nsIn K mainGlobals "all" = some none)
    (z_any : PySem.W.nsIn K mainGlobals "any" = some none)
    (z_bool : PySem.W.nsIn K mainGlobals "bool" = some none)
    (z_dict : PySem.W.nsIn K mainGlobals "dict" = some none)
    (z_int : PySem.W.nsIn K mainGlobals "int" = some none)
    (z_isinstance : PySem.W.nsIn K mainGlobals "isinstance" = some none)
    (z_len : PySem.W.nsIn K mainGlobals "len" = some none)
    (z_list : PySem.W.nsIn K mainGlobals "list" = some none)
    (z_range : PySem.W.nsIn K mainGlobals "range" = some none)
    (z_sorted : PySem.W.nsIn K mainGlobals "sorted" = some none)
    (z_str : PySem.W.nsIn K mainGlobals "str" = some none)
    (z_tuple : PySem.W.nsIn K mainGlobals "tuple" = some none)
    (z_zip : PySem.W.nsIn K mainGlobals "zip" = some none)
    : ∃ fd : FuncData, (∀ (s : Shared) (v : Value), BindsTo s fd ⟨[v], []⟩ [("script", v)]) ∧ ∀ base : Heap, K.In base → base.Ns mainGlobals mg → FnOk l.prog w K mg base CX0 10 fa fd ["script"] (spF0 K κ 1 f_law) := by
  have Z : Zs mg := ⟨PySem.W.mg_none_of X G z_all, PySem.W.mg_none_of X G z_any, PySem.W.mg_none_of X G z_bool, PySem.W.mg_none_of X G z_dict, PySem.W.mg_none_of X G z_int, PySem.W.mg_none_of X G z_isinstance, PySem.W.mg_none_of X G z_len, PySem.W.mg_none_of X G z_list, PySem.W.mg_none_of X G z_range, PySem.W.mg_none_of X G z_sorted, PySem.W.mg_none_of X G z_str, PySem.W.mg_none_of X G z_tuple, PySem.W.mg_none_of X G z_zip⟩
  have F0 := fun_mk (st := s_come_to) l0 c0 k0
  have g0 := PySem.W.mg_of X G a0
  have F1 := fun_mk (st := s_orbits) l1 c1 k1
  have g1 := PySem.W.mg_of X G a1
  have F2 := fun_mk (st := s_leads_out) l2 c2 k2
  have g2 := PySem.W.mg_of X G a2
  have F3 := fun_mk (st := s_gates) l3 c3 k3
  have g3 := PySem.W.mg_of X G a3
  have F4 := fun_mk (st := s_unlike_gates) l4 c4 k4
  have g4 := PySem.W.mg_of X G a4
  have F5 := fun_mk (st := s_is_even) l5 c5 k5
  have g5 := PySem.W.mg_of X G a5
  have F6 := fun_mk (st := s_steady) l6 c6 k6
  have g6 := PySem.W.mg_of X G a6
  have F7 := fun_mk (st := s_cut_machine) l7 c7 k7
  have g7 := PySem.W.mg_of X G a7
  have F8 := fun_mk (st := s_cut_orbits) l8 c8 k8
  have g8 := PySem.W.mg_of X G a8
  have F9 := fun_mk (st := s_cut_gates) l9 c9 k9
  have g9 := PySem.W.mg_of X G a9
  have F10 := fun_mk (st := s_is_cut_even) l10 c10 k10
  have g10 := PySem.W.mg_of X G a10
  have F11 := fun_mk (st := s_law_gpen) l11 c11 k11
  have g11 := PySem.W.mg_of X G a11
  have F12 := fun_mk (st := s_law_gdraw) l12 c12 k12
  have g12 := PySem.W.mg_of X G a12
  have F13 := fun_mk (st := s_law_gsigns) l13 c13 k13
  have g13 := PySem.W.mg_of X G a13
  have F14 := fun_mk (st := s_law_gto_end) l14 c14 k14
  have g14 := PySem.W.mg_of X G a14
  have F15 := fun_mk (st := s_law_gtrim) l15 c15 k15
  have g15 := PySem.W.mg_of X G a15
  have F16 := fun_mk (st := s_law_gmachine) l16 c16 k16
  have g16 := PySem.W.mg_of X G a16
  have F17 := fun_mk (st := s_law_greach) l17 c17 k17
  have g17 := PySem.W.mg_of X G a17
  have F18 := fun_mk (st := s_law_gorbits) l18 c18 k18
  have g18 := PySem.W.mg_of X G a18
  have F19 := fun_mk (st := s_law_gout) l19 c19 k19
  have g19 := PySem.W.mg_of X G a19
  have F20 := fun_mk (st := s_law_ggates) l20 c20 k20
  have g20 := PySem.W.mg_of X G a20
  have F21 := fun_mk (st := s_law_gis_even) l21 c21 k21
  have g21 := PySem.W.mg_of X G a21
  have F22 := fun_mk (st := s_law_ggoal) l22 c22 k22
  have g22 := PySem.W.mg_of X G a22
  have F23 := fun_mk (st := s_law_gsteady) l23 c23 k23
  have g23 := PySem.W.mg_of X G a23
  have F24 := fun_mk (st := s_law_gcut) l24 c24 k24
  have g24 := PySem.W.mg_of X G a24
  have F25 := fun_mk (st := s_law_gsame) l25 c25 k25
  have g25 := PySem.W.mg_of X G a25
  have F26 := fun_mk (st := s_law_galike) l26 c26 k26
  have g26 := PySem.W.mg_of X G a26
  have F27 := fun_mk (st := s_law_gring_right) l27 c27 k27
  have g27 := PySem.W.mg_of X G a27
  have F28 := fun_mk (st := s_law) l28 c28 k28
  have g28 := PySem.W.mg_of X G a28
  have e := hfa.symm.trans g28
  cases e
  refine ⟨PySem.W.fnOf "law" "law" (defArgs s_law) (defBody s_law) (defScope s_law) .none kV28 dc28 pm28 an28 cd28 ct28, fun s v => .of_eq rfl, fun base _ _ => ?_⟩
  have C_come_to := ok_come_to (P := l.prog) (w := w) (base := base) (κ := κ) F0 g0 Z
  have C_orbits := ok_orbits (P := l.prog) (w := w) (base := base) (κ := κ) F1 g1 Z C_come_to
  have C_leads_out := ok_leads_out (P := l.prog) (w := w) (base := base) (κ := κ) F2 g2 Z
  have C_gates := ok_gates (P := l.prog) (w := w) (base := base) (κ := κ) F3 g3 Z C_leads_out
  have C_unlike_gates := ok_unlike_gates (P := l.prog) (w := w) (base := base) (κ := κ) F4 g4 Z C_gates C_leads_out
  have C_is_even := ok_is_even (P := l.prog) (w := w) (base := base) (κ := κ) F5 g5 Z C_unlike_gates
  have C_steady := ok_steady (P := l.prog) (w := w) (base := base) (κ := κ) F6 g6 Z
  have C_cut_machine := ok_cut_machine (P := l.prog) (w := w) (base := base) (κ := κ) F7 g7 Z C_steady
  have C_cut_orbits := ok_cut_orbits (P := l.prog) (w := w) (base := base) (κ := κ) F8 g8 Z C_cut_machine C_orbits
  have C_cut_gates := ok_cut_gates (P := l.prog) (w := w) (base := base) (κ := κ) F9 g9 Z C_cut_machine C_gates
  have C_is_cut_even := ok_is_cut_even (P := l.prog) (w := w) (base := base) (κ := κ) F10 g10 Z C_cut_machine C_is_even
  have C_law_gpen := ok_law_gpen (P := l.prog) (w := w) (base := base) (κ := κ) F11 g11 Z
  have C_law_gdraw := ok_law_gdraw (P := l.prog) (w := w) (base := base) (κ := κ) F12 g12 Z
  have C_law_gsigns := ok_law_gsigns (P := l.prog) (w := w) (base := base) (κ := κ) F13 g13 Z C_law_gdraw
  have C_law_gto_end := ok_law_gto_end (P := l.prog) (w := w) (base := base) (κ := κ) F14 g14 Z
  have C_law_gtrim := ok_law_gtrim (P := l.prog) (w := w) (base := base) (κ := κ) F15 g15 Z C_law_gto_end
  have C_law_gmachine := ok_law_gmachine (P := l.prog) (w := w) (base := base) (κ := κ) F16 g16 Z C_law_gdraw C_law_gtrim
  have C_law_greach := ok_law_greach (P := l.prog) (w := w) (base := base) (κ := κ) F17 g17 Z
  have C_law_gorbits := ok_law_gorbits (P := l.prog) (w := w) (base := base) (κ := κ) F18 g18 Z C_law_greach
  have C_law_gout := ok_law_gout (P := l.prog) (w := w) (base := base) (κ := κ) F19 g19 Z
  have C_law_ggates := ok_law_ggates (P := l.prog) (w := w) (base := base) (κ := κ) F20 g20 Z C_law_gout
  have C_law_gis_even := ok_law_gis_even (P := l.prog) (w := w) (base := base) (κ := κ) F21 g21 Z C_law_ggates C_law_gout
  have C_law_ggoal := ok_law_ggoal (P := l.prog) (w := w) (base := base) (κ := κ) F22 g22 Z
  have C_law_gsteady := ok_law_gsteady (P := l.prog) (w := w) (base := base) (κ := κ) F23 g23 Z C_law_ggoal
  have C_law_gcut := ok_law_gcut (P := l.prog) (w := w) (base := base) (κ := κ) F24 g24 Z C_law_gsteady
  have C_law_gsame := ok_law_gsame (P := l.prog) (w := w) (base := base) (κ := κ) F25 g25 Z 8
  have C_law_galike := ok_law_galike (P := l.prog) (w := w) (base := base) (κ := κ) F26 g26 Z C_law_gdraw C_law_gtrim
  have C_law_gring_right := ok_law_gring_right (P := l.prog) (w := w) (base := base) (κ := κ) F27 g27 Z C_law_gdraw C_steady C_cut_orbits C_law_gsame C_is_cut_even C_cut_gates
  have C_law := fn_law (P := l.prog) (w := w) (base := base) (κ := κ) F28 g28 Z C_law_gpen C_law_gsigns C_law_gring_right C_law_gdraw C_law_gmachine C_law_galike C_law_gsteady C_law_gcut C_steady C_cut_orbits C_law_gorbits C_law_gsame C_cut_gates C_law_ggates C_is_cut_even C_law_gis_even
  exact C_law
end Tk81
end Mid
namespace Mid
open PySem
abbrev Mach := List (Bool × List (Str × Nat))
def iD (k : Nat) : Dv := .int k
def stepD (p : Str × Nat) : Dv := .tup [.str p.1, iD p.2]
def roomD (r : Bool × List (Str × Nat)) : Dv := .tup [.bl r.1, .tup (r.2.map stepD)]
def mD (M : Mach) : Dv := .tup (M.map roomD)
def keysD (ks : List Nat) : List (KeyQ × Dv) := ks.map fun k : Nat => (Sum.inl (k : Int), Dv.bl true)
def succs (M : Mach) (k : Nat) : List Nat := match M[k]? with
  | some r => r.2.map (·.2)
  | none => []
inductive Rch (M : Mach) : Nat → Nat → Prop where
  | refl (i : Nat) : Rch M i i
  | tail {i j k : Nat} : Rch M i j → k ∈ succs M j → Rch M i k
def Wf (M : Mach) : Prop := ∀ i j, j ∈ succs M i → j < M.length

theorem iD_eq {a b : Nat} : iD a = iD b ↔ a = b := by unfold iD; simp only [Dv.int.injEq]; omega
theorem succs_of {M : Mach} {k : Nat} {r : Bool × List (Str × Nat)} (h : M[k]? = some r) : succs M k = r.2.map (·.2) := by unfold succs; rw [h]
theorem keysD_mem {ks : List Nat} {k : Nat} : (kval (keysD ks) (Sum.inl (k : Int))).isSome = decide (k ∈ ks) := by
  rw [Bool.eq_iff_iff, kval_some, decide_eq_true_iff]
  unfold keysD
  rw [List.map_map]
  simp only [Function.comp_def, List.mem_map, Sum.inl.injEq]
  exact ⟨fun ⟨a, h, e⟩ => by rw [← Int.ofNat_inj.mp e]; exact h, fun h => ⟨k, h, rfl⟩⟩
theorem keysD_put {ks : List Nat} {k : Nat} (h : k ∉ ks) : kput (keysD ks) (Sum.inl (k : Int)) (.bl true) = keysD (ks ++ [k]) := by
  rw [kput_new]
  · simp [keysD]
  · unfold keysD
    rw [List.map_map]
    simp only [Function.comp_def, List.mem_map, Sum.inl.injEq]
    rintro ⟨a, h', e⟩
    exact h (by rw [← Int.ofNat_inj.mp e]; exact h')
theorem keysD_len (ks : List Nat) : (keysD ks).length = ks.length := by simp [keysD]
theorem nodup_len {ks : List Nat} {n : Nat} (nd : ks.Nodup) (h : ∀ j ∈ ks, j < n) : ks.length ≤ n := by
  have : ∀ (n : Nat) (ks : List Nat), ks.Nodup → (∀ j ∈ ks, j < n) → ks.length ≤ n := by
    intro n
    induction n with
    | zero => intro ks _ h; cases ks with
      | nil => exact Nat.le_refl _
      | cons a r => exact absurd (h a List.mem_cons_self) (Nat.not_lt_zero _)
    | succ n ih =>
      intro ks nd h
      have h1 : (ks.erase n).length ≤ n := ih _ (nd.erase n) fun j hj => by
        have := (List.Nodup.mem_erase_iff nd).mp hj
        have := h j this.2
        omega
      rw [List.length_erase] at h1
      split at h1 <;> omega
  exact this n ks nd h
/-- what holds between two turns of come_to's loops -/
structure CT (M : Mach) (r : Nat) (ks ws : List Nat) : Prop where
  nd : ks.Nodup
  rch : ∀ j ∈ ks, Rch M r j
  lt : ∀ j ∈ ks, j < M.length
  sub : ∀ j ∈ ws, j ∈ ks
  root : r ∈ ks
  ndw : ws.Nodup
theorem come_to_ok {M : Mach} {s : Mst} {r : Nat} {Q : Dv → Mst → Prop} (wf : Wf M) (hr : r < M.length) (hM : M.length ≤ 1000)
    (q : ∀ s' ks, Fr [] s s' → s'[s.length]? = some (.dK (keysD ks)) → ks.Nodup → (∀ j, j ∈ ks ↔ Rch M r j) → Q (.loc s.length) s') : (f_come_to [mD M, iD r] s).to Q := by
  unfold f_come_to
  refine fun_to rfl ?_
  unfold m_come_to
  simp [mStart, dispQ, keyQ, iD]
  refine while_m (fun m σ s1 => ∃ ks ws x y, σ = [some (mD M), some (iD r), some (.loc s.length), some (.loc (s.length + 1)), x, y] ∧ s1 = s ++ [.dK (keysD ks), .lst (ws.map iD)] ∧ CT M r ks ws ∧
      (∀ i ∈ ks, i ∉ ws → ∀ j ∈ succs M i, j ∈ ks) ∧ m = 2 * (M.length - ks.length) + ws.length)
    ⟨_, [r], [r], none, none, rfl, rfl, ⟨by simp, by simpa using .refl r, by simpa using hr, by simp, by simp, by simp⟩, by simp, rfl⟩ ?_
  rintro m σ s1 ⟨ks, ws, x, y, rfl, rfl, h, hcl, rfl⟩
  have lw : (s ++ [MO.dK (keysD ks), .lst (ws.map iD)])[s.length + 1]? = some (.lst (ws.map iD)) := by simp
  simp only [w_tval, w_op, vS, v0, w_call, w_argsS, w_args0, to_ok, bLen_seq (seqOf_lst lw), mC_eq, oGt_int, toB_bl, List.length_map]
  rcases List.eq_nil_or_concat ws with rfl | ⟨ws', k, e⟩
  · simp only [List.length_nil, Int.natCast_zero, Int.lt_irrefl, decide_false, Bool.false_eq_true, if_false, w_ret, vS, v0, to_ok]
    refine q _ ks Fr.app (by simp) h.nd fun j => ⟨h.rch j, fun hj => ?_⟩
    induction hj with
    | refl => exact h.root
    | tail a b ih => exact hcl _ ih (by simp) _ b
  · rw [List.concat_eq_append] at e
    subst e
    have hpos : (0 : Int) < ((ws' ++ [k]).length : Nat) := by rw [List.length_append, List.length_singleton]; omega
    rw [decide_eq_true hpos, if_pos rfl]
    have hkk : k ∈ ks := h.sub k (by simp)
    have hkl := h.lt k hkk
    obtain ⟨r0, hr0⟩ : ∃ r0, M[k]? = some r0 := ⟨_, List.getElem?_eq_getElem hkl⟩
    have lw2 : (s ++ [MO.dK (keysD ks), .lst ((ws' ++ [k]).map iD)])[s.length + 1]? = some (.lst (ws'.map iD ++ [iD k])) := by simp
    have lm : (M.map roomD)[k]? = some (roomD r0) := by rw [List.getElem?_map, hr0]; rfl
    simp only [w_for, w_iseq, w_op, vS, v0, w_meth, to_ok, tyQ_lst lw2, true_and, w_args0, tPop_lst lw2, mC_eq, mD]
    rw [show iD k = .int (k : Int) from rfl, oGet_tup lm]
    simp only [to_ok, roomD, oGet_tup1, itSeq_tup]
    refine for_by (fun i σ s1 => ∃ ks2 ws2 x y, σ = [some (mD M), some (iD r), some (.loc s.length), some (.loc (s.length + 1)), x, y] ∧ s1 = s ++ [.dK (keysD ks2), .lst (ws2.map iD)] ∧ CT M r ks2 ws2 ∧
      (∀ i ∈ ks2, i ∉ ws2 → i ≠ k → ∀ j ∈ succs M i, j ∈ ks2) ∧ k ∈ ks2 ∧ (∀ j ∈ (r0.2.take i).map (·.2), j ∈ ks2) ∧ 2 * (M.length - ks2.length) + ws2.length ≤ 2 * (M.length - ks.length) + ws'.length)
      ⟨ks, ws', x, y, rfl, by simp, ⟨h.nd, h.rch, h.lt, fun j hj => h.sub j (by simp [hj]), h.root, by have := h.ndw; simp [List.nodup_append] at this; exact this.1⟩,
        fun i hi hw hne => hcl i hi (by simp [hw, hne]), hkk, by simp, Nat.le_refl _⟩ (fun _ _ _ _ => trivial) ?_ ?_
    · rintro i z σ s1 hz ⟨ks2, ws2, x, y, rfl, rfl, h2, hcl2, hk2, ht, hm⟩
      rw [List.getElem?_map] at hz
      cases q0 : r0.2[i]? with
      | none => rw [q0] at hz; cases hz
      | some p =>
        rw [q0] at hz
        cases hz
        have hs : p.2 ∈ succs M k := by rw [succs_of hr0]; exact List.mem_map.mpr ⟨p, List.mem_of_getElem? q0, rfl⟩
        have ht' : ∀ ks3 : List Nat, (∀ j ∈ ks2, j ∈ ks3) → p.2 ∈ ks3 → ∀ j ∈ (r0.2.take (i + 1)).map (·.2), j ∈ ks3 := fun ks3 h3 h4 j hj => by
          rw [List.take_add_one, q0, List.map_append, List.mem_append] at hj
          rcases hj with hj | hj
          · exact h3 j (ht j hj)
          · simp at hj; rw [hj]; exact h4
        have ld : (s ++ [MO.dK (keysD ks2), .lst (ws2.map iD)])[s.length]? = some (.dK (keysD ks2)) := by simp
        simp only [stepD, w_gT, w_gES, w_gE0, w_gN, List.length_cons, List.length_nil, true_and, List.set_cons_succ, List.set_cons_zero, w_if, w_tval, w_op, vS, v0, to_ok]
        rw [oNotIn_dict ld (show keyQ (iD p.2) = some (Sum.inl (p.2 : Int)) from rfl), keysD_mem]
        simp only [to_ok, toB_bl]
        by_cases hp : p.2 ∈ ks2
        · simp only [hp, decide_true, Bool.not_true, Bool.false_eq_true, if_false, w_nx]
          exact ⟨ks2, ws2, _, _, rfl, rfl, h2, hcl2, hk2, ht' ks2 (fun _ z => z) hp, hm⟩
        · simp only [hp, decide_false, Bool.not_false, if_true, w_seq, w_put, mC_eq, to_ok, vS, v0]
          have hlen : ks2.length < M.length := by
            have h5 : (ks2 ++ [p.2]).length ≤ M.length := nodup_len (by
              rw [List.nodup_append]
              exact ⟨h2.nd, by simp, fun a ha b hb e => hp (by simp at hb; rw [← hb, ← e]; exact ha)⟩) fun j hj => by
                rcases List.mem_append.mp hj with hj | hj
                · exact h2.lt j hj
                · simp at hj; rw [hj]; exact wf _ _ hs
            rw [List.length_append, List.length_singleton] at h5; omega
          rw [oPut_dict ld (show keyQ (iD p.2) = some (Sum.inl (p.2 : Int)) from rfl) (by rw [keysD_len]; omega), keysD_put hp]
          have lw3 : (s ++ [MO.dK (keysD (ks2 ++ [p.2])), .lst (ws2.map iD)])[s.length + 1]? = some (.lst (ws2.map iD)) := by simp
          have hwl : ws2.length < 2 ^ 24 := by
            have := nodup_len h2.ndw fun j hj => h2.lt j (h2.sub j hj)
            omega
          simp only [to_ok, w_exp, w_meth, vS, v0, set_new0, List.set_cons_zero, tyQ_lst lw3, true_and, w_argsS, w_args0, tAppend_lst lw3 (by rw [List.length_map]; exact hwl), set_newS, List.set_cons_succ]
          refine ⟨ks2 ++ [p.2], ws2 ++ [p.2], _, _, rfl, by simp, ⟨?_, ?_, ?_, ?_, by simp [h2.root], ?_⟩, ?_, by simp [hk2], ht' _ (fun j hj => by simp [hj]) (by simp), by simp; omega⟩
          · rw [List.nodup_append]
            exact ⟨h2.nd, by simp, fun a ha b hb e => hp (by simp at hb; rw [← hb, ← e]; exact ha)⟩
          · intro j hj
            rcases List.mem_append.mp hj with hj | hj
            · exact h2.rch j hj
            · simp at hj; rw [hj]; exact .tail (h2.rch k hk2) hs
          · intro j hj
            rcases List.mem_append.mp hj with hj | hj
            · exact h2.lt j hj
            · simp at hj; rw [hj]; exact wf _ _ hs
          · intro j hj
            rcases List.mem_append.mp hj with hj | hj
            · simp [h2.sub j hj]
            · simp at hj; simp [hj]
          · rw [List.nodup_append]
            exact ⟨h2.ndw, by simp, fun a ha b hb e => hp (by simp at hb; rw [← hb, ← e]; exact h2.sub a ha)⟩
          · intro a ha hw hne j hj
            rw [List.mem_append] at hw
            rcases List.mem_append.mp ha with ha | ha
            · simp [hcl2 a ha (fun z => hw (.inl z)) hne j hj]
            · exact absurd ha fun z => hw (.inr z)
    · rintro σ s1 ⟨ks2, ws2, x, y, rfl, rfl, h2, hcl2, hk2, ht, hm⟩
      refine ⟨_, ?_, ks2, ws2, x, y, rfl, rfl, h2, fun i hi hw j hj => ?_, rfl⟩
      · simp; omega
      · by_cases hik : i = k
        · subst hik
          refine ht j ?_
          rw [List.length_map, List.take_length, ← succs_of hr0]
          exact hj
        · exact hcl2 i hi hw hik j hj
end Mid
namespace Mid
open PySem
noncomputable section
variable {M : Mach} {s : Mst} {Q : Dv → Mst → Prop}
def rchB (M : Mach) (i j : Nat) : Bool := @decide (Rch M i j) (Classical.propDecidable _)
theorem rchB_iff {i j : Nat} : rchB M i j = true ↔ Rch M i j := by unfold rchB; exact @decide_eq_true_iff _ (Classical.propDecidable _)
def eqvB (M : Mach) (i j : Nat) : Bool := rchB M i j && rchB M j i
def orbitOf (M : Mach) (k : Nat) : List Nat := (List.range M.length).filter (eqvB M k)
def rootB (M : Mach) (k : Nat) : Bool := (List.range k).all fun j => !eqvB M j k
def orbs (M : Mach) (m : Nat) : List (List Nat) := ((List.range m).filter (rootB M)).map (orbitOf M)
theorem Rch.trans {i j k : Nat} (h : Rch M i j) (g : Rch M j k) : Rch M i k := by induction g with
  | refl => exact h
  | tail _ b ih => exact .tail ih b
theorem eqvB_iff {i j : Nat} : eqvB M i j = true ↔ Rch M i j ∧ Rch M j i := by unfold eqvB; rw [Bool.and_eq_true, rchB_iff, rchB_iff]
theorem eqv_refl (i : Nat) : eqvB M i i = true := eqvB_iff.mpr ⟨.refl _, .refl _⟩
theorem eqv_symm {i j : Nat} (h : eqvB M i j = true) : eqvB M j i = true := by rw [eqvB_iff] at *; exact h.symm
theorem eqv_trans {i j k : Nat} (h : eqvB M i j = true) (g : eqvB M j k = true) : eqvB M i k = true := by rw [eqvB_iff] at *; exact ⟨h.1.trans g.1, g.2.trans h.2⟩
theorem rch_lt {i j : Nat} (wf : Wf M) (hi : i < M.length) (h : Rch M i j) : j < M.length := by cases h with
  | refl => exact hi
  | tail _ b => exact wf _ _ b
theorem mem_orbit {k j : Nat} : j ∈ orbitOf M k ↔ j < M.length ∧ eqvB M k j = true := by unfold orbitOf; rw [List.mem_filter, List.mem_range]
theorem orbs_succ (i : Nat) : orbs M (i + 1) = orbs M i ++ (if rootB M i = true then [orbitOf M i] else []) := by
  unfold orbs
  rw [List.range_succ, List.filter_append, List.map_append]
  by_cases h : rootB M i = true <;> simp [h]
theorem root_iff {k : Nat} : rootB M k = true ↔ ∀ j, j < k → eqvB M j k = false := by
  unfold rootB; rw [List.all_eq_true]; simp
/-- the keys of a dict of numbers, sorted -/
theorem srt_nat {ks : List Nat} {n : Nat} {p : Nat → Bool} (nd : ks.Nodup) (h : ∀ j, j ∈ ks ↔ j < n ∧ p j = true) : srtI (ks.map fun k : Nat => (k : Int)) = ((List.range n).filter p).map fun k : Nat => (k : Int) := by
  refine (srtI_one (List.Perm.map _ ?_) ?_).symm
  · refine (List.perm_ext_iff_of_nodup (List.nodup_range.filter _) nd).mpr fun j => ?_
    rw [h, List.mem_filter, List.mem_range]
  · rw [List.pairwise_map]
    exact (List.pairwise_lt_range.filter _).imp fun h => by omega
theorem keysD_keys (ks : List Nat) : (keysD ks).map (·.1) = (ks.map fun k : Nat => (k : Int)).map Sum.inl := by simp [keysD]
theorem pairsQ_true (l : List Nat) : pairsQ (l.map fun k => .tup [nD k, .bl true]) = some (keysD l) := by
  induction l with
  | nil => rfl
  | cons k r ih => rw [List.map_cons]; unfold pairsQ; rw [ih]; rfl
theorem kputs_keysD (ks more : List Nat) (nd : more.Nodup) (h : ∀ j ∈ more, j ∉ ks) : kputs (keysD ks) (keysD more) = keysD (ks ++ more) := by
  induction more generalizing ks with
  | nil => simp [keysD, kputs]
  | cons a r ih =>
    have h1 : kputs (keysD ks) (keysD (a :: r)) = kputs (kput (keysD ks) (Sum.inl (a : Int)) (.bl true)) (keysD r) := rfl
    rw [h1, keysD_put (h a (by simp)), ih _ (List.nodup_cons.mp nd).2]
    · simp
    · intro j hj hm
      rcases List.mem_append.mp hm with q | q
      · exact h j (by simp [hj]) q
      · simp at q; subst q; exact (List.nodup_cons.mp nd).1 hj
/-- a dict that come_to made -/
def CTs (M : Mach) (L : Nat) (s : Mst) (d : Dv) (r : Nat) : Prop := ∃ n ks, d = .loc n ∧ n < L ∧ s[n]? = some (.dK (keysD ks)) ∧ ks.Nodup ∧ ∀ j, j ∈ ks ↔ Rch M r j
theorem orbits_ok (wf : Wf M) (hM : M.length ≤ 1000)
    (q : ∀ d s', Fr [] s s' → NLL.rep (fun n => n < s.length) s' d (orbs M M.length) → Q d s') : (f_orbits [mD M] s).to Q := by
  unfold f_orbits
  refine fun_at [some (mD M), none, none, none, none, none, none] rfl rfl ?_
  unfold m_orbits
  have len : ∀ s, bLen [mD M] s = .ok (.int M.length) s := fun s => by rw [mD, bLen_seq seqOf_tup, List.length_map]
  simp only [w_seq, w_set, w_lc, w_irng1, w_call, w_argsS, w_args0, v0, vS, to_ok, len, toI_int, wipe0, wipeS, List.set_cons_zero, List.set_cons_succ]
  refine ⟨r62 (by omega), ?_⟩
  rw [Int.toNat_natCast, rng0]
  refine lc_by (fun i ds s' => Fr [] s s' ∧ ds.length = i ∧ ∀ k d, ds[k]? = some d → CTs M s'.length s' d k) ⟨.refl, rfl, by simp⟩ (fun _ _ _ _ => trivial) ?_ ?_
  · rintro i x ds s' hx ⟨hf, hl, hd⟩
    rw [List.getElem?_map] at hx
    cases h : (List.range M.length)[i]? with
    | none => rw [h] at hx; cases hx
    | some a =>
      rw [h] at hx; cases hx
      obtain ⟨rfl, ha⟩ := range_at h
      simp only [w_gN, w_tyes, if_true, w_call, w_argsS, w_args0, vS, v0, to_ok, w_noE, List.set_cons_succ, List.set_cons_zero]
      refine come_to_ok wf ha hM fun s2 ks f2 h2 nd hk => ?_
      refine ⟨hf.trans f2, by simp [hl], fun k d hk' => ?_⟩
      rw [List.getElem?_append] at hk'
      split at hk'
      · obtain ⟨n, ks', e, hn, h3, h4, h5⟩ := hd k d hk'
        exact ⟨n, ks', e, Nat.lt_of_lt_of_le hn f2.1, f2.get h3 (by simp), h4, h5⟩
      · rename_i hlt
        have : k - ds.length = 0 := by
          have := (List.getElem?_eq_some_iff.mp hk').1
          simp at this; omega
        rw [this] at hk'
        cases hk'
        have : k = ds.length := by omega
        subst this
        rw [hl]
        exact ⟨_, ks, rfl, lt_of h2, h2, nd, hk⟩
  · rintro ds s1 ⟨hf, hl, hd⟩
    simp only [List.length_map, List.length_range] at hl ⊢
    refine ⟨by omega, ?_⟩
    have e0 : ∀ (σ : Men) (s : Mst), (mDisp [] σ s) = .ok (.loc s.length) (s ++ [.dK []]) := fun _ _ => rfl
    have e1 : ∀ (σ : Men) (s : Mst), (mLst [] σ s) = .ok (.loc s.length) (s ++ [.lst []]) := fun _ _ => rfl
    simp only [e0, e1, to_ok, w_for, w_irng1, w_call, w_argsS, w_args0, v0, vS, len, toI_int]
    refine ⟨r62 (by omega), ?_⟩
    rw [Int.toNat_natCast, rng0]
    refine for_map _ _ (fun i σ s' => ∃ y5 y6 y1 pl fs, σ = [some (mD M), y1, some (.loc s1.length), some (.loc (s1.length + 1)), some (.loc (s1.length + 2)), y5, y6] ∧ Fr [] s s' ∧ s1.length + 3 ≤ s'.length ∧
      s'[s1.length]? = some (.lst ds) ∧ (∀ k d, ds[k]? = some d → CTs M s1.length s' d k) ∧
      s'[s1.length + 1]? = some (.dK (keysD pl)) ∧ pl.Nodup ∧ (∀ j, j ∈ pl ↔ j < M.length ∧ ∃ k, k < i ∧ eqvB M k j = true) ∧
      s'[s1.length + 2]? = some (.lst fs) ∧ All2 (NL.rep (fun n => n < s1.length + 3) s') fs (orbs M i))
      ⟨none, none, none, [], [], by simp, hf.trans ((Fr.app (t := [.lst ds])).trans (Fr.app.trans Fr.app)), by simp, by simp, ?_, by simp [keysD], by simp, by simp, by simp, by simpa [orbs] using .nil⟩ (fun _ _ _ _ => trivial) ?_ ?_
    · intro k d hk
      obtain ⟨n, ks, e, hn, h3, h4⟩ := hd k d hk
      exact ⟨n, ks, e, hn, look_app (look_app (look_app h3)), h4⟩
    · rintro i a σ s2 ha ⟨y5, y6, y1, pl, fs, rfl, hf2, hl2, hds, hct, hpl, ndp, hpm, hfs, ho⟩
      obtain ⟨rfl, ha⟩ := range_at ha
      simp only [w_gN, List.set_cons_succ, List.set_cons_zero, w_if, w_tval, w_op, vS, v0, to_ok]
      have kq : keyQ (nD a) = some (Sum.inl (a : Int)) := rfl
      have hroot : rootB M a = true ↔ a ∉ pl := by
        rw [hpm, root_iff]
        exact ⟨fun h ⟨_, k, hk, he⟩ => (by rw [h k hk] at he; cases he), fun h j hj => by
          cases q : eqvB M j a with
          | false => rfl
          | true => exact absurd ⟨ha, j, hj, q⟩ h⟩
      have hpm' : ∀ pl' : List Nat, (∀ j, j ∈ pl' ↔ j ∈ pl ∨ j ∈ orbitOf M a) → ∀ j, j ∈ pl' ↔ j < M.length ∧ ∃ k, k < a + 1 ∧ eqvB M k j = true := fun pl' h j => by
        rw [h, hpm, mem_orbit]
        constructor
        · rintro (⟨h1, k, hk, he⟩ | ⟨h1, he⟩)
          · exact ⟨h1, k, by omega, he⟩
          · exact ⟨h1, a, by omega, he⟩
        · rintro ⟨h1, k, hk, he⟩
          rcases Nat.lt_succ_iff_lt_or_eq.mp hk with h2 | rfl
          · exact .inl ⟨h1, k, h2, he⟩
          · exact .inr ⟨h1, he⟩
      rw [oNotIn_dict hpl kq, keysD_mem]
      simp only [to_ok, toB_bl]
      by_cases hin : a ∈ pl
      · simp only [hin, decide_true, Bool.not_true, Bool.false_eq_true, if_false, w_nx]
        refine ⟨y5, y6, _, pl, fs, rfl, hf2, hl2, hds, hct, hpl, ndp, hpm' pl fun j => ⟨.inl, fun h => ?_⟩, hfs, ?_⟩
        · rcases h with h | h
          · exact h
          · obtain ⟨_, k, hk, he⟩ := (hpm a).mp hin
            rw [mem_orbit] at h
            exact (hpm j).mpr ⟨h.1, k, hk, eqv_trans he h.2⟩
        · rw [orbs_succ, if_neg (fun z => hroot.mp z hin), List.append_nil]; exact ho
      · have hr := hroot.mpr hin
        simp only [hin, decide_false, Bool.not_false, if_true, w_seq, w_set, w_lc, w_iseq, w_call, w_argsS, w_args0, w_op, vS, v0, to_ok]
        obtain ⟨d0, hd0⟩ : ∃ d0, ds[a]? = some d0 := ⟨_, List.getElem?_eq_getElem (by omega)⟩
        obtain ⟨n0, ks, rfl, hn0, hk0, ndk, hkm⟩ := hct a d0 hd0
        rw [show nD a = .int (a : Int) from rfl, oGet_lst hds hd0]
        simp only [to_ok]
        rw [bSorted_keys hk0 (keysD_keys ks), srt_nat (p := rchB M a) (n := M.length) ndk fun j => by rw [hkm, rchB_iff]; exact ⟨fun h => ⟨rch_lt wf ha h, h⟩, fun h => h.2⟩]
        simp only [to_ok]
        generalize hrs : (List.range M.length).filter (rchB M a) = rs
        have horb : rs.filter (fun j => rchB M j a) = orbitOf M a := by
          rw [← hrs, List.filter_filter]
          unfold orbitOf
          congr 1
          funext j
          unfold eqvB
          rw [Bool.and_comm]
        have hmem : ∀ j ∈ rs, j < M.length := fun j hj => by rw [← hrs] at hj; exact List.mem_range.mp (List.mem_filter.mp hj).1
        have hlr : rs.length ≤ M.length := by rw [← hrs]; exact Nat.le_trans (List.length_filter_le _ _) (by simp)
        have hlo : (orbitOf M a).length ≤ M.length := by rw [← horb]; exact Nat.le_trans (List.length_filter_le _ _) hlr
        have hfs' := hfs
        rw [show (rs.map fun k : Nat => (k : Int)).map Dv.int = rs.map nD by rw [List.map_map]; rfl, itSeq_lst (l := rs.map nD) (by simp)]
        simp only [to_ok, wipeS, wipe0, List.set_cons_succ, List.set_cons_zero]
        refine lc_pure rs nD (fun j => rchB M j a) nD ⟨by simp, trivial⟩ ?_ ?_
        · intro j hj
          obtain ⟨dj, hdj⟩ : ∃ dj, ds[j]? = some dj := ⟨_, List.getElem?_eq_getElem (by have := hmem j hj; omega)⟩
          obtain ⟨nj, kj, rfl, hnj, hkj, ndj, hkmj⟩ := hct j dj hdj
          simp only [w_gN, w_tval, w_op, vS, v0, to_ok, List.set_cons_succ, List.set_cons_zero]
          rw [show nD j = .int (j : Int) from rfl, oGet_lst (look_app hds) hdj]
          simp only [to_ok]
          rw [oIn_dict (look_app hkj) (show keyQ (.int (a : Int)) = some (Sum.inl (a : Int)) from rfl), keysD_mem]
          simp only [to_ok, toB_bl]
          refine ⟨?_, fun _ => by simp, fun _ => by simp⟩
          rw [Bool.eq_iff_iff, decide_eq_true_iff, hkmj, rchB_iff]
        · rw [horb, List.length_map]
          refine ⟨by omega, ?_⟩
          simp only [w_exp, w_meth, vS, v0, to_ok, List.length_append, List.length_cons, List.length_nil, w_argsS, w_args0, w_call, w_lc, w_iseq, List.append_assoc, List.cons_append, List.nil_append]
          have hpl1 : ∀ t, (s2 ++ t)[s1.length + 1]? = some (.dK (keysD pl)) := fun t => look_app hpl
          refine ⟨tyQ_dict (hpl1 _), ?_⟩
          rw [itSeq_lst (l := (orbitOf M a).map nD) (by simp)]
          simp only [to_ok, wipeS, wipe0, List.set_cons_succ, List.set_cons_zero]
          refine lc_pure (orbitOf M a) nD (fun _ => true) (fun j => .tup [nD j, .bl true]) ⟨by simp, trivial⟩ ?_ ?_
          · intro j hj
            simp only [w_gN, w_tyes, w_tup, w_argsS, w_args0, vS, v0, mC_eq, to_ok, List.set_cons_succ, List.set_cons_zero]
            exact ⟨trivial, fun _ => ⟨trivial, trivial⟩, fun h => nomatch h⟩
          · rw [List.length_map]
            refine ⟨by omega, ?_⟩
            rw [show (orbitOf M a).filter (fun _ => true) = orbitOf M a from List.filter_eq_self.mpr fun _ _ => rfl]
            have hndo : (orbitOf M a).Nodup := List.nodup_range.filter _
            have hdis : ∀ j ∈ orbitOf M a, j ∉ pl := fun j hj hp => by
              obtain ⟨_, k, hk, he⟩ := (hpm j).mp hp
              rw [mem_orbit] at hj
              exact hin ((hpm a).mpr ⟨ha, k, hk, eqv_trans he (eqv_symm hj.2)⟩)
            have hpll : pl.length ≤ M.length := nodup_len ndp fun j hj => ((hpm j).mp hj).1
            rw [bDict_pairs (l := (orbitOf M a).map fun j => .tup [nD j, .bl true]) (by simp) (pairsQ_true _)]
            simp only [to_ok]
            have e2 : kputs [] (keysD (orbitOf M a)) = keysD (orbitOf M a) := by
              have := kputs_keysD [] (orbitOf M a) hndo (fun _ _ => by simp)
              simpa [keysD] using this
            rw [e2, tUpdate_dict (kvs := keysD pl) (more := keysD (orbitOf M a)) (by rw [List.append_assoc, List.append_assoc]; exact hpl1 _) (by simp) (by simp; omega) (by rw [keysD_len, keysD_len]; omega), kputs_keysD pl _ hndo hdis]
            simp only [to_ok]
            generalize hT : (s2 ++ [MO.lst (rs.map nD), .lst ((orbitOf M a).map nD)] ++ [MO.lst ((orbitOf M a).map fun j => .tup [nD j, .bl true])] ++ [MO.dK (keysD (orbitOf M a))]) = s5
            have hT' : s5 = s2 ++ [MO.lst (rs.map nD), .lst ((orbitOf M a).map nD), MO.lst ((orbitOf M a).map fun j => .tup [nD j, .bl true]), MO.dK (keysD (orbitOf M a))] := by rw [← hT]; simp
            have f5 : Fr [] s2 s5 := by rw [hT']; exact .app
            have ho5 : s5[s2.length + 1]? = some (.lst ((orbitOf M a).map nD)) := by rw [hT']; simp
            have l5 : s2.length + 4 = s5.length := by rw [hT']; simp
            have hfs5 : (s5.set (s1.length + 1) (.dK (keysD (pl ++ orbitOf M a))))[s1.length + 2]? = some (.lst fs) := look_ne (f5.get hfs (by simp)) (by omega)
            have hfl : fs.length ≤ M.length := by
              rw [ho.len]
              unfold orbs
              rw [List.length_map]
              refine Nat.le_trans (List.length_filter_le _ _) ?_
              rw [List.length_range]; omega
            refine ⟨tyQ_lst hfs5, ?_⟩
            rw [tAppend_lst hfs5 (by omega)]
            simp only [to_ok]
            have f6 : Fr [s1.length + 1, s1.length + 2] s2 ((s5.set (s1.length + 1) (.dK (keysD (pl ++ orbitOf M a)))).set (s1.length + 2) (.lst (fs ++ [.loc (s2.length + 1)]))) :=
              ((f5.mono (Y := [s1.length + 1, s1.length + 2]) (by simp)).put (.inl (by simp))).put (.inl (by simp))
            refine ⟨_, _, _, pl ++ orbitOf M a, _, rfl, hf2.trans2 f6 ?_, ?_, f6.get hds (by simp), ?_, look_ne (look_put (f5.get hpl (by simp))) (by omega), ?_, ?_, look_put hfs5, ?_⟩
            · have := hf.1
              simp; omega
            · simp; omega
            · intro k d hk
              obtain ⟨n, ks, e, hn, h3, h4⟩ := hct k d hk
              exact ⟨n, ks, e, hn, f6.get h3 (by simp; omega), h4⟩
            · rw [List.nodup_append]
              exact ⟨ndp, hndo, fun a ha b hb e => hdis b hb (by rw [← e]; exact ha)⟩
            · exact hpm' _ fun j => List.mem_append
            · rw [orbs_succ, if_pos hr]
              refine (ho.imp fun _ _ _ _ z => NL.fr z f6 (by simp)).snoc (nl_iff.mpr ⟨_, rfl, by omega, ?_⟩)
              exact look_ne (look_ne ho5 (by omega)) (by omega)
    · rintro σ s2 ⟨y5, y6, y1, pl, fs, rfl, hf2, hl2, hds, hct, hpl, ndp, hpm, hfs, ho⟩
      simp only [w_ret, vS, v0, to_ok]
      rw [List.length_range] at ho
      exact q _ _ hf2 (NLL.mono (P := fun n => n < s1.length + 2) ⟨_, fs, rfl, by omega, hfs, ho.imp fun _ _ _ _ z => NL.mono z fun n hn => .inl (by omega)⟩ fun n hn => .inl (by have := hf.1; omega))
end
end Mid
namespace Mid
open PySem
noncomputable section
variable {M : Mach} {s : Mst} {Q : Dv → Mst → Prop}
/-- texts that stand -/
def Sok (M : Mach) : Prop := ∀ r ∈ M, ∀ p ∈ r.2, PyData.strOk p.1 = true
abbrev STE : Enc (Str × Nat) := .pair .str .nat
abbrev ROE : Enc (Bool × List (Str × Nat)) := .pair .bool (.tupOf STE)
def loV (M : Mach) (o : List Nat) (k : Nat) : Bool × List (Str × Nat) := match M[k]? with
  | some r => (r.1, r.2.filter fun p => !decide (p.2 ∈ o))
  | none => (false, [])
theorem ste_rep {P : Nat → Prop} {p : Str × Nat} (h : PyData.strOk p.1 = true) : STE.rep P s (stepD p) p := ⟨_, _, rfl, ⟨rfl, h⟩, rfl⟩
theorem roe_rep {P : Nat → Prop} {r : Bool × List (Str × Nat)} (h : ∀ p ∈ r.2, PyData.strOk p.1 = true) : ROE.rep P s (roomD r) r :=
  ⟨_, _, rfl, rfl, _, rfl, .of_map fun p hp => ste_rep (h p hp)⟩
theorem lo_sok {o : List Nat} {k : Nat} (h : Sok M) : ∀ p ∈ (loV M o k).2, PyData.strOk p.1 = true := by
  intro p hp
  unfold loV at hp
  cases q : M[k]? with
  | none => rw [q] at hp; cases hp
  | some r => rw [q] at hp; exact h r (List.mem_of_getElem? q) p (List.mem_filter.mp hp).1
theorem roomQ {k : Nat} {r : Bool × List (Str × Nat)} (h : M[k]? = some r) : oGet (mD M) (nD k) s = .ok (roomD r) s :=
  oGet_tup (b := k) (by rw [List.getElem?_map, h]; rfl)
def Sml (M : Mach) : Prop := ∀ r ∈ M, r.2.length < 2 ^ 24
theorem leads_out_ok {o : List Nat} {n k : Nat} (ho : s[n]? = some (.lst (o.map nD))) (hk : k < M.length) (sm : Sml M)
    (q : ∀ s', Fr [] s s' → Q (roomD (loV M o k)) s') : (f_leads_out [mD M, .loc n, nD k] s).to Q := by
  unfold f_leads_out
  refine fun_at [some (mD M), some (.loc n), some (nD k), none, none, none] rfl rfl ?_
  unfold m_leads_out
  obtain ⟨r, hr⟩ : ∃ r, M[k]? = some r := ⟨_, List.getElem?_eq_getElem hk⟩
  simp only [w_seq, w_asg, w_op, vS, v0, to_ok, roomQ hr, roomD, w_gT, w_gES, w_gE0, w_gN, List.length_cons, List.length_nil, true_and, List.set_cons_succ, List.set_cons_zero, w_ret, w_tup, w_argsS, w_args0, w_call, w_lc, w_iseq, itSeq_tup, wipeS, wipe0]
  refine lc_pure r.2 stepD (fun p => !decide (p.2 ∈ o)) stepD trivial ?_ ?_
  · intro p hp
    simp only [w_gN, w_tval, w_op, vS, v0, to_ok, mC_eq, List.set_cons_succ, List.set_cons_zero, stepD, oGet_tup1]
    rw [show iD p.2 = nD p.2 from rfl, oNotIn_nat ho]
    simp only [to_ok, toB_bl]
    exact ⟨trivial, fun _ => by simp, fun _ => by simp⟩
  · rw [List.length_map]
    refine ⟨sm r (List.mem_of_getElem? hr), ?_⟩
    rw [bTuple_seq (l := (r.2.filter fun p => !decide (p.2 ∈ o)).map stepD) (seqOf_lst (by simp))]
    simp only [to_ok]
    have e : roomD (loV M o k) = .tup [.bl r.1, .tup ((r.2.filter fun p => !decide (p.2 ∈ o)).map stepD)] := by
      unfold loV; rw [hr]; rfl
    rw [← e]
    exact q _ .app
def gateB (M : Mach) (o : List Nat) (k : Nat) : Bool := !decide (loV M o k = (false, []))
theorem gates_ok {o : List Nat} {n : Nat} (ho : s[n]? = some (.lst (o.map nD))) (hk : ∀ k ∈ o, k < M.length) (sm : Sml M) (so : Sok M) (hl : o.length < 2 ^ 24)
    (q : ∀ d s', Fr [] s s' → NL.rep (fun n => n < s.length) s' d (o.filter (gateB M o)) → Q d s') : (f_gates [mD M, .loc n] s).to Q := by
  unfold f_gates
  refine fun_at [some (mD M), some (.loc n), none] rfl rfl ?_
  unfold m_gates
  simp only [w_ret, w_lc, w_iseq, vS, v0, to_ok, itSeq_lst ho, wipeS, wipe0, List.set_cons_succ, List.set_cons_zero]
  refine lc_new (P := noP) .nat o nD (gateB M o) (fun k => k) (fun s' f => ⟨f.get ho (by simp), trivial⟩) ?_ ?_
  · intro k hk' s' f
    simp only [w_gN, w_tval, w_op, vS, v0, to_ok, List.set_cons_succ, List.set_cons_zero, w_call, w_argsS, w_args0, w_noE]
    refine leads_out_ok (f.get ho (by simp)) (hk k hk') sm fun s2 f2 => ?_
    simp only [w_tup, w_argsS, w_args0, mC_eq, to_ok]
    rw [oNe_enc ROE (P := noP) (P' := noP) (roe_rep (lo_sok so)) (b := (false, [])) ⟨_, _, rfl, rfl, _, rfl, .nil⟩ (by decide)]
    simp only [to_ok, toB_bl]
    exact ⟨rfl, f2, fun _ => ⟨.refl, rfl⟩⟩
  · intro ds s' f h
    rw [List.length_map]
    refine ⟨hl, ?_⟩
    rw [nat_of h, List.map_id'']
    · exact q _ _ (f.trans .app) (nl_iff.mpr ⟨_, rfl, by have := f.1; omega, by simp⟩)
    · intro x; rfl
def bareV (M : Mach) (o : List Nat) : Bool := match o with
  | [k] => !decide (k ∈ succs M k)
  | _ => false
def evenV (M : Mach) (o : List Nat) : Bool := match o.filter (gateB M o) with
  | [] => true
  | k :: r => r.all fun j => decide (loV M o j = loV M o k)
theorem is_even_ok {o : List Nat} {n : Nat} (ho : s[n]? = some (.lst (o.map nD))) (hk : ∀ k ∈ o, k < M.length) (sm : Sml M) (so : Sok M) (hl : o.length < 2 ^ 24)
    (q : ∀ s', Fr [] s s' → Q (.bl (evenV M o)) s') : (f_is_even [mD M, .loc n] s).to Q := by
  unfold f_is_even
  refine fun_at [some (mD M), some (.loc n)] rfl rfl ?_
  unfold m_is_even
  simp only [w_ret, w_op, w_call, w_argsS, w_args0, vS, v0, to_ok, w_noE, mC_eq]
  unfold f_unlike_gates
  refine fun_at [some (mD M), some (.loc n), none, none] rfl rfl ?_
  unfold m_unlike_gates
  simp only [w_seq, w_set, w_call, w_argsS, w_args0, vS, v0, to_ok, w_noE]
  refine gates_ok ho hk sm so hl fun d s2 f2 hd => ?_
  obtain ⟨m, rfl, hm, hs⟩ := nl_iff.mp hd
  simp only [List.set_cons_succ, List.set_cons_zero, w_for, w_iseq, vS, v0, to_ok, itSeq_lst hs]
  generalize hg : o.filter (gateB M o) = g at hs
  have hgk : ∀ k ∈ g, k < M.length := fun k h => by rw [← hg] at h; exact hk k (List.mem_filter.mp h).1
  refine for_map g nD (fun i σ s' => ∃ x, σ = [some (mD M), some (.loc n), some (.loc m), x] ∧ Fr [] s2 s' ∧ ∀ k r, g = k :: r → ∀ j, j ∈ g.take i → loV M o j = loV M o k) ⟨none, rfl, .refl, by simp⟩ (fun i σ s' ⟨x, _, f, _⟩ => ⟨f.get hs (by simp), trivial⟩) ?_ ?_
  · rintro i a σ s' ha ⟨x, rfl, f, h⟩
    cases g with
    | nil => cases ha
    | cons k r =>
      simp only [w_gN, List.set_cons_succ, List.set_cons_zero, w_if, w_tval, w_op, w_call, w_argsS, w_args0, vS, v0, to_ok, w_noE]
      have hma := List.mem_of_getElem? ha
      have hF := f2.trans f
      refine leads_out_ok (hF.get ho (by simp)) (hgk a hma) sm fun s3 f3 => ?_
      have hF3 := hF.trans f3
      have g0 : oGet (.loc m) (.int 0) s3 = .ok (nD k) s3 := oGet_lst ((f.trans f3).get hs (by simp)) (b := 0) rfl
      simp only [mC_eq, to_ok, g0]
      refine leads_out_ok (hF3.get ho (by simp)) (hgk k (by simp)) sm fun s4 f4 => ?_
      rw [oNe_enc ROE (P := noP) (P' := noP) (roe_rep (lo_sok so)) (roe_rep (lo_sok so)) (by decide)]
      simp only [to_ok, toB_bl]
      by_cases he : loV M o a = loV M o k
      · simp only [he, decide_true, Bool.not_true, Bool.false_eq_true, if_false, w_nx]
        refine ⟨_, rfl, f.trans (f3.trans f4), fun k' r' e j hj => ?_⟩
        cases e
        rw [List.take_add_one, ha, List.mem_append] at hj
        rcases hj with hj | hj
        · exact h k r rfl j hj
        · simp at hj; rw [hj]; exact he
      · have g1 : oGet (.loc m) (.int 0) s4 = .ok (nD k) s4 := oGet_lst ((f.trans (f3.trans f4)).get hs (by simp)) (b := 0) rfl
        simp only [he, decide_false, Bool.not_false, if_true, w_ret, w_tup, w_argsS, w_args0, w_op, vS, v0, mC_eq, to_ok, g1, oIsN_non, isNonQ_tup]
        have := q s4 (hF3.trans f4)
        have e : evenV M o = false := by
          unfold evenV
          rw [hg]
          simp only
          rw [Bool.eq_false_iff]
          intro z
          rw [List.all_eq_true] at z
          rcases List.mem_cons.mp hma with e | hr
          · exact he (by rw [e])
          · exact he (of_decide_eq_true (z a hr))
        rw [e] at this
        exact this
  · rintro σ s' ⟨x, rfl, f, h⟩
    simp only [w_ret, mC_eq, to_ok, oIsN_non, isNonQ_non]
    have := q s' (f2.trans f)
    have e : evenV M o = true := by
      unfold evenV
      rw [hg]
      cases g with
      | nil => rfl
      | cons k r =>
        simp only
        rw [List.all_eq_true]
        intro j hj
        exact decide_eq_true (h k r rfl j (by rw [List.take_length]; simp [hj]))
    rw [e] at this
    exact this
end
end Mid
namespace Mid
open PySem
noncomputable section
variable {M : Mach} {s : Mst} {Q : Dv → Mst → Prop}
abbrev GOE : Enc (Bool × List (Str × Nat)) := .pair .bool (.lstOf STE)
theorem gout_ok {o : List Nat} {n k : Nat} (ho : s[n]? = some (.lst (o.map nD))) (hk : k < M.length) (sm : Sml M) (so : Sok M)
    (q : ∀ d s', Fr [] s s' → GOE.rep (fun n => n < s.length) s' (.tup [.bl (loV M o k).1, d]) (loV M o k) → (Enc.lstOf STE).rep (fun n => n < s.length) s' d (loV M o k).2 → Q (.tup [.bl (loV M o k).1, d]) s') : (f_law_gout [mD M, .loc n, nD k] s).to Q := by
  unfold f_law_gout
  refine fun_at [some (mD M), some (.loc n), some (nD k), none] rfl rfl ?_
  unfold m_law_gout
  obtain ⟨r, hr⟩ : ∃ r, M[k]? = some r := ⟨_, List.getElem?_eq_getElem hk⟩
  simp only [w_ret, w_tup, w_argsS, w_args0, w_op, vS, v0, mC_eq, to_ok, roomQ hr, roomD, oGet_tup0, oGet_tup1, w_lc, w_iseq, itSeq_tup, wipeS, wipe0, List.set_cons_succ, List.set_cons_zero]
  refine lc_pure r.2 stepD (fun p => !decide (p.2 ∈ o)) stepD trivial ?_ ?_
  · intro p hp
    simp only [w_gN, w_tval, w_op, vS, v0, to_ok, mC_eq, List.set_cons_succ, List.set_cons_zero, stepD, oGet_tup1]
    rw [show iD p.2 = nD p.2 from rfl, oNotIn_nat ho]
    simp only [to_ok, toB_bl]
    exact ⟨trivial, fun _ => by simp, fun _ => by simp⟩
  · rw [List.length_map]
    refine ⟨sm r (List.mem_of_getElem? hr), ?_⟩
    have e : loV M o k = (r.1, r.2.filter fun p => !decide (p.2 ∈ o)) := by unfold loV; rw [hr]
    have hl : (Enc.lstOf STE).rep (fun n => n < s.length) (s ++ [.lst ((r.2.filter fun p => !decide (p.2 ∈ o)).map stepD)]) (.loc s.length) (loV M o k).2 := by
      rw [e]
      exact ⟨_, _, rfl, by omega, by simp, .of_map fun p hp => ste_rep (lo_sok (o := o) (k := k) so p (by rw [e]; exact hp))⟩
    have := q (.loc s.length) _ .app ⟨_, _, rfl, rfl, hl⟩ hl
    rw [show (loV M o k).1 = r.1 by rw [e]] at this
    exact this
theorem ggates_ok {o : List Nat} {n : Nat} (ho : s[n]? = some (.lst (o.map nD))) (hk : ∀ k ∈ o, k < M.length) (sm : Sml M) (so : Sok M) (hl : o.length < 2 ^ 24)
    (q : ∀ d s', Fr [] s s' → NL.rep (fun n => n < s.length) s' d (o.filter (gateB M o)) → Q d s') : (f_law_ggates [mD M, .loc n] s).to Q := by
  unfold f_law_ggates
  refine fun_at [some (mD M), some (.loc n), none] rfl rfl ?_
  unfold m_law_ggates
  simp only [w_ret, w_lc, w_iseq, vS, v0, to_ok, itSeq_lst ho, wipeS, wipe0, List.set_cons_succ, List.set_cons_zero]
  refine lc_new (P := noP) .nat o nD (gateB M o) (fun k => k) (fun s' f => ⟨f.get ho (by simp), trivial⟩) ?_ ?_
  · intro k hk' s' f
    obtain ⟨r, hr⟩ : ∃ r, M[k]? = some r := ⟨_, List.getElem?_eq_getElem (hk k hk')⟩
    have e : (loV M o k).1 = r.1 := by unfold loV; rw [hr]
    simp only [w_gN, w_tor, w_tval, w_op, vS, v0, to_ok, List.set_cons_succ, List.set_cons_zero, w_call, w_argsS, w_args0, w_noE, roomQ hr, roomD, mC_eq, oGet_tup0, toB_bl]
    cases q1 : r.1 with
    | true =>
      simp only [if_true]
      refine ⟨?_, .refl, fun _ => ⟨.refl, rfl⟩⟩
      unfold gateB
      symm
      rw [Bool.not_eq_true', decide_eq_false_iff_not]
      intro z
      rw [z] at e
      simp [q1] at e
    | false =>
      simp only [Bool.false_eq_true, if_false]
      refine gout_ok (f.get ho (by simp)) (hk k hk') sm so fun d s2 f2 h2 h3 => ?_
      simp only [oGet_tup1, to_ok, w_lst, w_args0]
      rw [oNe_enc (Enc.lstOf STE) (P := noP) (P' := noP) ((Enc.lstOf STE).fr0 (Enc.toNo _ h3) .app) (b := []) ⟨_, [], rfl, id, by simp, .nil⟩ (by decide)]
      simp only [to_ok, toB_bl]
      refine ⟨?_, f2.trans .app, fun _ => ⟨.refl, rfl⟩⟩
      unfold gateB
      congr 2
      rw [q1] at e
      rw [eq_iff_iff]
      exact ⟨fun h => Prod.ext e h, fun h => by rw [h]⟩
  · intro ds s' f h
    rw [List.length_map]
    refine ⟨hl, ?_⟩
    rw [nat_of h, List.map_id'']
    · exact q _ _ (f.trans .app) (nl_iff.mpr ⟨_, rfl, by have := f.1; omega, by simp⟩)
    · intro x; rfl
/-- how often -/
theorem tCount_enc {α : Type} [DecidableEq α] (A : Enc α) {P P' : Nat → Prop} {d e : Dv} {a : α} {l : List α} (h : A.rep P s d a) (g : A.lstOf.rep P' s e l) (hd : A.dep < 64) : tCount [e, d] s = .ok (.int (l.countP fun z => decide (z = a) : Nat)) s := by
  obtain ⟨n, ds, rfl, hp, hs, hl⟩ := g
  have g' : A.lstOf.rep P' s (.loc n) l := ⟨n, ds, rfl, hp, hs, hl⟩
  have sh := A.lstOf.shaped g' (show A.dep + 1 ≤ 64 from hd)
  show (match bAny.lstQ (.loc n) s with | some l => _ | none => _) = _
  rw [lstQ_loc hs]
  simp only
  rw [A.dat h (by omega), datA_all2 hl (by omega)]
  simp only [A.shaped h (by omega), true_and]
  rw [if_pos (show SeqAt.shaped (.list (l.map A.py)) = true from sh), List.countP_map]
  congr 4
  funext z
  rw [Function.comp_apply, Bool.eq_iff_iff, A.eqv, decide_eq_true_iff]
theorem gis_even_ok {o : List Nat} {n : Nat} (ho : s[n]? = some (.lst (o.map nD))) (hk : ∀ k ∈ o, k < M.length) (sm : Sml M) (so : Sok M) (hl : o.length < 2 ^ 24)
    (q : ∀ s', Fr [] s s' → Q (.bl (evenV M o)) s') : (f_law_gis_even [mD M, .loc n] s).to Q := by
  unfold f_law_gis_even
  refine fun_at [some (mD M), some (.loc n), none, none] rfl rfl ?_
  unfold m_law_gis_even
  simp only [w_seq, w_set, w_lc, w_iseq, w_call, w_argsS, w_args0, vS, v0, to_ok, w_noE]
  refine ggates_ok ho hk sm so hl fun d s2 f2 hd => ?_
  obtain ⟨m, rfl, hm, hs⟩ := nl_iff.mp hd
  simp only [itSeq_lst hs, to_ok, wipeS, wipe0, List.set_cons_succ, List.set_cons_zero]
  generalize hg : o.filter (gateB M o) = g at hs
  have hgk : ∀ k ∈ g, k < M.length := fun k h => by rw [← hg] at h; exact hk k (List.mem_filter.mp h).1
  have hgl : g.length < 2 ^ 24 := by rw [← hg]; exact Nat.lt_of_le_of_lt (List.length_filter_le _ _) hl
  refine lc_new (P := noP) GOE g nD (fun _ => true) (loV M o) (fun s' f => ⟨f.get hs (by simp), trivial⟩) ?_ ?_
  · intro k hk' s' f
    simp only [w_gN, w_tyes, w_call, w_argsS, w_args0, vS, v0, to_ok, w_noE, List.set_cons_succ, List.set_cons_zero]
    refine ⟨trivial, .refl, fun _ => ?_⟩
    refine gout_ok ((f2.trans f).get ho (by simp)) (hgk k hk') sm so fun d s3 f3 h3 _ => ⟨f3, GOE.toNo h3⟩
  · intro ds s3 f3 h
    rw [List.length_map, List.filter_eq_self.mpr fun _ _ => rfl] at *
    refine ⟨hgl, ?_⟩
    simp only [w_ret, w_or, w_op, w_lst, w_args0, vS, v0, to_ok]
    have F : Fr [] s (s3 ++ [.lst ds]) := f2.trans (f3.trans .app)
    have hL : (Enc.lstOf GOE).rep noP (s3 ++ [.lst ds]) (.loc s3.length) (g.map (loV M o)) := ⟨_, ds, rfl, id, by simp, h.imp fun _ _ _ _ z => GOE.fr0 z .app⟩
    have hL2 := (Enc.lstOf GOE).fr0 hL (Fr.app (t := [.lst []]))
    have hlen := h.len
    rw [oEq_enc (Enc.lstOf GOE) (P := noP) (P' := noP) hL2 (b := []) ⟨_, [], rfl, id, by simp, .nil⟩ (by decide)]
    simp only [to_ok, toB_bl]
    cases g with
    | nil =>
      simp only [List.map_nil, decide_true, if_true]
      have := q _ (F.trans (Fr.app (t := [.lst []])))
      rw [show evenV M o = true by unfold evenV; rw [hg]] at this
      exact this
    | cons k r =>
      simp only [List.map_cons, reduceCtorEq, decide_false, Bool.false_eq_true, if_false, w_op, w_meth, w_argsS, w_args0, vS, v0, to_ok, mC_eq, w_call]
      obtain ⟨n3, ds3, e3, _, hs3, ha3⟩ := hL2
      cases e3
      obtain ⟨d0, hd0, hr0⟩ := ha3.get' (i := 0) rfl
      have hL2 : (Enc.lstOf GOE).rep noP (s3 ++ [.lst ds] ++ [.lst []]) (.loc s3.length) ((k :: r).map (loV M o)) := ⟨_, ds3, rfl, id, hs3, ha3⟩
      refine ⟨tyQ_lst hs3, ?_⟩
      rw [show oGet (.loc s3.length) (.int 0) (s3 ++ [.lst ds] ++ [.lst []]) = .ok d0 _ from oGet_lst (b := 0) hs3 hd0]
      simp only [to_ok]
      rw [tCount_enc GOE (P := noP) (P' := noP) hr0 hL2 (by decide)]
      simp only [to_ok]
      rw [bLen_seq (seqOf_lst hs3)]
      simp only [to_ok, oEq_int]
      have e : evenV M o = decide ((((k :: r).map (loV M o)).countP (fun z => decide (z = loV M o k)) : Int) = ds3.length) := by
        rw [ha3.len]
        unfold evenV
        rw [hg]
        simp only
        rw [Bool.eq_iff_iff, decide_eq_true_iff, List.all_eq_true]
        simp only [List.map_cons, List.countP_cons, decide_true, if_true, List.length_cons, List.length_map]
        rw [show (((r.map (loV M o)).countP (fun z => decide (z = loV M o k)) + 1 : Nat) : Int) = ((r.length + 1 : Nat) : Int) ↔ (r.map (loV M o)).countP (fun z => decide (z = loV M o k)) = (r.map (loV M o)).length by rw [List.length_map]; omega, List.countP_eq_length]
        simp
      rw [← e]
      exact q _ (F.trans .app)
end
end Mid
namespace Mid
open PySem
noncomputable section
variable {M : Mach} {s : Mst} {Q : Dv → Mst → Prop}
theorem snoc_nodup {ks : List Nat} {j : Nat} (h : ks.Nodup) (n : j ∉ ks) : (ks ++ [j]).Nodup := by
  rw [List.nodup_append]
  exact ⟨h, by simp, fun a ha b hb e => n (by simp at hb; rw [← hb, ← e]; exact ha)⟩
theorem greach_ok (wf : Wf M) {r : Nat} (hr : r < M.length) (hM : M.length ≤ 1000)
    (q : ∀ d s' ks, Fr [] s s' → NL.rep (fun n => n < s.length) s' d ks → ks.Nodup → (∀ j, j ∈ ks ↔ Rch M r j) → Q d s') : (f_law_greach [mD M, nD r] s).to Q := by
  unfold f_law_greach
  refine fun_at [some (mD M), some (nD r), none, none, none, none] rfl rfl ?_
  unfold m_law_greach
  simp only [w_seq, w_set, w_lst, w_argsS, w_args0, vS, v0, to_ok, mC_eq, List.set_cons_succ, List.set_cons_zero]
  refine while_m (fun m σ s1 => ∃ at' ks x y, σ = [some (mD M), some (nD r), some (.loc s.length), some (nD at'), x, y] ∧ s1 = s ++ [.lst (ks.map nD)] ∧ ks.Nodup ∧ (∀ j ∈ ks, Rch M r j) ∧ (∀ j ∈ ks, j < M.length) ∧ r ∈ ks ∧ at' ≤ ks.length ∧
      (∀ i ∈ ks.take at', ∀ j ∈ succs M i, j ∈ ks) ∧ m = M.length - at')
    ⟨_, 0, [r], none, none, rfl, rfl, by simp, by simpa using .refl r, by simpa using hr, by simp, by simp, by simp, rfl⟩ ?_
  rintro m σ s1 ⟨a, ks, x, y, rfl, rfl, nd, rc, lt, rt, hle, cl, rfl⟩
  have lw : (s ++ [MO.lst (ks.map nD)])[s.length]? = some (.lst (ks.map nD)) := by simp
  simp only [w_tval, w_op, vS, v0, w_call, w_argsS, w_args0, to_ok, bLen_seq (seqOf_lst lw), nD, oLt_int, toB_bl]
  by_cases hlt : a < ks.length
  · obtain ⟨k, hk⟩ : ∃ k, ks[a]? = some k := ⟨_, List.getElem?_eq_getElem hlt⟩
    have hkk := List.mem_of_getElem? hk
    have hkl := lt k hkk
    have hcnt := nodup_len nd lt
    obtain ⟨r0, hr0⟩ : ∃ r0, M[k]? = some r0 := ⟨_, List.getElem?_eq_getElem hkl⟩
    rw [show decide ((a : Int) < ((ks.map nD).length : Nat)) = true by rw [decide_eq_true_iff, List.length_map]; omega]
    simp only [if_true, w_seq, w_for, w_iseq, w_op, vS, v0, to_ok, mC_eq]
    rw [oGet_lst (b := a) (z := nD k) lw (by rw [List.getElem?_map, hk]; rfl)]
    simp only [to_ok, roomQ hr0, roomD, oGet_tup1, itSeq_tup]
    refine for_map r0.2 stepD (fun i σ s1 => ∃ ks2 x y, σ = [some (mD M), some (nD r), some (.loc s.length), some (nD a), x, y] ∧ s1 = s ++ [.lst (ks2.map nD)] ∧ ks2.Nodup ∧ (∀ j ∈ ks2, Rch M r j) ∧ (∀ j ∈ ks2, j < M.length) ∧ r ∈ ks2 ∧ (∃ t, ks2 = ks ++ t) ∧
        (∀ i ∈ ks.take a, ∀ j ∈ succs M i, j ∈ ks2) ∧ (∀ j ∈ (r0.2.take i).map (·.2), j ∈ ks2))
      ⟨ks, x, y, rfl, rfl, nd, rc, lt, rt, ⟨[], by simp⟩, cl, by simp⟩ (fun _ _ _ _ => trivial) ?_ ?_
    · rintro i p σ s1 hp ⟨ks2, x, y, rfl, rfl, nd2, rc2, lt2, rt2, ⟨t, ht⟩, cl2, hd⟩
      have hs : p.2 ∈ succs M k := by rw [succs_of hr0]; exact List.mem_map.mpr ⟨p, List.mem_of_getElem? hp, rfl⟩
      have ht' : ∀ ks3 : List Nat, (∀ j ∈ ks2, j ∈ ks3) → p.2 ∈ ks3 → ∀ j ∈ (r0.2.take (i + 1)).map (·.2), j ∈ ks3 := fun ks3 h3 h4 j hj => by
        rw [List.take_add_one, hp, List.map_append, List.mem_append] at hj
        rcases hj with hj | hj
        · exact h3 j (hd j hj)
        · simp at hj; rw [hj]; exact h4
      have lw2 : (s ++ [MO.lst (ks2.map nD)])[s.length]? = some (.lst (ks2.map nD)) := by simp
      simp only [stepD, w_gT, w_gES, w_gE0, w_gN, List.length_cons, List.length_nil, true_and, List.set_cons_succ, List.set_cons_zero, w_if, w_tval, w_op, vS, v0, to_ok]
      rw [show iD p.2 = nD p.2 from rfl, oNotIn_nat lw2]
      simp only [to_ok, toB_bl]
      by_cases hin : p.2 ∈ ks2
      · simp only [hin, decide_true, Bool.not_true, Bool.false_eq_true, if_false, w_nx]
        exact ⟨ks2, _, _, rfl, rfl, nd2, rc2, lt2, rt2, ⟨t, ht⟩, cl2, ht' ks2 (fun _ z => z) hin⟩
      · simp only [hin, decide_false, Bool.not_false, if_true, w_exp, w_meth, vS, v0, to_ok, w_argsS, w_args0]
        refine ⟨tyQ_lst lw2, ?_⟩
        have := nodup_len nd2 lt2
        rw [tAppend_lst lw2 (by rw [List.length_map]; omega)]
        simp only [to_ok]
        refine ⟨ks2 ++ [p.2], _, _, rfl, by simp, snoc_nodup nd2 hin, ?_, ?_, by simp [rt2], ⟨t ++ [p.2], by rw [ht]; simp⟩, fun i hi j hj => by simp [cl2 i hi j hj], ht' _ (fun j hj => by simp [hj]) (by simp)⟩
        · intro j hj
          rcases List.mem_append.mp hj with hj | hj
          · exact rc2 j hj
          · simp at hj; rw [hj]; exact .tail (rc2 k (by rw [ht]; simp [hkk])) hs
        · intro j hj
          rcases List.mem_append.mp hj with hj | hj
          · exact lt2 j hj
          · simp at hj; rw [hj]; exact wf _ _ hs
    · rintro σ s1 ⟨ks2, x, y, rfl, rfl, nd2, rc2, lt2, rt2, ⟨t, ht⟩, cl2, hd⟩
      simp only [w_set, w_op, vS, v0, mC_eq, to_ok, nD, oAdd_int, List.set_cons_succ, List.set_cons_zero]
      refine ⟨M.length - (a + 1), by omega, a + 1, ks2, x, y, by simp [nD], rfl, nd2, rc2, lt2, rt2, by rw [ht, List.length_append]; omega, fun i hi j hj => ?_, rfl⟩
      rw [ht, List.take_append_of_le_length (by omega), List.take_add_one, hk, List.mem_append] at hi
      rcases hi with hi | hi
      · exact cl2 i hi j hj
      · simp at hi
        subst hi
        refine hd j ?_
        rw [List.take_length, ← succs_of hr0]
        exact hj
  · rw [show decide ((a : Int) < ((ks.map nD).length : Nat)) = false by rw [decide_eq_false_iff_not, List.length_map]; omega]
    simp only [Bool.false_eq_true, if_false, w_ret, vS, v0, to_ok]
    have : a = ks.length := by omega
    subst this
    rw [List.take_length] at cl
    refine q _ _ ks .app (nl_iff.mpr ⟨_, rfl, by omega, lw⟩) nd fun j => ⟨rc j, fun hj => ?_⟩
    induction hj with
    | refl => exact rt
    | tail u b ih => exact cl _ ih _ b
theorem root_of (j : Nat) : ∃ k, k ≤ j ∧ rootB M k = true ∧ eqvB M k j = true := by
  induction j using Nat.strongRecOn with
  | _ j ih =>
    cases q : rootB M j with
    | true => exact ⟨j, Nat.le_refl _, q, eqv_refl j⟩
    | false =>
      have : ¬ ∀ k, k < j → eqvB M k j = false := fun h => by rw [root_iff.mpr h] at q; cases q
      have : ∃ k, k < j ∧ eqvB M k j = true := by
        refine Classical.byContradiction fun z => this fun k hk => ?_
        cases w : eqvB M k j with
        | false => rfl
        | true => exact absurd ⟨k, hk, w⟩ z
      obtain ⟨k, hk, he⟩ := this
      obtain ⟨i, hi, hr, hei⟩ := ih k hk
      exact ⟨i, by omega, hr, eqv_trans hei he⟩
theorem orbit_eq {i j : Nat} (h : eqvB M i j = true) : orbitOf M i = orbitOf M j := by
  unfold orbitOf
  congr 1
  funext k
  rw [Bool.eq_iff_iff]
  exact ⟨fun g => eqv_trans (eqv_symm h) g, fun g => eqv_trans h g⟩
theorem orbit_in {a : Nat} (ha : a < M.length) : orbitOf M a ∈ orbs M a ↔ rootB M a = false := by
  unfold orbs
  rw [List.mem_map]
  constructor
  · rintro ⟨k, hk, e⟩
    rw [List.mem_filter, List.mem_range] at hk
    have : a ∈ orbitOf M k := by rw [e, mem_orbit]; exact ⟨ha, eqv_refl a⟩
    rw [mem_orbit] at this
    cases q : rootB M a with
    | false => rfl
    | true => rw [root_iff.mp q k hk.1] at this; cases this.2
  · intro h
    obtain ⟨k, hk, hr, he⟩ := root_of (M := M) a
    have : k ≠ a := fun e => by rw [e, h] at hr; cases hr
    exact ⟨k, List.mem_filter.mpr ⟨List.mem_range.mpr (by omega), hr⟩, orbit_eq he⟩
theorem gorbits_ok (wf : Wf M) (hM : M.length ≤ 1000)
    (q : ∀ d s', Fr [] s s' → NLL.rep (fun n => n < s.length) s' d (orbs M M.length) → Q d s') : (f_law_gorbits [mD M] s).to Q := by
  unfold f_law_gorbits
  refine fun_at [some (mD M), none, none, none, none] rfl rfl ?_
  unfold m_law_gorbits
  have len : ∀ s, bLen [mD M] s = .ok (.int M.length) s := fun s => by rw [mD, bLen_seq seqOf_tup, List.length_map]
  simp only [w_seq, w_set, w_lst, w_for, w_irng1, w_call, w_argsS, w_args0, v0, vS, to_ok, len, toI_int, List.set_cons_zero, List.set_cons_succ]
  refine ⟨r62 (by omega), ?_⟩
  rw [Int.toNat_natCast, rng0]
  refine for_map _ _ (fun i σ s' => ∃ y2 y3 y4 fs, σ = [some (mD M), some (.loc s.length), y2, y3, y4] ∧ Fr [] s s' ∧ s'[s.length]? = some (.lst fs) ∧ All2 (NL.rep (fun n => n ≤ s.length) s') fs (orbs M i))
      ⟨none, none, none, [], rfl, .app, by simp, by simpa [orbs] using .nil⟩ (fun _ _ _ _ => trivial) ?_ ?_
  · rintro i a σ s2 ha ⟨y2, y3, y4, fs, rfl, hf, hfs, ho⟩
    obtain ⟨rfl, ha⟩ := range_at ha
    simp only [w_gN, List.set_cons_succ, List.set_cons_zero, w_seq, w_set, w_call, w_argsS, w_args0, w_lc, w_iseq, w_noE, vS, v0, to_ok]
    refine greach_ok wf ha hM fun d s3 ks f3 hd nd hk => ?_
    obtain ⟨m, rfl, hm, hs⟩ := nl_iff.mp hd
    simp only [itSeq_lst hs, to_ok, wipeS, wipe0, List.set_cons_succ, List.set_cons_zero]
    have hkl : ks.length ≤ M.length := nodup_len nd fun j hj => rch_lt wf ha ((hk j).mp hj)
    refine lc_new (P := noP) .nat ks nD (fun j => rchB M j a) (fun j => j) (fun s' f => ⟨f.get hs (by simp), trivial⟩) ?_ ?_
    · intro j hj s' f
      simp only [w_gN, w_tval, w_op, w_call, w_argsS, w_args0, vS, v0, to_ok, w_noE, List.set_cons_succ, List.set_cons_zero]
      refine greach_ok wf (rch_lt wf ha ((hk j).mp hj)) hM fun d4 s4 ks4 f4 hd4 nd4 hk4 => ?_
      obtain ⟨m4, rfl, hm4, hs4⟩ := nl_iff.mp hd4
      rw [oIn_nat hs4]
      simp only [to_ok, toB_bl]
      refine ⟨?_, f4, fun _ => ⟨.refl, rfl⟩⟩
      rw [Bool.eq_iff_iff, decide_eq_true_iff, hk4, rchB_iff]
    · intro ds s4 f4 h4
      rw [List.length_map]
      refine ⟨by omega, ?_⟩
      rw [nat_of h4, List.map_id'' (fun _ => rfl)]
      generalize hks : ks.filter (fun j => rchB M j a) = rs
      have nd5 : rs.Nodup := by rw [← hks]; exact nd.filter _
      have hl5 : rs.length ≤ M.length := by rw [← hks]; exact Nat.le_trans (List.length_filter_le _ _) hkl
      have e5 : srtI (rs.map fun k : Nat => (k : Int)) = (orbitOf M a).map fun k : Nat => (k : Int) := srt_nat nd5 fun j => by
        rw [← hks, List.mem_filter, hk, rchB_iff, eqvB_iff]
        exact ⟨fun h => ⟨rch_lt wf ha h.1, h.1, h.2⟩, fun h => ⟨h.2.1, h.2.2⟩⟩
      rw [bSorted_ints (ns := rs.map fun k : Nat => (k : Int)) (by simp [nD, Function.comp_def]), e5]
      simp only [to_ok, List.set_cons_succ, List.set_cons_zero, w_if, w_tval, w_op, vS, v0]
      have e6 : ((orbitOf M a).map fun k : Nat => (k : Int)).map Dv.int = (orbitOf M a).map nD := by rw [List.map_map]; rfl
      rw [e6]
      generalize hT : s4 ++ [MO.lst (rs.map nD)] ++ [MO.lst ((orbitOf M a).map nD)] = s6
      have F26 : Fr [] s2 s6 := by rw [← hT]; exact f3.trans (f4.trans (Fr.app.trans .app))
      have ho6 : s6[(s4 ++ [MO.lst (rs.map nD)]).length]? = some (.lst ((orbitOf M a).map nD)) := by rw [← hT]; simp
      have hn : s.length < (s4 ++ [MO.lst (rs.map nD)]).length := by
        have := hf.1
        have := f3.1
        have := f4.1
        have := lt_of hfs
        simp; omega
      generalize (s4 ++ [MO.lst (rs.map nD)]).length = n6 at ho6 hn
      have hO : NL.rep (fun n => n ≤ s.length) s6 (.loc n6) (orbitOf M a) := nl_iff.mpr ⟨n6, rfl, by omega, ho6⟩
      have hF : NLL.rep (fun n => n < s.length) s6 (.loc s.length) (orbs M a) := ⟨_, fs, rfl, by omega, F26.get hfs (by simp), ho.imp fun _ _ _ _ z => NL.mono (NL.fr0 z F26) fun n h => .inl (by omega)⟩
      rw [oNotIn_enc NL hO hF (by decide)]
      simp only [to_ok, toB_bl]
      have hfs6 := F26.get hfs (by simp)
      have ho7 : All2 (NL.rep (fun n => n ≤ s.length) s6) fs (orbs M a) := ho.imp fun _ _ _ _ z => NL.fr0 z F26
      by_cases hin : orbitOf M a ∈ orbs M a
      · simp only [hin, decide_true, Bool.not_true, Bool.false_eq_true, if_false, w_nx]
        refine ⟨_, _, _, fs, rfl, hf.trans F26, hfs6, ?_⟩
        rw [orbs_succ, (orbit_in ha).mp hin, if_neg (by simp), List.append_nil]
        exact ho7
      · simp only [hin, decide_false, Bool.not_false, if_true, w_exp, w_meth, vS, v0, to_ok, w_argsS, w_args0]
        refine ⟨tyQ_lst hfs6, ?_⟩
        have hfl : fs.length ≤ M.length := by
          rw [ho.len]
          unfold orbs
          rw [List.length_map]
          refine Nat.le_trans (List.length_filter_le _ _) ?_
          rw [List.length_range]; omega
        rw [tAppend_lst hfs6 (by omega)]
        simp only [to_ok]
        refine ⟨_, _, _, _, rfl, (hf.trans F26).put (.inr (Nat.le_refl _)), look_put hfs6, ?_⟩
        have hroot : rootB M a = true := by
          cases q : rootB M a with
          | true => rfl
          | false => exact absurd ((orbit_in ha).mpr q) hin
        rw [orbs_succ, if_pos hroot]
        have fs' : Fr [s.length] s6 (s6.set s.length (.lst (fs ++ [.loc n6]))) := Fr.refl.put (.inl (by simp))
        exact (ho7.imp fun _ _ _ _ z => NL.fr z fs' (by simp)).snoc (NL.fr hO fs' (by simp))
  · rintro σ s2 ⟨y2, y3, y4, fs, rfl, hf, hfs, ho⟩
    simp only [w_ret, vS, v0, to_ok]
    rw [List.length_range] at ho
    exact q _ _ hf ⟨_, fs, rfl, by omega, hfs, ho.imp fun _ _ _ _ z => NL.mono z fun n h => .inl (by omega)⟩
end
end Mid
namespace Mid
open PySem
noncomputable section
variable {s s' : Mst} {Q : Dv → Mst → Prop} {p w c : Nat}
def penD (a t : Int) (w : Nat) : List (KeyQ × Dv) := [(.inr (Str.ofString "mixed"), .int a), (.inr (Str.ofString "turn"), .int t), (.inr (Str.ofString "wide"), .loc w)]
theorem pen_mixed (a t : Int) (w : Nat) : kval (penD a t w) (.inr (Str.ofString "mixed")) = some (.int a) := by
  simp [kval, penD]
theorem pen_turn (a t : Int) (w : Nat) : kval (penD a t w) (.inr (Str.ofString "turn")) = some (.int t) := by
  have h : Str.ofString "mixed" ≠ Str.ofString "turn" := by decide
  simp [kval, penD, List.find?_cons, h]
theorem pen_wide (a t : Int) (w : Nat) : kval (penD a t w) (.inr (Str.ofString "wide")) = some (.loc w) := by
  have h : Str.ofString "mixed" ≠ Str.ofString "wide" := by decide
  have h2 : Str.ofString "turn" ≠ Str.ofString "wide" := by decide
  simp [kval, penD, List.find?_cons, h, h2]
theorem pen_put (a t u : Int) (w : Nat) : kput (penD a t w) (.inr (Str.ofString "turn")) (.int u) = penD a u w := by
  have h : Str.ofString "mixed" ≠ Str.ofString "turn" := by decide
  have h2 : Str.ofString "wide" ≠ Str.ofString "turn" := by decide
  simp [kput, penD, h, h2]
/-- a pen: its dict and its list of wide numbers -/
def PenR (p w c : Nat) (s : Mst) : Prop := ∃ a t ws, s[p]? = some (.dK (penD a t w)) ∧ s[w]? = some (.lst (List.map Dv.int ws)) ∧ p ≠ w ∧ 0 ≤ a ∧ a < 2147483629 ∧ 0 ≤ t ∧ t ≤ (c : Int) ∧ ∀ z ∈ ws, (0 : Int) ≤ z
theorem PenR.fr (h : PenR p w c s) {X : List Nat} (f : Fr X s s') (hp : p ∉ X) (hw : w ∉ X) : PenR p w c s' := by
  obtain ⟨a, t, ws, h1, h2, h3⟩ := h
  exact ⟨a, t, ws, f.get h1 hp, f.get h2 hw, h3⟩
theorem PenR.fr0 (h : PenR p w c s) (f : Fr [] s s') : PenR p w c s' := h.fr f (by simp) (by simp)
theorem PenR.le {c' : Nat} (h : PenR p w c s) (hc : c ≤ c') : PenR p w c' s := by
  obtain ⟨a, t, ws, h1, h2, h3, h4, h5, h6, h7, h8⟩ := h
  exact ⟨a, t, ws, h1, h2, h3, h4, h5, h6, by omega, h8⟩
theorem PenR.lt (h : PenR p w c s) : p < s.length ∧ w < s.length := by
  obtain ⟨a, t, ws, h1, h2, _⟩ := h
  exact ⟨lt_of h1, lt_of h2⟩
theorem log2_le {i : Int} {n k : Nat} (h : i.natAbs ≤ n) (g : n < 2 ^ k) : i.natAbs.log2 ≤ k := by
  by_cases z : i.natAbs = 0
  · rw [z]; simp
  · exact Nat.le_of_lt (Nat.log2_lt z |>.mpr (by omega))
theorem gpen_ok {ns : List Int} (hl : ns.length < 2 ^ 24)
    (q : ∀ s' p w, Fr [] s s' → PenR p w 0 s' → s.length ≤ p → s.length ≤ w → Q (.loc p) s') : (f_law_gpen [.clst (ns.map .int)] s).to Q := by
  unfold f_law_gpen
  refine fun_at [some (.clst (ns.map .int)), none, none] rfl rfl ?_
  unfold m_law_gpen
  simp only [w_seq, w_set, mC_eq, to_ok, List.set_cons_succ, List.set_cons_zero, w_for, w_iseq, vS, v0, itSeq_clst]
  refine for_map ns Dv.int (fun i σ s' => s' = s ∧ ∃ (a : Int) (y : Option Dv), σ = [some (.clst (ns.map .int)), some (.int a), y] ∧ 0 ≤ a ∧ a < 2147483629) ⟨rfl, 7, none, rfl, by decide, by decide⟩ (fun _ _ _ _ => trivial) ?_ ?_
  · rintro i z σ s' hz ⟨rfl, a, y, rfl, h1, h2⟩
    simp only [w_gN, List.set_cons_succ, List.set_cons_zero, w_set, w_op, vS, v0, mC_eq, to_ok]
    rw [oMul_int (by
      have := log2_le (i := a) (n := 2147483629) (k := 32) (by omega) (by decide)
      have : (48271 : Int).natAbs.log2 ≤ 16 := log2_le (n := 48271) (by decide) (by decide)
      omega)]
    simp only [to_ok]
    rw [oMod_int (by decide)]
    simp only [to_ok, oAdd_int]
    rw [oMod_int (by decide)]
    simp only [to_ok]
    exact ⟨trivial, _, _, rfl, Int.emod_nonneg _ (by decide), Int.emod_lt_of_pos _ (by decide)⟩
  · rintro σ s' ⟨rfl, a, y, rfl, h1, h2⟩
    simp only [w_ret, to_noEr, w_disp, w_pairsS, w_pairs0, mC_eq, vS, v0, to_ok, w_lc, w_iseq, itSeq_clst, wipeS, wipe0, List.set_cons_succ, List.set_cons_zero]
    refine lc_pure ns Dv.int (fun z => decide (10 ^ 15 ≤ z)) Dv.int trivial ?_ ?_
    · intro z hz
      simp only [w_gN, List.set_cons_succ, List.set_cons_zero, w_tval, w_op, vS, v0, mC_eq, to_ok]
      rw [oPow_int (by decide)]
      simp only [to_ok, oGe_int, toB_bl]
      exact ⟨rfl, fun _ => ⟨trivial, trivial⟩, fun _ => trivial⟩
    · rw [List.length_map]
      refine ⟨hl, _, rfl, ?_⟩
      have e : kputs [] [(Sum.inr (Str.ofString "mixed"), Dv.int a), (Sum.inr (Str.ofString "turn"), Dv.int 0), (Sum.inr (Str.ofString "wide"), Dv.loc s'.length)] = penD a 0 s'.length := by
        have h : Str.ofString "mixed" ≠ Str.ofString "turn" := by decide
        have h2 : Str.ofString "mixed" ≠ Str.ofString "wide" := by decide
        have h3 : Str.ofString "turn" ≠ Str.ofString "wide" := by decide
        simp [kputs, kput, penD, h, h2, h3]
      rw [e]
      refine q _ _ s'.length (Fr.app.trans .app) ⟨a, 0, ns.filter fun z => decide (10 ^ 15 ≤ z), by simp, by simp, by simp, h1, h2, by decide, by decide, fun z hz => ?_⟩ (by simp) (Nat.le_refl _)
      have := of_decide_eq_true (List.mem_filter.mp hz).2
      have e : (10 : Int) ^ 15 = 1000000000000000 := by decide
      rw [e] at this
      omega
theorem natAbs_bound {i : Int} {n : Nat} (h : 0 ≤ i) (g : i ≤ n) : i.natAbs ≤ n := by omega
theorem gdraw_ok {many : Nat} (h : PenR p w c s) (hm : 0 < many) (hm2 : many < 2 ^ 20) (hc : c < 10 ^ 9)
    (q : ∀ s' r, Fr [p, w] s s' → PenR p w (c + 1) s' → r < many → Q (nD r) s') : (f_law_gdraw [.loc p, nD many] s).to Q := by
  obtain ⟨a, t, ws, h1, h2, hne, ha, ha2, ht, ht2, hw⟩ := h
  unfold f_law_gdraw
  refine fun_at [some (.loc p), some (nD many), none, none, none] rfl rfl ?_
  unfold m_law_gdraw
  have kw : keyQ (.str (Str.ofString "wide")) = some (.inr (Str.ofString "wide")) := rfl
  have kt : keyQ (.str (Str.ofString "turn")) = some (.inr (Str.ofString "turn")) := rfl
  have km : keyQ (.str (Str.ofString "mixed")) = some (.inr (Str.ofString "mixed")) := rfl
  have gw : ∀ {s : Mst} {t : Int}, s[p]? = some (.dK (penD a t w)) → oGet (.loc p) (.str (Str.ofString "wide")) s = .ok (.loc w) s := fun h => oGet_dict h kw (pen_wide _ _ _)
  have gt : ∀ {s : Mst} {t : Int}, s[p]? = some (.dK (penD a t w)) → oGet (.loc p) (.str (Str.ofString "turn")) s = .ok (.int t) s := fun h => oGet_dict h kt (pen_turn _ _ _)
  have gm : ∀ {s : Mst} {t : Int}, s[p]? = some (.dK (penD a t w)) → oGet (.loc p) (.str (Str.ofString "mixed")) s = .ok (.int a) s := fun h => oGet_dict h km (pen_mixed _ _ _)
  have hmi : (0 : Int) < (many : Int) := by omega
  have hml : (many : Int).natAbs.log2 < 9000 := by
    have := log2_le (i := (many : Int)) (n := 2 ^ 20) (k := 21) (by omega) (by decide)
    omega
  -- behind the first if
  have step : ∀ (ws1 : List Int) (s1 : Mst), Fr [p, w] s s1 → s1[p]? = some (.dK (penD a t w)) → s1[w]? = some (.lst (ws1.map .int)) → (∀ z ∈ ws1, (0 : Int) ≤ z) →
      ((msSeq (msIf (mtVal (mOp oGt (mCall bLen [mOp oGet (mVar 0) (mC (.str (Str.ofString "wide")))]) (mC (.int 0)))) (msSeq (msSet 2 (mOp oMod (mOp oGet (mOp oGet (mVar 0) (mC (.str (Str.ofString "wide")))) (mC (.int 0))) (mVar 1)))
    (msSeq (msPut oPut (mOp oGet (mVar 0) (mC (.str (Str.ofString "wide")))) (mC (.int 0)) (mOp oFdiv (mOp oGet (mOp oGet (mVar 0) (mC (.str (Str.ofString "wide")))) (mC (.int 0))) (mVar 1)))
    (msRet (mVar 2)))) (msNx))
    (msSeq (msPut oPut (mVar 0) (mC (.str (Str.ofString "turn"))) (mOp oAdd (mOp oGet (mVar 0) (mC (.str (Str.ofString "turn")))) (mC (.int 1))))
    (msSeq (msSet 3 (mOp oMod (mOp oAdd (mOp oGet (mVar 0) (mC (.str (Str.ofString "mixed")))) (mOp oMul (mOp oMul (mC (.int 7919)) (mOp oGet (mVar 0) (mC (.str (Str.ofString "turn"))))) (mOp oGet (mVar 0) (mC (.str (Str.ofString "turn")))))) (mC (.int 2147483629))))
    (msSeq (msSet 4 (mOp oMod (mOp oAdd (mOp oAdd (mOp oMul (mVar 3) (mVar 3)) (mOp oMul (mC (.int 40692)) (mOp oGet (mVar 0) (mC (.str (Str.ofString "turn")))))) (mC (.int 3))) (mC (.int 998244353))))
    (msRet (mOp oMod (mOp oFdiv (mOp oMod (mOp oAdd (mOp oMul (mVar 4) (mVar 4)) (mVar 3)) (mC (.int 2147483587))) (mC (.int 16))) (mVar 1))))))) [some (.loc p), some (nD many), none, none, none] s1).to (fun _ s => Q .non s) Q (fun _ _ => False) (fun _ _ => False) := by
    intro ws1 s1 f1 hp1 hw1 hz1
    simp only [w_seq, w_if, w_tval, w_op, w_call, w_argsS, w_args0, vS, v0, mC_eq, to_ok, gw hp1, bLen_seq (seqOf_lst hw1), oGt_int, toB_bl, List.length_map]
    cases ws1 with
    | cons z0 r0 =>
      rw [show decide ((0 : Int) < ((z0 :: r0).length : Nat)) = true by rw [decide_eq_true_iff, List.length_cons]; omega]
      have g0 : oGet (.loc w) (.int 0) s1 = .ok (.int z0) s1 := oGet_lst hw1 (b := 0) rfl
      simp only [if_true, w_set, w_op, vS, v0, mC_eq, to_ok, gw hp1, g0, nD]
      rw [oMod_int hmi]
      simp only [to_ok, List.set_cons_succ, List.set_cons_zero, w_put, w_op, vS, v0, mC_eq, gw hp1, g0]
      rw [oFdiv_int hmi hml]
      have pu : oPut (.loc w) (.int 0) (.int (z0 / (many : Int))) s1 = .ok () (s1.set w (.lst (((z0 :: r0).map Dv.int).set 0 (.int (z0 / (many : Int)))))) := oPut_lst (k := 0) hw1 (by simp)
      simp only [to_ok, gw hp1, pu, w_ret, vS, v0]
      have hz0 := hz1 z0 (by simp)
      have e : z0 % (many : Int) = ((z0 % (many : Int)).toNat : Nat) := (Int.toNat_of_nonneg (Int.emod_nonneg _ (by omega))).symm
      rw [e]
      refine q _ _ (f1.put (.inl (by simp))) ⟨a, t, z0 / (many : Int) :: r0, look_ne hp1 (fun e => hne e.symm), by rw [look_put hw1]; rfl, hne, ha, ha2, ht, by omega, ?_⟩ ?_
      · intro z hz
        rcases List.mem_cons.mp hz with rfl | hz
        · exact Int.ediv_nonneg hz0 (by omega)
        · exact hz1 z (by simp [hz])
      · have := Int.emod_lt_of_pos z0 hmi
        have := Int.emod_nonneg z0 (b := many) (by omega)
        omega
    | nil =>
      rw [show decide ((0 : Int) < (([] : List Int).length : Nat)) = false from rfl]
      simp only [Bool.false_eq_true, if_false, w_nx, w_put, w_op, vS, v0, mC_eq, to_ok, gt hp1, oAdd_int]
      rw [oPut_dict hp1 kt (by simp [penD]), pen_put]
      have hp2 : (s1.set p (.dK (penD a (t + 1) w)))[p]? = some (.dK (penD a (t + 1) w)) := look_put hp1
      have l1 : (7919 : Int).natAbs.log2 ≤ 13 := log2_le (n := 7919) (by decide) (by decide)
      have l2 : (t + 1).natAbs.log2 ≤ 30 := log2_le (n := 10 ^ 9) (by omega) (by decide)
      have l3 : (7919 * (t + 1)).natAbs.log2 ≤ 43 := log2_le (n := 7919 * 10 ^ 9) (by omega) (by decide)
      have l4 : (40692 : Int).natAbs.log2 ≤ 16 := log2_le (n := 40692) (by decide) (by decide)
      simp only [to_ok, w_set, w_op, vS, v0, mC_eq, gm hp2, gt hp2]
      rw [oMul_int (by omega)]
      simp only [to_ok, gt hp2]
      rw [oMul_int (by omega)]
      simp only [to_ok, oAdd_int]
      rw [oMod_int (by decide)]
      generalize ho : (a + 7919 * (t + 1) * (t + 1)) % 2147483629 = one
      have b1 : 0 ≤ one := by rw [← ho]; exact Int.emod_nonneg _ (by decide)
      have b2 : one < 2147483629 := by rw [← ho]; exact Int.emod_lt_of_pos _ (by decide)
      have l5 : one.natAbs.log2 ≤ 32 := log2_le (n := 2147483629) (by omega) (by decide)
      simp only [to_ok, List.set_cons_succ, List.set_cons_zero, vS, v0]
      rw [oMul_int (by omega)]
      simp only [to_ok, gt hp2]
      rw [oMul_int (by omega)]
      simp only [to_ok, oAdd_int]
      rw [oMod_int (by decide)]
      generalize hw2 : (one * one + 40692 * (t + 1) + 3) % 998244353 = two
      have b3 : 0 ≤ two := by rw [← hw2]; exact Int.emod_nonneg _ (by decide)
      have b4 : two < 998244353 := by rw [← hw2]; exact Int.emod_lt_of_pos _ (by decide)
      have l6 : two.natAbs.log2 ≤ 32 := log2_le (n := 998244353) (by omega) (by decide)
      simp only [to_ok, List.set_cons_succ, List.set_cons_zero, w_ret, w_op, vS, v0, mC_eq]
      rw [oMul_int (by omega)]
      simp only [to_ok, oAdd_int]
      rw [oMod_int (by decide)]
      simp only [to_ok]
      rw [oFdiv_int (by decide) (by decide)]
      simp only [to_ok, nD]
      rw [oMod_int hmi]
      simp only [to_ok]
      generalize (two * two + one) % 2147483587 / 16 = v
      have e : v % (many : Int) = ((v % (many : Int)).toNat : Nat) := (Int.toNat_of_nonneg (Int.emod_nonneg _ (by omega))).symm
      rw [e]
      refine q _ _ (f1.put (.inl (by simp))) ⟨a, t + 1, [], hp2, look_ne hw1 hne, hne, ha, ha2, by omega, by omega, by simp⟩ ?_
      have := Int.emod_lt_of_pos v hmi
      have := Int.emod_nonneg v (b := many) (by omega)
      omega
  rw [w_seq]
  simp only [w_if, w_tand, w_tval, w_op, w_call, w_argsS, w_args0, vS, v0, mC_eq, to_ok, gw h1, bLen_seq (seqOf_lst h2), oGt_int, toB_bl, List.length_map]
  cases ws with
  | nil =>
    rw [show decide ((0 : Int) < (([] : List Int).length : Nat)) = false from rfl]
    simp only [Bool.false_eq_true, if_false, w_nx]
    exact step [] s .refl h1 h2 (by simp)
  | cons z0 r0 =>
    rw [show decide ((0 : Int) < ((z0 :: r0).length : Nat)) = true by rw [decide_eq_true_iff, List.length_cons]; omega]
    have g0 : oGet (.loc w) (.int 0) s = .ok (.int z0) s := oGet_lst h2 (b := 0) rfl
    simp only [if_true, gw h1, to_ok, g0, nD, oLt_int, toB_bl]
    by_cases hlt : z0 < (many : Int)
    · simp only [hlt, decide_true, if_true, w_exp, w_meth, w_op, w_argsS, w_args0, vS, v0, mC_eq, to_ok, gw h1]
      refine ⟨tyQ_lst h2, ?_⟩
      have e : tPop [.loc w, .int 0] s = .ok (.int z0) (s.set w (.lst (r0.map .int))) := by
        unfold tPop onLst
        simp only [h2]
        simp [ixQ]
      rw [e]
      simp only [to_ok]
      exact step r0 _ (Fr.refl.put (.inl (by simp))) (look_ne h1 (fun e => hne e.symm)) (look_put h2) fun z hz => hw z (by simp [hz])
    · simp only [hlt, decide_false, Bool.false_eq_true, if_false, w_nx]
      exact step _ s .refl h1 h2 hw
end
end Mid
namespace Mid
open PySem
noncomputable section
variable {s s' : Mst} {Q : Dv → Mst → Prop} {p w c : Nat}
theorem strOk_app {x y : Str} (h : PyData.strOk x = true) (g : PyData.strOk y = true) : PyData.strOk (x ++ y) = true := by
  unfold PyData.strOk at *
  rw [Array.all_eq_true'] at *
  intro z hz
  have : (x ++ y).cps = x.cps ++ y.cps := rfl
  rw [this, Array.mem_append] at hz
  rcases hz with hz | hz
  · exact h z hz
  · exact g z hz
theorem strOk_none : PyData.strOk (Str.ofString "") = true := by
  have : (Str.ofString "").cps = #[] := rfl
  simp [PyData.strOk, this]
theorem strOk_join {ys : List Str} (h : ∀ y ∈ ys, PyData.strOk y = true) : PyData.strOk (Str.join (Str.ofString "") ys) = true := by
  induction ys with
  | nil => exact strOk_none
  | cons a r ih =>
    cases r with
    | nil => exact h a (by simp)
    | cons b r => exact strOk_app (strOk_app (h a (by simp)) strOk_none) (ih fun y hy => h y (by simp [hy]))
theorem join_len {ys : List Str} {k : Nat} (h : ∀ y ∈ ys, y.length = 1) : (Str.join (Str.ofString "") ys).length = ys.length := by
  have la : ∀ x y : Str, (x ++ y).length = x.length + y.length := fun x y => Array.size_append
  induction ys with
  | nil => rfl
  | cons a r ih =>
    cases r with
    | nil => exact h a (by simp)
    | cons b r =>
      have e : Str.join (Str.ofString "") (a :: b :: r) = a ++ Str.ofString "" ++ Str.join (Str.ofString "") (b :: r) := rfl
      rw [e, la, la, ih fun y hy => h y (by simp [hy]), h a (by simp)]
      have : (Str.ofString "").length = 0 := rfl
      simp [this]; omega
def abcS : Str := Str.ofString "abcdefghijklmnopqrstuvwxyz"
def chD (k : Nat) : Str := ⟨#[97 + k]⟩
theorem abc_at {k : Nat} (h : k < 26) : oGet (.str abcS) (nD k) s = .ok (.str (chD k)) s := by
  have e : abcS.cps.toList = (List.range 26).map (97 + ·) := by decide
  have : getQ (.str abcS) (nD k) s = some (.str (chD k)) := by
    unfold getQ nD
    simp only
    rw [if_pos (by decide), atQ_nat (b := k) (z := 97 + k) (by rw [e, List.getElem?_map, List.getElem?_range h]; rfl)]
    rfl
  unfold oGet
  rw [this]; rfl
theorem chD_ok {k : Nat} (h : k < 26) : PyData.strOk (chD k) = true := by
  unfold PyData.strOk chD
  simp
  omega
theorem chD_inj {a b : Nat} (h : chD a = chD b) : a = b := by
  unfold chD at h
  have := congrArg (fun x : Str => x.cps[0]?) h
  simp at this
  exact this
theorem str_cancel {x y z : Str} (h : x ++ y = x ++ z) : y = z := by
  have h2 : x.cps ++ y.cps = x.cps ++ z.cps := congrArg Str.cps h
  have h3 : y.cps = z.cps := by
    have := congrArg Array.toList h2
    rw [Array.toList_append, Array.toList_append] at this
    exact Array.toList_inj.mp (List.append_cancel_left this)
  cases y; cases z
  simp only [Str.mk.injEq]
  exact h3
theorem signs_nd {x : Str} {a many : Nat} (h : many ≤ 26) : ((List.range many).map fun k => x ++ chD ((a + 7 * k) % 26)).Nodup := by
  refine List.pairwise_map.mpr ?_
  refine List.Pairwise.imp_of_mem ?_ (List.pairwise_lt_range (n := many))
  intro i j hi hj hij e
  have hi := List.mem_range.mp hi
  have hj := List.mem_range.mp hj
  have := chD_inj (str_cancel e)
  omega
theorem gsigns_nd_ok {many : Nat} (h : PenR p w c s) (hm : 0 < many) (hm2 : many < 2 ^ 20) (hc : c < 10 ^ 8)
    (q : ∀ s' n sg, Fr [p, w] s s' → PenR p w (c + 10) s' → s.length ≤ n → s'[n]? = some (.lst (List.map Dv.str sg)) → sg.length = many → (∀ x ∈ sg, PyData.strOk x = true) → (many ≤ 26 → sg.Nodup) → Q (.loc n) s') : (f_law_gsigns [.loc p, nD many] s).to Q := by
  unfold f_law_gsigns
  refine fun_at [some (.loc p), some (nD many), none, none, none, none] rfl rfl ?_
  unfold m_law_gsigns
  simp only [w_seq, w_set, mC_eq, to_ok, List.set_cons_succ, List.set_cons_zero, w_meth, tyQ_str, true_and, w_argsS, w_args0, w_lc, w_irng1, w_op, w_lst, w_call, w_noE, vS, v0]
  have h0 : PenR p w c (s ++ [.lst [.int 0, .int 0, .int 1, .int 2, .int 5]]) := h.fr0 .app
  refine gdraw_ok (many := 5) h0 (by decide) (by decide) (by omega) fun s1 r f1 h1 hr => ?_
  have f01 : Fr [p, w] s s1 := Fr.app.trans f1
  have hne := h.lt
  have hl1 : s1[s.length]? = some (.lst [.int 0, .int 0, .int 1, .int 2, .int 5]) := f1.get (by simp) (by simp; omega)
  obtain ⟨k, hk, hk5⟩ : ∃ k : Nat, [Dv.int 0, .int 0, .int 1, .int 2, .int 5][r]? = some (nD k) ∧ k ≤ 5 := by
    rcases r with _ | _ | _ | _ | _ | r
    · exact ⟨0, rfl, by omega⟩
    · exact ⟨0, rfl, by omega⟩
    · exact ⟨1, rfl, by omega⟩
    · exact ⟨2, rfl, by omega⟩
    · exact ⟨5, rfl, by omega⟩
    · omega
  rw [show nD r = .int (r : Int) from rfl, oGet_lst hl1 hk]
  simp only [to_ok, nD, toI_int]
  refine ⟨r62 (by omega), ?_⟩
  rw [Int.toNat_natCast, rng0]
  simp only [wipeS, wipe0, List.set_cons_succ, List.set_cons_zero]
  refine lc_by (fun i ds s' => Fr [p, w] s s' ∧ PenR p w (c + 1 + i) s' ∧ ∃ ys : List Str, ds = ys.map Dv.str ∧ ys.length = i ∧ (∀ y ∈ ys, y.length = 1) ∧ ∀ y ∈ ys, PyData.strOk y = true)
    ⟨f01, h1, [], rfl, rfl, by simp, by simp⟩ (fun _ _ _ _ => trivial) ?_ ?_
  · rintro i x ds s2 hx ⟨f2, h2, ys, rfl, hl, h3, h4⟩
    have hi : i < k := by
      have := (List.getElem?_eq_some_iff.mp hx).1
      simpa using this
    simp only [w_gN, w_tyes, if_true, w_op, w_call, w_argsS, w_args0, w_noE, vS, v0, to_ok, mC_eq, List.set_cons_succ, List.set_cons_zero]
    refine gdraw_ok (many := 26) h2 (by decide) (by decide) (by omega) fun s3 r3 f3 h5 hr3 => ?_
    rw [show Str.ofString "abcdefghijklmnopqrstuvwxyz" = abcS from rfl, abc_at hr3]
    simp only [to_ok]
    refine ⟨f2.trans f3, h5.le (by omega), ys ++ [chD r3], by simp, by simp [hl], ?_, ?_⟩
    · intro y hy
      rcases List.mem_append.mp hy with hy | hy
      · exact h3 y hy
      · simp at hy; rw [hy]; rfl
    · intro y hy
      rcases List.mem_append.mp hy with hy | hy
      · exact h4 y hy
      · simp at hy; rw [hy]; exact chD_ok hr3
  · rintro ds s2 ⟨f2, h2, ys, rfl, hl, h3, h4⟩
    simp only [List.length_map, List.length_range] at hl h2 ⊢
    refine ⟨by omega, ?_⟩
    have ej : tJoin [.str (Str.ofString ""), .loc s2.length] (s2 ++ [.lst (ys.map Dv.str)]) = .ok (.str (Str.join (Str.ofString "") ys)) (s2 ++ [.lst (ys.map Dv.str)]) := by
      show (match Dv.str (Str.ofString ""), (seqOf (.loc s2.length) (s2 ++ [.lst (ys.map Dv.str)])).bind strsQ with | .str z, some ys => _ | _, _ => _) = _
      rw [seqOf_lst (l := ys.map Dv.str) (by simp), Option.bind_some, strsQ_map]
      refine if_pos ?_
      have : (ys.map (·.length)).sum = ys.length := by
        clear hl h4
        induction ys with
        | nil => rfl
        | cons a r ih => rw [List.map_cons, List.sum_cons, ih fun y hy => h3 y (by simp [hy]), h3 a (by simp), List.length_cons]; omega
      have e0 : (Str.ofString "").length = 0 := rfl
      rw [this, e0]; omega
    rw [ej]
    have h2' : PenR p w (c + 1 + k) (s2 ++ [.lst (ys.map Dv.str)]) := h2.fr0 .app
    simp only [to_ok]
    refine gdraw_ok (many := 26) h2' (by decide) (by decide) (by omega) fun s3 r3 f3 h5 hr3 => ?_
    simp only [List.set_cons_succ, List.set_cons_zero, w_ret, w_lc, w_irng1, vS, v0, to_ok, toI_int, wipeS, wipe0]
    have hm3 : many < 2 ^ 24 := by omega
    refine ⟨r62 (by omega), ?_⟩
    rw [Int.toNat_natCast, rng0]
    have hjl : (Str.join (Str.ofString "") ys).length = ys.length := join_len (k := 0) h3
    refine lc_pure (List.range many) nD (fun _ => true) (fun k => .str (Str.join (Str.ofString "") ys ++ chD ((r3 + 7 * k) % 26))) trivial ?_ ?_
    · intro k hk
      simp only [w_gN, w_tyes, w_op, vS, v0, to_ok, mC_eq, List.set_cons_succ, List.set_cons_zero, nD]
      have hk2 : k < 2 ^ 20 := by have := List.mem_range.mp hk; omega
      rw [oMul_int (by
        have := log2_le (i := (k : Int)) (n := 2 ^ 20) (k := 21) (by omega) (by decide)
        have : (7 : Int).natAbs.log2 ≤ 3 := log2_le (n := 7) (by decide) (by decide)
        omega)]
      simp only [to_ok, oAdd_int]
      rw [oMod_int (by decide)]
      simp only [to_ok]
      have e : ((r3 : Int) + 7 * (k : Int)) % 26 = ((r3 + 7 * k) % 26 : Nat) := by omega
      rw [e, show Str.ofString "abcdefghijklmnopqrstuvwxyz" = abcS from rfl]
      rw [show oGet (.str abcS) (.int ((r3 + 7 * k) % 26 : Nat)) s3 = .ok (.str (chD ((r3 + 7 * k) % 26))) s3 from abc_at (Nat.mod_lt _ (by decide))]
      simp only [to_ok]
      rw [oAdd_str (by rw [hjl]; have : (chD ((r3 + 7 * k) % 26)).length = 1 := rfl; omega)]
      exact ⟨trivial, fun _ => ⟨rfl, rfl⟩, fun _ => trivial⟩
    · rw [List.length_map, List.length_range]
      refine ⟨by omega, ?_⟩
      have F : Fr [p, w] s (s3 ++ [.lst ((List.map (fun k => Dv.str (Str.join (Str.ofString "") ys ++ chD ((r3 + 7 * k) % 26))) (List.filter (fun _ => true) (List.range many))))]) := f2.trans ((Fr.app (t := [.lst (ys.map Dv.str)])).trans (f3.trans .app))
      refine q _ _ ((List.range many).map fun k => Str.join (Str.ofString "") ys ++ chD ((r3 + 7 * k) % 26)) F ((h5.fr0 .app).le (by omega)) ?_ ?_ (by simp) ?_ signs_nd
      · have := f2.1
        have := f3.1
        simp at this
        omega
      · rw [List.filter_eq_self.mpr fun _ _ => rfl]; simp
      · intro x hx
        obtain ⟨k, hk, e⟩ := List.mem_map.mp hx
        rw [← e]
        exact strOk_app (strOk_join h4) (chD_ok (Nat.mod_lt _ (by decide)))
theorem gsigns_ok {many : Nat} (h : PenR p w c s) (hm : 0 < many) (hm2 : many < 2 ^ 20) (hc : c < 10 ^ 8)
    (q : ∀ s' n sg, Fr [p, w] s s' → PenR p w (c + 10) s' → s.length ≤ n → s'[n]? = some (.lst (List.map Dv.str sg)) → sg.length = many → (∀ x ∈ sg, PyData.strOk x = true) → Q (.loc n) s') : (f_law_gsigns [.loc p, nD many] s).to Q :=
  gsigns_nd_ok h hm hm2 hc fun s' n sg a b c d e f _ => q s' n sg a b c d e f
end
end Mid
namespace Mid
open PySem
noncomputable section
variable {M : Mach} {s s' : Mst} {Q : Dv → Mst → Prop}
def endB (M : Mach) (k : Nat) : Bool := match M[k]? with
  | some r => r.1
  | none => false
/-- rooms within g from which an end is come to within g -/
inductive Alv (M : Mach) (g : List Nat) : Nat → Prop where
  | fin {k : Nat} : k ∈ g → endB M k = true → Alv M g k
  | step {k j : Nat} : k ∈ g → j ∈ succs M k → Alv M g j → Alv M g k
theorem Alv.mono {g g' : List Nat} {k : Nat} (h : Alv M g k) (f : ∀ j ∈ g, j ∈ g') : Alv M g' k := by induction h with
  | fin a b => exact .fin (f _ a) b
  | step a b _ ih => exact .step (f _ a) b ih
theorem room_lst {n k : Nat} {r : Bool × List (Str × Nat)} (h : s[n]? = some (.lst (M.map roomD))) (hr : M[k]? = some r) : oGet (.loc n) (nD k) s = .ok (roomD r) s :=
  oGet_lst (b := k) h (by rw [List.getElem?_map, hr]; rfl)
structure GoodR (M : Mach) (g : List Nat) : Prop where
  nd : g.Nodup
  lt : ∀ k ∈ g, k < M.length
  ends : ∀ k, endB M k = true → k ∈ g
  alv : ∀ k ∈ g, Alv M g k
/-- closed backwards -/
def ClB (M : Mach) (g : List Nat) : Prop := ∀ k, k < M.length → ∀ j, j ∈ succs M k → j ∈ g → k ∈ g
theorem all_in {g : List Nat} {n : Nat} (nd : g.Nodup) (lt : ∀ k ∈ g, k < n) (h : n ≤ g.length) : ∀ k, k < n → k ∈ g := by
  intro k hk
  refine Classical.byContradiction fun z => ?_
  have h1 : (g ++ [k]).length ≤ n := nodup_len (snoc_nodup nd z) fun j hj => by
    rcases List.mem_append.mp hj with hj | hj
    · exact lt j hj
    · simp at hj; omega
  rw [List.length_append, List.length_singleton] at h1
  omega
theorem clb_alv {g g' : List Nat} {k : Nat} (he : ∀ k, endB M k = true → k ∈ g') (hc : ClB M g') (lt : ∀ k ∈ g, k < M.length) (h : Alv M g k) : k ∈ g' := by induction h with
  | fin _ b => exact he _ b
  | step a b _ ih => exact hc _ (lt _ a) _ b ih
theorem gto_end_ok {n : Nat} (hs : s[n]? = some (.lst (M.map roomD))) (hM : M.length ≤ 1000) (sm : Sml M)
    (q : ∀ m s' g, Fr [] s s' → s.length ≤ m → s'[m]? = some (.lst (g.map nD)) → GoodR M g → ClB M g → Q (.loc m) s') : (f_law_gto_end [.loc n] s).to Q := by
  unfold f_law_gto_end
  refine fun_at [some (.loc n), none, none, none, none, none] rfl rfl ?_
  unfold m_law_gto_end
  have len : ∀ {s : Mst}, s[n]? = some (.lst (M.map roomD)) → bLen [.loc n] s = .ok (.int M.length) s := fun h => by rw [bLen_seq (seqOf_lst h), List.length_map]
  simp only [w_seq, w_set, w_lc, w_irng1, w_call, w_argsS, w_args0, vS, v0, to_ok, len hs, toI_int]
  refine ⟨r62 (by omega), ?_⟩
  rw [Int.toNat_natCast, rng0]
  simp only [wipeS, wipe0, List.set_cons_succ, List.set_cons_zero]
  refine lc_pure (List.range M.length) nD (endB M) nD trivial ?_ ?_
  · intro k hk
    have hk := List.mem_range.mp hk
    obtain ⟨r, hr⟩ : ∃ r, M[k]? = some r := ⟨_, List.getElem?_eq_getElem hk⟩
    have e : endB M k = r.1 := by unfold endB; rw [hr]
    simp only [w_gN, w_tval, w_op, vS, v0, mC_eq, to_ok, List.set_cons_succ, List.set_cons_zero, room_lst hs hr, roomD, oGet_tup0, toB_bl]
    exact ⟨e.symm, fun _ => ⟨trivial, trivial⟩, fun _ => trivial⟩
  · rw [List.length_map, List.length_range]
    refine ⟨by omega, ?_⟩
    generalize hg0 : (List.range M.length).filter (endB M) = g0
    have hs1 : (s ++ [MO.lst (g0.map nD)])[n]? = some (.lst (M.map roomD)) := look_app hs
    have hnl := lt_of hs
    simp only [w_for, w_irng1, w_call, w_argsS, w_args0, vS, v0, to_ok, len hs1, toI_int]
    refine ⟨r62 (by omega), ?_⟩
    rw [Int.toNat_natCast, rng0]
    have I0 : GoodR M g0 := by
      refine ⟨?_, ?_, ?_, ?_⟩
      · rw [← hg0]; exact List.nodup_range.filter _
      · intro k hk; rw [← hg0] at hk; exact List.mem_range.mp (List.mem_filter.mp hk).1
      · intro k hk
        rw [← hg0, List.mem_filter, List.mem_range]
        refine ⟨?_, hk⟩
        unfold endB at hk
        cases q : M[k]? with
        | none => rw [q] at hk; cases hk
        | some r => exact (List.getElem?_eq_some_iff.mp q).1
      · intro k hk
        have hk' := hk
        rw [← hg0, List.mem_filter] at hk'
        exact .fin hk hk'.2
    refine for_map _ _ (fun i σ s' => ∃ g y1 y3 y4 y5, σ = [some (.loc n), y1, some (.loc s.length), y3, y4, y5] ∧ Fr [] s s' ∧ s'[s.length]? = some (.lst (g.map nD)) ∧ GoodR M g ∧ (ClB M g ∨ i ≤ g.length)) ⟨g0, none, none, none, none, rfl, .app, by simp, I0, .inr (by omega)⟩ (fun _ _ _ _ => trivial) ?_ ?_
    · rintro i a σ s1 ha ⟨gi, y1, y3, y4, y5, rfl, f, hg, G, hcl⟩
      simp only [w_gN, List.set_cons_succ, List.set_cons_zero, w_for, w_irng1, w_call, w_argsS, w_args0, vS, v0, to_ok, len (f.get hs (by simp)), toI_int]
      refine ⟨r62 (by omega), ?_⟩
      rw [Int.toNat_natCast, rng0]
      refine for_map _ _ (fun k σ s' => ∃ g y1 y3 y4 y5, σ = [some (.loc n), y1, some (.loc s.length), y3, y4, y5] ∧ Fr [] s s' ∧ s'[s.length]? = some (.lst (g.map nD)) ∧ GoodR M g ∧ ((g = gi ∧ ∀ k', k' < k → ∀ j, j ∈ succs M k' → j ∈ g → k' ∈ g) ∨ (gi.length < g.length ∧ ¬ ClB M gi)))
        ⟨gi, _, _, y4, y5, rfl, f, hg, G, .inl ⟨rfl, fun _ h => absurd h (Nat.not_lt_zero _)⟩⟩ (fun _ _ _ _ => trivial) ?_ ?_
      rotate_left
      · rintro σ s2 ⟨g, y1, y3, y4, y5, rfl, f2, hg, G2, hc⟩
        refine ⟨g, _, _, _, _, rfl, f2, hg, G2, ?_⟩
        rcases hc with ⟨rfl, hc⟩ | ⟨hc, hn⟩
        · rw [List.length_range] at hc; exact .inl hc
        · exact hcl.elim (fun h => absurd h hn) fun h => .inr (by omega)
      rintro i k σ s2 hk ⟨g, y1, y3, y4, y5, rfl, f2, hg, G, hc⟩
      obtain ⟨rfl, hk⟩ := range_at hk
      obtain ⟨r, hr⟩ : ∃ r, M[k]? = some r := ⟨_, List.getElem?_eq_getElem hk⟩
      simp only [w_gN, List.set_cons_succ, List.set_cons_zero, w_if, w_tand, w_tval, w_op, vS, v0, to_ok, oNotIn_nat hg, toB_bl]
      by_cases hin : k ∈ g
      · simp only [hin, decide_true, Bool.not_true, Bool.false_eq_true, if_false, w_nx]
        exact ⟨g, _, _, y4, y5, rfl, f2, hg, G, hc.imp (fun h => ⟨h.1, fun k' hk' j hj hjg => (Nat.lt_succ_iff_lt_or_eq.mp hk').elim (fun h' => h.2 k' h' j hj hjg) (fun e => e ▸ hin)⟩) id⟩
      · simp only [hin, decide_false, Bool.not_false, if_true, w_call, w_argsS, w_args0, w_lc, w_iseq, w_op, vS, v0, to_ok, mC_eq, room_lst (f2.get hs (by simp)) hr, roomD, oGet_tup1, itSeq_tup, wipeS, wipe0, List.set_cons_succ, List.set_cons_zero]
        refine lc_pure r.2 stepD (fun _ => true) (fun p => .bl (decide (p.2 ∈ g))) trivial ?_ ?_
        · intro p hp
          simp only [stepD, w_gT, w_gES, w_gE0, w_gN, List.length_cons, List.length_nil, true_and, w_tyes, w_op, vS, v0, to_ok, List.set_cons_succ, List.set_cons_zero]
          rw [show iD p.2 = nD p.2 from rfl, oIn_nat hg]
          exact ⟨fun _ => ⟨rfl, rfl⟩, fun h => nomatch h⟩
        · rw [List.length_map, List.filter_eq_self.mpr fun _ _ => rfl]
          refine ⟨sm r (List.mem_of_getElem? hr), ?_⟩
          rw [bAny_lst (bs := r.2.map fun p => decide (p.2 ∈ g)) (by simp)]
          simp only [to_ok, toB_bl]
          have F := f2.trans (Fr.app (t := [.lst (r.2.map fun p => Dv.bl (decide (p.2 ∈ g)))]))
          have hg' : (s2 ++ [MO.lst (r.2.map fun p => Dv.bl (decide (p.2 ∈ g)))])[s.length]? = some (.lst (g.map nD)) := look_app hg
          cases hany : (r.2.map fun p => decide (p.2 ∈ g)).any id with
          | false =>
            simp only [Bool.false_eq_true, if_false, w_nx]
            refine ⟨g, _, _, y4, y5, rfl, F, hg', G, hc.imp (fun h => ⟨h.1, fun k' hk' j hj hjg => (Nat.lt_succ_iff_lt_or_eq.mp hk').elim (fun h' => h.2 k' h' j hj hjg) (fun e => ?_)⟩) id⟩
            subst e
            rw [succs_of hr] at hj
            obtain ⟨p, hp, e⟩ := List.mem_map.mp hj
            rw [List.any_eq_false] at hany
            exact absurd rfl (hany true (List.mem_map.mpr ⟨p, hp, by rw [decide_eq_true_iff, e]; exact hjg⟩))
          | true =>
            simp only [if_true, w_exp, w_meth, w_argsS, w_args0, vS, v0, to_ok]
            have hgl := nodup_len G.nd G.lt
            refine ⟨tyQ_lst hg', ?_⟩
            rw [tAppend_lst hg' (by rw [List.length_map]; omega)]
            simp only [to_ok]
            refine ⟨g ++ [k], _, _, y4, y5, rfl, F.put (.inr (Nat.le_refl _)), by rw [look_put hg']; simp, ⟨snoc_nodup G.nd hin, ?_, fun j hj => by simp [G.ends j hj], ?_⟩, .inr ?_⟩
            · intro j hj
              rcases List.mem_append.mp hj with hj | hj
              · exact G.lt j hj
              · simp at hj; rw [hj]; exact hk
            · intro j hj
              rcases List.mem_append.mp hj with hj | hj
              · exact (G.alv j hj).mono fun _ z => by simp [z]
              · simp at hj
                subst hj
                rw [List.any_eq_true] at hany
                obtain ⟨b, hb, hb2⟩ := hany
                obtain ⟨p, hp, e⟩ := List.mem_map.mp hb
                have hpg : p.2 ∈ g := by
                  have : b = true := hb2
                  rw [this] at e
                  exact of_decide_eq_true e
                refine .step (j := p.2) (by simp) ?_ ((G.alv _ hpg).mono fun _ z => by simp [z])
                rw [succs_of hr]; exact List.mem_map.mpr ⟨p, hp, rfl⟩
            · rw [List.any_eq_true] at hany
              obtain ⟨b, hb, hb2⟩ := hany
              obtain ⟨p, hp, e⟩ := List.mem_map.mp hb
              have hpg : p.2 ∈ g := by
                have : b = true := hb2
                rw [this] at e
                exact of_decide_eq_true e
              rw [List.length_append, List.length_singleton]
              rcases hc with ⟨rfl, _⟩ | ⟨h1, h2⟩
              · exact ⟨by omega, fun h => hin (h k hk p.2 (by rw [succs_of hr]; exact List.mem_map.mpr ⟨p, hp, rfl⟩) hpg)⟩
              · exact ⟨by omega, h2⟩
    · rintro σ s1 ⟨g, y1, y3, y4, y5, rfl, f, hg, G, hc⟩
      simp only [w_ret, vS, v0, to_ok]
      rw [List.length_range] at hc
      exact q _ _ g f (Nat.le_refl _) hg G (hc.elim id fun h k hk _ _ _ => all_in G.nd G.lt h k hk)
end
end Mid
namespace Mid
open PySem
noncomputable section
variable {M : Mach} {s s' : Mst} {Q : Dv → Mst → Prop}
theorem findE_nat (j : Nat) (l : List Nat) (h : j ∈ l) : findE (Enc.nat.py j) (l.map Enc.nat.py) = some (l.idxOf j) := by
  induction l with
  | nil => cases h
  | cons a r ih =>
    rw [List.map_cons]
    unfold findE
    by_cases e : a = j
    · subst e; rw [if_pos ((Enc.nat.eqv _ _).mpr rfl)]; simp
    · rw [if_neg (fun z => e ((Enc.nat.eqv _ _).mp z)), ih ((List.mem_cons.mp h).resolve_left fun z => e z.symm), List.idxOf_cons]
      have : (a == j) = false := by simpa using e
      rw [this]; rfl
theorem tIndex_nat {n j : Nat} {l : List Nat} (hs : s[n]? = some (.lst (l.map nD))) (h : j ∈ l) : tIndex [.loc n, nD j] s = .ok (nD (l.idxOf j)) s := by
  have g' : NL.rep noP s (.loc n) l := nl_iff.mpr ⟨n, rfl, id, hs⟩
  have sh := NL.shaped g' (by decide)
  have ha : All2 (Enc.nat.rep noP s) (l.map nD) l := nat_all
  show (match bAny.lstQ (.loc n) s with | some l => _ | none => _) = _
  rw [lstQ_loc hs]
  simp only
  rw [Enc.nat.dat (P := noP) (s := s) (d := nD j) (a := j) rfl (by decide), datA_all2 ha (by decide)]
  simp only
  rw [if_pos ⟨Enc.nat.shaped (P := noP) (s := s) (d := nD j) rfl (by decide), sh⟩, findE_nat j l h]
  rfl
theorem cutQ_from {l : List Dv} (h : 0 < l.length) : cutQ l (some 1) none = l.drop 1 := by
  unfold cutQ sIxQ
  simp only
  rw [if_neg (by decide)]
  have : min (1 : Int).toNat l.length = 1 := by
    have : (1 : Int).toNat = 1 := rfl
    rw [this]; omega
  rw [this, List.take_of_length_le (by rw [List.length_drop]; omega)]
def trR (M : Mach) (g od : List Nat) (r : Bool × List (Str × Nat)) : Bool × List (Str × Nat) := (r.1, (r.2.filter fun p => decide (p.2 ∈ g)).map fun p => (p.1, od.idxOf p.2))
/-- what trimming makes of M -/
structure Trm (M : Mach) (g od : List Nat) (M' : Mach) : Prop where
  G : GoodR M g
  nd : od.Nodup
  sub : ∀ k ∈ od, k ∈ g
  root : od[0]? = some 0
  cl : ∀ k ∈ od, ∀ j ∈ succs M k, j ∈ g → j ∈ od
  par : ∀ i, 0 < i → i < od.length → ∃ i' k k', i' < i ∧ od[i']? = some k' ∧ od[i]? = some k ∧ k ∈ succs M k'
  len : M'.length = od.length
  at' : ∀ (i k : Nat) (r : Bool × List (Str × Nat)), od[i]? = some k → M[k]? = some r → M'[i]? = some (trR M g od r)
def m_trim_rest : MS := msSeq (msSet 1 (mCall (noE f_law_gto_end) [mVar 0]))
    (msSeq (msSet 2 (mLst [mC (.int 0)]))
    (msSeq (msSet 3 (mC (.int 0)))
    (msSeq (msWhile (mtVal (mOp oLt (mVar 3) (mCall bLen [mVar 2]))) (msSeq (msFor (miSeq (mOp oGet (mOp oGet (mVar 0) (mOp oGet (mVar 2) (mVar 3))) (mC (.int 1)))) (gT [gN 4, gN 5]) (msIf (mtAnd (mtVal (mOp oIn (mVar 5) (mVar 1))) (mtVal (mOp oNotIn (mVar 5) (mVar 2)))) (msExp (mMeth "list" tAppend (mVar 2) [mVar 5])) (msNx)))
    (msSet 3 (mOp oAdd (mVar 3) (mC (.int 1))))))
    (msSeq (msSet 6 (mLst []))
    (msSeq (msFor (miSeq (mVar 2)) (gN 7) (msSeq (msSet 8 (mLc (miSeq (mOp oGet (mOp oGet (mVar 0) (mVar 7)) (mC (.int 1)))) (gT [gN 4, gN 5]) (mtVal (mOp oIn (mVar 5) (mVar 1))) (mTup [mVar 4, mMeth "list" tIndex (mVar 2) [mVar 5]]) [4, 5]))
    (msExp (mMeth "list" tAppend (mVar 6) [mTup [mOp oGet (mOp oGet (mVar 0) (mVar 7)) (mC (.int 0)), mCall bTuple [mVar 8]]]))))
    (msRet (mCall bTuple [mVar 6])))))))
theorem trim_rest_ok {n : Nat} {R : Dv → Mst → Prop} (hs : s[n]? = some (.lst (M.map roomD))) (hM : M.length ≤ 1000) (sm : Sml M) (wf : Wf M)
    (q : ∀ s' g od M', Fr [] s s' → Trm M g od M' → R (mD M') s') (h0 : endB M 0 = true ∨ ∀ g, GoodR M g → ClB M g → 0 ∈ g) :
    (m_trim_rest [some (.loc n), none, none, none, none, none, none, none, none] s).to (fun _ s => R .non s) R (fun _ _ => False) (fun _ _ => False) := by
  unfold m_trim_rest
  simp only [w_seq, w_set, w_call, w_argsS, w_args0, vS, v0, to_ok, w_noE]
  refine gto_end_ok hs hM sm fun m s1 g f1 hm hg G hcb => ?_
  have z0 : 0 ∈ g := by
    rcases h0 with h | h
    · exact G.ends 0 h
    · exact h g G hcb
  simp only [List.set_cons_succ, List.set_cons_zero, w_lst, w_argsS, w_args0, mC_eq, to_ok]
  have hs1 := f1.get hs (by simp)
  have hml := lt_of hg
  have hgl := nodup_len G.nd G.lt
  refine while_m (fun mm σ s2 => ∃ at' od x y, σ = [some (.loc n), some (.loc m), some (.loc s1.length), some (nD at'), x, y, none, none, none] ∧ s2 = s1 ++ [.lst (od.map nD)] ∧ od.Nodup ∧ (∀ k ∈ od, k ∈ g) ∧ od[0]? = some 0 ∧ at' ≤ od.length ∧
      (∀ k ∈ od.take at', ∀ j ∈ succs M k, j ∈ g → j ∈ od) ∧ (∀ i, 0 < i → i < od.length → ∃ i' k k', i' < i ∧ od[i']? = some k' ∧ od[i]? = some k ∧ k ∈ succs M k') ∧ mm = M.length - at')
    ⟨_, 0, [0], none, none, rfl, rfl, by simp, by simpa using z0, rfl, by simp, by simp, fun i h1 h2 => absurd h2 (by simp; omega), rfl⟩ ?_
  rintro mm σ s2 ⟨a, od, x, y, rfl, rfl, nd, sub, root, hle, cl, par, rfl⟩
  have lw : (s1 ++ [MO.lst (od.map nD)])[s1.length]? = some (.lst (od.map nD)) := by simp
  have hodl : od.length ≤ M.length := nodup_len nd fun j hj => G.lt j (sub j hj)
  simp only [w_tval, w_op, vS, v0, w_call, w_argsS, w_args0, to_ok, bLen_seq (seqOf_lst lw), nD, oLt_int, toB_bl]
  by_cases hlt : a < od.length
  · obtain ⟨k, hk⟩ : ∃ k, od[a]? = some k := ⟨_, List.getElem?_eq_getElem hlt⟩
    have hkk := List.mem_of_getElem? hk
    have hkl := G.lt k (sub k hkk)
    obtain ⟨r0, hr0⟩ : ∃ r0, M[k]? = some r0 := ⟨_, List.getElem?_eq_getElem hkl⟩
    rw [show decide ((a : Int) < ((od.map nD).length : Nat)) = true by rw [decide_eq_true_iff, List.length_map]; omega]
    simp only [if_true, w_seq, w_for, w_iseq, w_op, vS, v0, to_ok, mC_eq]
    rw [oGet_lst (b := a) (z := nD k) lw (by rw [List.getElem?_map, hk]; rfl)]
    simp only [to_ok, room_lst (look_app hs1) hr0, roomD, oGet_tup1, itSeq_tup]
    refine for_map r0.2 stepD (fun i σ s2 => ∃ od2 x y, σ = [some (.loc n), some (.loc m), some (.loc s1.length), some (nD a), x, y, none, none, none] ∧ s2 = s1 ++ [.lst (od2.map nD)] ∧ od2.Nodup ∧ (∀ k ∈ od2, k ∈ g) ∧ (∃ t, od2 = od ++ t) ∧
        (∀ i, 0 < i → i < od2.length → ∃ i' k k', i' < i ∧ od2[i']? = some k' ∧ od2[i]? = some k ∧ k ∈ succs M k') ∧ (∀ j ∈ (r0.2.take i).map (·.2), j ∈ g → j ∈ od2))
      ⟨od, x, y, rfl, rfl, nd, sub, ⟨[], by simp⟩, par, by simp⟩ (fun _ _ _ _ => trivial) ?_ ?_
    · rintro i p σ s2 hp ⟨od2, x, y, rfl, rfl, nd2, sub2, ⟨t, ht⟩, par2, hd⟩
      have hsu : p.2 ∈ succs M k := by rw [succs_of hr0]; exact List.mem_map.mpr ⟨p, List.mem_of_getElem? hp, rfl⟩
      have ht' : ∀ od3 : List Nat, (∀ j ∈ od2, j ∈ od3) → (p.2 ∈ g → p.2 ∈ od3) → ∀ j ∈ (r0.2.take (i + 1)).map (·.2), j ∈ g → j ∈ od3 := fun od3 h3 h4 j hj hjg => by
        rw [List.take_add_one, hp, List.map_append, List.mem_append] at hj
        rcases hj with hj | hj
        · exact h3 j (hd j hj hjg)
        · simp at hj; rw [hj] at hjg ⊢; exact h4 hjg
      have lw2 : (s1 ++ [MO.lst (od2.map nD)])[s1.length]? = some (.lst (od2.map nD)) := by simp
      have hg2 : (s1 ++ [MO.lst (od2.map nD)])[m]? = some (.lst (g.map nD)) := look_app hg
      simp only [stepD, w_gT, w_gES, w_gE0, w_gN, List.length_cons, List.length_nil, true_and, List.set_cons_succ, List.set_cons_zero, w_if, w_tand, w_tval, w_op, vS, v0, to_ok]
      rw [show iD p.2 = nD p.2 from rfl, oIn_nat hg2]
      simp only [to_ok, toB_bl]
      by_cases hpg : p.2 ∈ g
      · simp only [hpg, decide_true, if_true, oNotIn_nat lw2, to_ok, toB_bl]
        by_cases hin : p.2 ∈ od2
        · simp only [hin, decide_true, Bool.not_true, Bool.false_eq_true, if_false, w_nx]
          exact ⟨od2, _, _, rfl, rfl, nd2, sub2, ⟨t, ht⟩, par2, ht' od2 (fun _ z => z) fun _ => hin⟩
        · simp only [hin, decide_false, Bool.not_false, if_true, w_exp, w_meth, vS, v0, to_ok, w_argsS, w_args0]
          refine ⟨tyQ_lst lw2, ?_⟩
          have hl2 : od2.length ≤ M.length := nodup_len nd2 fun j hj => G.lt j (sub2 j hj)
          rw [tAppend_lst lw2 (by rw [List.length_map]; omega)]
          simp only [to_ok]
          refine ⟨od2 ++ [p.2], _, _, rfl, by simp, snoc_nodup nd2 hin, ?_, ⟨t ++ [p.2], by rw [ht]; simp⟩, ?_, ht' _ (fun j hj => by simp [hj]) (by simp)⟩
          · intro j hj
            rcases List.mem_append.mp hj with hj | hj
            · exact sub2 j hj
            · simp at hj; rw [hj]; exact hpg
          · intro i h1 h2
            by_cases h3 : i < od2.length
            · obtain ⟨i', k1, k', h4, h5, h6, h7⟩ := par2 i h1 h3
              exact ⟨i', k1, k', h4, by rw [List.getElem?_append_left (by omega)]; exact h5, by rw [List.getElem?_append_left (by omega)]; exact h6, h7⟩
            · have : i = od2.length := by simp at h2; omega
              subst this
              have hao : a < od2.length := by rw [ht]; simp; omega
              refine ⟨a, p.2, k, hao, ?_, by simp, hsu⟩
              rw [List.getElem?_append_left hao, ht, List.getElem?_append_left hlt]; exact hk
      · simp only [hpg, decide_false, Bool.false_eq_true, if_false, w_nx]
        exact ⟨od2, _, _, rfl, rfl, nd2, sub2, ⟨t, ht⟩, par2, ht' od2 (fun _ z => z) fun h => absurd h hpg⟩
    · rintro σ s2 ⟨od2, x, y, rfl, rfl, nd2, sub2, ⟨t, ht⟩, par2, hd⟩
      simp only [w_set, w_op, vS, v0, mC_eq, to_ok, nD, oAdd_int, List.set_cons_succ, List.set_cons_zero]
      refine ⟨M.length - (a + 1), by omega, a + 1, od2, x, y, by simp [nD], rfl, nd2, sub2, ?_, by rw [ht, List.length_append]; omega, fun i hi j hj hjg => ?_, par2, rfl⟩
      · rw [ht, List.getElem?_append_left (by omega)]; exact root
      · rw [ht, List.take_append_of_le_length (by omega), List.take_add_one, hk, List.mem_append] at hi
        rcases hi with hi | hi
        · rw [ht]; exact List.mem_append_left _ (cl i hi j hj hjg)
        · simp at hi
          subst hi
          refine hd j ?_ hjg
          rw [List.take_length, ← succs_of hr0]
          exact hj
  · rw [show decide ((a : Int) < ((od.map nD).length : Nat)) = false by rw [decide_eq_false_iff_not, List.length_map]; omega]
    have : a = od.length := by omega
    subst this
    rw [List.take_length] at cl
    simp only [Bool.false_eq_true, if_false, w_seq, w_set, w_lst, w_args0, w_for, w_iseq, vS, v0, to_ok, List.set_cons_succ, List.set_cons_zero]
    rw [itSeq_lst (look_app lw)]
    simp only [to_ok]
    have hs2 : (s1 ++ [MO.lst (od.map nD)] ++ [MO.lst []])[n]? = some (.lst (M.map roomD)) := look_app (look_app hs1)
    have hg2 : (s1 ++ [MO.lst (od.map nD)] ++ [MO.lst []])[m]? = some (.lst (g.map nD)) := look_app (look_app hg)
    have lw2 := look_app (t := [MO.lst []]) lw
    have hlast : (s1 ++ [MO.lst (od.map nD)] ++ [MO.lst []])[(s1 ++ [MO.lst (od.map nD)]).length]? = some (.lst []) := by simp
    have hfr : Fr [] s (s1 ++ [MO.lst (od.map nD)] ++ [MO.lst []]) := f1.trans (Fr.app.trans .app)
    have hL : s1.length + 1 = (s1 ++ [MO.lst (od.map nD)]).length := by simp
    have hnl := lt_of hs1
    generalize (s1 ++ [MO.lst (od.map nD)]).length = L at hlast hL
    generalize (s1 ++ [MO.lst (od.map nD)] ++ [MO.lst []]) = s2 at hs2 hg2 lw2 hlast hfr
    refine for_map od nD (fun i σ s' => ∃ (M' : Mach) (x4 x5 x7 x8 : Option Dv), σ = [some (.loc n), some (.loc m), some (.loc s1.length), some (nD od.length), x4, x5, some (.loc L), x7, x8] ∧ Fr [L] s2 s' ∧ s'[L]? = some (.lst (M'.map roomD)) ∧ M'.length = i ∧
        ∀ (i' k : Nat) (r : Bool × List (Str × Nat)), i' < i → od[i']? = some k → M[k]? = some r → M'[i']? = some (trR M g od r))
      ⟨[], _, _, _, _, rfl, .refl, hlast, rfl, fun _ _ _ h => absurd h (Nat.not_lt_zero _)⟩ (fun i σ s' ⟨_, _, _, _, _, _, f, _⟩ => ⟨f.get lw2 (by simp; omega), trivial⟩) ?_ ?_
    · rintro i k σ s3 hk ⟨M', x4, x5, x7, x8, rfl, f, hL3, hlen, hat⟩
      have hkk := List.mem_of_getElem? hk
      have hkl := G.lt k (sub k hkk)
      obtain ⟨r0, hr0⟩ : ∃ r0, M[k]? = some r0 := ⟨_, List.getElem?_eq_getElem hkl⟩
      have hs3 : s3[n]? = some (.lst (M.map roomD)) := f.get hs2 (by simp; omega)
      have hg3 : s3[m]? = some (.lst (g.map nD)) := f.get hg2 (by simp; omega)
      have lw3 : s3[s1.length]? = some (.lst (od.map nD)) := f.get lw2 (by simp; omega)
      simp only [w_gN, List.set_cons_succ, List.set_cons_zero, w_seq, w_set, w_lc, w_iseq, w_op, vS, v0, mC_eq, to_ok, room_lst hs3 hr0, roomD, oGet_tup1, itSeq_tup, wipeS, wipe0]
      refine lc_pure r0.2 stepD (fun p => decide (p.2 ∈ g)) (fun p => stepD (p.1, od.idxOf p.2)) trivial ?_ ?_
      · intro p hp
        have hsu : p.2 ∈ succs M k := by rw [succs_of hr0]; exact List.mem_map.mpr ⟨p, hp, rfl⟩
        simp only [stepD, w_gT, w_gES, w_gE0, w_gN, List.length_cons, List.length_nil, true_and, w_tval, w_op, vS, v0, to_ok, List.set_cons_succ, List.set_cons_zero]
        rw [show iD p.2 = nD p.2 from rfl, oIn_nat hg3]
        simp only [to_ok, toB_bl]
        refine ⟨trivial, fun hpg => ?_, fun _ => trivial⟩
        simp only [w_tup, w_argsS, w_args0, w_meth, vS, v0, to_ok]
        refine ⟨tyQ_lst lw3, ?_⟩
        rw [tIndex_nat lw3 (cl k hkk _ hsu (of_decide_eq_true hpg))]
        exact ⟨rfl, rfl⟩
      · rw [List.length_map]
        refine ⟨sm r0 (List.mem_of_getElem? hr0), ?_⟩
        have F : ∀ t, Fr [L] s2 (s3 ++ t) := fun t => f.trans .app
        have hL4 : ∀ t, (s3 ++ t)[L]? = some (.lst (M'.map roomD)) := fun t => look_app hL3
        simp only [w_exp, w_meth, w_argsS, w_args0, w_tup, w_op, w_call, vS, v0, mC_eq, to_ok, List.set_cons_succ, List.set_cons_zero, room_lst (look_app hs3) hr0, roomD, oGet_tup0]
        refine ⟨tyQ_lst (hL4 _), ?_⟩
        rw [bTuple_seq (l := (r0.2.filter fun p => decide (p.2 ∈ g)).map fun p => stepD (p.1, od.idxOf p.2)) (seqOf_lst (by simp))]
        simp only [to_ok]
        have hi : i < od.length := (List.getElem?_eq_some_iff.mp hk).1
        rw [tAppend_lst (hL4 _) (by rw [List.length_map]; omega)]
        simp only [to_ok]
        refine ⟨M' ++ [trR M g od r0], _, _, _, _, rfl, (F _).put (.inl (by simp)), ?_, by simp [hlen], ?_⟩
        · rw [look_put (hL4 _)]
          simp [trR, roomD, Function.comp_def]
        · intro i' k' r h1 h2 h3
          by_cases h4 : i' < i
          · rw [List.getElem?_append_left (by omega)]; exact hat i' k' r h4 h2 h3
          · have : i' = i := by omega
            subst this
            rw [hk] at h2; cases h2
            rw [hr0] at h3; cases h3
            rw [List.getElem?_append_right (by omega), hlen, Nat.sub_self]; rfl
    · rintro σ s3 ⟨M', x4, x5, x7, x8, rfl, f, hL3, hlen, hat⟩
      simp only [w_ret, w_call, w_argsS, w_args0, vS, v0, to_ok]
      rw [bTuple_seq (seqOf_lst hL3)]
      simp only [to_ok]
      refine q _ g od M' ?_ ⟨G, nd, sub, root, cl, par, hlen, fun i k r h1 h2 => hat i k r (List.getElem?_eq_some_iff.mp h1).1 h1 h2⟩
      exact hfr.trans2 f (by have := f1.1; simp; omega)
end
end Mid
namespace Mid
open PySem
noncomputable section
variable {M : Mach} {s s' : Mst} {Q : Dv → Mst → Prop} {p w c : Nat}
theorem trm_room {M M' : Mach} {g od : List Nat} (T : Trm M g od M') {i : Nat} {r' : Bool × List (Str × Nat)} (h : M'[i]? = some r') : ∃ k r, od[i]? = some k ∧ M[k]? = some r ∧ r' = trR M g od r := by
  have hi : i < od.length := by rw [← T.len]; exact (List.getElem?_eq_some_iff.mp h).1
  obtain ⟨k, hk⟩ : ∃ k, od[i]? = some k := ⟨_, List.getElem?_eq_getElem hi⟩
  obtain ⟨r, hr⟩ : ∃ r, M[k]? = some r := ⟨_, List.getElem?_eq_getElem (T.G.lt k (T.sub k (List.mem_of_getElem? hk)))⟩
  have := T.at' i k r hk hr
  rw [h] at this
  exact ⟨k, r, hk, hr, Option.some.inj this⟩
theorem trm_wf {M M' : Mach} {g od : List Nat} (T : Trm M g od M') : Wf M' := by
  intro i j hj
  unfold succs at hj
  cases q : M'[i]? with
  | none => rw [q] at hj; cases hj
  | some r' =>
    rw [q] at hj
    obtain ⟨k, r, hk, hr, rfl⟩ := trm_room T q
    simp only [trR, List.map_map, List.mem_map, List.mem_filter] at hj
    obtain ⟨p, ⟨hp, hpg⟩, e⟩ := hj
    have : p.2 ∈ od := T.cl k (List.mem_of_getElem? hk) _ (by rw [succs_of hr]; exact List.mem_map.mpr ⟨p, hp, rfl⟩) (of_decide_eq_true hpg)
    rw [T.len, ← e]
    exact List.idxOf_lt_length_of_mem this
theorem trm_len {M M' : Mach} {g od : List Nat} (T : Trm M g od M') : 0 < M'.length ∧ M'.length ≤ M.length := by
  rw [T.len]
  exact ⟨(List.getElem?_eq_some_iff.mp T.root).1, nodup_len T.nd fun j hj => T.G.lt j (T.sub j hj)⟩
/-- the steps' signs stand as in xs -/
def Sgn (xs : List Str) (M : Mach) : Prop := ∀ r ∈ M, (r.2.map (·.1)).Sublist xs
theorem trm_sgn {M M' : Mach} {g od : List Nat} {xs : List Str} (T : Trm M g od M') (h : Sgn xs M) : Sgn xs M' := by
  intro r' hr'
  obtain ⟨i, hi⟩ := List.mem_iff_getElem?.mp hr'
  obtain ⟨k, r, hk, hr, rfl⟩ := trm_room T hi
  refine List.Sublist.trans ?_ (h r (List.mem_of_getElem? hr))
  simp only [trR, List.map_map]
  exact List.Sublist.map _ List.filter_sublist
theorem sgn_sok {xs : List Str} (h : Sgn xs M) (hx : ∀ x ∈ xs, PyData.strOk x = true) : Sok M := fun r hr p hp => hx _ ((h r hr).subset (List.mem_map.mpr ⟨p, hp, rfl⟩))
theorem sgn_sml {xs : List Str} (h : Sgn xs M) (hx : xs.length < 2 ^ 24) : Sml M := fun r hr => by
  have := (h r hr).length_le
  rw [List.length_map] at this
  omega
def endIt (M : Mach) : Mach := match M with
  | [] => []
  | r :: m => (true, r.2) :: m
theorem gtrim_ok {n : Nat} (hs : s[n]? = some (.lst (M.map roomD))) (hM : M.length ≤ 1000) (hM0 : 0 < M.length) (sm : Sml M) (wf : Wf M)
    (q : ∀ s' M1 g od M', Fr [] s s' → (M1 = M ∨ M1 = endIt M) → Trm M1 g od M' → Q (mD M') s') : (f_law_gtrim [.loc n] s).to Q := by
  unfold f_law_gtrim
  refine fun_at [some (.loc n), none, none, none, none, none, none, none, none] rfl rfl ?_
  show ((msSeq (msIf (mtVal (mOp oNotIn (mC (.int 0)) (mCall (noE f_law_gto_end) [mVar 0]))) (msSet 0 (mOp oAdd (mLst [mTup [mC (.bl true), mOp oGet (mOp oGet (mVar 0) (mC (.int 0))) (mC (.int 1))]]) (mSlice (mVar 0) (poS (mC (.int 1))) (poN)))) (msNx)) m_trim_rest) [some (.loc n), none, none, none, none, none, none, none, none] s).to _ _ _ _
  simp only [w_seq, w_if, w_tval, w_op, w_call, w_argsS, w_args0, vS, v0, mC_eq, to_ok, w_noE]
  refine gto_end_ok hs hM sm fun m s1 g f1 hm hg G hcb => ?_
  rw [show oNotIn (.int 0) (.loc m) s1 = _ from oNotIn_nat (k := 0) hg]
  simp only [to_ok, toB_bl]
  have hs1 := f1.get hs (by simp)
  by_cases hin : 0 ∈ g
  · simp only [hin, decide_true, Bool.not_true, Bool.false_eq_true, if_false, w_nx]
    have hall : ∀ {g' : List Nat}, GoodR M g' → ClB M g' → 0 ∈ g' := fun G' C' => clb_alv G'.ends C' G.lt (G.alv 0 hin)
    refine trim_rest_ok hs1 hM sm wf (fun s' g' od M' f T => q s' M g' od M' (f1.trans f) (.inl rfl) T) (.inr fun g' G' C' => hall G' C')
  · simp only [hin, decide_false, Bool.not_false, if_true, w_set, w_op, w_lst, w_tup, w_argsS, w_args0, vS, v0, mC_eq, to_ok]
    cases M with
    | nil => simp at hM0
    | cons r0 m0 =>
      have e0 : oGet (.loc n) (.int 0) s1 = .ok (roomD r0) s1 := oGet_lst hs1 (b := 0) rfl
      simp only [e0, to_ok, roomD, oGet_tup1, w_slice, vS, v0, w_poS, w_poN, mC_eq, toI_int]
      have es : ∀ t, slQ (.loc n) (some 1) none (s1 ++ t) = .ok (.loc (s1 ++ t).length) (s1 ++ t ++ [.lst (m0.map roomD)]) := fun t => by
        unfold slQ
        simp only [look_app hs1]
        rw [cutQ_from (by simp)]
        rfl
      rw [es]
      simp only [to_ok]
      rw [oAdd_lst (l := [.tup [.bl true, .tup (r0.2.map stepD)]]) (m := m0.map roomD) (look_app (by simp)) (by simp) (by simp at hM ⊢; omega)]
      simp only [to_ok, List.set_cons_succ, List.set_cons_zero]
      have hwf : Wf (endIt (r0 :: m0)) := by
        intro i j hj
        have : succs (endIt (r0 :: m0)) i = succs (r0 :: m0) i := by
          unfold endIt succs
          cases i <;> rfl
        rw [this] at hj
        exact wf i j hj
      refine trim_rest_ok (M := endIt (r0 :: m0)) (by simp [endIt, roomD]) (by simpa [endIt] using hM) ?_ hwf (fun s' g' od M' f T => q s' _ g' od M' (f1.trans (Fr.app.trans (Fr.app.trans (Fr.app.trans f)))) (.inr rfl) T) (.inl rfl)
      intro r hr
      unfold endIt at hr
      rcases List.mem_cons.mp hr with rfl | hr
      · exact sm r0 (by simp)
      · exact sm r (by simp [hr])
end
end Mid
namespace Mid
open PySem
noncomputable section
variable {M : Mach} {s s' : Mst} {Q : Dv → Mst → Prop} {p w c : Nat}
theorem sub_take {xs ys : List Str} {j : Nat} {x : Str} (h : ys.Sublist (xs.take j)) (hx : xs[j]? = some x) : (ys ++ [x]).Sublist (xs.take (j + 1)) := by
  rw [List.take_add_one, hx]
  exact h.append (List.Sublist.refl _)
theorem sub_skip {xs ys : List Str} {j : Nat} (h : ys.Sublist (xs.take j)) : ys.Sublist (xs.take (j + 1)) := by
  rw [List.take_add_one]
  exact h.trans (List.sublist_append_left _ _)
theorem gmachine_ok {n most : Nat} {sg : List Str} (h : PenR p w c s) (hs : s[n]? = some (.lst (List.map Dv.str sg))) (hnp : n ≠ p ∧ n ≠ w) (hsl : sg.length ≤ 10) (hm : 0 < most) (hm2 : most ≤ 20) (hc : c < 10 ^ 6)
    (q : ∀ s' M1 M0 g od M', Fr [p, w] s s' → PenR p w (c + 5000) s' → M0.length ≤ most → Wf M0 → Sgn (srtS sg) M0 → (M1 = M0 ∨ M1 = endIt M0) → Trm M1 g od M' → Q (mD M') s') : (f_law_gmachine [.loc p, nD most, .loc n] s).to Q := by
  unfold f_law_gmachine
  refine fun_at [some (.loc p), some (nD most), some (.loc n), none, none, none, none, none, none, none] rfl rfl ?_
  unfold m_law_gmachine
  simp only [w_seq, w_set, w_op, w_call, w_argsS, w_args0, vS, v0, mC_eq, to_ok, w_noE]
  refine gdraw_ok h hm (by omega) (by omega) fun s1 r1 f1 h1 hr1 => ?_
  simp only [nD, oAdd_int, to_ok, List.set_cons_succ, List.set_cons_zero, vS, v0]
  have e1 : (1 : Int) + (r1 : Int) = ((1 + r1 : Nat) : Int) := by omega
  rw [e1]
  generalize hmany : 1 + r1 = many
  have hma : 0 < many := by omega
  have hmb : many ≤ most := by omega
  refine gdraw_ok (many := 4) h1 (by decide) (by decide) (by omega) fun s2 r2 f2 h2 hr2 => ?_
  simp only [nD, oAdd_int, to_ok, List.set_cons_succ, List.set_cons_zero, vS, v0]
  refine gdraw_ok (many := 2) h2 (by decide) (by decide) (by omega) fun s3 near f3 h3 hnear => ?_
  simp only [List.set_cons_succ, List.set_cons_zero, w_lst, w_args0, w_for, w_irng1, vS, v0, to_ok, toI_int]
  refine ⟨r62 (by omega), ?_⟩
  rw [Int.toNat_natCast, rng0]
  have F3 := (f1.trans f2).trans f3
  have hpl := h.lt
  have hnl := lt_of hs
  have hL : s.length ≤ s3.length := F3.1
  generalize hLL : s3.length = L at hL ⊢
  have hL0 : (s3 ++ [MO.lst []])[L]? = some (.lst []) := by rw [← hLL]; simp
  have hlen : (srtS sg).length = sg.length := (srtS_perm sg).length_eq
  refine for_map (List.range many) nD (fun i σ s' => ∃ (Mr : Mach) (x7 x8 x9 : Option Dv), σ = [some (.loc p), some (.int most), some (.loc n), some (.int many), some (.int (1 + (r2 : Int))), some (nD near), some (.loc L), x7, x8, x9] ∧ Fr [p, w] s s' ∧ PenR p w (c + 3 + 100 * i) s' ∧ s'[L]? = some (.lst (Mr.map roomD)) ∧ Mr.length = i ∧ Sgn (srtS sg) Mr ∧ (∀ r ∈ Mr, ∀ p ∈ r.2, p.2 < many))
    ⟨[], none, none, none, by simp [nD], F3.trans .app, (h3.fr0 .app).le (by omega), hL0, rfl, by simp [Sgn], by simp⟩ (fun _ _ _ _ => trivial) ?_ ?_
  · rintro i k σ s4 hk ⟨Mr, x7, x8, x9, rfl, f4, h4, hL4, hil, hsg, htg⟩
    obtain ⟨rfl, hk⟩ := range_at hk
    simp only [w_gN, List.set_cons_succ, List.set_cons_zero, w_seq, w_set, w_lst, w_args0, w_for, w_iseq, w_call, w_argsS, vS, v0, to_ok]
    have hs4 : s4[n]? = some (.lst (sg.map .str)) := f4.get hs (by simp; omega)
    rw [bSorted_strs (look_app hs4) (by omega)]
    simp only [to_ok]
    rw [itSeq_lst (l := (srtS sg).map .str) (by simp)]
    simp only [to_ok]
    have hL4' : (s4 ++ [MO.lst []] ++ [MO.lst ((srtS sg).map .str)])[L]? = some (.lst (Mr.map roomD)) := look_app (look_app hL4)
    have f4' : Fr [p, w] s (s4 ++ [MO.lst []] ++ [MO.lst ((srtS sg).map .str)]) := f4.trans (Fr.app.trans .app)
    have h4' : PenR p w (c + 3 + 100 * k) (s4 ++ [MO.lst []] ++ [MO.lst ((srtS sg).map .str)]) := (h4.fr0 .app).fr0 .app
    have hA : (s4 ++ [MO.lst []] ++ [MO.lst ((srtS sg).map .str)])[s4.length]? = some (.lst []) := look_app (by simp)
    have hB : (s4 ++ [MO.lst []] ++ [MO.lst ((srtS sg).map .str)])[(s4 ++ [MO.lst []]).length]? = some (.lst ((srtS sg).map .str)) := by simp
    have hAl : s.length ≤ s4.length := f4.1
    have hLA : L < s4.length := lt_of hL4
    have hBA : (s4 ++ [MO.lst []]).length = s4.length + 1 := by simp
    generalize (s4 ++ [MO.lst []]).length = B at hB hBA ⊢
    generalize (s4 ++ [MO.lst []] ++ [MO.lst ((srtS sg).map .str)]) = s5 at hL4' f4' h4' hA hB ⊢
    generalize s4.length = A at hA hAl hLA hBA ⊢
    refine for_map (srtS sg) Dv.str (fun j σ s' => ∃ (ld : List (Str × Nat)) (x9 : Option Dv), σ = [some (.loc p), some (.int most), some (.loc n), some (.int many), some (.int (1 + (r2 : Int))), some (nD near), some (.loc L), some (nD k), some (.loc A), x9] ∧ Fr [p, w] s s' ∧ PenR p w (c + 3 + 100 * k + 4 * j) s' ∧ s'[L]? = some (.lst (Mr.map roomD)) ∧ s'[A]? = some (.lst (ld.map stepD)) ∧ s'[B]? = some (.lst ((srtS sg).map .str)) ∧ (ld.map (·.1)).Sublist ((srtS sg).take j) ∧ (∀ p ∈ ld, p.2 < many))
      ⟨[], x9, rfl, f4', h4', hL4', hA, hB, by simp, fun _ h => nomatch h⟩ (fun j σ s' ⟨_, _, _, _, _, _, _, hB, _⟩ => ⟨hB, trivial⟩) ?_ ?_
    · rintro j x σ s6 hx ⟨ld, x9, rfl, f6, h6, hL6, hA6, hB6, hsub, htg6⟩
      have hjl : j < 10 := by
        have := (List.getElem?_eq_some_iff.mp hx).1
        omega
      simp only [w_gN, List.set_cons_succ, List.set_cons_zero, w_if, w_tval, w_op, w_call, w_argsS, w_args0, vS, v0, mC_eq, to_ok, w_noE]
      refine gdraw_ok (many := 4) h6 (by decide) (by decide) (by omega) fun s7 r7 f7 h7 hr7 => ?_
      have hL7 := f7.get hL6 (by simp; omega)
      have hA7 := f7.get hA6 (by simp; omega)
      have hB7 := f7.get hB6 (by simp; omega)
      simp only [nD, oLt_int, to_ok, toB_bl]
      by_cases hlt : (r7 : Int) < 1 + (r2 : Int)
      · simp only [hlt, decide_true, if_true, w_exp, w_meth, w_argsS, w_args0, w_tup, w_op, w_lst, w_call, w_noE, vS, v0, mC_eq, to_ok]
        refine ⟨tyQ_lst hA7, ?_⟩
        refine gdraw_ok (many := many) h7 (by omega) (by omega) (by omega) fun s8 r8 f8 h8 hr8 => ?_
        have hkm : k < 2 ^ 20 := by omega
        refine gdraw_ok (many := 2) h8 (by decide) (by decide) (by omega) fun s9 r9 f9 h9 hr9 => ?_
        have f79 := f8.trans f9
        have hL9 := f79.get hL7 (by simp; omega)
        have hA9 := f79.get hA7 (by simp; omega)
        have hB9 := f79.get hB7 (by simp; omega)
        simp only [nD, oAdd_int, to_ok]
        rw [oMod_int (by omega)]
        have e2 : ((k : Int) + (r9 : Int)) % (many : Int) = ((k + r9) % many : Nat) := by rw [Int.natCast_emod, Int.natCast_add]
        rw [e2]
        simp only [to_ok]
        have hpick : ∃ t : Nat, t < many ∧ [Dv.int (r8 : Int), Dv.int (((k + r9) % many : Nat) : Int)][near]? = some (nD t) := by
          rcases near with _ | _ | near
          · exact ⟨r8, hr8, rfl⟩
          · exact ⟨_, Nat.mod_lt _ hma, rfl⟩
          · omega
        obtain ⟨t, ht, hpt⟩ := hpick
        rw [oGet_lst (b := near) (s := s9 ++ [MO.lst [Dv.int (r8 : Int), Dv.int (((k + r9) % many : Nat) : Int)]]) (by simp) hpt]
        simp only [to_ok]
        have hA10 := look_app (t := [MO.lst [Dv.int (r8 : Int), Dv.int (((k + r9) % many : Nat) : Int)]]) hA9
        have hll : ld.length ≤ 10 := by
          have := hsub.length_le
          simp at this
          omega
        rw [tAppend_lst hA10 (by rw [List.length_map]; omega)]
        simp only [to_ok]
        have F : Fr [p, w] s (s9 ++ [MO.lst [Dv.int (r8 : Int), Dv.int (((k + r9) % many : Nat) : Int)]]) := f6.trans (f7.trans (f79.trans .app))
        have hP : PenR p w (c + 3 + 100 * k + 4 * (j + 1)) (s9 ++ [MO.lst [Dv.int (r8 : Int), Dv.int (((k + r9) % many : Nat) : Int)]]) := (h9.fr0 .app).le (by omega)
        refine ⟨ld ++ [(x, t)], _, rfl, F.put (.inr hAl), hP.fr (Fr.refl.put (X := [A]) (.inl (by simp))) (by simp; omega) (by simp; omega), look_ne (look_app hL9) (by omega), ?_, look_ne (look_app hB9) (by omega), ?_, ?_⟩
        · rw [look_put hA10]; simp [stepD, nD, iD]
        · rw [List.map_append]; exact sub_take hsub hx
        · intro y hy
          rcases List.mem_append.mp hy with hy | hy
          · exact htg6 y hy
          · simp at hy; rw [hy]; exact ht
      · simp only [hlt, decide_false, Bool.false_eq_true, if_false, w_nx]
        exact ⟨ld, _, rfl, f6.trans f7, h7.le (by omega), hL7, hA7, hB7, sub_skip hsub, htg6⟩
    · rintro σ s6 ⟨ld, x9, rfl, f6, h6, hL6, hA6, hB6, hsub, htg6⟩
      rw [List.take_length] at hsub
      simp only [w_exp, w_meth, w_argsS, w_args0, w_tup, w_op, w_call, w_noE, vS, v0, mC_eq, to_ok]
      refine ⟨tyQ_lst hL6, ?_⟩
      refine gdraw_ok (many := 3) h6 (by decide) (by decide) (by omega) fun s7 r7 f7 h7 hr7 => ?_
      have hL7 := f7.get hL6 (by simp; omega)
      have hA7 := f7.get hA6 (by simp; omega)
      simp only [nD, oEq_int, to_ok]
      rw [bTuple_seq (seqOf_lst hA7)]
      simp only [to_ok]
      rw [tAppend_lst hL7 (by rw [List.length_map]; omega)]
      simp only [to_ok]
      refine ⟨Mr ++ [(decide ((r7 : Int) = 0), ld)], _, _, _, rfl, (f6.trans f7).put (.inr hL), (h7.fr (Fr.refl.put (X := [L]) (.inl (by simp))) (by simp; omega) (by simp; omega)).le (by omega), by rw [look_put hL7]; simp [roomD], by simp [hil], ?_, ?_⟩
      · intro r hr
        rcases List.mem_append.mp hr with hr | hr
        · exact hsg r hr
        · simp at hr; rw [hr]; exact hsub
      · intro r hr
        rcases List.mem_append.mp hr with hr | hr
        · exact htg r hr
        · simp at hr; rw [hr]; exact htg6
  · rintro σ s4 ⟨Mr, x7, x8, x9, rfl, f4, h4, hL4, hil, hsg, htg⟩
    rw [List.length_range] at hil
    simp only [w_ret, w_call, w_argsS, w_args0, vS, v0, to_ok, w_noE]
    have wf : Wf Mr := fun i j hj => by
      unfold succs at hj
      cases e : Mr[i]? with
      | none => rw [e] at hj; cases hj
      | some r =>
        rw [e] at hj
        obtain ⟨y, hy, e2⟩ := List.mem_map.mp hj
        rw [hil, ← e2]
        exact htg r (List.mem_of_getElem? e) y hy
    refine gtrim_ok hL4 (by omega) (by omega) (sgn_sml hsg (by omega)) wf fun s5 M1 g od M' f5 h5 T => ?_
    refine q s5 M1 Mr g od M' (f4.trans (f5.mono (by simp))) ((h4.fr0 f5).le ?_) (by omega) wf hsg h5 T
    rw [List.length_range]; omega
end
end Mid
namespace Mid
open PySem
noncomputable section
variable {s s' : Mst} {Q : Dv → Mst → Prop} {α : Type} {P P' : Nat → Prop} {x y : Dv}
theorem bIsi_of {T n : String} (h : tyQ x s = T) (hk : T ∈ kinds) (ha : n ∈ asked) : bIsi [x, .ty n] s = .ok (.bl (isiQ T n)) s := by
  show (if tyQ x s ∈ kinds ∧ n ∈ asked then _ else _) = _
  rw [h, if_pos ⟨hk, ha⟩]
/-- gsame finds equal data of a type the same -/
def Same (f : MF) (A : Enc α) (ok : α → Prop) : Prop := ∀ (P P' : Nat → Prop) (s : Mst) (x y : Dv) (a : α) (Q : Dv → Mst → Prop), ok a → A.rep P s x a → A.rep P' s y a → (∀ s', Fr [] s s' → Q (.bl true) s') → (f [x, y] s).to Q
theorem same_nat (n : Nat) : Same (f_law_gsame (n + 1)) .nat (fun _ => True) := by
  rintro P P' s x y a Q - rfl rfl q
  unfold f_law_gsame
  refine fun_at [some (.int a), some (.int a), none, none] rfl rfl ?_
  unfold m_law_gsame
  simp only [w_seq, w_if, w_tval, w_op, w_call, w_argsS, w_args0, vS, v0, mC_eq, to_ok, oIsN_non, isNonQ_int, toB_bl, Bool.false_eq_true, if_false, w_nx, w_ret]
  rw [bIsi_of (T := "int") rfl (by decide) (by decide)]
  simp only [to_ok, toB_bl, show isiQ "int" "bool" = false from rfl, Bool.false_eq_true, if_false]
  rw [bIsi_of (T := "int") rfl (by decide) (by decide)]
  simp only [to_ok, toB_bl, show isiQ "int" "int" = true from rfl, if_true, w_and, w_call, w_argsS, w_args0, vS, v0, mC_eq, w_not, w_op]
  rw [bIsi_of (T := "int") rfl (by decide) (by decide)]
  simp only [to_ok, toB_bl, show isiQ "int" "int" = true from rfl, if_true]
  rw [bIsi_of (T := "int") rfl (by decide) (by decide)]
  simp only [to_ok, toB_bl, show isiQ "int" "bool" = false from rfl, Bool.not_false, if_true, oEq_int, decide_true]
  exact q s .refl
theorem same_bool (n : Nat) : Same (f_law_gsame (n + 1)) .bool (fun _ => True) := by
  rintro P P' s x y a Q - rfl rfl q
  unfold f_law_gsame
  refine fun_at [some (.bl a), some (.bl a), none, none] rfl rfl ?_
  unfold m_law_gsame
  simp only [w_seq, w_if, w_tval, w_op, w_call, w_argsS, w_args0, vS, v0, mC_eq, to_ok, oIsN_non, isNonQ_bl, toB_bl, Bool.false_eq_true, if_false, w_nx, w_ret]
  rw [bIsi_of (T := "bool") rfl (by decide) (by decide)]
  simp only [to_ok, toB_bl, show isiQ "bool" "bool" = true from rfl, if_true, w_and, w_call, w_argsS, w_args0, vS, v0, mC_eq, w_op]
  rw [bIsi_of (T := "bool") rfl (by decide) (by decide)]
  simp only [to_ok, toB_bl, show isiQ "bool" "bool" = true from rfl, if_true, oEq_bl, beq_self_eq_true]
  exact q s .refl
theorem all2_zip {β γ δ : Type} {R : β → γ → Prop} {R' : δ → γ → Prop} {l : List β} {m : List δ} {k : List γ} (h : All2 R l k) (g : All2 R' m k) : ∀ p ∈ l.zip m, ∃ a, a ∈ k ∧ R p.1 a ∧ R' p.2 a := by
  induction h generalizing m with
  | nil => intro p hp; simp at hp
  | cons a _ ih => cases g with
    | cons b g =>
      intro p hp
      rw [List.zip_cons_cons] at hp
      rcases List.mem_cons.mp hp with rfl | hp
      · exact ⟨_, by simp, a, b⟩
      · obtain ⟨z, hz, h⟩ := ih g p hp
        exact ⟨z, by simp [hz], h⟩
theorem same_lst {A : Enc α} {n : Nat} {ok : α → Prop} (hA : Same (f_law_gsame n) A ok) : Same (f_law_gsame (n + 1)) A.lstOf (fun l => l.length < 2 ^ 24 ∧ ∀ a ∈ l, ok a) := by
  rintro P P' s x y l Q ⟨hlen, hok⟩ ⟨i, ds, rfl, hi, hsi, hd⟩ ⟨j, es, rfl, hj, hsj, he⟩ q
  unfold f_law_gsame
  refine fun_at [some (.loc i), some (.loc j), none, none] rfl rfl ?_
  unfold m_law_gsame
  simp only [w_seq, w_if, w_tval, w_tor, w_op, w_call, w_argsS, w_args0, vS, v0, mC_eq, to_ok, oIsN_non, isNonQ_loc, toB_bl, Bool.false_eq_true, if_false, w_nx, w_ret]
  have ti := tyQ_lst hsi
  have tj := tyQ_lst hsj
  have k1 : "list" ∈ kinds := by decide
  simp only [bIsi_of ti k1 (show "bool" ∈ asked by decide), bIsi_of tj k1 (show "bool" ∈ asked by decide), bIsi_of ti k1 (show "int" ∈ asked by decide), bIsi_of tj k1 (show "int" ∈ asked by decide), bIsi_of ti k1 (show "str" ∈ asked by decide), bIsi_of tj k1 (show "str" ∈ asked by decide), bIsi_of ti k1 (show "tuple" ∈ asked by decide), bIsi_of tj k1 (show "tuple" ∈ asked by decide), bIsi_of ti k1 (show "list" ∈ asked by decide), bIsi_of tj k1 (show "list" ∈ asked by decide), to_ok, toB_bl,
    show isiQ "list" "bool" = false from rfl, show isiQ "list" "int" = false from rfl, show isiQ "list" "str" = false from rfl, show isiQ "list" "tuple" = false from rfl, show isiQ "list" "list" = true from rfl, Bool.false_eq_true, if_false, oNe_bl, beq_self_eq_true, Bool.not_true, w_and, w_op, w_call, w_argsS, w_args0, vS, v0, bLen_seq (seqOf_lst hsi), bLen_seq (seqOf_lst hsj), oEq_int]
  rw [show decide ((ds.length : Int) = es.length) = true by rw [decide_eq_true_iff, hd.len, he.len]]
  simp only [if_true, w_lc, w_izip, vS, v0, to_ok]
  refine ⟨false, ds, [(i, ds)], es, [(j, es)], by unfold zipQ; simp only [hsi], by unfold zipQ; simp only [hsj], ?_⟩
  have ez : List.zipWith (fun x y => Dv.tup [x, y]) ds es = (ds.zip es).map fun p => .tup [p.1, p.2] := by
    rw [List.map_zip_eq_zipWith]; rfl
  rw [ez]
  simp only [wipeS, wipe0, List.set_cons_succ, List.set_cons_zero]
  refine lc_new (P := noP) .bool (ds.zip es) (fun p => .tup [p.1, p.2]) (fun _ => true) (fun _ => true) (fun s' f => ⟨f.get hsi (by simp), f.get hsj (by simp), trivial⟩) ?_ ?_
  · intro p hp s' f
    obtain ⟨a, ha, h1, h2⟩ := all2_zip hd he p hp
    simp only [w_gT, w_gES, w_gE0, w_gN, List.length_cons, List.length_nil, true_and, w_tyes, w_call, w_argsS, w_args0, w_noE, vS, v0, to_ok, List.set_cons_succ, List.set_cons_zero]
    refine ⟨.refl, fun _ => ?_⟩
    exact hA _ _ _ _ _ a _ (hok a ha) (A.fr0 h1 f) (A.fr0 h2 f) fun s2 f2 => ⟨f2, rfl⟩
  · intro bs s' f h
    rw [List.length_map, List.length_zip]
    have := hd.len
    refine ⟨by omega, ?_⟩
    have hb : bs = ((ds.zip es).map fun _ => true).map Dv.bl := by
      rw [List.filter_eq_self.mpr fun _ _ => rfl] at h
      exact h.to_map fun _ _ _ _ z => z
    rw [bAll_lst (bs := (ds.zip es).map fun _ => true) (by rw [hb]; simp)]
    simp only [to_ok]
    have : ((ds.zip es).map fun _ => true).all id = true := by simp
    rw [this]
    exact q _ (f.trans .app)
end
end Mid
namespace Mid
open PySem
noncomputable section
variable {M : Mach} {s s' : Mst} {Q : Dv → Mst → Prop} {p w c : Nat}
def endsOf (M : Mach) : List (List (Str × Nat)) := (M.filter (·.1)).map (·.2)
def steadyP (M : Mach) : List (Str × Nat) := match endsOf M with
  | [] => []
  | l :: _ => l.filter fun p => (endsOf M).all fun m => decide (p ∈ m)
def steadyV (M : Mach) : List Str := (steadyP M).map (·.1)
theorem ends_sub {m : List (Str × Nat)} (h : m ∈ endsOf M) : ∃ r ∈ M, m = r.2 := by
  unfold endsOf at h
  obtain ⟨r, hr, e⟩ := List.mem_map.mp h
  exact ⟨r, (List.mem_filter.mp hr).1, e.symm⟩
theorem steady_sok (so : Sok M) : ∀ x ∈ steadyV M, PyData.strOk x = true := by
  intro x hx
  unfold steadyV steadyP at hx
  obtain ⟨p, hp, rfl⟩ := List.mem_map.mp hx
  cases q : endsOf M with
  | nil => rw [q] at hp; cases hp
  | cons l r =>
    rw [q] at hp
    obtain ⟨r', hr', e⟩ := ends_sub (M := M) (m := l) (by rw [q]; simp)
    exact so r' hr' p (by rw [← e]; exact (List.mem_filter.mp hp).1)
def tupsD (m : List (Str × Nat)) : Dv := .tup (m.map stepD)
theorem tups_rep {P : Nat → Prop} {m : List (Str × Nat)} (h : ∀ p ∈ m, PyData.strOk p.1 = true) : (Enc.tupOf STE).rep P s (tupsD m) m := ⟨_, rfl, .of_map fun p hp => ste_rep (h p hp)⟩
theorem steady_ok (so : Sok M) (sm : Sml M) (hM : M.length ≤ 1000) (hne : endsOf M ≠ [])
    (q : ∀ n s', Fr [] s s' → s.length ≤ n → s'[n]? = some (.lst ((steadyV M).map .str)) → Q (.loc n) s') : (f_steady [mD M] s).to Q := by
  unfold f_steady
  refine fun_at [some (mD M), none, none, none, none] rfl rfl ?_
  unfold m_steady
  simp only [w_seq, w_set, w_lc, w_iseq, vS, v0, to_ok, mD, itSeq_tup, wipeS, wipe0, List.set_cons_succ, List.set_cons_zero]
  refine lc_pure M roomD (·.1) (fun r => tupsD r.2) trivial ?_ ?_
  · intro r hr
    simp only [roomD, w_gT, w_gES, w_gE0, w_gN, List.length_cons, List.length_nil, true_and, List.set_cons_succ, List.set_cons_zero, w_tval, vS, v0, to_ok, toB_bl]
    exact ⟨fun _ => ⟨rfl, trivial⟩, fun _ => trivial⟩
  · rw [List.length_map]
    refine ⟨by omega, ?_⟩
    have e1 : (M.filter (·.1)).map (fun r => tupsD r.2) = (endsOf M).map tupsD := by unfold endsOf; rw [List.map_map]; rfl
    rw [e1]
    simp only [w_ret, w_lc, w_iseq, w_op, vS, v0, mC_eq, to_ok]
    have hel : (endsOf M).length ≤ M.length := by
      unfold endsOf; rw [List.length_map]; exact List.length_filter_le _ _
    cases hq : endsOf M with
    | nil => exact absurd hq hne
    | cons l r =>
      obtain ⟨r', hr', el⟩ := ends_sub (M := M) (m := l) (by rw [hq]; simp)
      have hok : ∀ m ∈ endsOf M, ∀ p ∈ m, PyData.strOk p.1 = true := fun m hm p hp => by
        obtain ⟨r', hr', e⟩ := ends_sub hm
        exact so r' hr' p (by rw [← e]; exact hp)
      have hll : l.length < 2 ^ 24 := by rw [el]; exact sm r' hr'
      rw [← hq]
      have hs1 : (s ++ [MO.lst ((endsOf M).map tupsD)])[s.length]? = some (.lst ((endsOf M).map tupsD)) := by simp
      rw [show oGet (.loc s.length) (.int 0) (s ++ [MO.lst ((endsOf M).map tupsD)]) = .ok (tupsD l) _ from oGet_lst (b := 0) hs1 (by rw [hq]; rfl)]
      simp only [to_ok, tupsD, itSeq_tup, wipeS, wipe0, List.set_cons_succ, List.set_cons_zero]
      refine lc_new (P := noP) .str l stepD (fun p => (endsOf M).all fun m => decide (p ∈ m)) (·.1) (fun _ _ => trivial) ?_ ?_
      · intro p hp s2 f2
        have hs2 := f2.get hs1 (by simp)
        have hpo : PyData.strOk p.1 = true := hok l (by rw [hq]; simp) p hp
        simp only [w_gN, List.set_cons_succ, List.set_cons_zero, w_tval, w_call, w_argsS, w_args0, w_lc, w_iseq, vS, v0, to_ok]
        rw [itSeq_lst (l := (endsOf M).map tupsD) hs2]
        simp only [to_ok, wipeS, wipe0, List.set_cons_succ, List.set_cons_zero]
        refine lc_pure (endsOf M) tupsD (fun _ => true) (fun m => .bl (decide (p ∈ m))) ⟨hs2, trivial⟩ ?_ ?_
        · intro m hm
          simp only [w_gN, w_tyes, w_op, vS, v0, to_ok, List.set_cons_succ, List.set_cons_zero]
          rw [oIn_tupE STE (P := noP) (P' := noP) (ste_rep hpo) (tups_rep (hok m hm)) (by decide)]
          exact ⟨trivial, fun _ => ⟨congrArg Dv.bl (decide_eq_decide.mpr Iff.rfl), rfl⟩, fun h => nomatch h⟩
        · rw [List.length_map, List.filter_eq_self.mpr fun _ _ => rfl]
          refine ⟨by omega, ?_⟩
          rw [bAll_lst (bs := (endsOf M).map fun m => decide (p ∈ m)) (by simp)]
          simp only [to_ok, toB_bl, w_op, vS, v0, mC_eq, stepD, oGet_tup0]
          refine ⟨by rw [List.all_map]; rfl, .app, fun _ => ⟨.refl, rfl, hpo⟩⟩
      · intro ds s2 f2 ha
        rw [List.length_map]
        refine ⟨hll, ?_⟩
        have e2 : (l.filter fun p => (endsOf M).all fun m => decide (p ∈ m)).map (·.1) = steadyV M := by
          unfold steadyV steadyP; rw [hq]
        rw [e2] at ha
        rw [str_of ha]
        exact q _ _ (Fr.app.trans (f2.trans .app)) (by have := f2.1; simp at this; omega) (by simp)
def cutV (M : Mach) (sg : List Str) : Mach := M.map fun r => (r.1, r.2.filter fun p => !r.1 || !decide (p.1 ∈ sg))
theorem cut_at {sg : List Str} {k : Nat} : (cutV M sg)[k]? = M[k]?.map fun r => (r.1, r.2.filter fun p => !r.1 || !decide (p.1 ∈ sg)) := by unfold cutV; rw [List.getElem?_map]
theorem cut_len {sg : List Str} : (cutV M sg).length = M.length := by simp [cutV]
theorem cut_mem {sg : List Str} {r : Bool × List (Str × Nat)} (h : r ∈ cutV M sg) : ∃ r0 ∈ M, r.1 = r0.1 ∧ r.2.Sublist r0.2 := by
  unfold cutV at h
  obtain ⟨r0, h0, rfl⟩ := List.mem_map.mp h
  exact ⟨r0, h0, rfl, List.filter_sublist⟩
theorem cut_sok {sg : List Str} (so : Sok M) : Sok (cutV M sg) := fun r hr p hp => by
  obtain ⟨r0, h0, _, hs⟩ := cut_mem hr
  exact so r0 h0 p (hs.subset hp)
theorem cut_sml {sg : List Str} (sm : Sml M) : Sml (cutV M sg) := fun r hr => by
  obtain ⟨r0, h0, _, hs⟩ := cut_mem hr
  exact Nat.lt_of_le_of_lt hs.length_le (sm r0 h0)
theorem cut_wf {sg : List Str} (wf : Wf M) : Wf (cutV M sg) := fun i j hj => by
  rw [cut_len]
  refine wf i j ?_
  unfold succs at hj ⊢
  rw [cut_at] at hj
  cases q : M[i]? with
  | none => rw [q] at hj; cases hj
  | some r =>
    rw [q] at hj
    obtain ⟨p, hp, e⟩ := List.mem_map.mp hj
    exact List.mem_map.mpr ⟨p, (List.mem_filter.mp hp).1, e⟩
theorem cut_rest_ok {n : Nat} {sg : List Str} {R : Dv → Mst → Prop} {x3 x4 x5 : Option Dv} (hs : s[n]? = some (.lst (sg.map .str))) (hso : ∀ x ∈ sg, PyData.strOk x = true) (so : Sok M) (sm : Sml M) (hM : M.length ≤ 1000) (q : ∀ s', Fr [] s s' → R (mD (cutV M sg)) s') :
    (msSeq (msSet 2 (mLst []))
    (msSeq (msFor (miSeq (mVar 0)) (gT [gN 3, gN 4]) (msExp (mMeth "list" tAppend (mVar 2) [mTup [mVar 3, mCall bTuple [mLc (miSeq (mVar 4)) (gN 5) (mtOr (mtNot (mtVal (mVar 3))) (mtVal (mOp oNotIn (mOp oGet (mVar 5) (mC (.int 0))) (mVar 1)))) (mVar 5) [5]]]])))
    (msRet (mCall bTuple [mVar 2]))) [some (mD M), some (.loc n), none, x3, x4, x5] s).to (fun _ s => R .non s) R (fun _ _ => False) (fun _ _ => False) := by
  simp only [w_seq, w_set, w_lst, w_args0, w_for, w_iseq, vS, v0, to_ok, List.set_cons_succ, List.set_cons_zero]
  rw [mD, itSeq_tup]
  simp only [to_ok]
  have hnl := lt_of hs
  refine for_map M roomD (fun i σ s' => ∃ x3 x4 x5, σ = [some (mD M), some (.loc n), some (.loc s.length), x3, x4, x5] ∧ Fr [] s s' ∧ s'[s.length]? = some (.lst (((cutV M sg).take i).map roomD)))
    ⟨_, _, _, rfl, .app, by simp⟩ (fun _ _ _ _ => trivial) ?_ ?_
  · rintro i r σ s2 hr ⟨x3, x4, x5, rfl, f, hl⟩
    have hrm := List.mem_of_getElem? hr
    simp only [roomD, w_gT, w_gES, w_gE0, w_gN, List.length_cons, List.length_nil, true_and, List.set_cons_succ, List.set_cons_zero, w_exp, w_meth, w_argsS, w_args0, w_tup, w_call, w_lc, w_iseq, vS, v0, to_ok, itSeq_tup, wipeS, wipe0]
    refine ⟨tyQ_lst hl, ?_⟩
    have hs2 := f.get hs (by simp)
    refine lc_pure r.2 stepD (fun p => !r.1 || !decide (p.1 ∈ sg)) stepD trivial ?_ ?_
    · intro p hp
      simp only [w_gN, w_tor, w_tnot, w_tval, w_op, vS, v0, mC_eq, to_ok, toB_bl, stepD, oGet_tup0, List.set_cons_succ, List.set_cons_zero, oNotIn_str hs2 (so r hrm p hp) hso]
      cases r.1 with
      | true => simp [stepD]
      | false => simp [stepD]
    · rw [List.length_map]
      refine ⟨sm r hrm, ?_⟩
      rw [bTuple_seq (l := (r.2.filter fun p => !r.1 || !decide (p.1 ∈ sg)).map stepD) (seqOf_lst (by simp))]
      simp only [to_ok]
      have hi := (List.getElem?_eq_some_iff.mp hr).1
      rw [tAppend_lst (look_app hl) (by rw [List.length_map, List.length_take]; omega)]
      simp only [to_ok]
      refine ⟨_, _, _, rfl, (f.trans .app).put (.inr (Nat.le_refl _)), ?_⟩
      rw [look_put (look_app hl), List.take_add_one, cut_at, hr]
      simp [roomD]
  · rintro σ s2 ⟨x3, x4, x5, rfl, f, hl⟩
    simp only [w_ret, w_call, w_argsS, w_args0, vS, v0, to_ok]
    rw [bTuple_seq (seqOf_lst hl)]
    simp only [to_ok]
    rw [List.take_of_length_le (by rw [cut_len]; exact Nat.le_refl _)]
    exact q _ f
theorem cut_machine_ok (so : Sok M) (sm : Sml M) (hM : M.length ≤ 1000) (hne : endsOf M ≠ []) (q : ∀ s', Fr [] s s' → Q (mD (cutV M (steadyV M))) s') : (f_cut_machine [mD M] s).to Q := by
  unfold f_cut_machine
  refine fun_at [some (mD M), none, none, none, none, none] rfl rfl ?_
  unfold m_cut_machine
  rw [w_seq, w_set]
  simp only [w_call, w_argsS, w_args0, vS, v0, to_ok, w_noE]
  refine steady_ok so sm hM hne fun n s1 f1 hn hs1 => ?_
  exact cut_rest_ok hs1 (steady_sok so) so sm hM fun s2 f2 => q s2 (f1.trans f2)
abbrev cutM (M : Mach) : Mach := cutV M (steadyV M)
theorem cut_orbits_ok (wf : Wf M) (so : Sok M) (sm : Sml M) (hM : M.length ≤ 1000) (hne : endsOf M ≠ [])
    (q : ∀ d s', Fr [] s s' → NLL.rep (fun n => n < s.length) s' d (orbs (cutM M) M.length) → Q d s') : (f_cut_orbits [mD M] s).to Q := by
  unfold f_cut_orbits
  refine fun_at [some (mD M)] rfl rfl ?_
  unfold m_cut_orbits
  simp only [w_ret, w_call, w_argsS, w_args0, vS, v0, to_ok, w_noE]
  refine cut_machine_ok so sm hM hne fun s1 f1 => ?_
  refine orbits_ok (cut_wf wf) (by rw [cut_len]; exact hM) fun d s2 f2 h => ?_
  rw [cut_len] at h
  exact q d s2 (f1.trans f2) (NLL.mono h fun n hn => .inl (Nat.lt_of_lt_of_le hn f1.1))
theorem cut_gates_ok {o : List Nat} {n : Nat} (ho : s[n]? = some (.lst (o.map nD))) (hk : ∀ k ∈ o, k < M.length) (so : Sok M) (sm : Sml M) (hM : M.length ≤ 1000) (hne : endsOf M ≠ []) (hl : o.length < 2 ^ 24)
    (q : ∀ d s', Fr [] s s' → NL.rep (fun n => n < s.length) s' d (o.filter (gateB (cutM M) o)) → Q d s') : (f_cut_gates [mD M, .loc n] s).to Q := by
  unfold f_cut_gates
  refine fun_at [some (mD M), some (.loc n)] rfl rfl ?_
  unfold m_cut_gates
  simp only [w_ret, w_call, w_argsS, w_args0, vS, v0, to_ok, w_noE]
  refine cut_machine_ok so sm hM hne fun s1 f1 => ?_
  exact gates_ok (f1.get ho (by simp)) (by rw [cut_len]; exact hk) (cut_sml sm) (cut_sok so) hl fun d s2 f2 h => q d s2 (f1.trans f2) (NL.mono h fun n hn => .inl (Nat.lt_of_lt_of_le hn f1.1))
theorem is_cut_even_ok {o : List Nat} {n : Nat} (ho : s[n]? = some (.lst (o.map nD))) (hk : ∀ k ∈ o, k < M.length) (so : Sok M) (sm : Sml M) (hM : M.length ≤ 1000) (hne : endsOf M ≠ []) (hl : o.length < 2 ^ 24)
    (q : ∀ s', Fr [] s s' → Q (.bl (evenV (cutM M) o)) s') : (f_is_cut_even [mD M, .loc n] s).to Q := by
  unfold f_is_cut_even
  refine fun_at [some (mD M), some (.loc n)] rfl rfl ?_
  unfold m_is_cut_even
  simp only [w_ret, w_call, w_argsS, w_args0, vS, v0, to_ok, w_noE]
  refine cut_machine_ok so sm hM hne fun s1 f1 => ?_
  exact is_even_ok (f1.get ho (by simp)) (by rw [cut_len]; exact hk) (cut_sml sm) (cut_sok so) hl fun s2 f2 => q s2 (f1.trans f2)
end
end Mid
namespace Mid
open PySem
noncomputable section
variable {M : Mach} {s s' : Mst} {Q : Dv → Mst → Prop} {p w c : Nat}
theorem srtS_self {l : List Str} (h : l.Pairwise leS) : srtS l = l := perm_one leS_anti (srtS_perm l) (srtS_rising l) h
/-- each room's signs rise -/
def Srt (M : Mach) : Prop := ∀ r ∈ M, (r.2.map (·.1)).Pairwise fun x y => leS x y ∧ x ≠ y
theorem srt_of {sg : List Str} (h : Sgn (srtS sg) M) (nd : sg.Nodup) : Srt M := fun r hr => by
  have h1 : (srtS sg).Pairwise fun x y => leS x y ∧ x ≠ y := (srtS_rising sg).and ((srtS_perm sg).nodup_iff.mpr nd)
  exact h1.sublist (h r hr)
def goalV (m : List (Str × Nat)) (x : Str) : List Nat := (m.filter fun p => decide (p.1 = x)).map (·.2)
theorem goal_of {m : List (Str × Nat)} {a : Str × Nat} (nd : (m.map (·.1)).Nodup) (h : a ∈ m) : goalV m a.1 = [a.2] := by
  induction m with
  | nil => cases h
  | cons b r ih =>
    rw [List.map_cons, List.nodup_cons] at nd
    have none : ∀ x, x ∉ r.map (·.1) → goalV r x = [] := fun x hx => by
      unfold goalV
      rw [List.filter_eq_nil_iff.mpr fun y hy => ?_]
      · rfl
      · rw [decide_eq_true_iff]
        rintro rfl
        exact hx (List.mem_map.mpr ⟨y, hy, rfl⟩)
    rcases List.mem_cons.mp h with rfl | h
    · have : goalV (a :: r) a.1 = a.2 :: goalV r a.1 := by simp [goalV]
      rw [this, none _ nd.1]
    · have hne : b.1 ≠ a.1 := fun e => nd.1 (by rw [e]; exact List.mem_map.mpr ⟨a, h, rfl⟩)
      have : goalV (b :: r) a.1 = goalV r a.1 := by simp [goalV, hne]
      rw [this]
      exact ih nd.2 h
theorem goal_iff {l m : List (Str × Nat)} {a : Str × Nat} (ndl : (l.map (·.1)).Nodup) (ndm : (m.map (·.1)).Nodup) (h : a ∈ l) : goalV m a.1 = goalV l a.1 ↔ a ∈ m := by
  rw [goal_of ndl h]
  constructor
  · intro e
    have : a.2 ∈ goalV m a.1 := by rw [e]; simp
    unfold goalV at this
    obtain ⟨b, hb, e2⟩ := List.mem_map.mp this
    rw [List.mem_filter, decide_eq_true_iff] at hb
    have : b = a := Prod.ext hb.2 e2
    rw [← this]; exact hb.1
  · exact goal_of ndm
theorem ggoal_ok {m : List (Str × Nat)} {x : Str} (hm : ∀ p ∈ m, PyData.strOk p.1 = true) (hx : PyData.strOk x = true) (hl : m.length < 2 ^ 24)
    (q : ∀ d s', Fr [] s s' → NL.rep (fun n => n < s.length) s' d (goalV m x) → Q d s') : (f_law_ggoal [tupsD m, .str x] s).to Q := by
  unfold f_law_ggoal
  refine fun_at [some (tupsD m), some (.str x), none, none] rfl rfl ?_
  unfold m_law_ggoal
  simp only [w_ret, w_lc, w_iseq, vS, v0, to_ok, tupsD, itSeq_tup, wipeS, wipe0, List.set_cons_succ, List.set_cons_zero]
  refine lc_pure m stepD (fun p => decide (p.1 = x)) (fun p => nD p.2) trivial ?_ ?_
  · intro a ha
    simp only [stepD, w_gT, w_gES, w_gE0, w_gN, List.length_cons, List.length_nil, true_and, w_tval, w_op, vS, v0, to_ok, List.set_cons_succ, List.set_cons_zero]
    rw [oEq_enc Enc.str (P := noP) (P' := noP) ⟨rfl, hm a ha⟩ ⟨rfl, hx⟩ (by decide)]
    simp only [to_ok, toB_bl]
    exact ⟨trivial, fun _ => ⟨rfl, trivial⟩, fun _ => trivial⟩
  · rw [List.length_map]
    refine ⟨hl, q _ _ .app (nl_iff.mpr ⟨_, rfl, by omega, ?_⟩)⟩
    unfold goalV
    rw [List.map_map]
    simp [Function.comp_def]
theorem gsteady_ok (so : Sok M) (sm : Sml M) (sr : Srt M) (hsl : ∀ r ∈ M, r.2.length < 60) (hM : M.length ≤ 1000) (hne : endsOf M ≠ [])
    (q : ∀ n s', Fr [] s s' → s.length ≤ n → s'[n]? = some (.lst ((steadyV M).map .str)) → Q (.loc n) s') : (f_law_gsteady [mD M] s).to Q := by
  unfold f_law_gsteady
  refine fun_at [some (mD M), none, none, none, none, none, none, none] rfl rfl ?_
  unfold m_law_gsteady
  simp only [w_seq, w_set, w_lc, w_iseq, vS, v0, to_ok, mD, itSeq_tup, wipeS, wipe0, List.set_cons_succ, List.set_cons_zero]
  refine lc_pure M roomD (·.1) (fun r => tupsD r.2) trivial ?_ ?_
  · intro r hr
    simp only [roomD, w_gT, w_gES, w_gE0, w_gN, List.length_cons, List.length_nil, true_and, List.set_cons_succ, List.set_cons_zero, w_tval, vS, v0, to_ok, toB_bl]
    exact ⟨fun _ => ⟨rfl, trivial⟩, fun _ => trivial⟩
  · rw [List.length_map]
    refine ⟨by omega, ?_⟩
    have e1 : (M.filter (·.1)).map (fun r => tupsD r.2) = (endsOf M).map tupsD := by unfold endsOf; rw [List.map_map]; rfl
    rw [e1]
    have hel : (endsOf M).length ≤ M.length := by
      unfold endsOf; rw [List.length_map]; exact List.length_filter_le _ _
    cases hq : endsOf M with
    | nil => exact absurd hq hne
    | cons l r =>
      obtain ⟨r', hr', el⟩ := ends_sub (M := M) (m := l) (by rw [hq]; simp)
      have hok : ∀ m ∈ endsOf M, (∀ p ∈ m, PyData.strOk p.1 = true) ∧ m.length < 60 ∧ (m.map (·.1)).Nodup := fun m hm => by
        obtain ⟨r', hr', e⟩ := ends_sub hm
        subst e
        exact ⟨fun p hp => so r' hr' p hp, hsl r' hr', (sr r' hr').imp fun h => h.2⟩
      have hl := hok l (by rw [hq]; simp)
      have hrise : (l.map (·.1)).Pairwise leS := by rw [el]; exact (sr r' hr').imp fun h => h.1
      rw [← hq]
      have hs1 : ∀ t, (s ++ [MO.lst ((endsOf M).map tupsD)] ++ t)[s.length]? = some (.lst ((endsOf M).map tupsD)) := fun t => look_app (by simp)
      simp only [w_lst, w_args0, w_for, w_iseq, w_call, w_argsS, w_lc, w_op, vS, v0, mC_eq, to_ok]
      rw [show oGet (.loc s.length) (.int 0) (s ++ [MO.lst ((endsOf M).map tupsD)] ++ [MO.lst []]) = .ok (tupsD l) _ from oGet_lst (b := 0) (hs1 _) (by rw [hq]; rfl)]
      simp only [to_ok, tupsD, itSeq_tup, wipeS, wipe0, List.set_cons_succ, List.set_cons_zero]
      refine lc_pure l stepD (fun _ => true) (fun p => .str p.1) trivial ?_ ?_
      · intro a ha
        simp only [w_gN, w_tyes, w_op, vS, v0, mC_eq, to_ok, stepD, oGet_tup0, List.set_cons_succ, List.set_cons_zero]
        exact ⟨trivial, fun _ => ⟨trivial, trivial⟩, fun _ => trivial⟩
      · rw [List.length_map, List.filter_eq_self.mpr fun _ _ => rfl]
        refine ⟨by omega, ?_⟩
        rw [bSorted_strs (ns := l.map (·.1)) (by simp [Function.comp_def]) (by rw [List.length_map]; omega), srtS_self hrise]
        simp only [to_ok]
        rw [itSeq_lst (l := (l.map (·.1)).map .str) (by simp)]
        simp only [to_ok]
        generalize hT : s ++ [MO.lst ((endsOf M).map tupsD)] ++ [MO.lst []] ++ [MO.lst (l.map fun p => Dv.str p.1)] ++ [MO.lst ((l.map (·.1)).map Dv.str)] = s2
        have hT' : s2 = s ++ [MO.lst ((endsOf M).map tupsD), MO.lst [], MO.lst (l.map fun p => Dv.str p.1), MO.lst ((l.map (·.1)).map Dv.str)] := by rw [← hT]; simp
        have hL : (s ++ [MO.lst ((endsOf M).map tupsD)] ++ [MO.lst []] ++ [MO.lst (l.map fun p => Dv.str p.1)]).length = s.length + 3 := by simp
        have hF : (s ++ [MO.lst ((endsOf M).map tupsD)]).length = s.length + 1 := by simp
        rw [hL, hF]
        have i0 : s2[s.length]? = some (.lst ((endsOf M).map tupsD)) := by rw [hT']; simp
        have i1 : s2[s.length + 1]? = some (.lst []) := by rw [hT']; simp
        have i3 : s2[s.length + 3]? = some (.lst ((l.map (·.1)).map Dv.str)) := by rw [hT']; simp
        have F2 : Fr [] s s2 := by rw [hT']; exact .app
        rw [show (l.map (·.1)).map Dv.str = l.map fun p => Dv.str p.1 by simp [Function.comp_def]] at i3 ⊢
        let qB : Str × Nat → Bool := fun a => (endsOf M).all fun m => decide (goalV m a.1 = goalV l a.1)
        refine for_map l (fun p => .str p.1) (fun i σ s' => ∃ x3 x4 x5 x6 x7, σ = [some (.tup (M.map roomD)), some (.loc s.length), some (.loc (s.length + 1)), x3, x4, x5, x6, x7] ∧ Fr [] s s' ∧ s'[s.length]? = some (.lst ((endsOf M).map tupsD)) ∧ s'[s.length + 3]? = some (.lst (l.map fun p => Dv.str p.1)) ∧
            s'[s.length + 1]? = some (.lst (((l.take i).filter qB).map fun p => Dv.str p.1)))
          ⟨_, _, _, _, _, rfl, F2, i0, i3, by simpa using i1⟩ (fun i σ s' ⟨_, _, _, _, _, _, _, _, h, _⟩ => ⟨h, trivial⟩) ?_ ?_
        · rintro i a σ s3 ha ⟨x3, x4, x5, x6, x7, rfl, f3, j0, j3, j1⟩
          have hal := List.mem_of_getElem? ha
          simp only [w_gN, List.set_cons_succ, List.set_cons_zero, w_seq, w_set, w_lc, w_iseq, vS, v0, to_ok, itSeq_lst j0, wipeS, wipe0]
          refine lc_new (P := noP) NL (endsOf M) tupsD (fun _ => true) (goalV · a.1) (fun s' f => ⟨f.get j0 (by simp), trivial⟩) ?_ ?_
          · intro m hm s4 f4
            simp only [w_gN, w_tyes, w_call, w_argsS, w_args0, vS, v0, to_ok, w_noE, List.set_cons_succ, List.set_cons_zero]
            refine ⟨trivial, .refl, fun _ => ?_⟩
            exact ggoal_ok (hok m hm).1 (hl.1 a hal) (by have := (hok m hm).2.1; omega) fun d s5 f5 h5 => ⟨f5, NL.toNo h5⟩
          · intro ds s4 f4 hds
            rw [List.length_map]
            rw [List.filter_eq_self.mpr fun _ _ => rfl] at hds
            refine ⟨by omega, ?_⟩
            have f45 : Fr [] s3 (s4 ++ [MO.lst ds]) := f4.trans .app
            have hG : NLL.rep noP (s4 ++ [MO.lst ds]) (.loc s4.length) ((endsOf M).map (goalV · a.1)) := ⟨_, ds, rfl, id, by simp, hds.imp fun _ _ _ _ z => NL.fr0 z .app⟩
            have hsd : (s4 ++ [MO.lst ds])[s4.length]? = some (.lst ds) := by simp
            have k0 := f45.get j0 (by simp)
            have k1 := f45.get j1 (by simp)
            have k3 := f45.get j3 (by simp)
            have g45 := f3.trans f45
            generalize s4 ++ [MO.lst ds] = s5 at hG hsd k0 k1 k3 g45
            generalize s4.length = g at hG hsd
            simp only [w_if, w_tval, w_op, w_meth, w_call, w_argsS, w_args0, vS, v0, mC_eq, to_ok]
            refine ⟨tyQ_lst hsd, ?_⟩
            obtain ⟨g', ds', e', _, hs', ha'⟩ := hG
            cases e'
            rw [hsd] at hs'
            cases hs'
            obtain ⟨d0, hd0, hr0⟩ := ha'.get' (i := 0) (b := goalV l a.1) (by rw [hq]; rfl)
            rw [show oGet (.loc g) (.int 0) s5 = .ok d0 _ from oGet_lst (b := 0) hsd hd0]
            simp only [to_ok]
            rw [tCount_enc NL (P := noP) (P' := noP) hr0 ⟨g, ds, rfl, id, hsd, ha'⟩ (by decide)]
            simp only [to_ok, bLen_seq (seqOf_lst hsd), oEq_int, toB_bl]
            have eqB : decide ((((endsOf M).map (goalV · a.1)).countP (fun z => decide (z = goalV l a.1)) : Int) = (ds.length : Int)) = qB a := by
              rw [ha'.len, Bool.eq_iff_iff, decide_eq_true_iff, show ((((endsOf M).map (goalV · a.1)).countP (fun z => decide (z = goalV l a.1)) : Int) = (((endsOf M).map (goalV · a.1)).length : Int)) ↔ ((endsOf M).map (goalV · a.1)).countP (fun z => decide (z = goalV l a.1)) = ((endsOf M).map (goalV · a.1)).length by omega, List.countP_eq_length]
              simp [qB]
            rw [eqB]
            have tk : ((l.take (i + 1)).filter qB).map (fun p => Dv.str p.1) = ((l.take i).filter qB).map (fun p => Dv.str p.1) ++ (if qB a = true then [Dv.str a.1] else []) := take_filter_map ha
            cases hqa : qB a with
            | false =>
              rw [hqa, if_neg (by simp), List.append_nil] at tk
              simp only [Bool.false_eq_true, if_false, w_nx]
              exact ⟨_, _, _, _, _, rfl, g45, k0, k3, by rw [tk]; exact k1⟩
            | true =>
              rw [hqa, if_pos rfl] at tk
              simp only [if_true, w_exp, w_meth, w_argsS, w_args0, vS, v0, to_ok]
              refine ⟨tyQ_lst k1, ?_⟩
              have : ((l.take i).filter qB).length ≤ l.length := Nat.le_trans (List.length_filter_le _ _) (by rw [List.length_take]; omega)
              rw [tAppend_lst k1 (by rw [List.length_map]; omega)]
              simp only [to_ok]
              exact ⟨_, _, _, _, _, rfl, g45.put (.inr (by omega)), look_ne k0 (by omega), look_ne k3 (by omega), by rw [look_put k1, tk]⟩
        · rintro σ s3 ⟨x3, x4, x5, x6, x7, rfl, f3, j0, j3, j1⟩
          simp only [w_ret, vS, v0, to_ok]
          refine q _ _ f3 (by omega) ?_
          rw [j1, List.take_length]
          have e2 : steadyV M = (l.filter qB).map (·.1) := by
            unfold steadyV steadyP
            rw [hq]
            simp only
            congr 1
            refine List.filter_congr fun a ha => ?_
            rw [Bool.eq_iff_iff, List.all_eq_true, List.all_eq_true]
            have : ∀ m ∈ endsOf M, (decide (a ∈ m) = true ↔ decide (goalV m a.1 = goalV l a.1) = true) := fun m hm => by
              rw [decide_eq_true_iff, decide_eq_true_iff, goal_iff hl.2.2 (hok m hm).2.2 ha]
            rw [hq] at this
            rw [← hq] at this ⊢
            exact ⟨fun h m hm => (this m hm).mp (h m hm), fun h m hm => (this m hm).mpr (h m hm)⟩
          rw [e2, List.map_map]; rfl
theorem gcut_ok (so : Sok M) (sm : Sml M) (sr : Srt M) (hsl : ∀ r ∈ M, r.2.length < 60) (hM : M.length ≤ 1000) (hne : endsOf M ≠ []) (q : ∀ s', Fr [] s s' → Q (mD (cutM M)) s') : (f_law_gcut [mD M] s).to Q := by
  unfold f_law_gcut
  refine fun_at [some (mD M), none, none, none, none, none] rfl rfl ?_
  unfold m_law_gcut
  rw [w_seq, w_set]
  simp only [w_call, w_argsS, w_args0, vS, v0, to_ok, w_noE]
  refine gsteady_ok so sm sr hsl hM hne fun n s1 f1 hn hs1 => ?_
  exact cut_rest_ok hs1 (steady_sok so) so sm hM fun s2 f2 => q s2 (f1.trans f2)
end
end Mid
namespace Mid
open PySem
noncomputable section
variable {M : Mach} {s s' : Mst} {Q : Dv → Mst → Prop} {p w c : Nat}
structure GM (xs : List Str) (M : Mach) : Prop where
  wf : Wf M
  sgn : Sgn xs M
  ends : endsOf M ≠ []
  pos : 0 < M.length
  le : M.length ≤ 9
theorem alv_mem {g : List Nat} {k : Nat} (h : Alv M g k) : k ∈ g := by cases h <;> assumption
theorem alv_end {M' : Mach} {g od : List Nat} (T : Trm M g od M') {k : Nat} (h : Alv M g k) (hk : k ∈ od) : ∃ e ∈ od, endB M e = true := by
  induction h with
  | fin a b => exact ⟨_, hk, b⟩
  | step a b c ih => exact ih (T.cl _ hk _ b (alv_mem c))
theorem endB_mem {k : Nat} (h : endB M k = true) : ∃ r, M[k]? = some r ∧ r.1 = true := by
  unfold endB at h
  cases q : M[k]? with
  | none => rw [q] at h; cases h
  | some r => rw [q] at h; exact ⟨r, rfl, h⟩
theorem ends_ne {k : Nat} {r : Bool × List (Str × Nat)} (h : M[k]? = some r) (e : r.1 = true) : endsOf M ≠ [] := by
  intro z
  have : r.2 ∈ endsOf M := by
    unfold endsOf
    exact List.mem_map.mpr ⟨r, List.mem_filter.mpr ⟨List.mem_of_getElem? h, e⟩, rfl⟩
  rw [z] at this; cases this
theorem gm_of {M' : Mach} {g od : List Nat} {xs : List Str} (T : Trm M g od M') (h : Sgn xs M) (hl : M.length ≤ 9) : GM xs M' := by
  have h0 := List.mem_of_getElem? T.root
  obtain ⟨e, he, heb⟩ := alv_end T (T.G.alv 0 (T.sub 0 h0)) h0
  obtain ⟨r, hr, hr1⟩ := endB_mem heb
  obtain ⟨i, hi⟩ := List.mem_iff_getElem?.mp he
  obtain ⟨h1, h2⟩ := trm_len T
  exact ⟨trm_wf T, trm_sgn T h, ends_ne (T.at' i e r hi hr) hr1, h1, by omega⟩
theorem endIt_len : (endIt M).length = M.length := by cases M <;> rfl
theorem endIt_sgn {xs : List Str} (h : Sgn xs M) : Sgn xs (endIt M) := by
  cases M with
  | nil => exact h
  | cons r m => exact fun r' hr' => (List.mem_cons.mp hr').elim (fun e => by rw [e]; exact h r (by simp)) fun h' => h r' (by simp [h'])
theorem galike_ok {xs : List Str} (h : PenR p w c s) (G : GM xs M) (hxs : xs.length < 60) (hc : c < 10 ^ 6)
    (q : ∀ s' M', Fr [p, w] s s' → PenR p w (c + 100) s' → GM xs M' → Q (mD M') s') : (f_law_galike [.loc p, mD M] s).to Q := by
  have sm : Sml M := sgn_sml G.sgn (by omega)
  unfold f_law_galike
  refine fun_at [some (.loc p), some (mD M), none, none, none, none, none, none] rfl rfl ?_
  unfold m_law_galike
  have hle := G.le
  have len : ∀ s, bLen [mD M] s = .ok (.int M.length) s := fun s => by rw [mD, bLen_seq seqOf_tup, List.length_map]
  simp only [w_seq, w_set, w_lc, w_irng1, w_call, w_argsS, w_args0, v0, vS, to_ok, len, toI_int, wipe0, wipeS, List.set_cons_zero, List.set_cons_succ]
  refine ⟨r62 (by omega), ?_⟩
  rw [Int.toNat_natCast, rng0]
  refine lc_pure (List.range M.length) nD (endB M) nD trivial ?_ ?_
  · intro k hk
    have hk := List.mem_range.mp hk
    obtain ⟨r, hr⟩ : ∃ r, M[k]? = some r := ⟨_, List.getElem?_eq_getElem hk⟩
    have e : endB M k = r.1 := by unfold endB; rw [hr]
    simp only [w_gN, w_tval, w_op, vS, v0, mC_eq, to_ok, List.set_cons_succ, List.set_cons_zero, roomQ hr, roomD, oGet_tup0, toB_bl]
    exact ⟨e.symm, fun _ => ⟨trivial, trivial⟩, fun _ => trivial⟩
  · rw [List.length_map, List.length_range]
    refine ⟨by omega, ?_⟩
    generalize hes : (List.range M.length).filter (endB M) = es
    have hel : es.length ≤ 9 := by rw [← hes]; exact Nat.le_trans (List.length_filter_le _ _) (by simpa using hle)
    have hep : 0 < es.length := by
      cases q : endsOf M with
      | nil => exact absurd q G.ends
      | cons l r =>
        have : l ∈ endsOf M := by rw [q]; simp
        unfold endsOf at this
        obtain ⟨r0, hr0, _⟩ := List.mem_map.mp this
        rw [List.mem_filter] at hr0
        obtain ⟨i, hi⟩ := List.mem_iff_getElem?.mp hr0.1
        have : i ∈ es := by
          rw [← hes, List.mem_filter, List.mem_range]
          exact ⟨(List.getElem?_eq_some_iff.mp hi).1, by unfold endB; rw [hi]; exact hr0.2⟩
        exact List.length_pos_of_mem this
    have hs1 : (s ++ [MO.lst (es.map nD)])[s.length]? = some (.lst (es.map nD)) := by simp
    simp only [w_op, w_call, w_argsS, w_args0, vS, v0, mC_eq, to_ok, w_noE, bLen_seq (seqOf_lst hs1), List.length_map]
    have hpl := h.lt
    refine gdraw_ok (many := es.length) (h.fr0 .app) hep (by omega) (by omega) fun s2 r2 f2 h2 hr2 => ?_
    have hs2 := f2.get hs1 (by simp; omega)
    obtain ⟨k, hk⟩ : ∃ k, es[r2]? = some k := ⟨_, List.getElem?_eq_getElem hr2⟩
    have hke : k ∈ (List.range M.length).filter (endB M) := by rw [hes]; exact List.mem_of_getElem? hk
    rw [List.mem_filter] at hke
    obtain ⟨r0, hr0, _⟩ := endB_mem hke.2
    have hr0m := List.mem_of_getElem? hr0
    rw [show nD r2 = .int (r2 : Int) from rfl, oGet_lst (b := r2) (z := nD k) hs2 (by rw [List.getElem?_map, hk]; rfl)]
    simp only [to_ok, roomQ hr0, roomD, oGet_tup1, List.set_cons_succ, List.set_cons_zero, w_lst, w_args0, w_for, w_iseq, vS, v0]
    rw [mD, itSeq_tup]
    simp only [to_ok]
    have F2 : Fr [p, w] s s2 := Fr.app.trans f2
    have hL : s.length ≤ s2.length := F2.1
    have hL0 : (s2 ++ [MO.lst []])[s2.length]? = some (.lst []) := by simp
    have F3 : Fr [p, w] s (s2 ++ [MO.lst []]) := F2.trans .app
    have h3 : PenR p w (c + 1) (s2 ++ [MO.lst []]) := h2.fr0 .app
    generalize (s2 ++ [MO.lst []]) = s3 at hL0 F3 h3
    generalize s2.length = L at hL hL0
    refine for_map M roomD (fun i σ s' => ∃ (Mr : Mach) (x5 x6 x7 : Option Dv), σ = [some (.loc p), some (.tup (M.map roomD)), some (.loc s.length), some (tupsD r0.2), some (.loc L), x5, x6, x7] ∧ Fr [p, w] s s' ∧ PenR p w (c + 1 + i) s' ∧ s'[L]? = some (.lst (Mr.map roomD)) ∧ Mr.length = i ∧ (∀ r ∈ Mr, ∃ r' ∈ M, r.2 = r'.2))
      ⟨[], _, _, _, rfl, F3, h3, hL0, rfl, fun _ h => nomatch h⟩ (fun _ _ _ _ => trivial) ?_ ?_
    · rintro i r σ s4 hr ⟨Mr, x5, x6, x7, rfl, f4, h4, hL4, hil, hM4⟩
      have hrm := List.mem_of_getElem? hr
      have hi := (List.getElem?_eq_some_iff.mp hr).1
      simp only [roomD, w_gT, w_gES, w_gE0, w_gN, List.length_cons, List.length_nil, true_and, List.set_cons_succ, List.set_cons_zero, w_exp, w_meth, w_argsS, w_args0, w_tup, w_ife, w_tand, w_tval, vS, v0, to_ok, toB_bl]
      refine ⟨tyQ_lst hL4, ?_⟩
      have fin : ∀ (s5 : Mst) (ld : List (Str × Nat)) (c' : Nat), Fr [p, w] s4 s5 → PenR p w c' s5 → c' ≤ c + 1 + (i + 1) → (∃ r' ∈ M, ld = r'.2) →
          (tAppend [.loc L, .tup [.bl r.1, tupsD ld]] s5).to fun d s' => ∃ (Mr : Mach) (y5 y6 y7 : Option Dv), [some (.loc p), some (.tup (M.map roomD)), some (.loc s.length), some (tupsD r0.2), some (.loc L), some (.bl r.1), some (.tup (r.2.map stepD)), x7] = [some (.loc p), some (.tup (M.map roomD)), some (.loc s.length), some (tupsD r0.2), some (.loc L), y5, y6, y7] ∧ Fr [p, w] s s' ∧ PenR p w (c + 1 + (i + 1)) s' ∧ s'[L]? = some (.lst (Mr.map roomD)) ∧ Mr.length = i + 1 ∧ (∀ r ∈ Mr, ∃ r' ∈ M, r.2 = r'.2) := by
        intro s5 ld c' f5 h5 hc' hld
        have hL5 := f5.get hL4 (by simp; omega)
        rw [tAppend_lst hL5 (by rw [List.length_map]; omega), to_ok]
        refine ⟨Mr ++ [(r.1, ld)], _, _, _, rfl, (f4.trans f5).put (.inr hL), (h5.fr (Fr.refl.put (X := [L]) (.inl (by simp))) (by simp; omega) (by simp; omega)).le hc', by rw [look_put hL5]; simp [roomD, tupsD], by simp [hil], ?_⟩
        intro r' hr'
        rcases List.mem_append.mp hr' with hr' | hr'
        · exact hM4 r' hr'
        · simp at hr'; rw [hr']; exact hld
      cases hb : r.1 with
      | false =>
        simp only [Bool.false_eq_true, if_false, to_ok, hb] at fin ⊢
        exact fin s4 r.2 _ .refl h4 (by omega) ⟨r, hrm, rfl⟩
      | true =>
        simp only [if_true, w_op, w_call, w_argsS, w_args0, vS, v0, mC_eq, to_ok, w_noE, hb] at fin ⊢
        refine gdraw_ok (many := 4) h4 (by decide) (by decide) (by omega) fun s5 r5 f5 h5 hr5 => ?_
        simp only [nD, oGt_int, to_ok, toB_bl]
        by_cases hgt : (0 : Int) < (r5 : Int)
        · simp only [hgt, decide_true, if_true, to_ok]
          exact fin s5 r0.2 _ f5 h5 (by omega) ⟨r0, hr0m, rfl⟩
        · simp only [hgt, decide_false, Bool.false_eq_true, if_false, to_ok]
          exact fin s5 r.2 _ f5 h5 (by omega) ⟨r, hrm, rfl⟩
    · rintro σ s4 ⟨Mr, x5, x6, x7, rfl, f4, h4, hL4, hil, hM4⟩
      simp only [w_ret, w_call, w_argsS, w_args0, vS, v0, to_ok, w_noE]
      have wf : Wf Mr := fun i j hj => by
        unfold succs at hj
        cases e : Mr[i]? with
        | none => rw [e] at hj; cases hj
        | some r =>
          rw [e] at hj
          obtain ⟨r', hr', e2⟩ := hM4 r (List.mem_of_getElem? e)
          obtain ⟨k, hk⟩ := List.mem_iff_getElem?.mp hr'
          rw [hil]
          exact G.wf k j (by rw [succs_of hk, ← e2]; exact hj)
      have sg : Sgn xs Mr := fun r hr => by
        obtain ⟨r', hr', e2⟩ := hM4 r hr
        rw [e2]; exact G.sgn r' hr'
      have hpos := G.pos
      refine gtrim_ok hL4 (by omega) (by omega) (sgn_sml sg (by omega)) wf fun s5 M1 g od M' f5 h5 T => ?_
      refine q s5 M' (f4.trans (f5.mono (by simp))) ((h4.fr0 f5).le (by omega)) (gm_of T ?_ ?_)
      · rcases h5 with rfl | rfl
        · exact sg
        · exact endIt_sgn sg
      · rcases h5 with rfl | rfl
        · omega
        · rw [endIt_len]; omega
end
end Mid
namespace Mid
open PySem
noncomputable section
variable {M : Mach} {s s' : Mst} {Q : Dv → Mst → Prop} {p w c : Nat}
theorem lt_ext {l m : List Nat} (hl : l.Pairwise (· < ·)) (hm : m.Pairwise (· < ·)) (h : ∀ j, j ∈ l ↔ j ∈ m) : l = m :=
  perm_one (r := (· ≤ ·)) (fun _ _ => Nat.le_antisymm) ((List.perm_ext_iff_of_nodup (hl.imp Nat.ne_of_lt) (hm.imp Nat.ne_of_lt)).mpr h) (hl.imp Nat.le_of_lt) (hm.imp Nat.le_of_lt)
def genR (x : Str) (many : Nat) (e : Nat → Bool) : Mach := (List.range many).map fun k => (e k, [(x, (k + 1) % many)])
section
variable {x : Str} {many : Nat} {e : Nat → Bool}
theorem gen_len : (genR x many e).length = many := by simp [genR]
theorem gen_at {k : Nat} (h : k < many) : (genR x many e)[k]? = some (e k, [(x, (k + 1) % many)]) := by
  unfold genR; rw [List.getElem?_map, List.getElem?_range h]; rfl
theorem gen_none {k : Nat} (h : many ≤ k) : (genR x many e)[k]? = none := List.getElem?_eq_none (by rw [gen_len]; exact h)
theorem gen_wf (h : 0 < many) : Wf (genR x many e) := fun i j hj => by
  rw [gen_len]
  unfold succs at hj
  by_cases hi : i < many
  · rw [gen_at hi] at hj
    simp at hj; rw [hj]; exact Nat.mod_lt _ h
  · rw [gen_none (by omega)] at hj; cases hj
theorem gen_mem {r : Bool × List (Str × Nat)} (h : r ∈ genR x many e) : ∃ k, r = (e k, [(x, (k + 1) % many)]) := by
  unfold genR at h
  obtain ⟨k, _, rfl⟩ := List.mem_map.mp h
  exact ⟨k, rfl⟩
theorem gen_sml : Sml (genR x many e) := fun r hr => by
  obtain ⟨k, rfl⟩ := gen_mem hr
  rw [List.length_singleton]; omega
theorem gen_sok (hx : PyData.strOk x = true) : Sok (genR x many e) := fun r hr q hq => by
  obtain ⟨k, rfl⟩ := gen_mem hr
  simp at hq; rw [hq]; exact hx
theorem gen_ends : endsOf (genR x many e) = ((List.range many).filter e).map fun k => [(x, (k + 1) % many)] := by
  unfold endsOf genR
  rw [List.filter_map, List.map_map]; rfl
theorem gen_in {k : Nat} (hk : k < many) (he : e k = true) : [(x, (k + 1) % many)] ∈ endsOf (genR x many e) := by
  rw [gen_ends]; exact List.mem_map.mpr ⟨k, List.mem_filter.mpr ⟨List.mem_range.mpr hk, he⟩, rfl⟩
theorem steadyP_in {a : Str × Nat} (h : a ∈ steadyP M) : ∀ m ∈ endsOf M, a ∈ m := by
  unfold steadyP at h
  cases q : endsOf M with
  | nil => exact fun m hm => nomatch hm
  | cons l r =>
    rw [q] at h
    have := (List.mem_filter.mp h).2
    rw [List.all_eq_true] at this
    exact fun m hm => of_decide_eq_true (this m hm)
theorem cutV_nil : cutV M [] = M := by
  unfold cutV
  conv => rhs; rw [← List.map_id M]
  refine List.map_congr_left fun r _ => ?_
  rw [List.filter_eq_self.mpr fun p _ => by simp]; rfl
/-! one end -/
abbrev oneM (x : Str) (many : Nat) : Mach := genR x many fun k => decide (k = many - 1)
theorem one_steady (h : 0 < many) : steadyP (oneM x many) = [(x, 0)] := by
  have h1 : (List.range many).filter (fun k => decide (k = many - 1)) = [many - 1] := by
    refine lt_ext (List.pairwise_lt_range.filter _) (by simp) fun j => ?_
    rw [List.mem_filter, List.mem_range, decide_eq_true_iff, List.mem_singleton]; omega
  have h2 : endsOf (oneM x many) = [[(x, 0)]] := by
    rw [gen_ends, h1, List.map_singleton]
    have : (many - 1 + 1) % many = 0 := by
      rw [show many - 1 + 1 = many by omega, Nat.mod_self]
    rw [this]
  unfold steadyP
  rw [h2]
  simp
theorem one_cut {k : Nat} (h : 0 < many) (hk : k < many) : (cutM (oneM x many))[k]? = some (decide (k = many - 1), if k = many - 1 then [] else [(x, k + 1)]) := by
  unfold cutM
  rw [cut_at, gen_at hk]
  have : steadyV (oneM x many) = [x] := by unfold steadyV; rw [one_steady h]; rfl
  rw [this]
  by_cases e : k = many - 1
  · simp [e]
  · have : (k + 1) % many = k + 1 := Nat.mod_eq_of_lt (by omega)
    simp [e, this]
theorem one_succ (h : 0 < many) {i j : Nat} (hj : j ∈ succs (cutM (oneM x many)) i) : j = i + 1 := by
  unfold succs at hj
  by_cases hi : i < many
  · rw [one_cut h hi] at hj
    by_cases e : i = many - 1
    · simp [e] at hj
    · simp [e] at hj; exact hj
  · rw [List.getElem?_eq_none (by rw [cut_len, gen_len]; omega)] at hj; cases hj
theorem one_rch (h : 0 < many) {i j : Nat} (g : Rch (cutM (oneM x many)) i j) : i ≤ j := by
  induction g with
  | refl => exact Nat.le_refl _
  | tail _ b ih => have := one_succ h b; omega
theorem one_eqv (h : 0 < many) {i j : Nat} : eqvB (cutM (oneM x many)) i j = true ↔ i = j := by
  rw [eqvB_iff]
  constructor
  · rintro ⟨a, b⟩
    have := one_rch h a
    have := one_rch h b
    omega
  · rintro rfl; exact ⟨.refl _, .refl _⟩
theorem one_orbs (h : 0 < many) : orbs (cutM (oneM x many)) many = (List.range many).map fun k => [k] := by
  unfold orbs
  rw [List.filter_eq_self.mpr fun k _ => root_iff.mpr fun j hj => by
    cases q : eqvB (cutM (oneM x many)) j k with
    | false => rfl
    | true => have := (one_eqv h).mp q; omega]
  refine List.map_congr_left fun k hk => ?_
  have hk := List.mem_range.mp hk
  refine lt_ext (List.pairwise_lt_range.filter _) (by simp) fun j => ?_
  rw [mem_orbit, one_eqv h, cut_len, gen_len, List.mem_singleton]; omega
theorem one_gate (h : 0 < many) {k : Nat} (hk : k < many) : [k].filter (gateB (cutM (oneM x many)) [k]) = [k] := by
  have : gateB (cutM (oneM x many)) [k] k = true := by
    unfold gateB loV
    rw [one_cut h hk]
    by_cases e : k = many - 1
    · simp [e]
    · simp [e]
  simp [this]
theorem one_even (h : 0 < many) {k : Nat} (hk : k < many) : evenV (cutM (oneM x many)) [k] = true := by
  unfold evenV
  rw [one_gate h hk]; rfl
/-! two ends -/
abbrev twoM (x : Str) (many en : Nat) : Mach := genR x many fun k => decide (k = 0) || decide (k = en)
theorem two_steady {en : Nat} (h : 3 ≤ many) (h1 : 0 < en) (h2 : en < many) : steadyV (twoM x many en) = [] := by
  unfold steadyV
  cases q : steadyP (twoM x many en) with
  | nil => rfl
  | cons a r =>
    have ha : a ∈ steadyP (twoM x many en) := by rw [q]; simp
    have g0 := steadyP_in ha _ (gen_in (k := 0) (by omega) (by simp))
    have g1 := steadyP_in ha _ (gen_in (k := en) h2 (by simp))
    rw [List.mem_singleton] at g0 g1
    rw [g0] at g1
    simp only [Prod.mk.injEq, true_and, Nat.zero_add] at g1
    rw [Nat.mod_eq_of_lt (show 1 < many by omega)] at g1
    by_cases e : en + 1 < many
    · rw [Nat.mod_eq_of_lt e] at g1; omega
    · rw [show en + 1 = many by omega, Nat.mod_self] at g1; omega
theorem two_cut {en : Nat} (h : 3 ≤ many) (h1 : 0 < en) (h2 : en < many) : cutM (twoM x many en) = twoM x many en := by
  unfold cutM; rw [two_steady h h1 h2, cutV_nil]
theorem gen_fw (h : 0 < many) {i j : Nat} (hij : i ≤ j) (hj : j < many) : Rch (genR x many e) i j := by
  induction j with
  | zero =>
    have : i = 0 := by omega
    rw [this]; exact .refl _
  | succ j ih =>
    by_cases q : i = j + 1
    · rw [q]; exact .refl _
    · refine .tail (ih (by omega) (by omega)) ?_
      rw [succs_of (gen_at (by omega))]
      simp [Nat.mod_eq_of_lt hj]
theorem gen_all (h : 0 < many) {i j : Nat} (hi : i < many) (hj : j < many) : Rch (genR x many e) i j := by
  refine ((gen_fw h (Nat.le_sub_one_of_lt hi) (by omega)).tail (k := 0) ?_).trans (gen_fw h (Nat.zero_le _) hj)
  rw [succs_of (gen_at (by omega))]
  rw [show many - 1 + 1 = many by omega, Nat.mod_self]; simp
theorem gen_orbs (h : 0 < many) : orbs (genR x many e) many = [List.range many] := by
  have ev : ∀ i j, i < many → j < many → eqvB (genR x many e) i j = true := fun i j hi hj => eqvB_iff.mpr ⟨gen_all h hi hj, gen_all h hj hi⟩
  have h1 : (List.range many).filter (rootB (genR x many e)) = [0] := by
    refine lt_ext (List.pairwise_lt_range.filter _) (by simp) fun j => ?_
    rw [List.mem_filter, List.mem_range, root_iff, List.mem_singleton]
    constructor
    · rintro ⟨a, b⟩
      refine Classical.byContradiction fun z => ?_
      have := b 0 (by omega)
      rw [ev 0 j h a] at this; cases this
    · rintro rfl; exact ⟨h, fun _ z => absurd z (Nat.not_lt_zero _)⟩
  unfold orbs
  rw [h1, List.map_singleton]
  congr 1
  refine lt_ext (List.pairwise_lt_range.filter _) List.pairwise_lt_range fun j => ?_
  rw [mem_orbit, gen_len, List.mem_range]
  exact ⟨fun a => a.1, fun a => ⟨a, ev 0 j h a⟩⟩
theorem gen_lo (h : 0 < many) {k : Nat} (hk : k < many) : loV (genR x many e) (List.range many) k = (e k, []) := by
  unfold loV
  rw [gen_at hk]
  have : (k + 1) % many < many := Nat.mod_lt _ h
  simp [this]
theorem two_gates {en : Nat} (h1 : 0 < en) (h2 : en < many) : (List.range many).filter (gateB (twoM x many en) (List.range many)) = [0, en] := by
  refine lt_ext (List.pairwise_lt_range.filter _) (by simp [h1]) fun j => ?_
  rw [List.mem_filter, List.mem_range]
  constructor
  · rintro ⟨a, b⟩
    unfold gateB at b
    rw [gen_lo (by omega) a] at b
    simp at b
    simpa using b
  · intro hj
    have hjm : j < many := by simp at hj; omega
    refine ⟨hjm, ?_⟩
    unfold gateB
    rw [gen_lo (by omega) hjm]
    simp at hj ⊢
    exact hj
theorem two_even {en : Nat} (h1 : 0 < en) (h2 : en < many) : evenV (twoM x many en) (List.range many) = true := by
  unfold evenV
  rw [two_gates h1 h2]
  simp [gen_lo (show 0 < many by omega) (show 0 < many by omega), gen_lo (show 0 < many by omega) h2]
end
/-! the same, for texts and for lists of two kinds -/
theorem same_str (n : Nat) : Same (f_law_gsame (n + 1)) .str (fun _ => True) := by
  rintro P P' s x y a Q - ⟨rfl, ha⟩ ⟨rfl, _⟩ q
  unfold f_law_gsame
  refine fun_at [some (.str a), some (.str a), none, none] rfl rfl ?_
  unfold m_law_gsame
  simp only [w_seq, w_if, w_tval, w_op, w_call, w_argsS, w_args0, vS, v0, mC_eq, to_ok, oIsN_non, isNonQ_str, toB_bl, Bool.false_eq_true, if_false, w_nx, w_ret]
  have k1 : "str" ∈ kinds := by decide
  have t1 : tyQ (.str a) s = "str" := rfl
  simp only [bIsi_of t1 k1 (show "bool" ∈ asked by decide), bIsi_of t1 k1 (show "int" ∈ asked by decide), bIsi_of t1 k1 (show "str" ∈ asked by decide), to_ok, toB_bl, show isiQ "str" "bool" = false from rfl, show isiQ "str" "int" = false from rfl, show isiQ "str" "str" = true from rfl, Bool.false_eq_true, if_false, if_true, w_and, w_call, w_op, w_argsS, w_args0, vS, v0, mC_eq]
  rw [oEq_enc Enc.str (P := noP) (P' := noP) ⟨rfl, ha⟩ ⟨rfl, ha⟩ (by decide)]
  simp only [to_ok, decide_true]
  exact q s .refl
theorem same_two {α β : Type} {A : Enc α} {B : Enc β} {n : Nat} {okA : α → Prop} {okB : β → Prop} (hA : Same (f_law_gsame n) A okA) (hB : Same (f_law_gsame n) B okB) : Same (f_law_gsame (n + 1)) (A.two B) (fun l => okA l.1 ∧ okB l.2) := by
  rintro P P' s x y l Q ⟨hok1, hok2⟩ ⟨i, d1, d2, rfl, hi, hsi, r1, r2⟩ ⟨j, e1, e2, rfl, hj, hsj, u1, u2⟩ q
  unfold f_law_gsame
  refine fun_at [some (.loc i), some (.loc j), none, none] rfl rfl ?_
  unfold m_law_gsame
  simp only [w_seq, w_if, w_tval, w_tor, w_op, w_call, w_argsS, w_args0, vS, v0, mC_eq, to_ok, oIsN_non, isNonQ_loc, toB_bl, Bool.false_eq_true, if_false, w_nx, w_ret]
  have ti := tyQ_lst hsi
  have tj := tyQ_lst hsj
  have k1 : "list" ∈ kinds := by decide
  simp only [bIsi_of ti k1 (show "bool" ∈ asked by decide), bIsi_of tj k1 (show "bool" ∈ asked by decide), bIsi_of ti k1 (show "int" ∈ asked by decide), bIsi_of tj k1 (show "int" ∈ asked by decide), bIsi_of ti k1 (show "str" ∈ asked by decide), bIsi_of tj k1 (show "str" ∈ asked by decide), bIsi_of ti k1 (show "tuple" ∈ asked by decide), bIsi_of tj k1 (show "tuple" ∈ asked by decide), bIsi_of ti k1 (show "list" ∈ asked by decide), bIsi_of tj k1 (show "list" ∈ asked by decide), to_ok, toB_bl,
    show isiQ "list" "bool" = false from rfl, show isiQ "list" "int" = false from rfl, show isiQ "list" "str" = false from rfl, show isiQ "list" "tuple" = false from rfl, show isiQ "list" "list" = true from rfl, Bool.false_eq_true, if_false, oNe_bl, beq_self_eq_true, Bool.not_true, w_and, w_op, w_call, w_argsS, w_args0, vS, v0, bLen_seq (seqOf_lst hsi), bLen_seq (seqOf_lst hsj), oEq_int, List.length_cons, List.length_nil, decide_true]
  simp only [if_true, w_lc, w_izip, vS, v0, to_ok]
  refine ⟨false, [d1, d2], [(i, [d1, d2])], [e1, e2], [(j, [e1, e2])], by unfold zipQ; simp only [hsi], by unfold zipQ; simp only [hsj], ?_⟩
  simp only [wipeS, wipe0, List.set_cons_succ, List.set_cons_zero]
  refine lc_new (P := noP) .bool [(d1, e1, true), (d2, e2, false)] (fun p => .tup [p.1, p.2.1]) (fun _ => true) (fun _ => true) (fun s' f => ⟨f.get hsi (by simp), f.get hsj (by simp), trivial⟩) ?_ ?_
  · intro p hp s' f
    simp only [w_gT, w_gES, w_gE0, w_gN, List.length_cons, List.length_nil, true_and, w_tyes, w_call, w_argsS, w_args0, w_noE, vS, v0, to_ok, List.set_cons_succ, List.set_cons_zero]
    refine ⟨.refl, fun _ => ?_⟩
    rcases List.mem_cons.mp hp with rfl | hp
    · exact hA _ _ _ _ _ l.1 _ hok1 (A.fr0 r1 f) (A.fr0 u1 f) fun s2 f2 => ⟨f2, rfl⟩
    · simp at hp; subst hp
      exact hB _ _ _ _ _ l.2 _ hok2 (B.fr0 r2 f) (B.fr0 u2 f) fun s2 f2 => ⟨f2, rfl⟩
  · intro bs s' f h
    have hb : bs = [true, true].map Dv.bl := h.to_map fun _ _ _ _ z => z
    refine ⟨by simp, ?_⟩
    rw [bAll_lst (bs := [true, true]) (by rw [hb]; simp)]
    exact q _ (f.trans .app)
end
end Mid
namespace Mid
open PySem
noncomputable section
variable {M : Mach} {s s' : Mst} {Q : Dv → Mst → Prop} {p w c : Nat}
theorem same_sl : Same (f_law_gsame 7) SL (fun l => l.length < 2 ^ 24 ∧ ∀ a ∈ l, True) := same_lst (same_str 5)
theorem same_nll7 : Same (f_law_gsame 7) NLL (fun l => l.length < 2 ^ 24 ∧ ∀ a ∈ l, a.length < 2 ^ 24 ∧ ∀ b ∈ a, True) := same_lst (same_lst (same_nat 4))
theorem same_sn : Same (f_law_gsame 8) (SL.two NLL) (fun l => (l.1.length < 2 ^ 24 ∧ ∀ a ∈ l.1, True) ∧ (l.2.length < 2 ^ 24 ∧ ∀ a ∈ l.2, a.length < 2 ^ 24 ∧ ∀ b ∈ a, True)) := same_two same_sl same_nll7
theorem ring_right_ok {x : Str} (h : PenR p w c s) (hx : PyData.strOk x = true) (hc : c < 10 ^ 6)
    (q : ∀ s', Fr [p, w] s s' → PenR p w (c + 10) s' → Q (.bl true) s') : (f_law_gring_right [.loc p, .str x] s).to Q := by
  unfold f_law_gring_right
  refine fun_at [some (.loc p), some (.str x), none, none, none, none, none, none, none, none] rfl rfl ?_
  unfold m_law_gring_right
  have hpl := h.lt
  simp only [w_seq, w_set, w_op, w_call, w_argsS, w_args0, vS, v0, mC_eq, to_ok, w_noE]
  refine gdraw_ok (many := 88) h (by decide) (by decide) (by omega) fun s1 r1 f1 h1 hr1 => ?_
  simp only [nD, oAdd_int, to_ok, List.set_cons_succ, List.set_cons_zero, vS, v0, oSub_int]
  rw [show (3 : Int) + (r1 : Int) = ((3 + r1 : Nat) : Int) by omega]
  generalize hmany : 3 + r1 = many
  rw [show (many : Int) - 1 = ((many - 1 : Nat) : Int) by omega]
  refine gdraw_ok (many := many - 1) h1 (by omega) (by omega) (by omega) fun s2 r2 f2 h2 hr2 => ?_
  simp only [nD, oAdd_int, to_ok, List.set_cons_succ, List.set_cons_zero, vS, v0, w_lc, w_irng1, toI_int]
  rw [show (1 : Int) + (r2 : Int) = ((1 + r2 : Nat) : Int) by omega]
  generalize hen : 1 + r2 = en
  refine ⟨r62 (by omega), ?_⟩
  rw [Int.toNat_natCast, rng0]
  simp only [wipeS, wipe0, List.set_cons_succ, List.set_cons_zero]
  have hm0 : (0 : Int) < (many : Int) := by omega
  refine lc_pure (List.range many) nD (fun _ => true) (fun k => roomD (decide (k = 0), [(x, (k + 1) % many)])) trivial ?_ ?_
  · intro k hk
    simp only [w_gN, w_tyes, w_tup, w_op, w_argsS, w_args0, vS, v0, mC_eq, to_ok, nD, oAdd_int, oEq_int, List.set_cons_succ, List.set_cons_zero]
    rw [oMod_int hm0]
    refine ⟨trivial, fun _ => ⟨?_, rfl⟩, fun _ => trivial⟩
    have e1 : ((k : Int) + 1) % (many : Int) = (((k + 1) % many : Nat) : Int) := by rw [Int.natCast_emod, Int.natCast_add]; rfl
    have e2 : decide ((k : Int) = 0) = decide (k = 0) := decide_eq_decide.mpr (by omega)
    simp only [roomD, stepD, iD, List.map_cons, List.map_nil, e1, e2]
  rw [List.length_map, List.length_range, List.filter_eq_self.mpr fun _ _ => rfl]
  refine ⟨by omega, ?_⟩
  have e0 : (List.range many).map (fun k => roomD (decide (k = 0), [(x, (k + 1) % many)])) = (genR x many fun k => decide (k = 0)).map roomD := by unfold genR; rw [List.map_map]; rfl
  rw [e0]
  refine ⟨r62 (by omega), ?_⟩
  refine lc_pure (List.range many) nD (fun _ => true) (fun k => roomD (decide (k = many - 1), [(x, (k + 1) % many)])) trivial ?_ ?_
  · intro k hk
    simp only [w_gN, w_tyes, w_tup, w_op, w_argsS, w_args0, vS, v0, mC_eq, to_ok, nD, oAdd_int, oSub_int, oEq_int, List.set_cons_succ, List.set_cons_zero]
    rw [oMod_int hm0]
    refine ⟨trivial, fun _ => ⟨?_, rfl⟩, fun _ => trivial⟩
    have e1 : ((k : Int) + 1) % (many : Int) = (((k + 1) % many : Nat) : Int) := by rw [Int.natCast_emod, Int.natCast_add]; rfl
    have e2 : decide ((k : Int) = (many : Int) - 1) = decide (k = many - 1) := decide_eq_decide.mpr (by omega)
    simp only [roomD, stepD, iD, List.map_cons, List.map_nil, e1, e2]
  rw [List.filter_eq_self.mpr fun _ _ => rfl]
  refine ⟨by omega, ?_⟩
  have e1 : (List.range many).map (fun k => roomD (decide (k = many - 1), [(x, (k + 1) % many)])) = (oneM x many).map roomD := by unfold oneM genR; rw [List.map_map]; rfl
  rw [e1]
  have hmp : 0 < many := by omega
  have F2 : Fr [p, w] s s2 := f1.trans f2
  have hsl : s.length ≤ s2.length := F2.1
  have hA : (s2 ++ [MO.lst ((genR x many fun k => decide (k = 0)).map roomD)] ++ [MO.lst ((oneM x many).map roomD)])[s2.length]? = some (.lst ((genR x many fun k => decide (k = 0)).map roomD)) := look_app (by simp)
  have hB : (s2 ++ [MO.lst ((genR x many fun k => decide (k = 0)).map roomD)] ++ [MO.lst ((oneM x many).map roomD)])[(s2 ++ [MO.lst ((genR x many fun k => decide (k = 0)).map roomD)]).length]? = some (.lst ((oneM x many).map roomD)) := by simp
  have h3 : PenR p w (c + 2) (s2 ++ [MO.lst ((genR x many fun k => decide (k = 0)).map roomD)] ++ [MO.lst ((oneM x many).map roomD)]) := (h2.fr0 .app).fr0 .app
  have F3 : Fr [p, w] s (s2 ++ [MO.lst ((genR x many fun k => decide (k = 0)).map roomD)] ++ [MO.lst ((oneM x many).map roomD)]) := F2.trans (Fr.app.trans .app)
  have hBA : (s2 ++ [MO.lst ((genR x many fun k => decide (k = 0)).map roomD)]).length = s2.length + 1 := by simp
  generalize (s2 ++ [MO.lst ((genR x many fun k => decide (k = 0)).map roomD)] ++ [MO.lst ((oneM x many).map roomD)]) = s3 at hA hB h3 F3 ⊢
  generalize (s2 ++ [MO.lst ((genR x many fun k => decide (k = 0)).map roomD)]).length = B at hB hBA ⊢
  generalize s2.length = A at hA hsl hBA ⊢
  -- one end
  have so1 : Sok (oneM x many) := gen_sok hx
  have sm1 : Sml (oneM x many) := gen_sml
  have wf1 : Wf (oneM x many) := gen_wf hmp
  have len1 : (oneM x many).length = many := gen_len
  have ne1 : endsOf (oneM x many) ≠ [] := fun z => by
    have := gen_in (x := x) (many := many) (e := fun k => decide (k = many - 1)) (k := many - 1) (by omega) (by simp)
    rw [z] at this; cases this
  have tB : ∀ {t : Mst}, Fr [] s3 t → bTuple [.loc B] t = .ok (mD (oneM x many)) t := fun g => bTuple_seq (seqOf_lst (g.get hB (by simp)))
  simp only [w_if, w_tnot, w_tval, w_call, w_lst, w_argsS, w_args0, vS, v0, to_ok, w_noE, tB .refl]
  refine steady_ok so1 sm1 (by omega) ne1 fun n4 s4 f4 hn4 hs4 => ?_
  simp only [tB f4, to_ok]
  refine cut_orbits_ok wf1 so1 sm1 (by omega) ne1 fun d5 s5 f5 hd5 => ?_
  rw [len1, one_orbs hmp] at hd5
  have st1 : steadyV (oneM x many) = [x] := by unfold steadyV; rw [one_steady hmp]; rfl
  rw [st1] at hs4
  simp only [w_lc, w_irng1, vS, v0, to_ok, toI_int]
  refine ⟨r62 (by omega), ?_⟩
  rw [Int.toNat_natCast, rng0]
  simp only [wipeS, wipe0, List.set_cons_succ, List.set_cons_zero]
  have fr6 : Fr [] s5 (s5 ++ [MO.lst [.loc n4, d5]] ++ [MO.lst [.str x]]) := Fr.app.trans .app
  have l6 : (s5 ++ [MO.lst [.loc n4, d5]] ++ [MO.lst [.str x]])[s5.length]? = some (.lst [.loc n4, d5]) := look_app (by simp)
  have l7 : (s5 ++ [MO.lst [.loc n4, d5]] ++ [MO.lst [.str x]])[(s5 ++ [MO.lst [.loc n4, d5]]).length]? = some (.lst [.str x]) := by simp
  generalize (s5 ++ [MO.lst [.loc n4, d5]] ++ [MO.lst [.str x]]) = s6 at fr6 l6 l7 ⊢
  generalize (s5 ++ [MO.lst [.loc n4, d5]]).length = n7 at l7 ⊢
  refine lc_new (P := noP) NL (List.range many) nD (fun _ => true) (fun k => [k]) (fun _ _ => trivial) ?_ ?_
  · intro k hk t ft
    simp only [w_gN, w_tyes, w_lst, w_argsS, w_args0, vS, v0, to_ok, List.set_cons_succ, List.set_cons_zero]
    exact ⟨trivial, .refl, fun _ => ⟨.app, nl_iff.mpr ⟨_, rfl, id, by simp⟩⟩⟩
  intro ds s7 f7 hds
  rw [List.length_map, List.length_range]
  rw [List.filter_eq_self.mpr fun _ _ => rfl] at hds
  refine ⟨by omega, ?_⟩
  have hx1 : ∀ y ∈ [x], PyData.strOk y = true := by simpa using hx
  have G : ∀ t, Fr [] s6 (s7 ++ t) := fun t => f7.trans .app
  have repA : (SL.two NLL).rep noP (s7 ++ [MO.lst ds] ++ [MO.lst [.loc n7, .loc s7.length]]) (.loc s5.length) ([x], (List.range many).map fun k => [k]) :=
    ⟨_, _, _, rfl, id, ((f7.trans .app).trans .app : Fr [] s6 _).get l6 (by simp), sl_rep id ((f5.trans (fr6.trans ((f7.trans .app).trans .app))).get hs4 (by simp)) hx1, NLL.fr0 (NLL.toNo hd5) (fr6.trans ((f7.trans .app).trans .app))⟩
  have l8 : (s7 ++ [MO.lst ds] ++ [MO.lst [.loc n7, .loc s7.length]])[(s7 ++ [MO.lst ds]).length]? = some (.lst [.loc n7, .loc s7.length]) := by simp
  have l9 : (s7 ++ [MO.lst ds] ++ [MO.lst [.loc n7, .loc s7.length]])[s7.length]? = some (.lst ds) := look_app (by simp)
  have l10 : (s7 ++ [MO.lst ds] ++ [MO.lst [.loc n7, .loc s7.length]])[n7]? = some (.lst ([x].map Dv.str)) := ((f7.trans .app).trans .app : Fr [] s6 _).get l7 (by simp)
  have repB : (SL.two NLL).rep noP (s7 ++ [MO.lst ds] ++ [MO.lst [.loc n7, .loc s7.length]]) (.loc (s7 ++ [MO.lst ds]).length) ([x], (List.range many).map fun k => [k]) :=
    ⟨_, .loc n7, .loc s7.length, rfl, id, l8, sl_rep id l10 hx1, s7.length, ds, rfl, id, l9, hds.imp fun _ _ _ _ z => NL.fr0 z (Fr.app.trans .app)⟩
  have hok : (([x] : List Str).length < 2 ^ 24 ∧ ∀ a ∈ [x], True) ∧ (((List.range many).map fun k => [k]).length < 2 ^ 24 ∧ ∀ a ∈ (List.range many).map fun k => [k], a.length < 2 ^ 24 ∧ ∀ b ∈ a, True) := by
    refine ⟨⟨by rw [List.length_singleton]; omega, fun _ _ => trivial⟩, by rw [List.length_map, List.length_range]; omega, fun a ha => ?_⟩
    obtain ⟨k, _, rfl⟩ := List.mem_map.mp ha
    exact ⟨by rw [List.length_singleton]; omega, fun _ _ => trivial⟩
  refine same_sn _ _ _ _ _ _ _ hok repA repB fun s8 f8 => ?_
  have F38 : Fr [] s3 s8 := f4.trans (f5.trans (fr6.trans (((f7.trans .app).trans .app).trans f8)))
  simp only [toB_bl, Bool.not_true, Bool.false_eq_true, if_false, w_nx, w_set, w_call, w_argsS, w_args0, vS, v0, to_ok, w_noE]
  refine gdraw_ok (many := many) (h3.fr0 F38) hmp (by omega) (by omega) fun s9 at' f9 h9 hat => ?_
  have hA9 : s9[A]? = some (.lst ((genR x many fun k => decide (k = 0)).map roomD)) := f9.get (F38.get hA (by simp)) (by simp; omega)
  have hB9 : s9[B]? = some (.lst ((oneM x many).map roomD)) := f9.get (F38.get hB (by simp)) (by simp; omega)
  have F9 : Fr [p, w] s s9 := F3.trans ((F38.mono (by simp)).trans f9)
  have tB : ∀ {t : Mst}, Fr [] s9 t → bTuple [.loc B] t = .ok (mD (oneM x many)) t := fun g => bTuple_seq (seqOf_lst (g.get hB9 (by simp)))
  simp only [List.set_cons_succ, List.set_cons_zero, w_if, w_tor, w_tval, w_op, w_call, w_lst, w_argsS, w_args0, vS, v0, mC_eq, to_ok, w_noE, tB .refl]
  refine cut_gates_ok (M := oneM x many) (o := [at']) (by simp) (by simpa [len1] using hat) so1 sm1 (by omega) ne1 (by rw [List.length_singleton]; omega) fun d10 s10 f10 hd10 => ?_
  rw [one_gate hmp hat] at hd10
  rw [oNe_enc NL (P := noP) (P' := noP) (NL.fr0 (NL.toNo hd10) .app) (b := [at']) (nl_iff.mpr ⟨_, rfl, id, by simp⟩) (by decide)]
  have g10 : Fr [] s9 (s10 ++ [MO.lst [nD at']]) := Fr.app.trans (f10.trans .app)
  simp only [to_ok, toB_bl, decide_true, Bool.not_true, Bool.false_eq_true, if_false, tB g10]
  refine is_cut_even_ok (M := oneM x many) (o := [at']) (by simp) (by simpa [len1] using hat) so1 sm1 (by omega) ne1 (by rw [List.length_singleton]; omega) fun s11 f11 => ?_
  rw [one_even hmp hat]
  have g11 : Fr [] s9 s11 := g10.trans (Fr.app.trans f11)
  simp only [oNotN, decide_true, Bool.not_true, to_ok, toB_bl, Bool.false_eq_true, if_false, w_nx, w_put, w_tup, w_op, w_argsS, w_args0, vS, v0, mC_eq]
  -- two ends
  have hA11 := g11.get hA9 (by simp)
  have hene : en < many := by omega
  rw [oGet_lst (b := en) (z := roomD (decide (en = 0), [(x, (en + 1) % many)])) hA11 (by rw [List.getElem?_map, gen_at hene]; rfl)]
  simp only [to_ok, roomD, oGet_tup1]
  rw [oPut_lst hA11 (by rw [List.length_map, gen_len]; exact hene)]
  have eset : ((genR x many fun k => decide (k = 0)).map roomD).set en (.tup [.bl true, .tup ([(x, (en + 1) % many)].map stepD)]) = (twoM x many en).map roomD := by
    refine List.ext_getElem? fun i => ?_
    rw [List.getElem?_set, List.getElem?_map, List.length_map, gen_len]
    by_cases hi : i < many
    · rw [List.getElem?_map, gen_at hi, gen_at hi]
      by_cases e : en = i
      · subst e; rw [if_pos rfl, if_pos hi]; simp [roomD]
      · rw [if_neg e]
        have : decide (i = en) = false := decide_eq_false fun z => e z.symm
        simp [this]
    · rw [List.getElem?_map, gen_none (by omega), gen_none (by omega), if_neg (by omega)]
  rw [eset]
  have hA12 : (s11.set A (.lst ((twoM x many en).map roomD)))[A]? = some (.lst ((twoM x many en).map roomD)) := look_put hA11
  have F12 : Fr [p, w] s (s11.set A (.lst ((twoM x many en).map roomD))) := (F9.trans (g11.mono (by simp))).put (.inr hsl)
  have h12 : PenR p w (c + 3) (s11.set A (.lst ((twoM x many en).map roomD))) := (h9.fr0 g11).fr (Fr.refl.put (X := [A]) (.inl (by simp))) (by simp; omega) (by simp; omega)
  generalize (s11.set A (.lst ((twoM x many en).map roomD))) = s12 at hA12 F12 h12 ⊢
  simp only [to_ok, w_set, w_call, w_argsS, w_args0, vS, v0]
  rw [bTuple_seq (seqOf_lst hA12)]
  simp only [to_ok, List.set_cons_succ, List.set_cons_zero, w_listRg, vS, v0, mC_eq, toI_int]
  have r0 := r62 (n := 0) (by omega)
  rw [show ((many : Int) - 0).toNat = many by omega, show rngI (0 : Int) many = (List.range many).map nD from rng0 many]
  refine ⟨⟨by simpa using r0.1, by simpa using r0.2, (r62 (by omega)).1, (r62 (by omega)).2, by omega⟩, ?_⟩
  have so2 : Sok (twoM x many en) := gen_sok hx
  have sm2 : Sml (twoM x many en) := gen_sml
  have wf2 : Wf (twoM x many en) := gen_wf hmp
  have len2 : (twoM x many en).length = many := gen_len
  have en0 : 0 < en := by omega
  have m3 : 3 ≤ many := by omega
  have ne2 : endsOf (twoM x many en) ≠ [] := fun z => by
    have := gen_in (x := x) (many := many) (e := fun k => decide (k = 0) || decide (k = en)) (k := 0) (by omega) (by simp)
    rw [z] at this; cases this
  have hW : (s12 ++ [MO.lst ((List.range many).map nD)])[s12.length]? = some (.lst ((List.range many).map nD)) := by simp
  have F13 : Fr [p, w] s (s12 ++ [MO.lst ((List.range many).map nD)]) := F12.trans .app
  have h13 : PenR p w (c + 3) (s12 ++ [MO.lst ((List.range many).map nD)]) := h12.fr0 .app
  generalize (s12 ++ [MO.lst ((List.range many).map nD)]) = s13 at hW F13 h13 ⊢
  generalize s12.length = W at hW ⊢
  try simp only [to_ok, List.set_cons_succ, List.set_cons_zero, w_if, w_tor, w_tval, w_op, w_call, w_lst, w_argsS, w_args0, vS, v0, mC_eq, w_noE]
  change ((f_steady [mD (twoM x many en)] s13).to _)
  refine steady_ok so2 sm2 (by omega) ne2 fun n14 s14 f14 hn14 hs14 => ?_
  rw [two_steady m3 en0 hene] at hs14
  rw [oNe_enc SL (P := noP) (P' := noP) (b := []) (a := []) (sl_rep id (look_app hs14) (by simp)) ⟨_, [], rfl, id, by simp, .nil⟩ (by decide)]
  have g14 : Fr [] s13 (s14 ++ [MO.lst []]) := f14.trans .app
  simp only [to_ok, toB_bl, decide_true, Bool.not_true, Bool.false_eq_true, if_false]
  change ((f_cut_orbits [mD (twoM x many en)] _).to _)
  refine cut_orbits_ok wf2 so2 sm2 (by omega) ne2 fun d15 s15 f15 hd15 => ?_
  rw [len2, two_cut m3 en0 hene, gen_orbs hmp] at hd15
  have g15 : Fr [] s13 (s15 ++ [MO.lst [.loc W]]) := g14.trans (f15.trans .app)
  rw [oNe_enc NLL (P := noP) (P' := noP) (a := [List.range many]) (b := [List.range many]) (NLL.fr0 (NLL.toNo hd15) .app) ⟨_, [.loc W], rfl, id, by simp, .cons (nl_iff.mpr ⟨W, rfl, id, g15.get hW (by simp)⟩) .nil⟩ (by decide)]
  simp only [to_ok, toB_bl, decide_true, Bool.not_true, Bool.false_eq_true, if_false]
  rw [bList_seq (seqOf_lst (g15.get hW (by simp)))]
  simp only [to_ok]
  change ((f_cut_gates [mD (twoM x many en), _] _).to _)
  refine cut_gates_ok (M := twoM x many en) (o := List.range many) (by simp) (fun k hk => by rw [len2]; exact List.mem_range.mp hk) so2 sm2 (by omega) ne2 (by rw [List.length_range]; omega) fun d16 s16 f16 hd16 => ?_
  rw [two_cut m3 en0 hene, two_gates en0 hene] at hd16
  have g16 : Fr [] s13 (s16 ++ [MO.lst [.int 0, .int (en : Int)]]) := g15.trans (Fr.app.trans (f16.trans .app))
  rw [oNe_enc NL (P := noP) (P' := noP) (a := [0, en]) (b := [0, en]) (NL.fr0 (NL.toNo hd16) .app) (nl_iff.mpr ⟨_, rfl, id, by simp [nD]⟩) (by decide)]
  simp only [to_ok, toB_bl, decide_true, Bool.not_true, Bool.false_eq_true, if_false, w_nx, w_ret, w_op, w_call, w_argsS, w_args0, vS, v0, mC_eq, w_noE]
  rw [bList_seq (seqOf_lst (g16.get hW (by simp)))]
  simp only [to_ok]
  change ((f_is_cut_even [mD (twoM x many en), _] _).to _)
  refine is_cut_even_ok (M := twoM x many en) (o := List.range many) (by simp) (fun k hk => by rw [len2]; exact List.mem_range.mp hk) so2 sm2 (by omega) ne2 (by rw [List.length_range]; omega) fun s17 f17 => ?_
  rw [two_cut m3 en0 hene, two_even en0 hene]
  have g17 : Fr [] s13 s17 := g16.trans (Fr.app.trans f17)
  exact q s17 (F13.trans (g17.mono (by simp))) ((h13.fr0 g17).le (by omega))
end
end Mid
namespace Mid
open PySem
noncomputable section
variable {M : Mach} {s s' : Mst} {Q : Dv → Mst → Prop} {p w c : Nat}
theorem same_nl : Same (f_law_gsame 8) NL (fun l => l.length < 2 ^ 24 ∧ ∀ a ∈ l, True) := same_lst (same_nat 6)
theorem same_sl8 : Same (f_law_gsame 8) SL (fun l => l.length < 2 ^ 24 ∧ ∀ a ∈ l, True) := same_lst (same_str 6)
theorem same_nll : Same (f_law_gsame 8) NLL (fun l => l.length < 2 ^ 24 ∧ ∀ a ∈ l, a.length < 2 ^ 24 ∧ ∀ b ∈ a, True) := same_lst (same_lst (same_nat 5))
theorem same_bl : Same (f_law_gsame 8) .bool (fun _ => True) := same_bool 7
theorem orbs_len (M : Mach) (n : Nat) : (orbs M n).length ≤ n := by
  unfold orbs
  rw [List.length_map]
  refine Nat.le_trans (List.length_filter_le _ _) ?_
  simp
theorem orb_mem {M : Mach} {n : Nat} {o : List Nat} (h : o ∈ orbs M n) : o.length ≤ M.length ∧ ∀ k ∈ o, k < M.length := by
  unfold orbs at h
  obtain ⟨k, _, rfl⟩ := List.mem_map.mp h
  refine ⟨Nat.le_trans (List.length_filter_le _ _) (by simp), fun j hj => (mem_orbit.mp hj).1⟩
theorem orbs_ok {M : Mach} (h : M.length ≤ 1000) : (orbs M M.length).length < 2 ^ 24 ∧ ∀ a ∈ orbs M M.length, a.length < 2 ^ 24 ∧ ∀ b ∈ a, True := by
  have := orbs_len M M.length
  refine ⟨by omega, fun a ha => ⟨?_, fun _ _ => trivial⟩⟩
  have := (orb_mem ha).1
  omega
theorem orbs_pos {M : Mach} (h : 0 < M.length) : (orbs M M.length)[0]? ≠ none := by
  have : orbitOf M 0 ∈ orbs M M.length := by
    unfold orbs
    exact List.mem_map.mpr ⟨0, List.mem_filter.mpr ⟨List.mem_range.mpr h, root_iff.mpr fun _ h => absurd h (Nat.not_lt_zero _)⟩, rfl⟩
  cases q : orbs M M.length with
  | nil => rw [q] at this; cases this
  | cons a r => simp
def m_turn : MS := msSeq (msSet 5 (mCall (noE f_law_gsteady) [mVar 4]))
    (msSeq (msSet 6 (mCall (noE f_law_gcut) [mVar 4]))
    (msSeq (msFor (miRng1 (mC (.int 2))) (gN 7) (msSeq (msSet 8 (mCall (noE f_steady) [mVar 4]))
    (msSeq (msSet 9 (mCall (noE f_cut_orbits) [mVar 4]))
    (msSeq (msIf (mtOr (mtNot (mtVal (mCall (noE (f_law_gsame 8)) [mVar 8, mVar 5]))) (mtNot (mtVal (mCall (noE (f_law_gsame 8)) [mVar 9, mCall (noE f_law_gorbits) [mVar 6]])))) (msRet (mC (.bl false))) (msNx))
    (msSeq (msExp (mMeth "list" tAppend (mVar 8) [mC (.str (Str.ofString "q"))]))
    (msExp (mMeth "list" tAppend (mOp oGet (mVar 9) (mC (.int 0))) [mC (.int 5)])))))))
    (msFor (miSeq (mCall (noE f_law_gorbits) [mVar 6])) (gN 10) (msSeq (msSet 11 (mCall bList [mVar 10]))
    (msSeq (msFor (miRng1 (mC (.int 2))) (gN 7) (msSeq (msSet 12 (mCall (noE f_cut_gates) [mVar 4, mVar 11]))
    (msSeq (msIf (mtNot (mtVal (mCall (noE (f_law_gsame 8)) [mVar 12, mCall (noE f_law_ggates) [mVar 6, mVar 10]]))) (msRet (mC (.bl false))) (msNx))
    (msExp (mMeth "list" tAppend (mVar 12) [mC (.int 3)])))))
    (msSeq (msIf (mtNot (mtVal (mCall (noE (f_law_gsame 8)) [mCall (noE f_is_cut_even) [mVar 4, mVar 11], mCall (noE f_law_gis_even) [mVar 6, mVar 10]]))) (msRet (mC (.bl false))) (msNx))
    (msIf (mtVal (mOp oNe (mVar 11) (mVar 10))) (msRet (mC (.bl false))) (msNx))))))))
theorem turn_ok {N : Men → Mst → Prop} {R : Dv → Mst → Prop} {C B : Men → Mst → Prop} {d0 d1 d3 : Dv} {x2 x5 x6 x7 x8 x9 x10 x11 x12 : Option Dv} (wf : Wf M) (so : Sok M) (sm : Sml M) (sr : Srt M) (hsl : ∀ r ∈ M, r.2.length < 60) (hM : M.length ≤ 1000) (hpos : 0 < M.length) (hne : endsOf M ≠ [])
    (fin : ∀ s' y5 y6 y7 y8 y9 y10 y11 y12, Fr [] s s' → N [some d0, some d1, x2, some d3, some (mD M), y5, y6, y7, y8, y9, y10, y11, y12] s') :
    (m_turn [some d0, some d1, x2, some d3, some (mD M), x5, x6, x7, x8, x9, x10, x11, x12] s).to N R C B := by
  unfold m_turn
  simp only [w_seq, w_set, w_call, w_argsS, w_args0, vS, v0, to_ok, w_noE]
  refine gsteady_ok so sm sr hsl hM hne fun n5 s1 f1 hn5 hs1 => ?_
  simp only [List.set_cons_succ, List.set_cons_zero, vS, v0, to_ok]
  refine gcut_ok so sm sr hsl hM hne fun s2 f2 => ?_
  simp only [List.set_cons_succ, List.set_cons_zero, w_for, w_irng1, mC_eq, to_ok, toI_int]
  have F2 : Fr [] s s2 := f1.trans f2
  have hso := steady_sok so
  have hstl : (steadyV M).length < 2 ^ 24 := by
    unfold steadyV steadyP
    rw [List.length_map]
    cases q : endsOf M with
    | nil => exact absurd q hne
    | cons l r =>
      obtain ⟨r', hr', el⟩ := ends_sub (M := M) (m := l) (by rw [q]; simp)
      refine Nat.lt_of_le_of_lt (List.length_filter_le _ _) ?_
      rw [el]; exact sm r' hr'
  have hdue : ∀ {t}, Fr [] s2 t → SL.rep noP t (.loc n5) (steadyV M) := fun g => sl_rep id ((f2.trans g).get hs1 (by simp)) hso
  have wfC : Wf (cutM M) := cut_wf wf
  have soC : Sok (cutM M) := cut_sok so
  have smC : Sml (cutM M) := cut_sml sm
  have lenC : (cutM M).length = M.length := cut_len
  have hokO := orbs_ok (M := cutM M) (by omega)
  have hposO := orbs_pos (M := cutM M) (by omega)
  rw [lenC] at hokO hposO
  refine ⟨by decide, ?_⟩
  rw [show (2 : Int).toNat = 2 from rfl, rng0]
  refine for_map (List.range 2) nD (fun i σ s' => ∃ y7 y8 y9 y10 y11 y12, σ = [some d0, some d1, x2, some d3, some (mD M), some (.loc n5), some (mD (cutM M)), y7, y8, y9, y10, y11, y12] ∧ Fr [] s2 s')
    ⟨_, _, _, _, _, _, rfl, .refl⟩ (fun _ _ _ _ => trivial) ?_ ?_
  · rintro j b σ t1 hb' ⟨y7, y8, y9, y10, y11, y12, rfl, g1⟩
    simp only [w_gN, List.set_cons_succ, List.set_cons_zero, w_seq, w_set, w_call, w_argsS, w_args0, vS, v0, to_ok, w_noE]
    refine steady_ok so sm hM hne fun n8 t2 g2 hn8 hs8 => ?_
    try simp only [List.set_cons_succ, List.set_cons_zero, vS, v0, to_ok]
    refine cut_orbits_ok wf so sm hM hne fun d9 t3 g3 hd9 => ?_
    simp only [List.set_cons_succ, List.set_cons_zero, w_if, w_tor, w_tnot, w_tval, w_call, w_argsS, w_args0, vS, v0, to_ok, w_noE]
    refine same_sl8 _ _ _ _ _ _ _ ⟨hstl, fun _ _ => trivial⟩ (sl_rep (P := noP) id (g3.get hs8 (by simp)) hso) (hdue (g1.trans (g2.trans g3))) fun t4 g4 => ?_
    simp only [toB_bl, Bool.not_true, Bool.false_eq_true, if_false, vS, v0, to_ok]
    refine gorbits_ok wfC (by omega) fun d10 t5 g5 hd10 => ?_
    rw [lenC] at hd10
    refine same_nll _ _ _ _ _ _ _ hokO (NLL.fr0 hd9 (g4.trans g5)) hd10 fun t6 g6 => ?_
    have g36 : Fr [] t3 t6 := g4.trans (g5.trans g6)
    simp only [toB_bl, Bool.not_true, Bool.false_eq_true, if_false, w_nx, w_exp, w_meth, w_op, w_argsS, w_args0, vS, v0, mC_eq, to_ok]
    have hs86 := (g3.trans g36).get hs8 (by simp)
    refine ⟨tyQ_lst hs86, ?_⟩
    rw [tAppend_lst hs86 (by rw [List.length_map]; exact hstl)]
    simp only [to_ok]
    have hsl2 := g1.1
    have hn8' : t1.length ≤ n8 := hn8
    have g7 : Fr [] s2 (t6.set n8 (.lst ((steadyV M).map .str ++ [.str (Str.ofString "q")]))) := (g1.trans (g2.trans (g3.trans g36))).put (.inr (by omega))
    have fx : Fr [n8] t6 (t6.set n8 (.lst ((steadyV M).map .str ++ [.str (Str.ofString "q")]))) := Fr.refl.put (.inl (by simp))
    have hn82 : n8 < t2.length := lt_of hs8
    obtain ⟨n9, fs, rfl, hn9, hfs, hfa⟩ := NLL.fr (NLL.fr0 hd9 g36) fx (by simp; exact hn82)
    generalize (t6.set n8 (.lst ((steadyV M).map .str ++ [.str (Str.ofString "q")]))) = t7 at g7 hfs hfa ⊢
    obtain ⟨o0, ho0⟩ := Option.ne_none_iff_exists'.mp hposO
    obtain ⟨e0, he0, hr0⟩ := hfa.get' ho0
    obtain ⟨n0, rfl, hn0, hs0⟩ := nl_iff.mp hr0
    rw [show oGet (.loc n9) (.int 0) t7 = .ok (.loc n0) t7 from oGet_lst (b := 0) hfs he0]
    simp only [to_ok]
    refine ⟨tyQ_lst hs0, ?_⟩
    have ho0l : o0.length < 2 ^ 24 := (hokO.2 o0 (List.mem_of_getElem? ho0)).1
    rw [tAppend_lst hs0 (by rw [List.length_map]; exact ho0l)]
    simp only [to_ok]
    have := g2.1
    exact ⟨_, _, _, _, _, _, rfl, g7.put (.inr (by omega))⟩
  · rintro σ t1 ⟨y7, y8, y9, y10, y11, y12, rfl, g1⟩
    simp only [w_iseq, w_call, w_argsS, w_args0, vS, v0, to_ok, w_noE]
    refine gorbits_ok wfC (by omega) fun d10 sd fd hdd => ?_
    rw [lenC] at hdd
    obtain ⟨nd, ds, rfl, _, hds, hda⟩ := NLL.toNo hdd
    rw [itSeq_lst hds]
    simp only [to_ok]
    have Gd : Fr [] s2 sd := g1.trans fd
    refine for_by (fun i σ s' => ∃ y7 y8 y9 y10 y11 y12, σ = [some d0, some d1, x2, some d3, some (mD M), some (.loc n5), some (mD (cutM M)), y7, y8, y9, y10, y11, y12] ∧ Fr [] sd s')
      ⟨_, _, _, _, _, _, rfl, .refl⟩ (fun i σ s' ⟨_, _, _, _, _, _, _, g⟩ => ⟨g.get hds (by simp), trivial⟩) ?_ ?_
    · rintro i x σ t2 hx ⟨y7, y8, y9, y10, y11, y12, rfl, g2⟩
      obtain ⟨o, ho, hro⟩ := hda.get hx
      have hom := orb_mem (List.mem_of_getElem? ho)
      rw [lenC] at hom
      obtain ⟨n8', rfl, _, ho8⟩ := nl_iff.mp hro
      have hol : o.length < 2 ^ 24 := by omega
      have e8 : ∀ {t}, Fr [] sd t → t[n8']? = some (.lst (o.map nD)) := fun g => g.get ho8 (by simp)
      have hokg : (o.filter (gateB (cutM M) o)).length < 2 ^ 24 ∧ ∀ a ∈ o.filter (gateB (cutM M) o), True := ⟨Nat.lt_of_le_of_lt (List.length_filter_le _ _) hol, fun _ _ => trivial⟩
      have homC : ∀ k ∈ o, k < (cutM M).length := by rw [lenC]; exact hom.2
      simp only [w_gN, List.set_cons_succ, List.set_cons_zero, w_seq, w_set, w_call, w_argsS, w_args0, vS, v0, to_ok]
      rw [bList_seq (seqOf_lst (e8 g2))]
      simp only [to_ok, List.set_cons_succ, List.set_cons_zero, vS, v0, w_noE, w_for, w_irng1, mC_eq, toI_int]
      generalize h9' : t2.length = n9
      have g3 : Fr [] sd (t2 ++ [MO.lst (o.map nD)]) := g2.trans .app
      have e9 : (t2 ++ [MO.lst (o.map nD)])[n9]? = some (.lst (o.map nD)) := by rw [← h9']; simp
      generalize (t2 ++ [MO.lst (o.map nD)]) = t3 at g3 e9
      have h93 := lt_of e9
      refine ⟨by decide, ?_⟩
      rw [show (2 : Int).toNat = 2 from rfl, rng0]
      refine for_map (List.range 2) nD (fun i σ s' => ∃ y7 y8 y9 y12, σ = [some d0, some d1, x2, some d3, some (mD M), some (.loc n5), some (mD (cutM M)), y7, y8, y9, some (.loc n8'), some (.loc n9), y12] ∧ Fr [] t3 s')
        ⟨_, _, _, _, rfl, .refl⟩ (fun _ _ _ _ => trivial) ?_ ?_
      · rintro j b σ t4 hb' ⟨y7, y8, y9, y12, rfl, g4⟩
        simp only [w_gN, List.set_cons_succ, List.set_cons_zero, w_seq, w_set, w_call, w_argsS, w_args0, vS, v0, to_ok, w_noE]
        refine cut_gates_ok (g4.get e9 (by simp)) hom.2 so sm hM hne hol fun d12 t5 g5 hd12 => ?_
        simp only [List.set_cons_succ, List.set_cons_zero, w_if, w_tnot, w_tval, w_call, w_argsS, w_args0, vS, v0, to_ok, w_noE]
        refine ggates_ok (e8 (g3.trans (g4.trans g5))) homC smC soC hol fun d13 t6 g6 hd13 => ?_
        refine same_nl _ _ _ _ _ _ _ hokg (NL.fr0 hd12 g6) hd13 fun t7 g7 => ?_
        simp only [toB_bl, Bool.not_true, Bool.false_eq_true, if_false, w_nx, w_exp, w_meth, w_argsS, w_args0, vS, v0, mC_eq, to_ok]
        obtain ⟨n12, rfl, hn12, hs12⟩ := nl_iff.mp (NL.fr0 (NL.fr0 hd12 g6) g7)
        refine ⟨tyQ_lst hs12, ?_⟩
        rw [tAppend_lst hs12 (by rw [List.length_map]; exact hokg.1)]
        simp only [to_ok]
        have := g4.1
        exact ⟨_, _, _, _, rfl, (g4.trans (g5.trans (g6.trans g7))).put (.inr (by omega))⟩
      · rintro σ t4 ⟨y7, y8, y9, y12, rfl, g4⟩
        simp only [w_if, w_tnot, w_tval, w_call, w_argsS, w_args0, vS, v0, to_ok, w_noE]
        refine is_cut_even_ok (g4.get e9 (by simp)) hom.2 so sm hM hne hol fun t5 g5 => ?_
        refine gis_even_ok (e8 (g3.trans (g4.trans g5))) homC smC soC hol fun t6 g6 => ?_
        refine same_bl noP noP _ _ _ (evenV (cutM M) o) _ trivial rfl rfl fun t7 g7 => ?_
        have G7 := g4.trans (g5.trans (g6.trans g7))
        simp only [toB_bl, Bool.not_true, Bool.false_eq_true, if_false, w_nx, w_op, vS, v0, to_ok]
        rw [oNe_enc NL (P := noP) (P' := noP) (nl_iff.mpr ⟨_, rfl, id, G7.get e9 (by simp)⟩) (nl_iff.mpr ⟨_, rfl, id, e8 (g3.trans G7)⟩) (by decide)]
        simp only [to_ok, toB_bl, decide_true, Bool.not_true, Bool.false_eq_true, if_false, w_nx]
        exact ⟨_, _, _, _, _, _, rfl, g3.trans G7⟩
    · rintro σ t2 ⟨y7, y8, y9, y10, y11, y12, rfl, g2⟩
      exact fin _ _ _ _ _ _ _ _ _ (F2.trans (Gd.trans g2))
theorem law_ok (ns : List Int) (hl : ns.length ≤ 63) : (f_law [.clst (ns.map .int)] []).to fun d _ => d = .bl true := by
  unfold f_law
  refine fun_at [some (.clst (ns.map .int)), none, none, none, none, none, none, none, none, none, none, none, none] rfl rfl ?_
  unfold m_law
  change (((msSeq (msSet 1 (mCall (noE f_law_gpen) [mVar 0]))
    (msSeq (msIf (mtNot (mtVal (mCall (noE f_law_gring_right) [mVar 1, mOp oGet (mCall (noE f_law_gsigns) [mVar 1, mC (.int 1)]) (mC (.int 0))]))) (msRet (mC (.bl false))) (msNx))
    (msSeq (msFor (miRng1 (mC (.int 4))) (gN 2) (msSeq (msSet 3 (mCall (noE f_law_gsigns) [mVar 1, mOp oAdd (mC (.int 1)) (mCall (noE f_law_gdraw) [mVar 1, mC (.int 6)])]))
    (msSeq (msSet 4 (mCall (noE f_law_gmachine) [mVar 1, mC (.int 9), mVar 3]))
    (msSeq (msIf (mtVal (mOp oEq (mCall (noE f_law_gdraw) [mVar 1, mC (.int 2)]) (mC (.int 0)))) (msSet 4 (mCall (noE f_law_galike) [mVar 1, mVar 4])) (msNx)) m_turn))))
    (msRet (mC (.bl true)))))) _ _).to _ _ _ _)
  simp only [w_seq, w_set, w_call, w_argsS, w_args0, vS, v0, to_ok, w_noE]
  refine gpen_ok (by omega) fun s0 p w f0 h0 hp0 hw0 => ?_
  simp only [List.set_cons_succ, List.set_cons_zero, w_if, w_tnot, w_tval, w_call, w_argsS, w_args0, w_op, vS, v0, mC_eq, to_ok, w_noE]
  refine gsigns_ok (many := 1) h0 (by decide) (by decide) (by omega) fun s1 n1 sg f1 h1 hn1 hs1 hsl hso => ?_
  obtain ⟨x, rfl⟩ := List.length_eq_one_iff.mp hsl
  rw [show oGet (.loc n1) (.int 0) s1 = .ok (.str x) s1 from oGet_lst (b := 0) hs1 rfl]
  simp only [to_ok]
  refine ring_right_ok h1 (hso x (by simp)) (by omega) fun s2 f2 h2 => ?_
  simp only [toB_bl, Bool.not_true, Bool.false_eq_true, if_false, w_nx, w_for, w_irng1, mC_eq, to_ok, toI_int]
  refine ⟨by decide, ?_⟩
  rw [show (4 : Int).toNat = 4 from rfl, rng0]
  refine for_map (List.range 4) nD (fun i σ s' => ∃ x2 x3 x4 x5 x6 x7 x8 x9 x10 x11 x12, σ = [some (.clst (ns.map .int)), some (.loc p), x2, x3, x4, x5, x6, x7, x8, x9, x10, x11, x12] ∧ PenR p w (25 + 6000 * i) s')
    ⟨_, _, _, _, _, _, _, _, _, _, _, rfl, h2.le (by omega)⟩ (fun _ _ _ _ => trivial) ?_ ?_
  rotate_left
  · rintro σ s6 ⟨x2, x3, x4, x5, x6, x7, x8, x9, x10, x11, x12, rfl, h⟩
    simp only [w_ret, mC_eq, to_ok]
  rintro i a σ s6 ha ⟨x2, x3, x4, x5, x6, x7, x8, x9, x10, x11, x12, rfl, h⟩
  obtain ⟨rfl, ha⟩ := range_at ha
  simp only [w_gN, List.set_cons_succ, List.set_cons_zero, w_seq, w_set, w_call, w_argsS, w_args0, w_op, vS, v0, mC_eq, to_ok, w_noE]
  refine gdraw_ok (many := 6) h (by decide) (by decide) (by omega) fun s7 r7 f7 h7 hr7 => ?_
  simp only [nD, oAdd_int, to_ok]
  rw [show (1 : Int) + (r7 : Int) = ((1 + r7 : Nat) : Int) by omega]
  refine gsigns_nd_ok (many := 1 + r7) h7 (by omega) (by omega) (by omega) fun s8 n8 sg f8 h8 hn8 hs8 hsl hso hnd => ?_
  have hnd := hnd (by omega)
  have h7l := h7.lt
  refine gmachine_ok (most := 9) h8 hs8 (by omega) (by omega) (by decide) (by decide) (by omega) fun s9 M1 M0 g od M f9 h9 hM0 wf0 hsg0 hM1 T => ?_
  have hG : GM (srtS sg) M := gm_of T (by
    rcases hM1 with rfl | rfl
    · exact hsg0
    · exact endIt_sgn hsg0) (by
    rcases hM1 with rfl | rfl
    · exact hM0
    · rw [endIt_len]; exact hM0)
  have hsl' : (srtS sg).length = sg.length := (srtS_perm sg).length_eq
  have go : ∀ (M : Mach) (t : Mst) (c' : Nat), GM (srtS sg) M → PenR p w c' t → c' ≤ 25 + 6000 * (a + 1) →
      (m_turn [some (.clst (ns.map .int)), some (.loc p), some (.int (a : Int)), some (.loc n8), some (mD M), x5, x6, x7, x8, x9, x10, x11, x12] t).to (fun σ s' => ∃ x2 x3 x4 x5 x6 x7 x8 x9 x10 x11 x12, σ = [some (.clst (ns.map .int)), some (.loc p), x2, x3, x4, x5, x6, x7, x8, x9, x10, x11, x12] ∧ PenR p w (25 + 6000 * (a + 1)) s') (fun d _ => d = .bl true) (fun σ s' => ∃ x2 x3 x4 x5 x6 x7 x8 x9 x10 x11 x12, σ = [some (.clst (ns.map .int)), some (.loc p), x2, x3, x4, x5, x6, x7, x8, x9, x10, x11, x12] ∧ PenR p w (25 + 6000 * (a + 1)) s') (fun σ s => (msRet (mC (.bl true)) σ s).to (fun _ s => Dv.non = .bl true) (fun d _ => d = .bl true) (fun _ _ => False) (fun _ _ => False)) := by
    intro M t c' G hp hc'
    have so : Sok M := sgn_sok G.sgn fun x hx => hso x ((srtS_perm sg).mem_iff.mp hx)
    have hle := G.le
    refine turn_ok G.wf so (sgn_sml G.sgn (by omega)) (srt_of G.sgn hnd) (fun r hr => ?_) (by omega) G.pos G.ends fun s' _ _ _ _ _ _ _ _ f => ⟨_, _, _, _, _, _, _, _, _, _, _, rfl, (hp.fr0 f).le hc'⟩
    have := (G.sgn r hr).length_le
    rw [List.length_map] at this
    omega
  simp only [w_if, w_tval, w_op, w_call, w_argsS, w_args0, vS, v0, mC_eq, to_ok, w_noE]
  refine gdraw_ok (many := 2) h9 (by decide) (by decide) (by omega) fun s10 r10 f10 h10 hr10 => ?_
  simp only [nD, oEq_int, to_ok, toB_bl]
  by_cases he : (r10 : Int) = 0
  · simp only [he, decide_true, if_true, w_set, w_call, w_argsS, w_args0, vS, v0, to_ok, w_noE]
    refine galike_ok h10 hG (by omega) (by omega) fun s11 M' f11 h11 hG' => ?_
    exact go M' s11 _ hG' h11 (by omega)
  · simp only [he, decide_false, Bool.false_eq_true, if_false, w_nx]
    exact go M s10 _ hG h10 (by omega)
theorem law_true (ns : List Int) (hl : ns.length ≤ 63) (hb : ∀ z ∈ ns, PySem.Builtin.Int.intBits z ≤ 1048576) : ∃ s, Mid.f_law [.clst (ns.map Mid.Dv.int)] [] = .ok (.bl true) s := by
  obtain ⟨d, s, e, rfl⟩ := to_ex (law_ok ns hl)
  exact ⟨s, e⟩
end
end Mid
open PySem PySem.W PyProof.Rows
set_option maxHeartbeats 0 in
theorem PySem.Challenge.cw_soleway_k81_steady_signs_and_cuts_holds : PySem.Challenge.rw_soleway_k81_steady_signs_and_cuts.Holds := by
  w_on; o_law; k_head; (case hw => w_witness2)
  k_fill
  refine L2.walk_ofB (l := PySem.Challenge.rw_soleway_k81_steady_signs_and_cuts) (n := 63) (k := 10) (x := "script") (CX := fun _ => L2.CX0) (sp := fun w => Mid.spF0 _ (fun _ => 0) 1 Mid.f_law) rfl (by decide) rfl ⟨rfl, by decide, by decide⟩ (fun w h Y => PySem.W.kIn_of Y) ?F (fun w H a ns hl hb hO hS => Mid.law_end hO hS (Mid.law_true ns hl hb)) (fun _ _ _ _ _ h => h)
  case F =>
    intro w mg fa h KX G hmg
    refine' Mid.Tk81.all_ok _ KX G hmg ?a0 ?l0 ?c0 ?k0 ?a1 ?l1 ?c1 ?k1 ?a2 ?l2 ?c2 ?k2 ?a3 ?l3 ?c3 ?k3 ?a4 ?l4 ?c4 ?k4 ?a5 ?l5 ?c5 ?k5 ?a6 ?l6 ?c6 ?k6 ?a7 ?l7 ?c7 ?k7 ?a8 ?l8 ?c8 ?k8 ?a9 ?l9 ?c9 ?k9 ?a10 ?l10 ?c10 ?k10 ?a11 ?l11 ?c11 ?k11 ?a12 ?l12 ?c12 ?k12 ?a13 ?l13 ?c13 ?k13 ?a14 ?l14 ?c14 ?k14 ?a15 ?l15 ?c15 ?k15 ?a16 ?l16 ?c16 ?k16 ?a17 ?l17 ?c17 ?k17 ?a18 ?l18 ?c18 ?k18 ?a19 ?l19 ?c19 ?k19 ?a20 ?l20 ?c20 ?k20 ?a21 ?l21 ?c21 ?k21 ?a22 ?l22 ?c22 ?k22 ?a23 ?l23 ?c23 ?k23 ?a24 ?l24 ?c24 ?k24 ?a25 ?l25 ?c25 ?k25 ?a26 ?l26 ?c26 ?k26 ?a27 ?l27 ?c27 ?k27 ?a28 ?l28 ?c28 ?k28 ?z_all ?z_any ?z_bool ?z_dict ?z_int ?z_isinstance ?z_len ?z_list ?z_range ?z_sorted ?z_str ?z_tuple ?z_zip
    (case a0 => k_is); (case l0 => k_is); (case c0 => k_is); (case k0 => k_is); (case a1 => k_is); (case l1 => k_is); (case c1 => k_is); (case k1 => k_is); (case a2 => k_is); (case l2 => k_is); (case c2 => k_is); (case k2 => k_is); (case a3 => k_is); (case l3 => k_is); (case c3 => k_is); (case k3 => k_is); (case a4 => k_is); (case l4 => k_is); (case c4 => k_is); (case k4 => k_is); (case a5 => k_is); (case l5 => k_is); (case c5 => k_is); (case k5 => k_is); (case a6 => k_is); (case l6 => k_is); (case c6 => k_is); (case k6 => k_is); (case a7 => k_is); (case l7 => k_is); (case c7 => k_is); (case k7 => k_is); (case a8 => k_is); (case l8 => k_is); (case c8 => k_is); (case k8 => k_is); (case a9 => k_is); (case l9 => k_is); (case c9 => k_is); (case k9 => k_is); (case a10 => k_is); (case l10 => k_is); (case c10 => k_is); (case k10 => k_is); (case a11 => k_is); (case l11 => k_is); (case c11 => k_is); (case k11 => k_is); (case a12 => k_is); (case l12 => k_is); (case c12 => k_is); (case k12 => k_is); (case a13 => k_is); (case l13 => k_is); (case c13 => k_is); (case k13 => k_is); (case a14 => k_is); (case l14 => k_is); (case c14 => k_is); (case k14 => k_is); (case a15 => k_is); (case l15 => k_is); (case c15 => k_is); (case k15 => k_is); (case a16 => k_is); (case l16 => k_is); (case c16 => k_is); (case k16 => k_is); (case a17 => k_is); (case l17 => k_is); (case c17 => k_is); (case k17 => k_is); (case a18 => k_is); (case l18 => k_is); (case c18 => k_is); (case k18 => k_is); (case a19 => k_is); (case l19 => k_is); (case c19 => k_is); (case k19 => k_is); (case a20 => k_is); (case l20 => k_is); (case c20 => k_is); (case k20 => k_is); (case a21 => k_is); (case l21 => k_is); (case c21 => k_is); (case k21 => k_is); (case a22 => k_is); (case l22 => k_is); (case c22 => k_is); (case k22 => k_is); (case a23 => k_is); (case l23 => k_is); (case c23 => k_is); (case k23 => k_is); (case a24 => k_is); (case l24 => k_is); (case c24 => k_is); (case k24 => k_is); (case a25 => k_is); (case l25 => k_is); (case c25 => k_is); (case k25 => k_is); (case a26 => k_is); (case l26 => k_is); (case c26 => k_is); (case k26 => k_is); (case a27 => k_is); (case l27 => k_is); (case c27 => k_is); (case k27 => k_is); (case a28 => k_is); (case l28 => k_is); (case c28 => k_is); (case k28 => k_is); (case z_all => k_is); (case z_any => k_is); (case z_bool => k_is); (case z_dict => k_is); (case z_int => k_is); (case z_isinstance => k_is); (case z_len => k_is); (case z_list => k_is); (case z_range => k_is); (case z_sorted => k_is); (case z_str => k_is); (case z_tuple => k_is); (case z_zip => k_is)
