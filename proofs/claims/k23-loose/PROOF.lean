import PyProof.Rows.All
import Wide.All
import OpenK.AllK
import Wide.FinOn
import HandS.ForMost
import HandS.ForExc
import HandS.Style
import HandS.IsInst
import HandS.Wide
import HandS.Flow
import HandS.HeadHook1
import HandS.HotCalls
import HandS.ExcIs
import HandS.HeadHook2
import HandS.HeadEnd
import HandS.Head2
import HandS.WideBits
import HandS.TupAny
import HandS.Comp
import HandS.Iter
import HandS.Deep
import HandS.Dict
import HandS.Text
import HandS.Steps
import PyProof.EqKinds
import PyProof.NeKinds
import HandS.CallSlots
import HandS.ExcInit
import HandS.ExcField
import HandS.Small
import KE.GoesMore
import KE.GoesEnum
import PyProof.StrOps2
import KE.SortData
import HandS.Ends
import PyProof.ReprReads
import PyProof.ReprRoads
import PyProof.ReprLen
import PyProof.StrLawsRepr
import HandS.Rev
import PyProof.ListStr
import PySem.Challenge.RW_scaffold_k23_loose_rests_on
import HandS.Head0
import HandS.Head1
/-! Core: data, slots, the meaning of a piece of Python as a partial function over data. No program, no heap here. -/
namespace Py
open PySem

/-- data -/
inductive D where
  | non | bl (b : Bool) | int (i : Int) | str (x : Str)
  | tup (ds : List D) | lst (ds : List D) | scr (ds : List D)
  | dic (ks : List (Sum Int Str)) (ds : List D)
  | obj (c : Str) (fs : List Str) (ds : List D)
  | exc (c : Str) (fs : List Str) (ds : List D)

/-- kinds of things that own what is within them -/
inductive Kd where
  | ls | tp | dc (ks : List (Sum Int Str)) | ob (c : Str) (fs : List Str)
@[simp] def Kd.mk : Kd → List D → D
  | .ls, ds => .lst ds
  | .tp, ds => .tup ds
  | .dc ks, ds => .dic ks ds
  | .ob c fs, ds => .obj c fs ds
/-- what a slot holds: nothing known; shared data; a list or dict that it alone owns; a thing that it alone owns, with slots within; a thing that another one owns, as it stands -/
inductive Sl where
  | no | sh (d : D) | ow (d : D) | nd (k : Kd) (xs : List Sl) | bw (x : Sl)

/-- as data, where what is within is shared -/
@[simp] def Sl.get : Sl → Option D
  | .sh d => some d
  | .ow d => some d
  | .bw x => Sl.get x
  | _ => none
mutual
/-- as a shared value -/
@[simp] def Sl.val : Sl → Option D
  | .sh d => some d
  | .ow d => some d
  | .nd k xs => (Sl.vals xs).map k.mk
  | _ => none
@[simp] def Sl.vals : List Sl → Option (List D)
  | [] => some []
  | x :: xs => match Sl.val x, Sl.vals xs with
    | some d, some ds => some (d :: ds)
    | _, _ => none
end
/-- it alone owns it -/
@[simp] def Sl.owns : Sl → Bool
  | .ow _ => true
  | .nd _ _ => true
  | _ => false
mutual
/-- nothing borrowed in it -/
@[simp] def Sl.nb : Sl → Bool
  | .nd _ xs => Sl.nbs xs
  | .bw _ => false
  | _ => true
@[simp] def Sl.nbs : List Sl → Bool
  | [] => true
  | x :: xs => Sl.nb x && Sl.nbs xs
end

abbrev Env := List Sl

/-- an exception: its class by name, its own attributes -/
structure Exc where
  cls : Str
  fs : List (Str × D)

inductive Out (α : Type) where
  | ok (a : α) (r : Env)
  | ex (e : Exc) (r : Env)
abbrev Out.map {α β : Type} (f : α → β) : Out α → Out β
  | .ok a r => .ok (f a) r
  | .ex e r => .ex e r

/-- the meaning of an expression; none: nothing is said -/
abbrev M (α : Type) := Env → Option (Out α)
abbrev E := M Sl
/-- an operand: a slot by reference, or a value -/
inductive Arg where
  | r (i : Nat)
  | v (s : Sl)
abbrev A := M Arg
abbrev As := M (List Arg)
abbrev T := M Bool

@[simp] def M.pure {α : Type} (a : α) : M α := fun r => some (.ok a r)
@[simp] def M.bind {α β : Type} (m : M α) (f : α → M β) : M β := fun r =>
  match m r with
  | none => none
  | some (.ok a r') => f a r'
  | some (.ex e r') => some (.ex e r')
/-- a step that cannot raise, over the slots as they are -/
@[simp] def M.get {α : Type} (f : Env → Option α) : M α := fun r =>
  match f r with
  | none => none
  | some a => some (.ok a r)

@[simp] def Arg.sl (r : Env) : Arg → Sl
  | .r i => (r[i]?).getD .no
  | .v s => s
/-- the data of an operand -/
@[simp] def Arg.dat (r : Env) (a : Arg) : Option D := (a.sl r).get
@[simp] def dats (r : Env) : List Arg → Option (List D)
  | [] => some []
  | a :: as => match a.dat r, dats r as with
    | some d, some ds => some (d :: ds)
    | _, _ => none
/-- the data of an operand that is shared (a fresh thing becomes shared) -/
@[simp] def Arg.shd (r : Env) : Arg → Option D
  | .r i => match r[i]? with
    | some (.sh d) => some d
    | _ => none
  | .v s => s.val
@[simp] def shds (r : Env) : List Arg → Option (List D)
  | [] => some []
  | a :: as => match a.shd r, shds r as with
    | some d, some ds => some (d :: ds)
    | _, _ => none

/-- the greatest length -/
def lim : Nat := 16777216

/-! ### expressions -/
@[simp] def eC (d : D) : E := M.pure (.sh d)
/-- a name as a value: an owned thing becomes shared -/
@[simp] def eVar (i : Nat) : E := fun r => match r[i]? with
  | some (.sh d) => some (.ok (.sh d) r)
  | some (.ow d) => some (.ok (.sh d) (r.set i (.sh d)))
  | some (.nd k xs) => match Sl.vals xs with
    | some ds => some (.ok (.sh (k.mk ds)) (r.set i (.sh (k.mk ds))))
    | none => none
  | some (.bw x) => some (.ok (.bw x) r)
  | _ => none
/-- a name at its end: what it owns goes with it -/
@[simp] def eMov (i : Nat) : E := fun r => match r[i]? with
  | some (.sh d) => some (.ok (.sh d) r)
  | some (.ow d) => some (.ok (.ow d) (r.set i .no))
  | some (.nd k xs) => some (.ok (.nd k xs) (r.set i .no))
  | _ => none
@[simp] def Sl.held? : Sl → Option Unit
  | .no => none
  | _ => some ()
@[simp] def aR (i : Nat) : A := fun r => match (r[i]?).bind Sl.held? with
  | none => none
  | some _ => some (.ok (.r i) r)
@[simp] def aV (e : E) : A := M.bind e fun s => M.pure (.v s)
@[simp] def asN : As := M.pure []
@[simp] def asC (a : A) (as : As) : As := M.bind a fun x => M.bind as fun xs => M.pure (x :: xs)
/-- an operation that reads data: a shared value, or a new list that is owned -/
@[simp] def eOp (as : As) (f : List D → Option Sl) : E := M.bind as fun xs => M.get fun r => (dats r xs).bind f
/-- a tuple, a list of shared things -/
@[simp] def eTup (as : As) : E := M.bind as fun xs => M.get fun r => (shds r xs).bind fun ds => if ds.length ≤ lim then some (.sh (.tup ds)) else none
@[simp] def eLst (as : As) : E := M.bind as fun xs => M.get fun r => (shds r xs).bind fun ds => if ds.length ≤ lim then some (.ow (.lst ds)) else none

/-! ### tests -/
@[simp] def tV (e : E) : T := M.bind e fun s => M.get fun _ => match s with
  | .sh (.bl b) => some b
  | _ => none
@[simp] def tNot (t : T) : T := M.bind t fun b => M.pure (!b)
@[simp] def tAnd (t u : T) : T := M.bind t fun b => if b = true then u else M.pure false
@[simp] def tOr (t u : T) : T := M.bind t fun b => if b = true then M.pure true else u
/-- and, or, not as values -/
@[simp] def eAnd (a b : E) : E := M.bind a fun s => match s with
  | .sh (.bl true) => b
  | .sh (.bl false) => M.pure (.sh (.bl false))
  | _ => fun _ => none
@[simp] def eOr (a b : E) : E := M.bind a fun s => match s with
  | .sh (.bl true) => M.pure (.sh (.bl true))
  | .sh (.bl false) => b
  | _ => fun _ => none
@[simp] def eNot (a : E) : E := M.bind a fun s => match s with
  | .sh (.bl b) => M.pure (.sh (.bl !b))
  | _ => fun _ => none
@[simp] def eIf (t : T) (a b : E) : E := M.bind t fun c => if c = true then a else b

/-! ### functions -/
inductive FOut where
  | ret (s : Sl) (ps : List Sl)
  | ex (e : Exc) (ps : List Sl)
abbrev Fn := List Sl → Option FOut

/-- the state that a slot comes back in -/
@[simp] def Sl.isV : Sl → Bool
  | .sh _ => true
  | .ow _ => true
  | .nd _ xs => Sl.nbs xs
  | _ => false
@[simp] def Sl.back (a b : Sl) : Sl := if a.owns = true then (if b.isV = true then b else .no) else a
@[simp] def Arg.hand (r : Env) : Arg → Sl
  | .r i => (r[i]?).getD .no
  | .v s => s
@[simp] def refs : List Arg → List Nat
  | [] => []
  | .r i :: as => i :: refs as
  | .v _ :: as => refs as
/-- what is lent comes back -/
@[simp] def comeBack (r : Env) : List Arg → List Sl → Env
  | .r i :: as, p :: ps => (comeBack r as ps).set i (((r[i]?).getD .no).back p)
  | .v _ :: as, _ :: ps => comeBack r as ps
  | _, _ => r
@[simp] def eCall (f : Fn) (as : As) : E := M.bind as fun xs r =>
  if (refs xs).Nodup then
    match f (xs.map (Arg.hand r)) with
    | none => none
    | some (.ret s ps) => if s.isV = true then some (.ok s (comeBack r xs ps)) else none
    | some (.ex e ps) => some (.ex e (comeBack r xs ps))
  else none

/-! ### slots that are only looked at meanwhile -/
@[simp] def nbAll : Env → Env → Prop
  | [], [] => True
  | x :: r, y :: r1 => (y.nb = true ∨ y = x) ∧ nbAll r r1
  | _, _ => False
@[simp] def nbEx : Nat → Env → Prop
  | _, [] => True
  | 0, _ :: r => Sl.nbs r = true
  | i + 1, y :: r => y.nb = true ∧ nbEx i r
open Classical in
/-- behind it: slot i is as it was -/
@[simp] noncomputable def backB (r : Env) (i : Nat) (x : Sl) (r1 : Env) : Option Env := if r1[i]? = some (.bw x) ∧ nbAll (r.set i (.bw x)) r1 then some (r1.set i x) else none
open Classical in
@[simp] noncomputable def backS (i : Nat) (x : Sl) (r1 : Env) : Option Env := if r1[i]? = some (.bw x) ∧ nbEx i r1 then some (r1.set i x) else none
@[simp] noncomputable def heldO {α : Type} (ok : α → Bool) (r : Env) (i : Nat) (x : Sl) : Option (Out α) → Option (Out α)
  | some (.ok a r1) => if ok a = true then (backB r i x r1).map (.ok a) else none
  | some (.ex e r1) => (backB r i x r1).map (.ex e)
  | none => none
@[simp] noncomputable def held {α : Type} (ok : α → Bool) (i : Nat) (m : M α) : M α := fun r => match r[i]? with
  | some (.ow d) => heldO ok r i (.ow d) (m (r.set i (.bw (.ow d))))
  | some (.nd k xs) => heldO ok r i (.nd k xs) (m (r.set i (.bw (.nd k xs))))
  | some _ => m r
  | none => none
@[simp] noncomputable def heldE (i : Nat) (m : E) : E := held Sl.isV i m
@[simp] noncomputable def heldT (i : Nat) (m : T) : T := held (fun _ => true) i m

/-! ### statements -/
inductive Flow where
  | nx (r : Env) | bk (r : Env) | ct (r : Env)
  | rt (s : Sl) (r : Env)
  | ex (e : Exc) (r : Env)
abbrev S := Env → Option Flow
@[simp] def sPass : S := fun r => some (.nx r)
@[simp] def sSeq (a b : S) : S := fun r => match a r with
  | some (.nx r') => b r'
  | x => x
@[simp] def sE {α : Type} (m : M α) (k : α → S) : S := fun r => match m r with
  | none => none
  | some (.ok a r') => k a r'
  | some (.ex e r') => some (.ex e r')
@[simp] def sRet (e : E) : S := sE e fun s r => some (.rt s r)
@[simp] def sRetN : S := fun r => some (.rt (.sh .non) r)
@[simp] def sIf (t : T) (a b : S) : S := sE t fun c => if c = true then a else b
@[simp] def sDrop (e : E) : S := sE e fun _ r => some (.nx r)
/-- a target of an assignment -/
abbrev G := Sl → S
@[simp] def gN (i : Nat) : G := fun s r => if i < r.length then some (.nx (r.set i s)) else none
@[simp] def sAsg (e : E) (g : G) : S := sE e g
@[simp] def sBreak : S := fun r => some (.bk r)
@[simp] def sCont : S := fun r => some (.ct r)
@[simp] def sRaise (c : Str) : S := fun r => some (.ex ⟨c, []⟩ r)

@[simp] noncomputable def heldF (i : Nat) (x : Sl) : Option Flow → Option Flow
  | some (.nx r1) => (backS i x r1).map .nx
  | some (.bk r1) => (backS i x r1).map .bk
  | some (.ct r1) => (backS i x r1).map .ct
  | some (.rt s r1) => if s.isV = true then (backS i x r1).map (.rt s) else none
  | some (.ex e r1) => (backS i x r1).map (.ex e)
  | none => none
@[simp] noncomputable def heldS (i : Nat) (m : S) : S := fun r => match r[i]? with
  | some (.ow d) => heldF i (.ow d) (m (r.set i (.bw (.ow d))))
  | some (.nd k xs) => heldF i (.nd k xs) (m (r.set i (.bw (.nd k xs))))
  | _ => none

/-- the parameters that come back -/
@[simp] def mkBack : List Bool → Env → List Sl
  | [], _ => []
  | _ :: bs, [] => .no :: mkBack bs []
  | b :: bs, x :: r => (if b = true then x else .no) :: mkBack bs r
/-- a function's meaning from its body: n slots, the first of them the parameters; mask: which parameters come back -/
@[simp] def mkFn (n : Nat) (mask : List Bool) (body : S) : Fn := fun ps =>
  if ps.length = mask.length then
    match body (ps ++ List.replicate (n - ps.length) .no) with
    | none => none
    | some (.nx r) => some (.ret (.sh .non) (mkBack mask r))
    | some (.rt s r) => some (.ret s (mkBack mask r))
    | some (.ex e r) => some (.ex e (mkBack mask r))
    | some _ => none
  else none

/-- where an index stands -/
@[simp] def ixAt (n : Nat) (i : Int) : Option Nat := if 0 ≤ i then (if i < n then some i.toNat else none) else if -(n : Int) ≤ i then some (i + n).toNat else none
/-- xs[k] = v, where slot i owns the list xs -/
@[simp] def gSet (i : Nat) (mi : A) : G := fun x r => match (r[i]?).bind Sl.get with
  | none => none
  | some _ => match mi r with
    | some (.ok a r1) => match r1[i]?, a.dat r1, x.val with
      | some (.ow (.lst ds)), some (.int z), some d => (ixAt ds.length z).map fun j => .nx (r1.set i (.ow (.lst (ds.set j d))))
      | _, _, _ => none
    | _ => none
/-- a tuple is taken apart -/
@[simp] def gUn : List G → List D → S
  | [], [], r => some (.nx r)
  | g :: gs, d :: ds, r => match g (.sh d) r with
    | some (.nx r1) => gUn gs ds r1
    | _ => none
  | _, _, _ => none
@[simp] def gTup (gs : List G) : G := fun x => match x with
  | .sh (.tup ds) => gUn gs ds
  | _ => fun _ => none
/-- a, b = e, f -/
@[simp] def sPar (i j : Nat) (as : As) : S := sE as fun xs r => match xs with
  | [.v x, .v y] => if i < r.length ∧ j < r.length then some (.nx ((r.set i x).set j y)) else none
  | _ => none

/-! ### loops -/
/-- a while, n turns at most -/
def whileN (t : T) (b : S) : Nat → S
  | 0, _ => none
  | n + 1, r => match t r with
    | none => none
    | some (.ex e r') => some (.ex e r')
    | some (.ok false r') => some (.nx r')
    | some (.ok true r') => match b r' with
      | some (.nx r2) => whileN t b n r2
      | some (.ct r2) => whileN t b n r2
      | some (.bk r2) => some (.nx r2)
      | x => x
open Classical in
/-- a while -/
noncomputable def sWhile (t : T) (b : S) : S := fun r => if h : ∃ n x, whileN t b n r = some x then some (Classical.choose (Classical.choose_spec h)) else none
/-- a for over things that are shared -/
@[simp] def forL (g : G) (b : S) : List D → S
  | [], r => some (.nx r)
  | d :: ds, r => match g (.sh d) r with
    | some (.nx r1) => match b r1 with
      | some (.nx r2) => forL g b ds r2
      | some (.ct r2) => forL g b ds r2
      | some (.bk r2) => some (.nx r2)
      | x => x
    | x => x
/-- a for over a list or tuple that an expression gives -/
def seqOf : D → Option (List D)
  | .lst ds => some ds
  | .tup ds => some ds
  | _ => none
@[simp] def sFor (e : E) (g : G) (b : S) : S := sE e fun x r => match x.get with
  | some (.lst ds) => forL g b ds r
  | _ => none
@[simp] def sForT (e : E) (g : G) (b : S) : S := sE e fun x r => match x.get with
  | some (.tup ds) => forL g b ds r
  | _ => none
/-- the numbers of a range -/
def rangeD (lo : Int) (n : Nat) : List D := (List.range n).map fun (k : Nat) => D.int (lo + (k : Int))
/-- (not by running: the kernel is not to count it out) -/
noncomputable def small62 (i : Int) : Bool := @decide (-(2 ^ 62) ≤ i ∧ i < 2 ^ 62) (Classical.propDecidable _)
theorem small62_iff {i : Int} : small62 i = true ↔ -(2 ^ 62) ≤ i ∧ i < 2 ^ 62 := by
  unfold small62
  exact @decide_eq_true_iff _ (Classical.propDecidable _)
@[simp] noncomputable def sForR1 (a : A) (g : G) (b : S) : S := sE (asC a asN) fun xs r => match dats r xs with
  | some [.int j] => if small62 j = true then forL g b (rangeD 0 j.toNat) r else none
  | _ => none
@[simp] noncomputable def sForR2 (a c : A) (g : G) (b : S) : S := sE (asC a (asC c asN)) fun xs r => match dats r xs with
  | some [.int i, .int j] => if small62 i = true ∧ small62 j = true then forL g b (rangeD i (j - i).toNat) r else none
  | _ => none

/-- try: b, except a class as slot i: su -/
@[simp] def sTry (i : Nat) (sub : Str → Bool) (b : S) (su : Exc → S) : S := fun r => match b r with
  | some (.ex e r1) => if sub e.cls = true then
      if i < r1.length then
        match su e (r1.set i .no) with
        | some (.nx r2) => some (.nx (r2.set i .no))
        | some (.bk r2) => some (.bk (r2.set i .no))
        | some (.ct r2) => some (.ct (r2.set i .no))
        | some (.rt x r2) => some (.rt x (r2.set i .no))
        | _ => none
      else none
    else some (.ex e r1)
  | x => x

/-- what a def tells of the exception it is handed -/
@[simp] def eFl (e : Exc) (b : Bool) : E := match e.fs with
  | [] => eC (.bl b)
  | _ => fun _ => none

theorem whileN_mono (t : T) (b : S) : ∀ (n : Nat) (r : Env) (x : Flow), whileN t b n r = some x → ∀ k, whileN t b (n + k) r = some x
  | 0, _, _, h, _ => by cases h
  | n + 1, r, x, h, k => by
    have e : n + 1 + k = (n + k) + 1 := by omega
    rw [e]
    unfold whileN at h ⊢
    cases q : t r with
    | none =>
      rw [q] at h
      cases h
    | some u =>
      rw [q] at h
      cases u with
      | ex e r' => exact h
      | ok c r' =>
        cases c with
        | false => exact h
        | true =>
          dsimp only at h ⊢
          cases q2 : b r' with
          | none =>
            rw [q2] at h
            cases h
          | some f =>
            rw [q2] at h
            cases f with
            | nx r2 => exact whileN_mono t b n r2 x h k
            | ct r2 => exact whileN_mono t b n r2 x h k
            | bk r2 => exact h
            | rt s r2 => exact h
            | ex e r2 => exact h
theorem whileN_det {t : T} {b : S} {n m : Nat} {r : Env} {x y : Flow} (h1 : whileN t b n r = some x) (h2 : whileN t b m r = some y) : x = y := by
  have a := whileN_mono t b n r x h1 m
  have c := whileN_mono t b m r y h2 n
  rw [Nat.add_comm] at c
  rw [a] at c
  exact Option.some.inj c
theorem sWhile_iff {t : T} {b : S} {r : Env} {x : Flow} : sWhile t b r = some x ↔ ∃ n, whileN t b n r = some x := by
  unfold sWhile
  constructor
  · intro h
    split at h
    · rename_i hh
      refine ⟨Classical.choose hh, ?_⟩
      have := Classical.choose_spec (Classical.choose_spec hh)
      rw [this]
      exact h
    · cases h
  · rintro ⟨n, h⟩
    have hh : ∃ n x, whileN t b n r = some x := ⟨n, x, h⟩
    rw [dif_pos hh]
    have := Classical.choose_spec (Classical.choose_spec hh)
    exact congrArg some (whileN_det this h)
theorem sWhile_stop {t : T} {b : S} {r r1 : Env} (h : t r = some (.ok false r1)) : sWhile t b r = some (.nx r1) := sWhile_iff.mpr ⟨1, by simp only [whileN, h]⟩
theorem sWhile_step {t : T} {b : S} {r r1 r2 : Env} {x : Flow} (h : t r = some (.ok true r1)) (hb : b r1 = some (.nx r2)) (hw : sWhile t b r2 = some x) : sWhile t b r = some x := by
  obtain ⟨n, hn⟩ := sWhile_iff.mp hw
  exact sWhile_iff.mpr ⟨n + 1, by simp only [whileN, h, hb, hn]⟩
end Py

set_option Elab.async false
set_option linter.all false
set_option maxRecDepth 100000
/-! Rep: how data stand in the heap; who owns what. -/
namespace Py
open PySem L2
open Classical

/-- the written part, the classes' addresses by name -/
structure Gm where
  K : PySem.W.Frag
  cl : Str → Option Addr

/-- an exception's object that is known by its class and its own dict -/
def xHO (a C : Addr) (d : Option Addr) : HO := .ext fun h => ∃ (oe : Obj) (vs : Array Value), h.get? a = some oe ∧ oe.cls = .ref C ∧ oe.dict = d ∧ oe.data = .fields vs
mutual
inductive R (g : Gm) (H : Hp) : V → D → Prop
  | non : R g H .non .non
  | bl (b : Bool) : R g H (.bl b) (.bl b)
  | int (i : Int) : R g H (.int i) (.int i)
  | str (x : Str) : R g H (.str x) (.str x)
  | tup {a : Addr} {xs : List V} {ds : List D} : SqT g.K H a xs → RA g H xs ds → R g H (.ref a) (.tup ds)
  | lst {a : Addr} {xs : List V} {ds : List D} : H a = some (.lst xs) → RA g H xs ds → R g H (.ref a) (.lst ds)
  | scr {a : Addr} {xs : List V} {ds : List D} : SqL g.K H a xs → RA g H xs ds → R g H (.ref a) (.scr ds)
  | dic {a : Addr} {ks : List Key} {xs : List V} {ds : List D} : H a = some (.dK (ks.zip xs)) → ks.length = xs.length → RA g H xs ds → R g H (.ref a) (.dic ks ds)
  | obj {a C dx : Addr} {c : Str} {fs : List Str} {xs : List V} {ds : List D} : g.cl c = some C → H a = some (.ins C dx (fs.zip xs)) → fs.length = xs.length → RA g H xs ds → R g H (.ref a) (.obj c fs ds)
  | exc0 {a C : Addr} {c : Str} : g.cl c = some C → H a = some (xHO a C none) → R g H (.ref a) (.exc c [] [])
  | exc {a C q : Addr} {c : Str} {fs : List Str} {xs : List V} {ds : List D} : g.cl c = some C → H a = some (xHO a C (some q)) → H q = some (.xd (fs.zip xs)) → fs.length = xs.length → RA g H xs ds → R g H (.ref a) (.exc c fs ds)
inductive RA (g : Gm) (H : Hp) : List V → List D → Prop
  | nil : RA g H [] []
  | cons {v : V} {vs : List V} {d : D} {ds : List D} : R g H v d → RA g H vs ds → RA g H (v :: vs) (d :: ds)
end

theorem sqT_mono {K : PySem.W.Frag} {H H' : Hp} {a : Addr} {xs : List V} (e : Same H H') (h : SqT K H a xs) : SqT K H' a xs := by
  rcases h with (h | ⟨o, h⟩) | h
  · exact .inl (.inl (e _ _ h))
  · exact .inl (.inr ⟨o, e _ _ h⟩)
  · exact .inr h
section
variable {g : Gm} {H H' : Hp}
mutual
theorem R.mono (e : Same H H') : ∀ {v : V} {d : D}, R g H v d → R g H' v d
  | _, _, .non => .non
  | _, _, .bl b => .bl b
  | _, _, .int i => .int i
  | _, _, .str x => .str x
  | _, _, .tup h r => .tup (sqT_mono e h) (RA.mono e r)
  | _, _, .lst h r => .lst (e _ _ h) (RA.mono e r)
  | _, _, .scr h r => .scr (e.seq h) (RA.mono e r)
  | _, _, .dic h l r => .dic (e _ _ h) l (RA.mono e r)
  | _, _, .obj c h l r => .obj c (e _ _ h) l (RA.mono e r)
  | _, _, .exc0 c h => .exc0 c (e _ _ h)
  | _, _, .exc c h q l r => .exc c (e _ _ h) (e _ _ q) l (RA.mono e r)
theorem RA.mono (e : Same H H') : ∀ {vs : List V} {ds : List D}, RA g H vs ds → RA g H' vs ds
  | _, _, .nil => .nil
  | _, _, .cons r t => .cons (R.mono e r) (RA.mono e t)
end
theorem RA.length : ∀ {vs : List V} {ds : List D}, RA g H vs ds → vs.length = ds.length
  | _, _, .nil => rfl
  | _, _, .cons _ t => by simp [RA.length t]
theorem RA.get : ∀ {vs : List V} {ds : List D} {i : Nat} {d : D}, RA g H vs ds → ds[i]? = some d → ∃ v, vs[i]? = some v ∧ R g H v d
  | _, _, _, _, .nil, e => by simp at e
  | _, _, 0, _, .cons r _, e => by
    simp at e
    subst e
    exact ⟨_, rfl, r⟩
  | _, _, i + 1, d, .cons _ t, e => by
    obtain ⟨v, h1, h2⟩ := RA.get (i := i) (d := d) t (by simpa using e)
    exact ⟨v, by simpa using h1, h2⟩
theorem RA.getV : ∀ {vs : List V} {ds : List D} {i : Nat} {v : V}, RA g H vs ds → vs[i]? = some v → ∃ d, ds[i]? = some d ∧ R g H v d
  | _, _, _, _, .nil, e => by simp at e
  | _, _, 0, _, .cons r _, e => by
    simp at e
    subst e
    exact ⟨_, rfl, r⟩
  | _, _, i + 1, d, .cons _ t, e => by
    obtain ⟨v, h1, h2⟩ := RA.getV (i := i) (v := d) t (by simpa using e)
    exact ⟨v, by simpa using h1, h2⟩
theorem RA.append : ∀ {vs ws : List V} {ds es : List D}, RA g H vs ds → RA g H ws es → RA g H (vs ++ ws) (ds ++ es)
  | _, _, _, _, .nil, s => s
  | _, _, _, _, .cons r t, s => .cons r (RA.append t s)
theorem RA.take : ∀ {vs : List V} {ds : List D} (n : Nat), RA g H vs ds → RA g H (vs.take n) (ds.take n)
  | _, _, 0, _ => .nil
  | _, _, _ + 1, .nil => .nil
  | _, _, n + 1, .cons r t => .cons r (RA.take n t)
theorem RA.drop : ∀ {vs : List V} {ds : List D} (n : Nat), RA g H vs ds → RA g H (vs.drop n) (ds.drop n)
  | _, _, 0, h => h
  | _, _, _ + 1, .nil => .nil
  | _, _, n + 1, .cons _ t => RA.drop n t
theorem RA.set {v : V} {d : D} (h : R g H v d) : ∀ {vs : List V} {ds : List D} (i : Nat), RA g H vs ds → RA g H (vs.set i v) (ds.set i d)
  | _, _, _, .nil => .nil
  | _, _, 0, .cons _ t => .cons h t
  | _, _, i + 1, .cons r t => .cons r (RA.set h i t)
theorem RA.reverse : ∀ {vs : List V} {ds : List D}, RA g H vs ds → RA g H vs.reverse ds.reverse
  | _, _, .nil => .nil
  | _, _, .cons r t => by
    rw [List.reverse_cons, List.reverse_cons]
    exact (RA.reverse t).append (.cons r .nil)
end


/-! ### heaps -/
def Dj (h1 h2 : Hp) : Prop := ∀ a o, h1 a = some o → h2 a = none
def hemp : Hp := fun _ => none
def hor (h1 h2 : Hp) : Hp := fun a => match h1 a with
  | some o => some o
  | none => h2 a
theorem Dj.symm {h1 h2 : Hp} (h : Dj h1 h2) : Dj h2 h1 := fun a o e => by
  cases q : h1 a with
  | none => rfl
  | some u =>
    rw [h a u q] at e
    cases e
theorem Dj.mono {h1 h2 h3 h4 : Hp} (h : Dj h1 h2) (e1 : Same h3 h1) (e2 : Same h4 h2) : Dj h3 h4 := fun a o e => by
  cases q : h4 a with
  | none => rfl
  | some u =>
    have := e2 a u q
    rw [h a o (e1 a o e)] at this
    cases this
theorem Dj.ne {h1 h2 : Hp} (h : Dj h1 h2) {a : Addr} {o u : HO} (e1 : h1 a = some o) (e2 : h2 a = some u) : False := by
  rw [h a o e1] at e2
  cases e2
theorem dj_emp {h : Hp} : Dj hemp h := fun a o e => by cases e
theorem same_emp {h : Hp} : Same hemp h := fun a o e => by cases e
theorem same_rfl {h : Hp} : Same h h := fun _ _ e => e
theorem _root_.L2.Same.tr {h1 h2 h3 : Hp} (e1 : Same h1 h2) (e2 : Same h2 h3) : Same h1 h3 := fun a o e => e2 a o (e1 a o e)
theorem hor_l {h1 h2 : Hp} : Same h1 (hor h1 h2) := fun a o e => by
  unfold hor
  rw [e]
theorem hor_r {h1 h2 : Hp} (d : Dj h1 h2) : Same h2 (hor h1 h2) := fun a o e => by
  unfold hor
  rw [d.symm a o e]
  exact e
theorem hor_cases {h1 h2 : Hp} {a : Addr} {o : HO} (e : hor h1 h2 a = some o) : h1 a = some o ∨ h2 a = some o := by
  unfold hor at e
  cases q : h1 a with
  | some u =>
    rw [q] at e
    exact .inl e
  | none =>
    rw [q] at e
    exact .inr e
theorem hor_same {h1 h2 h3 : Hp} (e1 : Same h1 h3) (e2 : Same h2 h3) : Same (hor h1 h2) h3 := fun a o e => (hor_cases e).elim (e1 a o) (e2 a o)
theorem hor_dj {h1 h2 h3 : Hp} (e1 : Dj h1 h3) (e2 : Dj h2 h3) : Dj (hor h1 h2) h3 := fun a o e => (hor_cases e).elim (e1 a o) (e2 a o)
theorem upd_some {h : Hp} {p a : Addr} {o u : HO} (e : upd h p o a = some u) : (a = p ∧ u = o) ∨ (a ≠ p ∧ h a = some u) := by
  by_cases q : a = p
  · subst q
    rw [upd_same] at e
    exact .inl ⟨rfl, (Option.some.inj e).symm⟩
  · rw [upd_ne q] at e
    exact .inr ⟨q, e⟩
theorem same_upd {H : Hp} {p : Addr} {o : HO} (hp : H p = none) : Same H (upd H p o) := fun b u e => by
  rw [upd_ne (ne_of_none e hp)]
  exact e
theorem same_upd2 {h H : Hp} {p : Addr} {o : HO} (e : Same h H) : Same (upd h p o) (upd H p o) := fun a u z => by
  rcases upd_some z with ⟨rfl, rfl⟩ | ⟨n, z⟩
  · exact upd_same
  · rw [upd_ne n]
    exact e a u z
theorem same_none {h H : Hp} (e : Same h H) {p : Addr} (hp : H p = none) : h p = none := by
  cases q : h p with
  | none => rfl
  | some o =>
    rw [e p o q] at hp
    cases hp
theorem upd_dj {h h2 : Hp} {p : Addr} {o : HO} (d : Dj h h2) (hp : h2 p = none) : Dj (upd h p o) h2 := fun a u z => by
  rcases upd_some z with ⟨rfl, rfl⟩ | ⟨n, z⟩
  · exact hp
  · exact d a u z

/-! ### what stands where -/
/-- a thing whose items are shared -/
def NodeO (g : Gm) (Hs : Hp) (o : HO) : D → Prop
  | .lst ds => ∃ xs, o = .lst xs ∧ RA g Hs xs ds
  | .dic ks ds => ∃ xs, o = .dK (ks.zip xs) ∧ ks.length = xs.length ∧ RA g Hs xs ds
  | _ => False
theorem NodeO.mono {g : Gm} {Hs Hs' : Hp} {o : HO} {d : D} (e : Same Hs Hs') (h : NodeO g Hs o d) : NodeO g Hs' o d := by
  cases d with
  | lst ds =>
    obtain ⟨xs, h1, h2⟩ := h
    exact ⟨xs, h1, h2.mono e⟩
  | dic ks ds =>
    obtain ⟨xs, h1, h2, h3⟩ := h
    exact ⟨xs, h1, h2, h3.mono e⟩
  | _ => exact h
theorem NodeO.toR {g : Gm} {Hs H : Hp} {o : HO} {p : Addr} {d : D} (h : NodeO g Hs o d) (e : Same Hs H) (hp : H p = some o) : R g H (.ref p) d := by
  cases d with
  | lst ds =>
    obtain ⟨xs, h1, h2⟩ := h
    subst h1
    exact .lst hp (h2.mono e)
  | dic ks ds =>
    obtain ⟨xs, h1, h2, h3⟩ := h
    subst h1
    exact .dic hp h2 (h3.mono e)
  | _ => exact False.elim h
/-- a thing with these values within -/
def Ob (g : Gm) (o : HO) : Kd → List V → Prop
  | .ls, vs => o = .lst vs
  | .tp, vs => o = .tup vs
  | .dc ks, vs => ks.length = vs.length ∧ o = .dK (ks.zip vs)
  | .ob c fs, vs => ∃ C dx, g.cl c = some C ∧ fs.length = vs.length ∧ o = .ins C dx (fs.zip vs)
theorem Ob.toR {g : Gm} {H : Hp} {o : HO} {p : Addr} {k : Kd} {vs : List V} {ds : List D} (h : Ob g o k vs) (hp : H p = some o) (ra : RA g H vs ds) : R g H (.ref p) (k.mk ds) := by
  cases k with
  | ls =>
    cases h
    exact .lst hp ra
  | tp =>
    cases h
    exact .tup (SqT.of hp) ra
  | dc ks =>
    obtain ⟨h1, rfl⟩ := h
    exact .dic hp h1 ra
  | ob c fs =>
    obtain ⟨C, dx, h1, h2, rfl⟩ := h
    exact .obj h1 hp h2 ra
mutual
/-- slot x, as it is looked at: v -/
def BwV (g : Gm) (Hs Hb : Hp) : Sl → V → Prop
  | .no, _ => True
  | .sh d, v => R g Hs v d
  | .ow d, v => ∃ p o, v = .ref p ∧ (Hs p = some o ∨ Hb p = some o) ∧ NodeO g Hs o d
  | .nd k xs, v => ∃ p o vs, v = .ref p ∧ (Hs p = some o ∨ Hb p = some o) ∧ Ob g o k vs ∧ BwVs g Hs Hb xs vs
  | .bw x, v => BwV g Hs Hb x v
def BwVs (g : Gm) (Hs Hb : Hp) : List Sl → List V → Prop
  | [], [] => True
  | x :: xs, v :: vs => BwV g Hs Hb x v ∧ BwVs g Hs Hb xs vs
  | _, _ => False
end
mutual
/-- slot x holds v, and owns what is in h -/
def SlV (g : Gm) (Hs Hb : Hp) : Hp → Sl → V → Prop
  | _, .no, _ => True
  | _, .sh d, v => R g Hs v d
  | h, .ow d, v => ∃ p o, v = .ref p ∧ h p = some o ∧ NodeO g Hs o d
  | h, .nd k xs, v => ∃ p o vs, ∃ hc : Nat → Hp, v = .ref p ∧ h p = some o ∧ Ob g o k vs ∧ (∀ i, Same (hc i) h ∧ hc i p = none) ∧ (∀ i j, i ≠ j → Dj (hc i) (hc j)) ∧ Sl.nbs xs = true ∧ SlVs g Hs Hb hc xs vs
  | _, .bw x, v => BwV g Hs Hb x v
def SlVs (g : Gm) (Hs Hb : Hp) : (Nat → Hp) → List Sl → List V → Prop
  | _, [], [] => True
  | hc, x :: xs, v :: vs => SlV g Hs Hb (hc 0) x v ∧ SlVs g Hs Hb (fun i => hc (i + 1)) xs vs
  | _, _, _ => False
end
section
variable {g : Gm} {Hs Hs' Hb Hb' : Hp}
mutual
theorem BwV.mono (e : Same Hs Hs') (b : Same Hb Hb') : ∀ {x : Sl} {v : V}, BwV g Hs Hb x v → BwV g Hs' Hb' x v
  | .no, _, _ => by simp only [BwV]
  | .sh d, v, h => by
    simp only [BwV] at h ⊢
    exact R.mono e h
  | .ow d, v, h => by
    simp only [BwV] at h ⊢
    obtain ⟨p, o, h1, h2, h3⟩ := h
    exact ⟨p, o, h1, h2.imp (e p o) (b p o), h3.mono e⟩
  | .nd k xs, v, h => by
    simp only [BwV] at h ⊢
    obtain ⟨p, o, vs, h1, h2, h3, h4⟩ := h
    exact ⟨p, o, vs, h1, h2.imp (e p o) (b p o), h3, BwVs.mono e b h4⟩
  | .bw x, v, h => by
    simp only [BwV] at h ⊢
    exact BwV.mono e b h
theorem BwVs.mono (e : Same Hs Hs') (b : Same Hb Hb') : ∀ {xs : List Sl} {vs : List V}, BwVs g Hs Hb xs vs → BwVs g Hs' Hb' xs vs
  | [], [], _ => by simp only [BwVs]
  | [], _ :: _, h => by simp only [BwVs] at h
  | _ :: _, [], h => by simp only [BwVs] at h
  | x :: xs, v :: vs, h => by
    simp only [BwVs] at h ⊢
    exact ⟨BwV.mono e b h.1, BwVs.mono e b h.2⟩
end
mutual
theorem SlV.mono (e : Same Hs Hs') (b : Same Hb Hb') : ∀ {h h' : Hp} {x : Sl} {v : V}, Same h h' → SlV g Hs Hb h x v → SlV g Hs' Hb' h' x v
  | _, _, .no, _, _, _ => by simp only [SlV]
  | _, _, .sh d, v, _, h => by
    simp only [SlV] at h ⊢
    exact R.mono e h
  | _, _, .ow d, v, q, h => by
    simp only [SlV] at h ⊢
    obtain ⟨p, o, h1, h2, h3⟩ := h
    exact ⟨p, o, h1, q p o h2, h3.mono e⟩
  | _, _, .nd k xs, v, q, h => by
    simp only [SlV] at h ⊢
    obtain ⟨p, o, vs, hc, h1, h2, h3, h4, h5, h7, h6⟩ := h
    exact ⟨p, o, vs, hc, h1, q p o h2, h3, fun i => ⟨(h4 i).1.tr q, (h4 i).2⟩, h5, h7, SlVs.mono e b (fun _ => same_rfl) h6⟩
  | _, _, .bw x, v, _, h => by
    simp only [SlV] at h ⊢
    exact h.mono e b
theorem SlVs.mono (e : Same Hs Hs') (b : Same Hb Hb') : ∀ {hc hc' : Nat → Hp} {xs : List Sl} {vs : List V}, (∀ i, Same (hc i) (hc' i)) → SlVs g Hs Hb hc xs vs → SlVs g Hs' Hb' hc' xs vs
  | _, _, [], [], _, _ => by simp only [SlVs]
  | _, _, [], _ :: _, _, h => by simp only [SlVs] at h
  | _, _, _ :: _, [], _, h => by simp only [SlVs] at h
  | _, _, x :: xs, v :: vs, q, h => by
    simp only [SlVs] at h ⊢
    exact ⟨SlV.mono e b (q 0) h.1, SlVs.mono e b (fun i => q (i + 1)) h.2⟩
end
mutual
/-- nothing borrowed: whatever is borrowed elsewhere -/
theorem SlV.nb : ∀ {h : Hp} {x : Sl} {v : V}, x.nb = true → SlV g Hs Hb h x v → SlV g Hs Hb' h x v
  | _, .no, _, _, _ => by simp only [SlV]
  | _, .sh d, v, _, h => by
    simp only [SlV] at h ⊢
    exact h
  | _, .ow d, v, _, h => by
    simp only [SlV] at h ⊢
    exact h
  | _, .nd k xs, v, n, h => by
    simp only [SlV] at h ⊢
    obtain ⟨p, o, vs, hc, h1, h2, h3, h4, h5, h7, h6⟩ := h
    exact ⟨p, o, vs, hc, h1, h2, h3, h4, h5, h7, SlVs.nb n h6⟩
  | _, .bw x, v, n, _ => by cases n
theorem SlVs.nb : ∀ {hc : Nat → Hp} {xs : List Sl} {vs : List V}, Sl.nbs xs = true → SlVs g Hs Hb hc xs vs → SlVs g Hs Hb' hc xs vs
  | _, [], [], _, _ => by simp only [SlVs]
  | _, [], _ :: _, _, h => by simp only [SlVs] at h
  | _, _ :: _, [], _, h => by simp only [SlVs] at h
  | _, x :: xs, v :: vs, n, h => by
    simp only [SlVs] at h ⊢
    simp only [Sl.nbs, Bool.and_eq_true] at n
    exact ⟨SlV.nb n.1 h.1, SlVs.nb n.2 h.2⟩
end
mutual
/-- an owned thing as it is looked at -/
theorem SlV.toBw : ∀ {h : Hp} {x : Sl} {v : V}, Same h Hb → SlV g Hs Hb h x v → BwV g Hs Hb x v
  | _, .no, _, _, _ => by simp only [BwV]
  | _, .sh d, v, _, h => by
    simp only [SlV] at h
    simp only [BwV]
    exact h
  | _, .ow d, v, q, h => by
    simp only [SlV] at h
    simp only [BwV]
    obtain ⟨p, o, h1, h2, h3⟩ := h
    exact ⟨p, o, h1, .inr (q p o h2), h3⟩
  | _, .nd k xs, v, q, h => by
    simp only [SlV] at h
    simp only [BwV]
    obtain ⟨p, o, vs, hc, h1, h2, h3, h4, h5, h7, h6⟩ := h
    exact ⟨p, o, vs, h1, .inr (q p o h2), h3, SlVs.toBw (fun i => (h4 i).1.tr q) h6⟩
  | _, .bw x, v, _, h => by
    simp only [SlV] at h
    simp only [BwV]
    exact h
theorem SlVs.toBw : ∀ {hc : Nat → Hp} {xs : List Sl} {vs : List V}, (∀ i, Same (hc i) Hb) → SlVs g Hs Hb hc xs vs → BwVs g Hs Hb xs vs
  | _, [], [], _, _ => by simp only [BwVs]
  | _, [], _ :: _, _, h => by simp only [SlVs] at h
  | _, _ :: _, [], _, h => by simp only [SlVs] at h
  | _, x :: xs, v :: vs, q, h => by
    simp only [SlVs] at h
    simp only [BwVs]
    exact ⟨SlV.toBw (q 0) h.1, SlVs.toBw (fun i => q (i + 1)) h.2⟩
end
mutual
/-- an owned thing becomes shared -/
theorem SlV.toR {H : Hp} (e : Same Hs H) : ∀ {h : Hp} {x : Sl} {v : V} {d : D}, Same h H → x.val = some d → SlV g Hs Hb h x v → R g H v d
  | _, .no, _, _, _, q, _ => by cases q
  | _, .sh d, v, _, _, q, h => by
    cases q
    simp only [SlV] at h
    exact h.mono e
  | _, .ow d, v, _, m, q, h => by
    cases q
    simp only [SlV] at h
    obtain ⟨p, o, rfl, h2, h3⟩ := h
    exact h3.toR e (m p o h2)
  | _, .nd k xs, v, d, m, q, h => by
    simp only [SlV] at h
    obtain ⟨p, o, vs, hc, rfl, h2, h3, h4, h5, h7, h6⟩ := h
    simp only [Sl.val] at q
    obtain ⟨ds, q1, q2⟩ := Option.map_eq_some_iff.mp q
    subst q2
    exact h3.toR (m p o h2) (SlVs.toR e (fun i => (h4 i).1.tr m) q1 h6)
  | _, .bw x, v, _, _, q, _ => by cases q
theorem SlVs.toR {H : Hp} (e : Same Hs H) : ∀ {hc : Nat → Hp} {xs : List Sl} {vs : List V} {ds : List D}, (∀ i, Same (hc i) H) → Sl.vals xs = some ds → SlVs g Hs Hb hc xs vs → RA g H vs ds
  | _, [], [], _, _, q, _ => by
    cases q
    exact .nil
  | _, [], _ :: _, _, _, _, h => by simp only [SlVs] at h
  | _, _ :: _, [], _, _, _, h => by simp only [SlVs] at h
  | _, x :: xs, v :: vs, ds, m, q, h => by
    simp only [SlVs] at h
    simp only [Sl.vals] at q
    cases q1 : Sl.val x with
    | none =>
      rw [q1] at q
      cases q
    | some d =>
      cases q2 : Sl.vals xs with
      | none =>
        rw [q1, q2] at q
        cases q
      | some ds2 =>
        rw [q1, q2] at q
        cases q
        exact .cons (SlV.toR e (m 0) q1 h.1) (SlVs.toR e (fun i => m (i + 1)) q2 h.2)
end
theorem SlVs.len : ∀ {hc : Nat → Hp} {xs : List Sl} {vs : List V}, SlVs g Hs Hb hc xs vs → xs.length = vs.length
  | _, [], [], _ => rfl
  | _, [], _ :: _, h => by simp only [SlVs] at h
  | _, _ :: _, [], h => by simp only [SlVs] at h
  | _, x :: xs, v :: vs, h => by
    simp only [SlVs] at h
    simp [SlVs.len h.2]
theorem SlVs.at : ∀ {hc : Nat → Hp} {xs : List Sl} {vs : List V}, SlVs g Hs Hb hc xs vs → ∀ (i : Nat) (x : Sl) (v : V), xs[i]? = some x → vs[i]? = some v → SlV g Hs Hb (hc i) x v
  | _, [], [], _, i, x, v, h1, h2 => by simp at h1
  | _, [], _ :: _, h, _, _, _, _, _ => by simp only [SlVs] at h
  | _, _ :: _, [], h, _, _, _, _, _ => by simp only [SlVs] at h
  | _, x :: xs, v :: vs, h, 0, y, w, h1, h2 => by
    simp only [SlVs] at h
    cases h1
    cases h2
    exact h.1
  | _, x :: xs, v :: vs, h, i + 1, y, w, h1, h2 => by
    simp only [SlVs] at h
    exact SlVs.at h.2 i y w (by simpa using h1) (by simpa using h2)
theorem SlVs.of : ∀ {hc : Nat → Hp} {xs : List Sl} {vs : List V}, xs.length = vs.length → (∀ (i : Nat) (x : Sl) (v : V), xs[i]? = some x → vs[i]? = some v → SlV g Hs Hb (hc i) x v) → SlVs g Hs Hb hc xs vs
  | _, [], [], _, _ => by simp only [SlVs]
  | _, [], _ :: _, h, _ => by cases h
  | _, _ :: _, [], h, _ => by cases h
  | hc, x :: xs, v :: vs, h, q => by
    simp only [SlVs]
    exact ⟨q 0 x v rfl rfl, SlVs.of (by simpa using h) fun i y w h1 h2 => q (i + 1) y w (by simpa using h1) (by simpa using h2)⟩
theorem BwVs.at : ∀ {xs : List Sl} {vs : List V}, BwVs g Hs Hb xs vs → ∀ (i : Nat) (x : Sl), xs[i]? = some x → ∃ v, vs[i]? = some v ∧ BwV g Hs Hb x v
  | [], [], _, i, x, h1 => by simp at h1
  | [], _ :: _, h, _, _, _ => by simp only [BwVs] at h
  | _ :: _, [], h, _, _, _ => by simp only [BwVs] at h
  | x :: xs, v :: vs, h, 0, y, h1 => by
    simp only [BwVs] at h
    cases h1
    exact ⟨v, rfl, h.1⟩
  | x :: xs, v :: vs, h, i + 1, y, h1 => by
    simp only [BwVs] at h
    obtain ⟨w, e1, e2⟩ := BwVs.at h.2 i y (by simpa using h1)
    exact ⟨w, by simpa using e1, e2⟩
end
/-- what is within is shared -/
inductive RC (g : Gm) (Hs H : Hp) : V → D → Prop
  | sh {v : V} {d : D} : R g Hs v d → RC g Hs H v d
  | nd {p : Addr} {o : HO} {d : D} : H p = some o → NodeO g Hs o d → RC g Hs H (.ref p) d
section
variable {g : Gm} {Hs Hb H : Hp}
theorem BwV.toRC (b : Same Hb H) (e : Same Hs H) : ∀ {x : Sl} {v : V} {d : D}, x.get = some d → BwV g Hs Hb x v → RC g Hs H v d
  | .no, _, _, q, _ => by cases q
  | .sh d, v, _, q, h => by
    cases q
    simp only [BwV] at h
    exact .sh h
  | .ow d, v, _, q, h => by
    cases q
    simp only [BwV] at h
    obtain ⟨p, o, rfl, h2, h3⟩ := h
    exact .nd (h2.elim (e p o) (b p o)) h3
  | .nd k xs, v, _, q, _ => by cases q
  | .bw x, v, d, q, h => by
    simp only [BwV] at h
    exact BwV.toRC b e (x := x) (by simpa using q) h
theorem SlV.toRC {h : Hp} (b : Same Hb H) (e : Same Hs H) (m : Same h H) {x : Sl} {v : V} {d : D} (q : x.get = some d) (hx : SlV g Hs Hb h x v) : RC g Hs H v d := by
  cases x with
  | no => cases q
  | sh d' =>
    cases q
    simp only [SlV] at hx
    exact .sh hx
  | ow d' =>
    cases q
    simp only [SlV] at hx
    obtain ⟨p, o, rfl, h2, h3⟩ := hx
    exact .nd (m p o h2) h3
  | nd k xs => cases q
  | bw y =>
    simp only [SlV] at hx
    exact hx.toRC b e (by simpa using q)
theorem RC.lst {v : V} {ds : List D} (h : RC g Hs H v (.lst ds)) (e : Same Hs H) : ∃ a xs, v = .ref a ∧ H a = some (.lst xs) ∧ RA g Hs xs ds := by
  cases h with
  | sh h =>
    cases h with
    | lst h1 h2 => exact ⟨_, _, rfl, e _ _ h1, h2⟩
  | nd h0 h =>
    obtain ⟨xs, h1, h2⟩ := h
    exact ⟨_, xs, rfl, h1 ▸ h0, h2⟩
theorem RC.dic {v : V} {ks : List Key} {ds : List D} (h : RC g Hs H v (.dic ks ds)) (e : Same Hs H) : ∃ a xs, v = .ref a ∧ H a = some (.dK (ks.zip xs)) ∧ ks.length = xs.length ∧ RA g Hs xs ds := by
  cases h with
  | sh h =>
    cases h with
    | dic h1 h3 h2 => exact ⟨_, _, rfl, e _ _ h1, h3, h2⟩
  | nd h0 h =>
    obtain ⟨xs, h1, h3, h2⟩ := h
    exact ⟨_, xs, rfl, h1 ▸ h0, h3, h2⟩
theorem RC.scr {v : V} {ds : List D} (h : RC g Hs H v (.scr ds)) (e : Same Hs H) : ∃ a xs, v = .ref a ∧ SqL g.K H a xs ∧ RA g Hs xs ds := by
  cases h with
  | sh h =>
    cases h with
    | scr h1 h2 => exact ⟨_, _, rfl, e.seq h1, h2⟩
  | nd _ h => exact False.elim h
theorem RC.tup {v : V} {ds : List D} (h : RC g Hs H v (.tup ds)) (e : Same Hs H) : ∃ a xs, v = .ref a ∧ SqT g.K H a xs ∧ RA g Hs xs ds := by
  cases h with
  | sh h =>
    cases h with
    | tup h1 h2 => exact ⟨_, _, rfl, sqT_mono e h1, h2⟩
  | nd _ h => exact False.elim h
theorem RC.obj {v : V} {c : Str} {fs : List Str} {ds : List D} (h : RC g Hs H v (.obj c fs ds)) (e : Same Hs H) : ∃ a C dx xs, v = .ref a ∧ g.cl c = some C ∧ H a = some (.ins C dx (fs.zip xs)) ∧ fs.length = xs.length ∧ RA g Hs xs ds := by
  cases h with
  | sh h =>
    cases h with
    | obj h0 h1 h3 h2 => exact ⟨_, _, _, _, rfl, h0, e _ _ h1, h3, h2⟩
  | nd _ h => exact False.elim h
theorem RC.toR {v : V} {d : D} (h : RC g Hs H v d) (e : Same Hs H) : R g H v d := by
  cases h with
  | sh h => exact h.mono e
  | nd h0 h => exact h.toR e h0
end

/-! ### slots and heap -/
/-- what is fixed while a body runs: how many slots, the heap of others, what is borrowed, the shared heap ahead, slots that stay -/
structure Bs where
  n : Nat
  F : Hp
  Hb : Hp
  Hs0 : Hp
  fx : Nat → Bool
  s0 : St
def SlO (g : Gm) (Hs Hb h : Hp) (x : Sl) (o : Option V) : Prop := x = .no ∨ ∃ v, o = some v ∧ SlV g Hs Hb h x v
theorem SlO.mono {g : Gm} {Hs Hs' Hb Hb' h h' : Hp} {x : Sl} {o : Option V} (e : Same Hs Hs') (b : Same Hb Hb') (m : Same h h') (q : SlO g Hs Hb h x o) : SlO g Hs' Hb' h' x o := q.imp id fun ⟨v, h1, h2⟩ => ⟨v, h1, h2.mono e b m⟩
theorem SlO.nb {g : Gm} {Hs Hb Hb' h : Hp} {x : Sl} {o : Option V} (n : x.nb = true) (q : SlO g Hs Hb h x o) : SlO g Hs Hb' h x o := q.imp id fun ⟨v, h1, h2⟩ => ⟨v, h1, h2.nb n⟩
theorem SlO.nbOr {g : Gm} {Hs Hb h : Hp} {x : Sl} {o : Option V} (q : SlO g Hs Hb h x o) : x.nb = true ∨ x.owns = false := by
  cases x with
  | no => exact .inl rfl
  | sh d => exact .inl rfl
  | ow d => exact .inl rfl
  | bw x => exact .inr rfl
  | nd k xs =>
    rcases q with q | ⟨v, _, q⟩
    · cases q
    · simp only [SlV] at q
      obtain ⟨_, _, _, _, _, _, _, _, _, z, _⟩ := q
      exact .inl z
structure RepH (g : Gm) (B : Bs) (Hs : Hp) (ho : Nat → Hp) (r : Env) (s : St) (H : Hp) : Prop where
  len : r.length = s.length
  big : B.n ≤ s.length
  ok : ∀ (i : Nat) (x : Sl) (o : Option V), r[i]? = some x → s[i]? = some o → SlO g Hs B.Hb (ho i) x o
  oo : ∀ i j, i ≠ j → Dj (ho i) (ho j)
  os : ∀ i, Dj (ho i) Hs
  of : ∀ i, Dj (ho i) B.F
  oh : ∀ i, Same (ho i) H
  sh : Same Hs H
  fh : Same B.F H
  sf : Dj Hs B.F
  bf : Same B.Hb B.F
  h0 : Same B.Hs0 Hs
  fix : ∀ i : Nat, B.fx i = true → i < B.n ∧ s[i]? = B.s0[i]?
def Rep (g : Gm) (B : Bs) (Hs : Hp) (r : Env) (s : St) (H : Hp) : Prop := ∃ ho, RepH g B Hs ho r s H
/-- one heap put for another -/
def hset (ho : Nat → Hp) (i : Nat) (h : Hp) : Nat → Hp := fun j => if j = i then h else ho j
theorem hset_same {ho : Nat → Hp} {i : Nat} {h : Hp} : hset ho i h i = h := if_pos rfl
theorem hset_ne {ho : Nat → Hp} {i j : Nat} {h : Hp} (n : j ≠ i) : hset ho i h j = ho j := if_neg n

section
variable {g : Gm} {B : Bs} {Hs Hs' : Hp} {r r' : Env} {s s' : St} {H H' : Hp} {ho : Nat → Hp}
theorem RepH.bh (h : RepH g B Hs ho r s H) : Same B.Hb H := h.bf.tr h.fh
/-- the heap grows -/
theorem RepH.grow (h : RepH g B Hs ho r s H) (e : Same H H') : RepH g B Hs ho r s H' :=
  ⟨h.len, h.big, h.ok, h.oo, h.os, h.of, fun i => (h.oh i).tr e, h.sh.tr e, h.fh.tr e, h.sf, h.bf, h.h0, h.fix⟩
theorem Rep.grow (h : Rep g B Hs r s H) (e : Same H H') : Rep g B Hs r s H' := let ⟨ho, q⟩ := h; ⟨ho, q.grow e⟩
theorem Rep.len (h : Rep g B Hs r s H) : r.length = s.length := let ⟨_, q⟩ := h; q.len
theorem Rep.big (h : Rep g B Hs r s H) : B.n ≤ s.length := let ⟨_, q⟩ := h; q.big
theorem Rep.sh (h : Rep g B Hs r s H) : Same Hs H := let ⟨_, q⟩ := h; q.sh
theorem Rep.bh (h : Rep g B Hs r s H) : Same B.Hb H := let ⟨_, q⟩ := h; q.bh
theorem Rep.h0 (h : Rep g B Hs r s H) : Same B.Hs0 Hs := let ⟨_, q⟩ := h; q.h0
theorem Rep.fix (h : Rep g B Hs r s H) : ∀ i : Nat, B.fx i = true → i < B.n ∧ s[i]? = B.s0[i]? := let ⟨_, q⟩ := h; q.fix
/-- slots from elder slots: each new one is unknown, or one of the elder ones -/
theorem RepH.sub (h : RepH g B Hs ho r s H) (f : Nat → Nat) (len : r'.length = s'.length) (big : B.n ≤ s'.length) (fix : ∀ i : Nat, B.fx i = true → s'[i]? = s[i]?)
    (src : ∀ (i : Nat) (x : Sl) (o : Option V), r'[i]? = some x → s'[i]? = some o → x = .no ∨ (r[f i]? = some x ∧ s[f i]? = some o)) (finj : ∀ i j : Nat, i < r'.length → j < r'.length → f i = f j → i = j ∨ r'[i]? = some .no ∨ r'[j]? = some .no) :
    RepH g B Hs (fun i => if i < r'.length ∧ r'[i]? ≠ some .no then ho (f i) else hemp) r' s' H := by
  refine ⟨len, big, fun i x o h1 h2 => ?_, fun i j n => ?_, fun i => ?_, fun i => ?_, fun i => ?_, h.sh, h.fh, h.sf, h.bf, h.h0, fun i hi => ⟨(h.fix i hi).1, (fix i hi).trans (h.fix i hi).2⟩⟩
  · by_cases hx : x = .no
    · exact .inl hx
    · try dsimp only
      rw [if_pos ⟨(List.getElem?_eq_some_iff.mp h1).1, fun z => hx (by rw [z] at h1; exact (Option.some.inj h1).symm)⟩]
      exact (src i x o h1 h2).elim (fun z => absurd z hx) fun ⟨e1, e2⟩ => h.ok _ x o e1 e2
  · try dsimp only
    split
    · split
      · rename_i a b
        refine h.oo _ _ fun e => ?_
        rcases finj i j a.1 b.1 e with z | z | z
        · exact n z
        · exact a.2 z
        · exact b.2 z
      · exact dj_emp.symm
    · exact dj_emp
  · try dsimp only
    split
    · exact h.os _
    · exact dj_emp
  · try dsimp only
    split
    · exact h.of _
    · exact dj_emp
  · try dsimp only
    split
    · exact h.oh _
    · exact same_emp
theorem Rep.sub (h : Rep g B Hs r s H) (f : Nat → Nat) (len : r'.length = s'.length) (big : B.n ≤ s'.length) (fix : ∀ i : Nat, B.fx i = true → s'[i]? = s[i]?)
    (src : ∀ (i : Nat) (x : Sl) (o : Option V), r'[i]? = some x → s'[i]? = some o → x = .no ∨ (r[f i]? = some x ∧ s[f i]? = some o)) (finj : ∀ i j : Nat, i < r'.length → j < r'.length → f i = f j → i = j ∨ r'[i]? = some .no ∨ r'[j]? = some .no) : Rep g B Hs r' s' H :=
  let ⟨_, q⟩ := h; ⟨_, q.sub f len big fix src finj⟩
/-- the last ones are dropped -/
theorem Rep.drop {t : Env} {k : St} (h : Rep g B Hs (r ++ t) (s ++ k) H) (hl : r.length = s.length) (hb : B.n ≤ s.length) : Rep g B Hs r s H := by
  refine h.sub (fun i => i) hl hb (fun i hi => ?_) (fun i x o h1 h2 => .inr ⟨?_, ?_⟩) fun _ _ _ _ e => .inl e
  · rw [List.getElem?_append_left (Nat.lt_of_lt_of_le (h.fix i hi).1 hb)]
  · rw [List.getElem?_append_left (List.getElem?_eq_some_iff.mp h1).1]
    exact h1
  · rw [List.getElem?_append_left (List.getElem?_eq_some_iff.mp h2).1]
    exact h2
theorem get_last {α : Type} {l : List α} {x y : α} {i : Nat} (h : (l ++ [x])[i]? = some y) : (i < l.length ∧ l[i]? = some y) ∨ (i = l.length ∧ y = x) := by
  by_cases hi : i < l.length
  · rw [List.getElem?_append_left hi] at h
    exact .inl ⟨hi, h⟩
  · have hi' : i = l.length := by
      obtain ⟨q, _⟩ := List.getElem?_eq_some_iff.mp h
      simp at q
      omega
    subst hi'
    rw [List.getElem?_append_right (Nat.le_refl _)] at h
    simp at h
    exact .inr ⟨rfl, h.symm⟩
/-- the shared heap grows by new things -/
theorem RepH.share {p : Addr} {o : HO} (h : RepH g B Hs ho r s H) (hp : H p = none) : RepH g B (upd Hs p o) ho r s (upd H p o) := by
  have e := same_upd (o := o) hp
  have es := same_upd (o := o) (same_none h.sh hp)
  exact ⟨h.len, h.big, fun i x u h1 h2 => (h.ok i x u h1 h2).mono es same_rfl same_rfl, h.oo, fun i => (upd_dj (h.os i).symm (same_none (h.oh i) hp)).symm, h.of, fun i => (h.oh i).tr e, same_upd2 h.sh, h.fh.tr e, upd_dj h.sf (same_none h.fh hp), h.bf, h.h0.tr es, h.fix⟩
theorem Rep.share {p : Addr} {o : HO} (h : Rep g B Hs r s H) (hp : H p = none) : Rep g B (upd Hs p o) r s (upd H p o) := let ⟨ho, q⟩ := h; ⟨ho, q.share hp⟩
/-- one more, with what it owns -/
theorem RepH.pushH (h : RepH g B Hs ho r s H) {x : Sl} {o : Option V} {h1 : Hp} (hx : SlO g Hs B.Hb h1 x o) (d1 : ∀ i, i < r.length → Dj (ho i) h1) (d2 : Dj h1 Hs) (d3 : Dj h1 B.F) (e : Same h1 H) :
    RepH g B Hs (fun i => if i < r.length then ho i else if i = r.length then h1 else hemp) (r ++ [x]) (s ++ [o]) H := by
  have hl := h.len
  refine ⟨by simp [hl], by have := h.big; simp; omega, fun i y u q1 q2 => ?_, fun i j n => ?_, fun i => ?_, fun i => ?_, fun i => ?_, h.sh, h.fh, h.sf, h.bf, h.h0, fun i hi => ⟨(h.fix i hi).1, ?_⟩⟩
  · rcases get_last q1 with ⟨a1, a2⟩ | ⟨a1, a2⟩
    · try dsimp only
      rw [if_pos a1]
      rw [List.getElem?_append_left (hl ▸ a1)] at q2
      exact h.ok i y u a2 q2
    · subst a1
      rw [hl, List.getElem?_append_right (Nat.le_refl _)] at q2
      simp at q2
      subst a2
      subst q2
      try dsimp only
      rw [if_neg (Nat.lt_irrefl _), if_pos rfl]
      exact hx
  · try dsimp only
    split
    · split
      · exact h.oo i j n
      · split
        · exact d1 i (by assumption)
        · exact dj_emp.symm
    · split
      · split
        · exact (d1 j (by assumption)).symm
        · split
          · omega
          · exact dj_emp.symm
      · exact dj_emp
  · try dsimp only
    split
    · exact h.os i
    · split
      · exact d2
      · exact dj_emp
  · try dsimp only
    split
    · exact h.of i
    · split
      · exact d3
      · exact dj_emp
  · try dsimp only
    split
    · exact h.oh i
    · split
      · exact e
      · exact same_emp
  · rw [List.getElem?_append_left (Nat.lt_of_lt_of_le (h.fix i hi).1 h.big)]
    exact (h.fix i hi).2
/-- one more, that owns nothing -/
theorem Rep.push (h : Rep g B Hs r s H) {x : Sl} {o : Option V} (hx : SlO g Hs B.Hb hemp x o) : Rep g B Hs (r ++ [x]) (s ++ [o]) H := let ⟨_, q⟩ := h; ⟨_, q.pushH hx (fun _ _ => dj_emp.symm) dj_emp dj_emp same_emp⟩
theorem Rep.pushSh (h : Rep g B Hs r s H) {d : D} {v : V} (hv : R g Hs v d) : Rep g B Hs (r ++ [.sh d]) (s ++ [some v]) H := h.push (.inr ⟨v, rfl, by simp only [SlV]; exact hv⟩)
/-- a new thing that its holder owns -/
theorem Rep.pushNew {p : Addr} {x : Sl} (h : Rep g B Hs r s H) {o : HO} (hp : H p = none) (hn : SlV g Hs B.Hb (upd hemp p o) x (.ref p)) : Rep g B Hs (r ++ [x]) (s ++ [some (.ref p)]) (upd H p o) := by
  obtain ⟨ho, q⟩ := h
  have e := same_upd (o := o) hp
  refine ⟨_, (q.grow e).pushH (h1 := upd hemp p o) (.inr ⟨_, rfl, hn⟩) (fun i _ => (upd_dj dj_emp (same_none (q.oh i) hp)).symm) (upd_dj dj_emp (same_none q.sh hp)) (upd_dj dj_emp (same_none q.fh hp)) (same_upd2 same_emp)⟩
theorem Rep.pushOw {p : Addr} (h : Rep g B Hs r s H) {d : D} {o : HO} (hp : H p = none) (hn : NodeO g Hs o d) : Rep g B Hs (r ++ [.ow d]) (s ++ [some (.ref p)]) (upd H p o) :=
  h.pushNew hp (by simp only [SlV]; exact ⟨p, o, rfl, upd_same, hn⟩)
/-- slot i is changed, and what it owns: within that, or new -/
theorem RepH.put {i : Nat} {x' : Sl} {h' : Hp} (h : RepH g B Hs ho r s H) (hi : i < r.length) (hx : ∀ o, s[i]? = some o → SlO g Hs B.Hb h' x' o) (kp : ∀ a o, H a = some o → ho i a = none → H' a = some o) (e : Same h' H') (fr : ∀ a o, h' a = some o → (∃ u, ho i a = some u) ∨ H a = none) :
    RepH g B Hs (hset ho i h') (r.set i x') s H' := by
  have dj : ∀ h2, Same h2 H → Dj (ho i) h2 → Dj h' h2 := fun h2 m d a o z => by
    rcases fr a o z with ⟨u, w⟩ | w
    · exact d a u w
    · exact same_none m w
  have km : ∀ h2, Same h2 H → Dj (ho i) h2 → Same h2 H' := fun h2 m d a o z => kp a o (m a o z) (d.symm a o z)
  refine ⟨by simp [h.len], h.big, fun j x o q1 q2 => ?_, fun j l n => ?_, fun j => ?_, fun j => ?_, fun j => ?_, km _ h.sh (h.os i), km _ h.fh (h.of i), h.sf, h.bf, h.h0, h.fix⟩
  · by_cases hj : j = i
    · subst hj
      rw [List.getElem?_set_self hi] at q1
      cases q1
      rw [hset_same]
      exact hx o q2
    · rw [List.getElem?_set_ne (Ne.symm hj)] at q1
      rw [hset_ne hj]
      exact h.ok j x o q1 q2
  · by_cases hj : j = i
    · subst hj
      rw [hset_same, hset_ne (Ne.symm n)]
      exact dj _ (h.oh l) (h.oo j l n)
    · by_cases hl : l = i
      · subst hl
        rw [hset_same, hset_ne hj]
        exact (dj _ (h.oh j) (h.oo l j (Ne.symm n))).symm
      · rw [hset_ne hj, hset_ne hl]
        exact h.oo j l n
  · by_cases hj : j = i
    · subst hj
      rw [hset_same]
      exact dj _ h.sh (h.os j)
    · rw [hset_ne hj]
      exact h.os j
  · by_cases hj : j = i
    · subst hj
      rw [hset_same]
      exact dj _ h.fh (h.of j)
    · rw [hset_ne hj]
      exact h.of j
  · by_cases hj : j = i
    · subst hj
      rw [hset_same]
      exact e
    · rw [hset_ne hj]
      exact km _ (h.oh j) (h.oo i j (Ne.symm hj))
theorem Rep.get (h : Rep g B Hs r s H) {i : Nat} {x : Sl} (hi : r[i]? = some x) : ∃ o, s[i]? = some o := by
  have hil : i < r.length := (List.getElem?_eq_some_iff.mp hi).1
  exact ⟨s[i]'(h.len ▸ hil), List.getElem?_eq_getElem (h.len ▸ hil)⟩
/-- an owned list or dict is changed -/
theorem Rep.write {i : Nat} {d d' : D} {p : Addr} {o' : HO} (h : Rep g B Hs r s H) (hi : r[i]? = some (.ow d)) (hs : s[i]? = some (some (.ref p))) (hn : NodeO g Hs o' d') : Rep g B Hs (r.set i (.ow d')) s (upd H p o') := by
  obtain ⟨ho, q⟩ := h
  have hil : i < r.length := (List.getElem?_eq_some_iff.mp hi).1
  rcases q.ok i _ _ hi hs with z | ⟨v, e, z⟩
  · cases z
  · cases e
    simp only [SlV] at z
    obtain ⟨p', o, e, z1, z2⟩ := z
    cases e
    refine ⟨_, q.put (h' := upd (ho i) p o') hil (fun u hu => ?_) (fun a u z w => ?_) (same_upd2 (q.oh i)) fun a u z => ?_⟩
    · rw [hs] at hu
      cases hu
      exact .inr ⟨_, rfl, by simp only [SlV]; exact ⟨p, o', rfl, upd_same, hn⟩⟩
    · rw [upd_ne (fun z => by rw [z, z1] at w; cases w)]
      exact z
    · rcases upd_some z with ⟨rfl, _⟩ | ⟨_, z⟩
      · exact .inl ⟨o, z1⟩
      · exact .inl ⟨u, z⟩
/-- a slot's thing becomes shared -/
theorem RepH.demote {i : Nat} {x : Sl} {d : D} (h : RepH g B Hs ho r s H) (hi : r[i]? = some x) (hd : x.val = some d) : RepH g B (hor Hs (ho i)) (hset ho i hemp) (r.set i (.sh d)) s H := by
  have hil : i < r.length := (List.getElem?_eq_some_iff.mp hi).1
  have e1 : Same Hs (hor Hs (ho i)) := hor_l
  have e2 : Same (ho i) (hor Hs (ho i)) := hor_r (h.os i).symm
  refine ⟨by simp [h.len], h.big, fun j y o q1 q2 => ?_, fun j l n => ?_, fun j => ?_, fun j => ?_, fun j => ?_, hor_same h.sh (h.oh i), h.fh, hor_dj h.sf (h.of i), h.bf, h.h0.tr e1, h.fix⟩
  · by_cases hj : j = i
    · subst hj
      rw [List.getElem?_set_self hil] at q1
      cases q1
      rcases h.ok j x o hi q2 with z | ⟨v, z1, z2⟩
      · subst z
        cases hd
      · exact .inr ⟨v, z1, by simp only [SlV]; exact z2.toR e1 e2 hd⟩
    · rw [List.getElem?_set_ne (Ne.symm hj)] at q1
      rw [hset_ne hj]
      exact (h.ok j y o q1 q2).mono e1 same_rfl same_rfl
  · unfold hset
    split
    · exact dj_emp
    · split
      · exact dj_emp.symm
      · exact h.oo j l n
  · by_cases hj : j = i
    · subst hj
      rw [hset_same]
      exact dj_emp
    · rw [hset_ne hj]
      exact (hor_dj (h.os j).symm (h.oo j i hj).symm).symm
  · unfold hset
    split
    · exact dj_emp
    · exact h.of j
  · unfold hset
    split
    · exact same_emp
    · exact h.oh j
theorem Rep.demote {i : Nat} {x : Sl} {d : D} (h : Rep g B Hs r s H) (hi : r[i]? = some x) (hd : x.val = some d) : ∃ Hs', Same Hs Hs' ∧ Rep g B Hs' (r.set i (.sh d)) s H := by
  obtain ⟨ho, q⟩ := h
  exact ⟨_, hor_l, _, q.demote hi hd⟩
/-- as data -/
theorem Rep.rc (h : Rep g B Hs r s H) {i : Nat} {x : Sl} {d : D} (hi : r[i]? = some x) (hg : x.get = some d) : ∃ v, s[i]? = some (some v) ∧ RC g Hs H v d := by
  obtain ⟨ho, q⟩ := h
  obtain ⟨o, hs⟩ := Rep.get ⟨ho, q⟩ hi
  rcases q.ok i x o hi hs with z | ⟨v, e, z⟩
  · subst z
    cases hg
  · subst e
    exact ⟨v, hs, z.toRC q.bh q.sh (q.oh i) hg⟩
theorem Rep.shd (h : Rep g B Hs r s H) {i : Nat} {d : D} (hi : r[i]? = some (.sh d)) : ∃ v, s[i]? = some (some v) ∧ R g Hs v d := by
  obtain ⟨ho, q⟩ := h
  obtain ⟨o, hs⟩ := Rep.get ⟨ho, q⟩ hi
  rcases q.ok i _ o hi hs with z | ⟨v, e, z⟩
  · cases z
  · subst e
    simp only [SlV] at z
    exact ⟨v, hs, z⟩
theorem Rep.ow (h : Rep g B Hs r s H) {i : Nat} {d : D} (hi : r[i]? = some (.ow d)) : ∃ p o, s[i]? = some (some (.ref p)) ∧ H p = some o ∧ NodeO g Hs o d := by
  obtain ⟨ho, q⟩ := h
  obtain ⟨o, hs⟩ := Rep.get ⟨ho, q⟩ hi
  rcases q.ok i _ o hi hs with z | ⟨v, e, z⟩
  · cases z
  · subst e
    simp only [SlV] at z
    obtain ⟨p, u, rfl, z1, z2⟩ := z
    exact ⟨p, u, hs, q.oh i p u z1, z2⟩
/-- the last one goes to slot i -/
theorem Rep.store {i : Nat} {x : Sl} {o : Option V} {t : Env} {k : St} (h : Rep g B Hs ((r ++ t) ++ [x]) ((s ++ k) ++ [o]) H) (hl : r.length = s.length) (hk : t.length = k.length) (hb : B.n ≤ s.length) (hi : i < r.length) (hf : B.fx i = false) : Rep g B Hs (r.set i x ++ t) (s.set i o ++ k) H := by
  have hlt : (r ++ t).length = (s ++ k).length := by simp [hl, hk]
  refine h.sub (fun j => if j = i then (r ++ t).length else j) (by simp [hl, hk]) (by simp; omega) (fun j hj => ?_) (fun j y u h1 h2 => ?_) fun a b ha hb e => ?_
  · have ne : j ≠ i := fun z => by rw [z, hf] at hj; cases hj
    have hj2 := Nat.lt_of_lt_of_le (h.fix j hj).1 hb
    rw [List.getElem?_append_left (by simpa using hj2), List.getElem?_set_ne (Ne.symm ne), List.getElem?_append_left (by simp; omega), List.getElem?_append_left hj2]
  · right
    have hjl : j < (r ++ t).length := by
      have := (List.getElem?_eq_some_iff.mp h1).1
      simpa using this
    by_cases hj : j = i
    · subst hj
      rw [if_pos rfl]
      rw [List.getElem?_append_left (by simpa using hi), List.getElem?_set_self hi] at h1
      rw [List.getElem?_append_left (by simpa using hl ▸ hi), List.getElem?_set_self (hl ▸ hi)] at h2
      rw [List.getElem?_append_right (Nat.le_refl _), hlt, List.getElem?_append_right (Nat.le_refl _)]
      simpa using ⟨Option.some.inj h1, Option.some.inj h2⟩
    · have e1 : ((r ++ t) ++ [x])[j]? = (r ++ t)[j]? := List.getElem?_append_left hjl
      have e2 : ((s ++ k) ++ [o])[j]? = (s ++ k)[j]? := List.getElem?_append_left (by omega)
      rw [if_neg hj, e1, e2]
      by_cases hjr : j < r.length
      · rw [List.getElem?_append_left (by simpa using hjr), List.getElem?_set_ne (Ne.symm hj)] at h1
        rw [List.getElem?_append_left (by simpa using hl ▸ hjr), List.getElem?_set_ne (Ne.symm hj)] at h2
        exact ⟨(List.getElem?_append_left hjr).trans h1, (List.getElem?_append_left (hl ▸ hjr)).trans h2⟩
      · rw [List.getElem?_append_right (by simp; omega)] at h1
        rw [List.getElem?_append_right (by simp; omega)] at h2
        simp at h1 h2
        exact ⟨(List.getElem?_append_right (by omega)).trans h1, (List.getElem?_append_right (by omega)).trans h2⟩
  · have ha' : a < (r ++ t).length := by simpa using ha
    have hb' : b < (r ++ t).length := by simpa using hb
    left
    split at e <;> split at e <;> omega
end
end Py

set_option Elab.async false
set_option linter.all false
set_option maxRecDepth 100000
/-! Sd: judgements that a piece of the text means a partial function over data; the rules of expressions. -/
namespace Py
open PySem L2

/-- .. and the slot that holds a known thing (an exception that is handled) -/
structure Gam where
  m : Gm
  sx : Option (Nat × V)
instance : Coe Gam Gm := ⟨Gam.m⟩
structure Cs where
  c : Str → Option Addr
  sx : Option (Nat × V)
abbrev gm (X : Cx) (cl : Cs) : Gam := ⟨⟨X.K, cl.c⟩, cl.sx⟩

structure RepT (g : Gam) (B : Bs) (Hs : Hp) (r : Env) (s : St) (t : Env) (k : St) (H : Hp) : Prop where
  rn : r.length = B.n
  sn : s.length = B.n
  tk : t.length = k.length
  rep : Rep g B Hs (r ++ t) (s ++ k) H
  sx : ∀ i v, g.sx = some (i, v) → B.fx i = true ∧ B.s0[i]? = some (some v)

/-- an exception's own attributes -/
def XOk (g : Gm) (Hs : Hp) (e : Exc) (d : Option Addr) : Prop := match e.fs with
  | [] => d = none
  | fs => ∃ (q : Addr) (xs : List V), d = some q ∧ Hs q = some (.xd ((fs.map (·.1)).zip xs)) ∧ fs.length = xs.length ∧ RA g Hs xs (fs.map (·.2))
theorem XOk.mono {g : Gm} {Hs Hs' : Hp} {e : Exc} {d : Option Addr} (q : Same Hs Hs') (h : XOk g Hs e d) : XOk g Hs' e d := by
  unfold XOk at h ⊢
  split
  · rename_i z
    rw [z] at h
    exact h
  · rename_i z1
    split at h
    · rename_i z2
      exact absurd z2 z1
    · obtain ⟨a, xs, h1, h2, h3, h4⟩ := h
      exact ⟨a, xs, h1, q _ _ h2, h3, h4.mono q⟩

/-- what is wanted of an exception -/
def PostX (g : Gam) (B : Bs) (t : Env) (k : St) (W : WX) (e : Exc) (r : Env) (s : St) : Prop :=
  ∀ (C : Addr) (d : Option Addr) (Hs H : Hp), g.m.cl e.cls = some C → RepT g B Hs r s t k H → XOk g Hs e d → W (.ref C) d s H
def PostE (g : Gam) (B : Bs) (s : St) (t : Env) (k : St) (W : WX) (Q : VK) : Out Sl → Prop
  | .ok x r' => ∀ v Hs' H', RepT g B Hs' r' s (t ++ [x]) (k ++ [some v]) H' → Q v H'
  | .ex e r' => PostX g B t k W e r' s
def DE (g : Gam) (te : TE) (m : E) (W : WX) : Prop := ∀ B Hs r s t k H Q o, RepT g B Hs r s t k H → m r = some o → PostE g B s t k W Q o → te s H Q
/-- an expression means m -/
def PD (X : Cx) (cl : Cs) (W : WX) (e : Expr) (m : E) : Prop := ∃ te, PE X e te ∧ DE (gm X cl) te m W

/-- how an operand lies -/
def ArgOk (g : Gam) (B : Bs) (Hs : Hp) (r : Env) (s : St) (t : Env) (k : St) (H : Hp) (v : V) : Arg → Prop
  | .r i => s[i]? = some (some v) ∧ RepT g B Hs r s t k H
  | .v x => RepT g B Hs r s (t ++ [x]) (k ++ [some v]) H
def PostO (g : Gam) (B : Bs) (s : St) (t : Env) (k : St) (W : WX) (Q : VK) : Out Arg → Prop
  | .ok a r' => ∀ v Hs' H', ArgOk g B Hs' r' s t k H' v a → Q v H'
  | .ex e r' => PostX g B t k W e r' s
def DO (g : Gam) (te : TE) (m : A) (W : WX) : Prop := ∀ B Hs r s t k H Q o, RepT g B Hs r s t k H → m r = some o → PostO g B s t k W Q o → te s H Q
def PO (X : Cx) (cl : Cs) (W : WX) (e : Expr) (m : A) : Prop := ∃ te, PE X e te ∧ DO (gm X cl) te m W

/-- operands, their values, the values among them that are no slots -/
inductive AV (s : St) : List Arg → List V → St → Prop
  | nil : AV s [] [] []
  | r {i : Nat} {v : V} {as : List Arg} {vs : List V} {k : St} : s[i]? = some (some v) → AV s as vs k → AV s (.r i :: as) (v :: vs) k
  | v {x : Sl} {v : V} {as : List Arg} {vs : List V} {k : St} : AV s as vs k → AV s (.v x :: as) (v :: vs) (some v :: k)
def tms : List Arg → Env
  | [] => []
  | .r _ :: as => tms as
  | .v x :: as => x :: tms as
def PostAs (g : Gam) (B : Bs) (s : St) (t : Env) (k : St) (W : WX) (Q : List V → Hp → Prop) : Out (List Arg) → Prop
  | .ok as r' => ∀ vs kv Hs' H', AV s as vs kv → RepT g B Hs' r' s (t ++ tms as) (k ++ kv) H' → Q vs H'
  | .ex e r' => PostX g B t k W e r' s
def DAs (g : Gam) (ta : TA) (m : As) (W : WX) : Prop := ∀ B Hs r s t k H Q o, RepT g B Hs r s t k H → m r = some o → PostAs g B s t k W Q o → ta s H Q
def PAs (X : Cx) (cl : Cs) (W : WX) (es : List Expr) (m : As) : Prop := ∃ ta, PA X es ta ∧ DAs (gm X cl) ta m W

def PostT (g : Gam) (B : Bs) (s : St) (t : Env) (k : St) (W : WX) (Q : Bool → Hp → Prop) : Out Bool → Prop
  | .ok b r' => ∀ Hs' H', RepT g B Hs' r' s t k H' → Q b H'
  | .ex e r' => PostX g B t k W e r' s
def DT (g : Gam) (tt : TT) (m : T) (W : WX) : Prop := ∀ B Hs r s t k H Q o, RepT g B Hs r s t k H → m r = some o → PostT g B s t k W Q o → tt s H Q
def PTd (X : Cx) (cl : Cs) (W : WX) (e : Expr) (m : T) : Prop := ∃ tt, PT X e tt ∧ DT (gm X cl) tt m W
def PWd (X : Cx) (cl : Cs) (W : WX) (e : Expr) (m : T) : Prop := ∃ tt, PW X e tt ∧ DT (gm X cl) tt m W

section
variable {g : Gam} {B : Bs} {Hs : Hp} {r r' : Env} {s : St} {t t' : Env} {k k' : St} {H : Hp} {W : WX}
theorem RepT.dropped (h : RepT g B Hs r s (t ++ t') (k ++ k') H) (hl : t.length = k.length) : RepT g B Hs r s t k H := by
  refine ⟨h.rn, h.sn, hl, ?_, h.sx⟩
  have q := h.rep
  rw [← List.append_assoc, ← List.append_assoc] at q
  exact q.drop (by simp [h.rn, h.sn, hl]) (by simp [h.sn])
theorem RepT.shH (h : RepT g B Hs r s t k H) : Same Hs H := h.rep.sh
theorem PostX.drop (hl : t.length = k.length) {e : Exc} (h : PostX g B t k W e r s) : PostX g B (t ++ t') (k ++ k') W e r s := fun C d Hs H hc hr hx =>
  h C d Hs H hc (hr.dropped hl) hx
end

/-! ### operands -/
section
variable {X : Cx} {cl : Cs} {W : WX} {e : Expr} {es : List Expr}
theorem po_v {m : E} (h : PD X cl W e m) : PO X cl W e (aV m) := by
  obtain ⟨te, h1, h2⟩ := h
  refine ⟨te, h1, fun B Hs r s t k H Q o hr hm hp => ?_⟩
  unfold aV M.bind at hm
  cases q : m r with
  | none =>
    rw [q] at hm
    cases hm
  | some u =>
    rw [q] at hm
    cases u with
    | ok x r' =>
      cases hm
      exact h2 B Hs r s t k H Q _ hr q hp
    | ex e r' =>
      cases hm
      exact h2 B Hs r s t k H Q _ hr q hp
theorem pas_nil : PAs X cl W [] asN := ⟨_, pa_nil, fun B Hs r s t k H Q o hr hm hp => by
  cases hm
  exact hp [] [] Hs H .nil (by show RepT _ B Hs r s (t ++ []) (k ++ []) H; rw [List.append_nil, List.append_nil]; exact hr)⟩
theorem pas_cons {a : A} {as : As} (h : PO X cl W e a) (hs : PAs X cl W es as) (hst : starEach (e :: es) X.env = (false, eval e X.env) :: starEach es X.env := by rfl) : PAs X cl W (e :: es) (asC a as) := by
  obtain ⟨te, h1, h2⟩ := h
  obtain ⟨ta, h3, h4⟩ := hs
  refine ⟨_, pa_cons h1 h3 hst, fun B Hs r s t k H Q o hr hm hp => ?_⟩
  unfold asC M.bind at hm
  show te s H fun x H1 => ta s H1 fun xs H2 => Q (x :: xs) H2
  cases q : a r with
  | none =>
    rw [q] at hm
    cases hm
  | some u =>
    rw [q] at hm
    cases u with
    | ex e r1 =>
      cases hm
      exact h2 B Hs r s t k H _ _ hr q hp
    | ok x r1 =>
      dsimp only at hm
      cases q2 : as r1 with
      | none =>
        rw [q2] at hm
        cases hm
      | some u2 =>
        rw [q2] at hm
        refine h2 B Hs r s t k H _ _ hr q fun v Hs1 H1 ha => ?_
        cases x with
        | r i =>
          obtain ⟨ha1, ha2⟩ := ha
          refine h4 B Hs1 r1 s t k H1 _ _ ha2 q2 ?_
          cases u2 with
          | ex e r2 =>
            cases hm
            exact hp
          | ok xs r2 =>
            cases hm
            exact fun vs kv Hs2 H2 av hr2 => hp (v :: vs) kv Hs2 H2 (.r ha1 av) hr2
        | v x =>
          refine h4 B Hs1 r1 s (t ++ [x]) (k ++ [some v]) H1 _ _ ha q2 ?_
          cases u2 with
          | ex e r2 =>
            cases hm
            exact PostX.drop hr.tk hp
          | ok xs r2 =>
            cases hm
            refine fun vs kv Hs2 H2 av hr2 => hp (v :: vs) (some v :: kv) Hs2 H2 (.v av) ?_
            rw [List.append_assoc, List.append_assoc] at hr2
            exact hr2
end

/-! ### what operands are -/
inductive RCA (g : Gm) (Hs H : Hp) : List V → List D → Prop
  | nil : RCA g Hs H [] []
  | cons {v : V} {vs : List V} {d : D} {ds : List D} : RC g Hs H v d → RCA g Hs H vs ds → RCA g Hs H (v :: vs) (d :: ds)
theorem RCA.toRA {g : Gm} {Hs H : Hp} (e : Same Hs H) : ∀ {vs : List V} {ds : List D}, RCA g Hs H vs ds → RA g H vs ds
  | _, _, .nil => .nil
  | _, _, .cons r t => .cons (r.toR e) (RCA.toRA e t)
section
variable {g : Gam} {B : Bs} {Hs : Hp} {r r' : Env} {s : St} {t t' : Env} {k k' : St} {H : Hp} {W : WX}
theorem RepT.el (h : RepT g B Hs r s t k H) : r.length = s.length := h.rn.trans h.sn.symm
theorem RepT.lt (h : RepT g B Hs r s t k H) {i : Nat} {x : Sl} (hi : r[i]? = some x) : i < s.length := by
  have := (List.getElem?_eq_some_iff.mp hi).1
  rw [h.sn, ← h.rn]
  exact this
theorem RepT.rc (h : RepT g B Hs r s t k H) {i : Nat} {x : Sl} {d : D} (hi : r[i]? = some x) (hg : x.get = some d) : ∃ v, s[i]? = some (some v) ∧ RC g Hs H v d := by
  have hil := (List.getElem?_eq_some_iff.mp hi).1
  obtain ⟨o, h1, h2⟩ := h.rep.rc (i := i) (x := x) (by rw [List.getElem?_append_left hil]; exact hi) hg
  rw [List.getElem?_append_left (h.lt hi)] at h1
  exact ⟨o, h1, h2⟩
theorem RepT.shd (h : RepT g B Hs r s t k H) {i : Nat} {d : D} (hi : r[i]? = some (.sh d)) : ∃ v, s[i]? = some (some v) ∧ R g Hs v d := by
  have hil := (List.getElem?_eq_some_iff.mp hi).1
  obtain ⟨o, h1, h2⟩ := h.rep.shd (i := i) (by rw [List.getElem?_append_left hil]; exact hi)
  rw [List.getElem?_append_left (h.lt hi)] at h1
  exact ⟨o, h1, h2⟩
theorem RepT.ow (h : RepT g B Hs r s t k H) {i : Nat} {d : D} (hi : r[i]? = some (.ow d)) : ∃ p o, s[i]? = some (some (.ref p)) ∧ H p = some o ∧ NodeO g Hs o d := by
  have hil := (List.getElem?_eq_some_iff.mp hi).1
  obtain ⟨p, o, h1, h2⟩ := h.rep.ow (i := i) (by rw [List.getElem?_append_left hil]; exact hi)
  rw [List.getElem?_append_left (h.lt hi)] at h1
  exact ⟨p, o, h1, h2⟩
theorem RepT.anyV (h : RepT g B Hs r s t k H) {i : Nat} {x : Sl} (hi : r[i]? = some x) (hx : x.held? = some ()) : ∃ v, s[i]? = some (some v) := by
  have hil := (List.getElem?_eq_some_iff.mp hi).1
  obtain ⟨ho, q⟩ := h.rep
  obtain ⟨o, hs⟩ : ∃ o, s[i]? = some o := ⟨s[i]'(h.lt hi), List.getElem?_eq_getElem (h.lt hi)⟩
  rcases q.ok i x o (by rw [List.getElem?_append_left hil]; exact hi) (by rw [List.getElem?_append_left (h.lt hi)]; exact hs) with z | ⟨v, e, z⟩
  · subst z
    cases hx
  · subst e
    exact ⟨v, hs⟩
theorem RepT.bwV (h : RepT g B Hs r s t k H) {i : Nat} {x : Sl} (hi : r[i]? = some (.bw x)) : ∃ v, s[i]? = some (some v) ∧ BwV g Hs B.Hb x v := by
  have hil := (List.getElem?_eq_some_iff.mp hi).1
  obtain ⟨ho, q⟩ := h.rep
  obtain ⟨o, hs⟩ : ∃ o, s[i]? = some o := ⟨s[i]'(h.lt hi), List.getElem?_eq_getElem (h.lt hi)⟩
  rcases q.ok i _ o (by rw [List.getElem?_append_left hil]; exact hi) (by rw [List.getElem?_append_left (h.lt hi)]; exact hs) with z | ⟨v, e, z⟩
  · cases z
  · subst e
    simp only [SlV] at z
    exact ⟨v, hs, z⟩
theorem RepT.tix (h : RepT g B Hs r s (t ++ [x] ++ t') (k ++ [o] ++ k') H) (hl : t.length = k.length) : (r ++ (t ++ [x] ++ t'))[r.length + t.length]? = some x ∧ (s ++ (k ++ [o] ++ k'))[r.length + t.length]? = some o := by
  constructor
  · rw [List.getElem?_append_right (by omega), Nat.add_sub_cancel_left]
    simp
  · have e := h.el
    rw [List.getElem?_append_right (by omega), e, Nat.add_sub_cancel_left, hl]
    simp
theorem RepT.trc {x : Sl} {v : V} {d : D} (h : RepT g B Hs r s (t ++ x :: t') (k ++ some v :: k') H) (hl : t.length = k.length) (hg : x.get = some d) : RC g Hs H v d := by
  have h' : RepT g B Hs r s (t ++ [x] ++ t') (k ++ [some v] ++ k') H := by simpa using h
  obtain ⟨e1, e2⟩ := h'.tix hl
  obtain ⟨w, q1, q2⟩ := h'.rep.rc e1 hg
  rw [e2] at q1
  cases q1
  exact q2
theorem AV.rca : ∀ {as : List Arg} {vs : List V} {kv : St} {ds : List D} {t : Env} {k : St}, AV s as vs kv → RepT g B Hs r s (t ++ tms as) (k ++ kv) H → t.length = k.length → dats r as = some ds → RCA g Hs H vs ds
  | _, _, _, _, _, _, .nil, _, _, hd => by
    cases hd
    exact .nil
  | .r i :: as, _, _, ds, t, k, .r hi av, hr, hl, hd => by
    unfold dats at hd
    cases q1 : (Arg.r i).dat r with
    | none =>
      rw [q1] at hd
      cases hd
    | some d =>
      cases q2 : dats r as with
      | none =>
        rw [q1, q2] at hd
        cases hd
      | some ds2 =>
        rw [q1, q2] at hd
        cases hd
        have ih := AV.rca (t := t) (k := k) av hr hl q2
        refine .cons ?_ ih
        unfold Arg.dat Arg.sl at q1
        dsimp only at q1
        cases q3 : r[i]? with
        | none =>
          rw [q3] at q1
          cases q1
        | some x =>
          rw [q3] at q1
          obtain ⟨o, e1, e2⟩ := hr.rc q3 q1
          rw [hi] at e1
          cases e1
          exact e2
  | .v x :: as, _, _, ds, t, k, @AV.v _ _ w _ _ kv av, hr, hl, hd => by
    unfold dats at hd
    cases q1 : (Arg.v x).dat r with
    | none =>
      rw [q1] at hd
      cases hd
    | some d =>
      cases q2 : dats r as with
      | none =>
        rw [q1, q2] at hd
        cases hd
      | some ds2 =>
        rw [q1, q2] at hd
        cases hd
        have hr2 : RepT g B Hs r s ((t ++ [x]) ++ tms as) ((k ++ [some w]) ++ kv) H := by
          rw [List.append_assoc, List.append_assoc]
          exact hr
        exact .cons (hr.trc hl q1) (AV.rca (t := t ++ [x]) (k := k ++ [some w]) av hr2 (by simp [hl]) q2)
/-- behind an operation: the operands are dropped, a shared result is pushed -/
theorem RepT.result {d : D} {v : V} (h : RepT g B Hs r s (t ++ t') (k ++ k') H) (hl : t.length = k.length) (hv : R g Hs v d) : RepT g B Hs r s (t ++ [.sh d]) (k ++ [some v]) H := by
  have h2 := h.dropped hl
  refine ⟨h.rn, h.sn, by simp [hl], ?_, h.sx⟩
  rw [← List.append_assoc, ← List.append_assoc]
  exact h2.rep.pushSh hv
/-- a value becomes shared -/
theorem RepT.tdem {x : Sl} {v : V} {d : D} (h : RepT g B Hs r s (t ++ x :: t') (k ++ some v :: k') H) (hl : t.length = k.length) (hd : x.val = some d) : ∃ Hs', Same Hs Hs' ∧ RepT g B Hs' r s (t ++ .sh d :: t') (k ++ some v :: k') H ∧ R g Hs' v d := by
  have h' : RepT g B Hs r s (t ++ [x] ++ t') (k ++ [some v] ++ k') H := by simpa using h
  obtain ⟨e1, e2⟩ := h'.tix hl
  obtain ⟨Hs', q1, q2⟩ := h'.rep.demote e1 hd
  have e3 : (r ++ (t ++ [x] ++ t')).set (r.length + t.length) (.sh d) = r ++ (t ++ .sh d :: t') := by
    rw [List.set_append_right _ _ (by omega), Nat.add_sub_cancel_left, List.append_assoc, List.set_append_right _ _ (by omega), Nat.sub_self]
    rfl
  rw [e3] at q2
  have q3 : Rep g B Hs' (r ++ (t ++ .sh d :: t')) (s ++ (k ++ some v :: k')) H := by simpa using q2
  refine ⟨Hs', q1, ⟨h.rn, h.sn, by have := h.tk; simpa using this, q3, h.sx⟩, ?_⟩
  obtain ⟨w, z1, z2⟩ := q3.shd (i := r.length + t.length) (d := d) (by rw [List.getElem?_append_right (by omega), Nat.add_sub_cancel_left]; simp)
  have e := h.el
  rw [List.getElem?_append_right (by omega), e, Nat.add_sub_cancel_left, hl] at z1
  simp at z1
  subst z1
  exact z2
/-- operands that are shared, or new things that become so -/
theorem AV.ra : ∀ {as : List Arg} {vs : List V} {kv : St} {ds : List D} {t : Env} {k : St} {Hs : Hp}, AV s as vs kv → RepT g B Hs r s (t ++ tms as) (k ++ kv) H → t.length = k.length → shds r as = some ds →
    ∃ Hs' tt, Same Hs Hs' ∧ RepT g B Hs' r s (t ++ tt) (k ++ kv) H ∧ RA g Hs' vs ds
  | _, _, _, _, _, _, Hs, .nil, hr, _, hd => by
    cases hd
    exact ⟨Hs, _, same_rfl, hr, .nil⟩
  | .r i :: as, _, _, ds, t, k, Hs, .r hi av, hr, hl, hd => by
    unfold shds at hd
    cases q1 : (Arg.r i).shd r with
    | none =>
      rw [q1] at hd
      cases hd
    | some d =>
      cases q2 : shds r as with
      | none =>
        rw [q1, q2] at hd
        cases hd
      | some ds2 =>
        rw [q1, q2] at hd
        cases hd
        obtain ⟨Hs', tt, m, hr', ih⟩ := AV.ra (t := t) (k := k) av hr hl q2
        refine ⟨Hs', tt, m, hr', .cons ?_ ih⟩
        unfold Arg.shd at q1
        dsimp only at q1
        cases q3 : r[i]? with
        | none =>
          rw [q3] at q1
          cases q1
        | some x =>
          rw [q3] at q1
          cases x with
          | sh d' =>
            cases q1
            obtain ⟨v', e2, e3⟩ := hr.shd q3
            rw [hi] at e2
            cases e2
            exact e3.mono m
          | _ => cases q1
  | .v x :: as, _, _, ds, t, k, Hs, @AV.v _ _ w _ _ kv av, hr, hl, hd => by
    unfold shds at hd
    cases q1 : (Arg.v x).shd r with
    | none =>
      rw [q1] at hd
      cases hd
    | some d =>
      cases q2 : shds r as with
      | none =>
        rw [q1, q2] at hd
        cases hd
      | some ds2 =>
        rw [q1, q2] at hd
        cases hd
        obtain ⟨Hs1, m1, hr1, rd⟩ := RepT.tdem (t := t) (k := k) hr hl q1
        have hr2 : RepT g B Hs1 r s ((t ++ [.sh d]) ++ tms as) ((k ++ [some w]) ++ kv) H := by
          rw [List.append_assoc, List.append_assoc]
          exact hr1
        obtain ⟨Hs', tt, m, hr', ih⟩ := AV.ra (t := t ++ [.sh d]) (k := k ++ [some w]) av hr2 (by simp [hl]) q2
        refine ⟨Hs', [.sh d] ++ tt, m1.tr m, ?_, .cons (rd.mono m) ih⟩
        rw [List.append_assoc, List.append_assoc] at hr'
        exact hr'
/-- .. and are dropped -/
theorem AV.shared {as : List Arg} {vs : List V} {kv : St} {ds : List D} (av : AV s as vs kv) (hr : RepT g B Hs r s (t ++ tms as) (k ++ kv) H) (hl : t.length = k.length) (hd : shds r as = some ds) : ∃ Hs', Same Hs Hs' ∧ RepT g B Hs' r s t k H ∧ RA g Hs' vs ds := by
  obtain ⟨Hs', tt, m, hr', ra⟩ := av.ra hr hl hd
  exact ⟨Hs', m, hr'.dropped hl, ra⟩
end
end Py

set_option Elab.async false
set_option linter.all false
set_option maxRecDepth 100000
/-! Se: names, constants, operations, displays, tests. -/
namespace Py
open PySem L2

section
variable {g : Gam} {B : Bs} {Hs : Hp} {r r' : Env} {s : St} {t t' : Env} {k k' : St} {H : Hp} {W : WX}
theorem RepT.push (h : RepT g B Hs r s t k H) {d : D} {v : V} (hv : R g Hs v d) : RepT g B Hs r s (t ++ [.sh d]) (k ++ [some v]) H :=
  ⟨h.rn, h.sn, by simp [h.tk], by rw [← List.append_assoc, ← List.append_assoc]; exact h.rep.pushSh hv, h.sx⟩
theorem RepT.pushX (h : RepT g B Hs r s t k H) {x : Sl} {o : Option V} (hx : SlO g Hs B.Hb hemp x o) : RepT g B Hs r s (t ++ [x]) (k ++ [o]) H :=
  ⟨h.rn, h.sn, by simp [h.tk], by rw [← List.append_assoc, ← List.append_assoc]; exact h.rep.push hx, h.sx⟩
theorem RepT.pushNew (h : RepT g B Hs r s t k H) {x : Sl} {p : Addr} {o : HO} (hp : H p = none) (hn : SlV g Hs B.Hb (upd hemp p o) x (.ref p)) : RepT g B Hs r s (t ++ [x]) (k ++ [some (.ref p)]) (upd H p o) :=
  ⟨h.rn, h.sn, by simp [h.tk], by rw [← List.append_assoc, ← List.append_assoc]; exact h.rep.pushNew hp hn, h.sx⟩
theorem RepT.pushOw (h : RepT g B Hs r s t k H) {d : D} {p : Addr} {o : HO} (hp : H p = none) (hn : NodeO g Hs o d) : RepT g B Hs r s (t ++ [.ow d]) (k ++ [some (.ref p)]) (upd H p o) :=
  ⟨h.rn, h.sn, by simp [h.tk], by rw [← List.append_assoc, ← List.append_assoc]; exact h.rep.pushOw hp hn, h.sx⟩
theorem RepT.grow {H' : Hp} (h : RepT g B Hs r s t k H) (e : Same H H') : RepT g B Hs r s t k H' := ⟨h.rn, h.sn, h.tk, h.rep.grow e, h.sx⟩
theorem RepT.share (h : RepT g B Hs r s t k H) {p : Addr} {o : HO} (hp : H p = none) : RepT g B (upd Hs p o) r s t k (upd H p o) := ⟨h.rn, h.sn, h.tk, h.rep.share hp, h.sx⟩
theorem RepT.freeS (h : RepT g B Hs r s t k H) {p : Addr} (hp : H p = none) : Hs p = none := same_none h.shH hp
theorem RepT.pushTup (h : RepT g B Hs r s t k H) {l : List D} {xs : List V} {p : Addr} (hp : H p = none) (hl : RA g Hs xs l) : RepT g B (upd Hs p (.tup xs)) r s (t ++ [.sh (.tup l)]) (k ++ [some (.ref p)]) (upd H p (.tup xs)) :=
  (h.share hp).push (.tup (SqT.of upd_same) (hl.mono (same_upd (h.freeS hp))))
theorem RepT.pushLst (h : RepT g B Hs r s t k H) {l : List D} {xs : List V} {p : Addr} (hp : H p = none) (hl : RA g Hs xs l) : RepT g B Hs r s (t ++ [.ow (.lst l)]) (k ++ [some (.ref p)]) (upd H p (.lst xs)) :=
  h.pushOw hp ⟨xs, rfl, hl⟩
theorem RA.pv {H : Hp} {v : V} {d : D} (h : R g H v d) : R g H v d := h
end

/-! ### names, constants -/
section
variable {X : Cx} {cl : Cs} {W : WX}
theorem pd_pure {e : Expr} {v : V} {d : D} (h : PE X e (tC v)) (hv : ∀ (g : Gm) H, R g H v d) : PD X cl W e (eC d) := by
  refine ⟨_, h, fun B Hs r s t k H Q o hr hm hp => ?_⟩
  cases hm
  exact hp v Hs H (hr.push (hv _ _))
theorem pd_int {i j pos} : PD X cl W (.Constant (.int i) j pos) (eC (.int i)) := pd_pure pe_int fun _ _ => .int i
theorem pd_str {i j pos} : PD X cl W (.Constant (.str i) j pos) (eC (.str i)) := pd_pure pe_str fun _ _ => .str i
theorem pd_bl {i j pos} : PD X cl W (.Constant (.bool i) j pos) (eC (.bl i)) := pd_pure pe_bl fun _ _ => .bl i
theorem pd_non {j pos} : PD X cl W (.Constant .none j pos) (eC .non) := pd_pure pe_non fun _ _ => .non
variable {x : Str} {pos : Pos}
theorem po_r (i : Nat) (h : PE X (.Name x pos) (tVar i)) : PO X cl W (.Name x pos) (aR i) := by
  refine ⟨_, h, fun B Hs r s t k H Q o hr hm hp => ?_⟩
  unfold aR at hm
  cases q : (r[i]?).bind Sl.held? with
  | none =>
    rw [q] at hm
    cases hm
  | some d =>
    rw [q] at hm
    cases hm
    obtain ⟨y, q1, q2⟩ := Option.bind_eq_some_iff.mp q
    obtain ⟨v, e1⟩ := hr.anyV q1 q2
    exact ⟨v, e1, hp v Hs H ⟨e1, hr⟩⟩
theorem RepT.set {g : Gam} {B : Bs} {Hs Hs2 : Hp} {r r2 : Env} {s : St} {t : Env} {k : St} {H : Hp} (h : RepT g B Hs r s t k H) (hl : r2.length = r.length) (q : Rep g B Hs2 (r2 ++ t) (s ++ k) H) : RepT g B Hs2 r2 s t k H := ⟨hl.trans h.rn, h.sn, h.tk, q, h.sx⟩
theorem RepT.demote {g : Gam} {B : Bs} {Hs : Hp} {r : Env} {s : St} {t : Env} {k : St} {H : Hp} {i : Nat} {x : Sl} {d : D} (h : RepT g B Hs r s t k H) (hi : r[i]? = some x) (hd : x.val = some d) : ∃ Hs', Same Hs Hs' ∧ RepT g B Hs' (r.set i (.sh d)) s t k H := by
  have hil := (List.getElem?_eq_some_iff.mp hi).1
  obtain ⟨Hs', e, q⟩ := h.rep.demote (i := i) (d := d) (by rw [List.getElem?_append_left hil]; exact hi) hd
  rw [List.set_append_left _ _ hil] at q
  exact ⟨Hs', e, h.set (by simp) q⟩
theorem pd_var (i : Nat) (h : PE X (.Name x pos) (tVar i)) : PD X cl W (.Name x pos) (eVar i) := by
  refine ⟨_, h, fun B Hs r s t k H Q o hr hm hp => ?_⟩
  have own : ∀ (y : Sl) (d : D), r[i]? = some y → y.val = some d → o = .ok (.sh d) (r.set i (.sh d)) → tVar i s H Q := fun y d q hd ho => by
    subst ho
    have hil := (List.getElem?_eq_some_iff.mp q).1
    obtain ⟨Hs', _, hr2⟩ := hr.demote q hd
    have q2 : (r.set i (.sh d))[i]? = some (.sh d) := List.getElem?_set_self hil
    obtain ⟨v, e1, e3⟩ := hr2.shd q2
    exact ⟨v, e1, hp v Hs' H (hr2.push e3)⟩
  unfold eVar at hm
  cases q : r[i]? with
  | none =>
    rw [q] at hm
    cases hm
  | some y =>
    rw [q] at hm
    cases y with
    | sh d =>
      cases hm
      obtain ⟨v, e1, e3⟩ := hr.shd q
      exact ⟨v, e1, hp v Hs H (hr.push e3)⟩
    | ow d =>
      cases hm
      exact own _ d q rfl rfl
    | nd k xs =>
      dsimp only at hm
      cases q2 : Sl.vals xs with
      | none =>
        rw [q2] at hm
        cases hm
      | some ds =>
        rw [q2] at hm
        cases hm
        exact own _ (k.mk ds) q (by simp only [Sl.val, q2]; rfl) rfl
    | no => cases hm
    | bw d =>
      cases hm
      obtain ⟨v, e1, e2⟩ := hr.bwV q
      exact ⟨v, e1, hp v Hs H (hr.pushX (.inr ⟨v, rfl, by simp only [SlV]; exact e2⟩))⟩
/-- a slot's thing goes to the end -/
theorem RepT.move {g : Gam} {B : Bs} {Hs : Hp} {r : Env} {s : St} {t : Env} {k : St} {H : Hp} {i : Nat} {y : Sl} {v : Option V} (hr : RepT g B Hs r s t k H) (q : r[i]? = some y) (e1 : s[i]? = some v) : RepT g B Hs (r.set i .no) s (t ++ [y]) (k ++ [v]) H := by
  have hil := (List.getElem?_eq_some_iff.mp q).1
  refine ⟨by simp [hr.rn], hr.sn, by simp [hr.tk], ?_, hr.sx⟩
  have hl : (r ++ t).length = (s ++ k).length := hr.rep.len
  have hsl := hr.lt q
  have el : r.length = s.length := hr.rn.trans hr.sn.symm
  refine hr.rep.sub (fun j => if j = (r ++ t).length then i else j) (by simp [el, hr.tk]) (by simp [hr.sn]) (fun j hj => ?_) (fun j x o h1 h2 => ?_) fun a b ha hb e => ?_
  · have := (hr.rep.fix j hj).1
    rw [List.getElem?_append_left (by rw [hr.sn]; exact this), List.getElem?_append_left (by rw [hr.sn]; exact this)]
  · by_cases hj : j = (r ++ t).length
    · right
      rw [if_pos hj]
      rw [← List.append_assoc] at h1 h2
      rw [hj, List.getElem?_append_right (by simp)] at h1
      rw [hj, hl, List.getElem?_append_right (by simp)] at h2
      simp at h1 h2
      subst h1
      subst h2
      exact ⟨by rw [List.getElem?_append_left hil]; exact q, by rw [List.getElem?_append_left hsl]; exact e1⟩
    · rw [if_neg hj]
      have hj2 : j < (r ++ t).length := by
        have := (List.getElem?_eq_some_iff.mp h1).1
        simp at this hj ⊢
        omega
      have f1 : (r.set i .no ++ (t ++ [y]))[j]? = (r.set i .no ++ t)[j]? := by
        rw [← List.append_assoc]
        exact List.getElem?_append_left (by simpa using hj2)
      have f2 : (s ++ (k ++ [v]))[j]? = (s ++ k)[j]? := by
        rw [← List.append_assoc]
        exact List.getElem?_append_left (by omega)
      rw [f1] at h1
      rw [f2] at h2
      by_cases hji : j = i
      · left
        subst hji
        rw [List.getElem?_append_left (by simpa using hil), List.getElem?_set_self hil] at h1
        exact (Option.some.inj h1).symm
      · right
        refine ⟨?_, h2⟩
        rw [← List.set_append_left _ _ hil, List.getElem?_set_ne (Ne.symm hji)] at h1
        exact h1
  · have ha2 : a < (r ++ t).length + 1 := by simp at ha ⊢; omega
    have hb2 : b < (r ++ t).length + 1 := by simp at hb ⊢; omega
    have hno : (r.set i .no ++ (t ++ [y]))[i]? = some .no := by
      rw [List.getElem?_append_left (by simpa using hil), List.getElem?_set_self hil]
    split at e <;> split at e
    · left
      omega
    · right; right
      rw [← e]
      exact hno
    · right; left
      rw [e]
      exact hno
    · exact .inl e
/-- the name goes, its thing is the value -/
theorem pd_mov (i : Nat) (h : PE X (.Name x pos) (tVar i)) : PD X cl W (.Name x pos) (eMov i) := by
  refine ⟨_, h, fun B Hs r s t k H Q o hr hm hp => ?_⟩
  unfold eMov at hm
  cases q : r[i]? with
  | none =>
    rw [q] at hm
    cases hm
  | some y =>
    rw [q] at hm
    cases y with
    | sh d =>
      cases hm
      obtain ⟨v, e1, e3⟩ := hr.shd q
      exact ⟨v, e1, hp v Hs H (hr.push e3)⟩
    | ow d =>
      cases hm
      obtain ⟨v, e1⟩ := hr.anyV q rfl
      exact ⟨v, e1, hp v Hs H (hr.move q e1)⟩
    | nd k xs =>
      cases hm
      obtain ⟨v, e1⟩ := hr.anyV q rfl
      exact ⟨v, e1, hp v Hs H (hr.move q e1)⟩
    | no => cases hm
    | bw d => cases hm
end
end Py

set_option Elab.async false
set_option linter.all false
set_option maxRecDepth 100000
/-! Sf: operations, displays, tests. -/
namespace Py
open PySem L2

/-- what may come of an operation -/
structure Cont (g : Gm) (Hs H : Hp) (Q : VK) (x : Sl) : Prop where
  val : ∀ v d, x = .sh d → R g Hs v d → Q v H
  tup : ∀ p xs l, x = .sh (.tup l) → H p = none → RA g Hs xs l → Q (.ref p) (upd H p (.tup xs))
  lst : ∀ p xs l, x = .ow (.lst l) → H p = none → RA g Hs xs l → Q (.ref p) (upd H p (.lst xs))
/-- an operation on values reads as f on data -/
def OpD (g : Gm) (rr : List V → Hp → VK → Prop) (f : List D → Option Sl) : Prop :=
  ∀ Hs H vs ds x Q, Same Hs H → RCA g Hs H vs ds → f ds = some x → Cont g Hs H Q x → rr vs H Q

section
variable {g : Gam} {W : WX}
theorem op_den {ta : TA} {as : As} {rr : List V → Hp → VK → Prop} {f : List D → Option Sl} (h : DAs g ta as W) (hf : OpD g rr f) : DE g (fun s H Q => ta s H fun vs H1 => rr vs H1 Q) (eOp as f) W := by
  intro B Hs r s t k H Q o hr hm hp
  unfold eOp M.bind at hm
  cases q : as r with
  | none =>
    rw [q] at hm
    cases hm
  | some u =>
    rw [q] at hm
    refine h B _ r s t k H _ _ hr q ?_
    cases u with
    | ex e r1 =>
      cases hm
      exact hp
    | ok xs r1 =>
      intro vs kv HsH1 H1 av hr1
      unfold M.get at hm
      dsimp only at hm
      cases q1 : dats r1 xs with
      | none =>
        rw [q1] at hm
        cases hm
      | some ds =>
        rw [q1] at hm
        dsimp only [Option.bind_some] at hm
        cases q2 : f ds with
        | none =>
          rw [q2] at hm
          cases hm
        | some x =>
          rw [q2] at hm
          cases hm
          have hrd := hr1.dropped hr.tk
          refine hf _ H1 vs ds x Q hr1.shH (av.rca hr1 hr.tk q1) q2 ⟨fun v d e hv => ?_, fun p xs l e hn hv => ?_, fun p xs l e hn hv => ?_⟩
          · subst e
            exact hp v _ H1 (hrd.push hv)
          · subst e
            exact hp _ _ _ (hrd.pushTup hn hv)
          · subst e
            exact hp _ _ _ (hrd.pushLst hn hv)
theorem das_nil : DAs g tNil asN W := fun B Hs r s t k H Q o hr hm hp => by
  cases hm
  exact hp [] [] _ H .nil (by show RepT _ B Hs r s (t ++ []) (k ++ []) H; rw [List.append_nil, List.append_nil]; exact hr)
theorem das_cons {te : TE} {ta : TA} {a : A} {as : As} (h2 : DO g te a W) (h4 : DAs g ta as W) : DAs g (tCons te ta) (asC a as) W := by
  intro B Hs r s t k H Q o hr hm hp
  unfold asC M.bind at hm
  show te s H fun x H1 => ta s H1 fun xs H2 => Q (x :: xs) H2
  cases q : a r with
  | none =>
    rw [q] at hm
    cases hm
  | some u =>
    rw [q] at hm
    cases u with
    | ex e r1 =>
      cases hm
      exact h2 B _ r s t k H _ _ hr q hp
    | ok x r1 =>
      dsimp only at hm
      cases q2 : as r1 with
      | none =>
        rw [q2] at hm
        cases hm
      | some u2 =>
        rw [q2] at hm
        refine h2 B _ r s t k H _ _ hr q fun v HsH1 H1 ha => ?_
        cases x with
        | r i =>
          obtain ⟨ha1, ha2⟩ := ha
          refine h4 B _ r1 s t k H1 _ _ ha2 q2 ?_
          cases u2 with
          | ex e r2 =>
            cases hm
            exact hp
          | ok xs r2 =>
            cases hm
            exact fun vs kv HsH2 H2 av hr2 => hp (v :: vs) kv _ H2 (.r ha1 av) hr2
        | v x =>
          refine h4 B _ r1 s (t ++ [x]) (k ++ [some v]) H1 _ _ ha q2 ?_
          cases u2 with
          | ex e r2 =>
            cases hm
            exact PostX.drop hr.tk hp
          | ok xs r2 =>
            cases hm
            refine fun vs kv HsH2 H2 av hr2 => hp (v :: vs) (some v :: kv) HsH2 H2 (.v av) ?_
            rw [List.append_assoc, List.append_assoc] at hr2
            exact hr2
end

/-- a two-place reading over a list of values -/
def r2L (r : R2) : List V → Hp → VK → Prop
  | [x, y], H, Q => r x y H Q
  | _, _, _ => True
def r1L (r : V → Hp → VK → Prop) : List V → Hp → VK → Prop
  | [x], H, Q => r x H Q
  | _, _, _ => True

section
variable {X : Cx} {cl : Cs} {W : WX} {a b e : Expr} {es : List Expr} {ma mb : A} {as : As} {pos : Pos} {f : List D → Option Sl}
theorem pd_bin {op : Operator} {r : R2} (ho : OpR X (binaryOp op) r) (hf : OpD (gm X cl) (r2L r) f) (ha : PO X cl W a ma) (hb : PO X cl W b mb) : PD X cl W (.BinOp a op b pos) (eOp (asC ma (asC mb asN)) f) := by
  obtain ⟨ta, h1, h2⟩ := ha
  obtain ⟨tb, h3, h4⟩ := hb
  exact ⟨_, pe_op ho h1 h3, op_den (das_cons h2 (das_cons h4 das_nil)) hf⟩
theorem pd_cmp {op : CmpOp} {r : R2} (ho : OpR X (compareOp op) r) (hf : OpD (gm X cl) (r2L r) f) (ha : PO X cl W a ma) (hb : PO X cl W b mb) (hm : behindInMarks op b = false) : PD X cl W (.Compare a [op] [b] pos) (eOp (asC ma (asC mb asN)) f) := by
  obtain ⟨ta, h1, h2⟩ := ha
  obtain ⟨tb, h3, h4⟩ := hb
  exact ⟨_, pe_cmpR ho h1 h3 hm, op_den (das_cons h2 (das_cons h4 das_nil)) hf⟩
theorem pd_ix {r : R2} (ho : IxR X r) (hf : OpD (gm X cl) (r2L r) f) (ha : PO X cl W a ma) (hb : PO X cl W b mb) (hs : PlainIx b) : PD X cl W (.Subscript a b pos) (eOp (asC ma (asC mb asN)) f) := by
  obtain ⟨ta, h1, h2⟩ := ha
  obtain ⟨tb, h3, h4⟩ := hb
  exact ⟨_, pe_ix ho h1 h3 hs, op_den (das_cons h2 (das_cons h4 das_nil)) hf⟩
theorem pd_un {op : UnaryOp} {r : V → Hp → VK → Prop} (ho : UnR X (unaryOp op) r) (hf : OpD (gm X cl) (r1L r) f) (ha : PO X cl W a ma) : PD X cl W (.UnaryOp op a pos) (eOp (asC ma asN) f) := by
  obtain ⟨ta, h1, h2⟩ := ha
  exact ⟨_, pe_un ho h1, op_den (das_cons h2 das_nil) hf⟩
theorem pd_callB {id : String} {x : Str} {p : Pos} {r : List V → Hp → VK → Prop} (ho : CallR X (.builtin id) r) (hf : OpD (gm X cl) r f) (hg : Gl X x) (hm : X.mg x = none) (hv : bootBuiltins x = some (.builtin id)) (ha : PAs X cl W (e :: es) as)
    (hn : x ≠ "__name__" := by decide) (hdb : (x == ("__debug__" : Str)) = false := by decide) (he : starEach (e :: es) X.env = (false, eval e X.env) :: starEach es X.env := by rfl) (hpl : (backTo pos (starEach es X.env)).any (·.1) = false := by rfl) :
    PD X cl W (.Call (.Name x p) (e :: es) [] pos) (eOp as f) := by
  obtain ⟨ta, h1, h2⟩ := ha
  exact ⟨_, pe_callB ho hg hm hv h1 hn hdb he hpl, op_den h2 hf⟩
theorem pd_callTy {T : String} {x : Str} {p : Pos} {r : List V → Hp → VK → Prop} (ho : CallR X (.type T) r) (hf : OpD (gm X cl) r f) (hg : Gl X x) (hm : X.mg x = none) (hv : bootBuiltins x = some (.type T)) (ha : PAs X cl W (e :: es) as)
    (hn : x ≠ "__name__" := by decide) (hdb : (x == ("__debug__" : Str)) = false := by decide) (he : starEach (e :: es) X.env = (false, eval e X.env) :: starEach es X.env := by rfl) (hpl : (backTo pos (starEach es X.env)).any (·.1) = false := by rfl) :
    PD X cl W (.Call (.Name x p) (e :: es) [] pos) (eOp as f) := by
  obtain ⟨ta, h1, h2⟩ := ha
  exact ⟨_, pe_callTy ho hg hm hv h1 hn hdb he hpl, op_den h2 hf⟩
/-- a tuple, a list of written items -/
theorem pd_tup {x1} (h : PAs X cl W es as) : PD X cl W (.Tuple es x1 pos) (eTup as) := by
  obtain ⟨ta, h1, h2⟩ := h
  refine ⟨_, pe_tup h1, fun B Hs r s t k H Q o hr hm hp => ?_⟩
  unfold eTup M.bind at hm
  cases q : as r with
  | none =>
    rw [q] at hm
    cases hm
  | some u =>
    rw [q] at hm
    refine h2 B _ r s t k H _ _ hr q ?_
    cases u with
    | ex e r1 =>
      cases hm
      exact hp
    | ok xs r1 =>
      intro vs kv HsH1 H1 av hr1
      unfold M.get at hm
      dsimp only at hm
      cases q1 : shds r1 xs with
      | none =>
        rw [q1] at hm
        cases hm
      | some ds =>
        rw [q1] at hm
        dsimp only [Option.bind_some] at hm
        by_cases hz : ds.length ≤ lim
        · rw [if_pos hz] at hm
          cases hm
          obtain ⟨Hs2, _, hr2, ra⟩ := av.shared hr1 hr.tk q1
          exact ⟨by rw [ra.length]; exact hz, fun p hn => hp _ _ _ (hr2.pushTup hn ra)⟩
        · rw [if_neg hz] at hm
          cases hm
theorem pd_lst (h : PAs X cl W es as) : PD X cl W (.List es pos) (eLst as) := by
  obtain ⟨ta, h1, h2⟩ := h
  refine ⟨_, pe_lst h1, fun B Hs r s t k H Q o hr hm hp => ?_⟩
  unfold eLst M.bind at hm
  cases q : as r with
  | none =>
    rw [q] at hm
    cases hm
  | some u =>
    rw [q] at hm
    refine h2 B _ r s t k H _ _ hr q ?_
    cases u with
    | ex e r1 =>
      cases hm
      exact hp
    | ok xs r1 =>
      intro vs kv HsH1 H1 av hr1
      unfold M.get at hm
      dsimp only at hm
      cases q1 : shds r1 xs with
      | none =>
        rw [q1] at hm
        cases hm
      | some ds =>
        rw [q1] at hm
        dsimp only [Option.bind_some] at hm
        by_cases hz : ds.length ≤ lim
        · rw [if_pos hz] at hm
          cases hm
          obtain ⟨Hs2, _, hr2, ra⟩ := av.shared hr1 hr.tk q1
          exact ⟨by rw [ra.length]; exact hz, fun p hn => hp _ _ _ (hr2.pushLst hn ra)⟩
        · rw [if_neg hz] at hm
          cases hm
end

/-! ### tests -/
section
variable {g : Gam} {W : WX}
theorem bind_cases {α β : Type} {m : M α} {f : α → M β} {r : Env} {o : Out β} (h : M.bind m f r = some o) : (∃ a r1, m r = some (.ok a r1) ∧ f a r1 = some o) ∨ ∃ e r1, m r = some (.ex e r1) ∧ o = .ex e r1 := by
  unfold M.bind at h
  cases q : m r with
  | none =>
    rw [q] at h
    cases h
  | some u =>
    rw [q] at h
    cases u with
    | ok a r1 => exact .inl ⟨a, r1, rfl, h⟩
    | ex e r1 =>
      cases h
      exact .inr ⟨e, r1, rfl, rfl⟩
theorem RepT.pop {B : Bs} {Hs : Hp} {r : Env} {s : St} {t : Env} {k : St} {H : Hp} {x : Sl} {o : Option V} (h : RepT g B Hs r s (t ++ [x]) (k ++ [o]) H) : RepT g B Hs r s t k H := h.dropped (by have := h.tk; simpa using this)
theorem RepT.top {B : Bs} {Hs : Hp} {r : Env} {s : St} {t : Env} {k : St} {H : Hp} {d : D} {v : V} (h : RepT g B Hs r s (t ++ [.sh d]) (k ++ [some v]) H) : R g Hs v d := by
  have hl : t.length = k.length := by have := h.tk; simpa using this
  have e := h.el
  obtain ⟨w, q1, q2⟩ := h.rep.shd (i := r.length + t.length) (d := d) (by rw [List.getElem?_append_right (by omega), Nat.add_sub_cancel_left]; simp)
  rw [List.getElem?_append_right (by omega), e, Nat.add_sub_cancel_left, hl] at q1
  simp at q1
  subst q1
  exact q2
theorem RepT.topC {B : Bs} {Hs : Hp} {r : Env} {s : St} {t : Env} {k : St} {H : Hp} {x : Sl} {d : D} {v : V} (h : RepT g B Hs r s (t ++ [x]) (k ++ [some v]) H) (hx : x.get = some d) : RC g Hs H v d := RepT.trc (t' := []) (k' := []) h (by have := h.tk; simpa using this) hx
theorem test_den {te : TE} {m : E} (h : DE g te m W) : DT g (tTest te) (tV m) W := by
  intro B Hs r s t k H Q o hr hm hp
  rcases bind_cases hm with ⟨x, r1, q1, q2⟩ | ⟨e, r1, q1, q2⟩
  · refine h B _ r s t k H _ _ hr q1 fun v HsH' H' hr' => ?_
    cases x with
    | sh d =>
      cases d with
      | bl b =>
        cases q2
        have e2 := hr'.top
        cases e2
        exact ⟨b, rfl, hp _ H' hr'.pop⟩
      | _ => cases q2
    | _ => cases q2
  · subst q2
    exact h B _ r s t k H _ _ hr q1 hp
end
section
variable {X : Cx} {cl : Cs} {W : WX} {a b c e : Expr} {rest : List Expr} {ma mb : A} {pos : Pos} {f : List D → Option Sl}
theorem ptd_val {m : E} (h : PD X cl W e m) (he : ∀ whole, isTrue e X.env whole = (do let v ← whole; standAt e.pos; holding [v] (truthy v)) := by intro _; rfl) : PTd X cl W e (tV m) := by
  obtain ⟨te, h1, h2⟩ := h
  exact ⟨_, pt_val h1 he, test_den h2⟩
theorem ptd_cmp {op : CmpOp} {r : R2} (ho : OpR X (compareOp op) r) (hf : OpD (gm X cl) (r2L r) f) (ha : PO X cl W a ma) (hb : PO X cl W b mb) (hm : behindInMarks op b = false) : PTd X cl W (.Compare a [op] [b] pos) (tV (eOp (asC ma (asC mb asN)) f)) := by
  obtain ⟨ta, h1, h2⟩ := ha
  obtain ⟨tb, h3, h4⟩ := hb
  exact ⟨_, pt_cmpR ho h1 h3 hm, test_den (te := tOp r ta tb) (op_den (das_cons h2 (das_cons h4 das_nil)) hf)⟩
theorem ptd_not {t : T} (h : PTd X cl W a t) : PTd X cl W (.UnaryOp .Not a pos) (tNot t) := by
  obtain ⟨tt, h1, h2⟩ := h
  refine ⟨_, pt_not h1, fun B Hs r s t' k H Q o hr hm hp => ?_⟩
  rcases bind_cases hm with ⟨x, r1, q1, q2⟩ | ⟨e, r1, q1, q2⟩
  · cases q2
    exact h2 B _ r s t' k H _ _ hr q1 hp
  · subst q2
    exact h2 B _ r s t' k H _ _ hr q1 hp
theorem ptd_of {t : T} (h : PWd X cl W e t) : PTd X cl W e t := by
  obtain ⟨tt, h1, h2⟩ := h
  exact ⟨tt, h1.pt, h2⟩
theorem pwd_and1 {t : T} (h : PTd X cl W a t) : PWd X cl W (.BoolOp .And [a] pos) t := by
  obtain ⟨tt, h1, h2⟩ := h
  exact ⟨tt, pw_and1 h1, h2⟩
theorem pwd_or1 {t : T} (h : PTd X cl W a t) : PWd X cl W (.BoolOp .Or [a] pos) t := by
  obtain ⟨tt, h1, h2⟩ := h
  exact ⟨tt, pw_or1 h1, h2⟩
theorem pwd_and {t u : T} (h : PTd X cl W a t) (hb : PWd X cl W (.BoolOp .And (b :: rest) pos) u) : PWd X cl W (.BoolOp .And (a :: b :: rest) pos) (tAnd t u) := by
  obtain ⟨tt, h1, h2⟩ := h
  obtain ⟨tu, h3, h4⟩ := hb
  refine ⟨_, pw_and h1 h3, fun B Hs r s t' k H Q o hr hm hp => ?_⟩
  rcases bind_cases hm with ⟨x, r1, q1, q2⟩ | ⟨e, r1, q1, q2⟩
  · refine h2 B _ r s t' k H _ _ hr q1 fun HsH' H' hr' => ?_
    cases x with
    | true => exact iteT (h4 B _ r1 s t' k H' _ _ hr' q2 hp)
    | false =>
      cases q2
      exact iteF (hp _ H' hr')
  · subst q2
    exact h2 B _ r s t' k H _ _ hr q1 hp
theorem pwd_or {t u : T} (h : PTd X cl W a t) (hb : PWd X cl W (.BoolOp .Or (b :: rest) pos) u) : PWd X cl W (.BoolOp .Or (a :: b :: rest) pos) (tOr t u) := by
  obtain ⟨tt, h1, h2⟩ := h
  obtain ⟨tu, h3, h4⟩ := hb
  refine ⟨_, pw_or h1 h3, fun B Hs r s t' k H Q o hr hm hp => ?_⟩
  rcases bind_cases hm with ⟨x, r1, q1, q2⟩ | ⟨e, r1, q1, q2⟩
  · refine h2 B _ r s t' k H _ _ hr q1 fun HsH' H' hr' => ?_
    cases x with
    | false => exact iteF (h4 B _ r1 s t' k H' _ _ hr' q2 hp)
    | true =>
      cases q2
      exact iteT (hp _ H' hr')
  · subst q2
    exact h2 B _ r s t' k H _ _ hr q1 hp
/-! and, or, not, if as values -/
theorem pd_one {op} {m : E} (h : PD X cl W a m) : PD X cl W (.BoolOp op [a] pos) m := by
  obtain ⟨te, h1, h2⟩ := h
  exact ⟨te, pe_one h1, h2⟩
theorem pd_and {m n : E} (h : PD X cl W a m) (hb : PD X cl W (.BoolOp .And (b :: rest) pos) n) : PD X cl W (.BoolOp .And (a :: b :: rest) pos) (eAnd m n) := by
  obtain ⟨te, h1, h2⟩ := h
  obtain ⟨tu, h3, h4⟩ := hb
  refine ⟨_, pe_and h1 h3, fun B Hs r s t' k H Q o hr hm hp => ?_⟩
  rcases bind_cases hm with ⟨x, r1, q1, q2⟩ | ⟨e, r1, q1, q2⟩
  · refine h2 B _ r s t' k H _ _ hr q1 fun v HsH' H' hr' => ?_
    cases x with
    | sh d =>
      cases d with
      | bl c =>
        have e2 := hr'.top
        cases e2
        cases c with
        | true => exact ⟨true, rfl, iteT (h4 B _ r1 s t' k H' _ _ hr'.pop q2 hp)⟩
        | false =>
          cases q2
          exact ⟨false, rfl, iteF (hp _ _ H' (hr'.pop.push (.bl false)))⟩
      | _ => cases q2
    | _ => cases q2
  · subst q2
    exact h2 B _ r s t' k H _ _ hr q1 hp
theorem pd_or {m n : E} (h : PD X cl W a m) (hb : PD X cl W (.BoolOp .Or (b :: rest) pos) n) : PD X cl W (.BoolOp .Or (a :: b :: rest) pos) (eOr m n) := by
  obtain ⟨te, h1, h2⟩ := h
  obtain ⟨tu, h3, h4⟩ := hb
  refine ⟨_, pe_or h1 h3, fun B Hs r s t' k H Q o hr hm hp => ?_⟩
  rcases bind_cases hm with ⟨x, r1, q1, q2⟩ | ⟨e, r1, q1, q2⟩
  · refine h2 B _ r s t' k H _ _ hr q1 fun v HsH' H' hr' => ?_
    cases x with
    | sh d =>
      cases d with
      | bl c =>
        have e2 := hr'.top
        cases e2
        cases c with
        | false => exact ⟨false, rfl, iteF (h4 B _ r1 s t' k H' _ _ hr'.pop q2 hp)⟩
        | true =>
          cases q2
          exact ⟨true, rfl, iteT (hp _ _ H' (hr'.pop.push (.bl true)))⟩
      | _ => cases q2
    | _ => cases q2
  · subst q2
    exact h2 B _ r s t' k H _ _ hr q1 hp
theorem pd_not {m : E} (h : PD X cl W a m) : PD X cl W (.UnaryOp .Not a pos) (eNot m) := by
  obtain ⟨te, h1, h2⟩ := h
  refine ⟨_, pe_not h1, fun B Hs r s t' k H Q o hr hm hp => ?_⟩
  rcases bind_cases hm with ⟨x, r1, q1, q2⟩ | ⟨e, r1, q1, q2⟩
  · refine h2 B _ r s t' k H _ _ hr q1 fun v HsH' H' hr' => ?_
    cases x with
    | sh d =>
      cases d with
      | bl c =>
        have e2 := hr'.top
        cases e2
        cases q2
        exact ⟨c, rfl, hp _ _ H' (hr'.pop.push (.bl _))⟩
      | _ => cases q2
    | _ => cases q2
  · subst q2
    exact h2 B _ r s t' k H _ _ hr q1 hp
theorem pd_ife {t : T} {m n : E} (hc : PTd X cl W c t) (ha : PD X cl W a m) (hb : PD X cl W b n) : PD X cl W (.IfExp c a b pos) (eIf t m n) := by
  obtain ⟨tt, h1, h2⟩ := hc
  obtain ⟨ta, h3, h4⟩ := ha
  obtain ⟨tb, h5, h6⟩ := hb
  refine ⟨_, pe_ifExp h1 h3 h5, fun B Hs r s t' k H Q o hr hm hp => ?_⟩
  rcases bind_cases hm with ⟨x, r1, q1, q2⟩ | ⟨e, r1, q1, q2⟩
  · refine h2 B _ r s t' k H _ _ hr q1 fun HsH' H' hr' => ?_
    cases x with
    | true => exact iteT (h4 B _ r1 s t' k H' _ _ hr' q2 hp)
    | false => exact iteF (h6 B _ r1 s t' k H' _ _ hr' q2 hp)
  · subst q2
    exact h2 B _ r s t' k H _ _ hr q1 hp
end

/-! ### statements -/
def PostS (g : Gam) (B : Bs) (t : Env) (k : St) (W : WX) (D : Ends) : Flow → Prop
  | .nx r' => ∀ s' Hs' H', RepT g B Hs' r' s' t k H' → D.nx s' H'
  | .bk r' => ∀ s' Hs' H', RepT g B Hs' r' s' t k H' → D.bk s' H'
  | .ct r' => ∀ s' Hs' H', RepT g B Hs' r' s' t k H' → D.ct s' H'
  | .rt x r' => ∀ v s' Hs' H', RepT g B Hs' r' s' (t ++ [x]) (k ++ [some v]) H' → D.rt v H'
  | .ex e r' => ∀ s', PostX g B t k W e r' s'
def DS (g : Gam) (fx : Nat → Bool) (ts : TS) (m : S) (W : WX) : Prop := ∀ B Hs r s t k H D fl, B.fx = fx → RepT g B Hs r s t k H → m r = some fl → PostS g B t k W D fl → ts D s H
def PSd (X : Cx) (cl : Cs) (fx : Nat → Bool) (W : WX) (st : Stmt) (m : S) : Prop := ∃ ts, PS X st ts ∧ DS (gm X cl) fx ts m W
def PSsd (X : Cx) (cl : Cs) (fx : Nat → Bool) (W : WX) (sts : List Stmt) (m : S) : Prop := ∃ ts, PSs X sts ts ∧ DS (gm X cl) fx ts m W
/-- a target -/
def DG (g : Gam) (fx : Nat → Bool) (tg : TG) (m : G) (W : WX) : Prop := ∀ B Hs r s t k H x v Q fl, B.fx = fx → RepT g B Hs r s (t ++ [x]) (k ++ [some v]) H → m x r = some fl → (∃ r', fl = .nx r' ∧ ∀ s' Hs' H', RepT g B Hs' r' s' t k H' → Q s' H') → tg v s H Q
def PGd (X : Cx) (cl : Cs) (fx : Nat → Bool) (W : WX) (e : Expr) (m : G) : Prop := ∃ tg, PG X e tg ∧ DG (gm X cl) fx tg m W

theorem sE_cases {α : Type} {m : M α} {f : α → S} {r : Env} {o : Flow} (h : sE m f r = some o) : (∃ a r1, m r = some (.ok a r1) ∧ f a r1 = some o) ∨ ∃ e r1, m r = some (.ex e r1) ∧ o = .ex e r1 := by
  unfold sE at h
  cases q : m r with
  | none =>
    rw [q] at h
    cases h
  | some u =>
    rw [q] at h
    cases u with
    | ok a r1 => exact .inl ⟨a, r1, rfl, h⟩
    | ex e r1 =>
      cases h
      exact .inr ⟨e, r1, rfl, rfl⟩
section
variable {X : Cx} {cl : Cs} {fx : Nat → Bool} {W : WX} {st : Stmt} {sts : List Stmt} {e tg : Expr} {pos : Pos}
theorem pssd_nil : PSsd X cl fx W [] sPass := ⟨_, pss_nil, fun B Hs r s t k H D fl _ hr hm hp => by
  cases hm
  exact hp s _ H hr⟩
theorem pssd_one {m : S} (h : PSd X cl fx W st m) : PSsd X cl fx W [st] m := by
  obtain ⟨ts, h1, h2⟩ := h
  exact ⟨ts, pss_one h1, h2⟩
theorem pssd_cons {m n : S} (h : PSd X cl fx W st m) (hs : PSsd X cl fx W sts n) : PSsd X cl fx W (st :: sts) (sSeq m n) := by
  obtain ⟨ts, h1, h2⟩ := h
  obtain ⟨tt, h3, h4⟩ := hs
  refine ⟨_, pss_cons h1 h3, fun B Hs r s t k H D fl hf hr hm hp => ?_⟩
  unfold sSeq at hm
  show ts { D with nx := tt D } s H
  cases q : m r with
  | none =>
    rw [q] at hm
    cases hm
  | some u =>
    rw [q] at hm
    cases u with
    | nx r1 => exact h2 B _ r s t k H _ _ hf hr q fun s' HsH' H' hr' => h4 B _ r1 s' t k H' D fl hf hr' hm hp
    | bk r1 =>
      cases hm
      exact h2 B _ r s t k H _ _ hf hr q hp
    | ct r1 =>
      cases hm
      exact h2 B _ r s t k H _ _ hf hr q hp
    | rt x r1 =>
      cases hm
      exact h2 B _ r s t k H _ _ hf hr q hp
    | ex x r1 =>
      cases hm
      exact h2 B _ r s t k H _ _ hf hr q hp
theorem psd_ret {m : E} (h : PD X cl W e m) : PSd X cl fx W (.Return (some e) pos) (sRet m) := by
  obtain ⟨te, h1, h2⟩ := h
  refine ⟨_, ps_ret h1, fun B Hs r s t k H D fl _ hr hm hp => ?_⟩
  rcases sE_cases hm with ⟨x, r1, q1, q2⟩ | ⟨ee, r1, q1, q2⟩
  · cases q2
    exact h2 B _ r s t k H _ _ hr q1 fun v HsH' H' hr' => hp v s _ H' hr'
  · subst q2
    exact h2 B _ r s t k H _ _ hr q1 (hp s)
theorem psd_retN : PSd X cl fx W (.Return none pos) sRetN := ⟨_, ps_retN, fun B Hs r s t k H D fl _ hr hm hp => by
  cases hm
  exact hp .non s _ H (hr.push .non)⟩
theorem psd_if {c : Expr} {a b : List Stmt} {t : T} {m n : S} (hc : PTd X cl W c t) (ha : PSsd X cl fx W a m) (hb : PSsd X cl fx W b n) : PSd X cl fx W (.If c a b pos) (sIf t m n) := by
  obtain ⟨tt, h1, h2⟩ := hc
  obtain ⟨ta, h3, h4⟩ := ha
  obtain ⟨tb, h5, h6⟩ := hb
  refine ⟨_, ps_if h1 h3 h5, fun B Hs r s t k H D fl hf hr hm hp => ?_⟩
  rcases sE_cases hm with ⟨x, r1, q1, q2⟩ | ⟨ee, r1, q1, q2⟩
  · refine h2 B _ r s t k H _ _ hr q1 fun HsH' H' hr' => ?_
    cases x with
    | true => exact iteT (h4 B _ r1 s t k H' _ _ hf hr' q2 hp)
    | false => exact iteF (h6 B _ r1 s t k H' _ _ hf hr' q2 hp)
  · subst q2
    exact h2 B _ r s t k H _ _ hr q1 (hp s)
theorem psd_expr {m : E} (h : PD X cl W e m) (hs : swapsWith e none pos.line X.env = pure false := by rfl) : PSd X cl fx W (.Expr e pos) (sDrop m) := by
  obtain ⟨te, h1, h2⟩ := h
  refine ⟨_, ps_expr h1 hs, fun B Hs r s t k H D fl _ hr hm hp => ?_⟩
  rcases sE_cases hm with ⟨x, r1, q1, q2⟩ | ⟨ee, r1, q1, q2⟩
  · cases q2
    exact h2 B _ r s t k H _ _ hr q1 fun v HsH' H' hr' => hp s _ H' hr'.pop
  · subst q2
    exact h2 B _ r s t k H _ _ hr q1 (hp s)
theorem psd_break : PSd X cl fx W (.Break pos) sBreak := ⟨_, ps_break, fun B Hs r s t k H D fl _ hr hm hp => by
  cases hm
  exact hp s _ H hr⟩
theorem psd_cont : PSd X cl fx W (.Continue pos) sCont := ⟨_, ps_continue, fun B Hs r s t k H D fl _ hr hm hp => by
  cases hm
  exact hp s _ H hr⟩
theorem psd_pass : PSd X cl fx W (.Pass pos) sPass := ⟨_, ps_pass, fun B Hs r s t k H D fl _ hr hm hp => by
  cases hm
  exact hp s _ H hr⟩
/-- the target is a name -/
theorem pgd_name {i : Nat} {x : Str} (hN : X.N.Nodup) (hi : X.N[i]? = some x) (hx : Loc X.env.scope x) (hF : fx i = false := by rfl) (hf : X.fn x = true ∨ X.env.scope.names.lookup x = some .local := by first | exact .inl rfl | exact .inr rfl | assumption) : PGd X cl fx W (.Name x pos) (gN i) := by
  refine ⟨_, pg_name hN hi hx hf, fun B Hs r s t k H y v Q fl hfx hr hm hp => ?_⟩
  obtain ⟨r', e, hq⟩ := hp
  subst e
  unfold gN at hm
  by_cases hlt : i < r.length
  · rw [if_pos hlt] at hm
    cases hm
    refine hq _ Hs H ⟨by simp [hr.rn], by simp [hr.sn], by have := hr.tk; simpa using this, ?_, hr.sx⟩
    have q := hr.rep
    rw [← List.append_assoc, ← List.append_assoc] at q
    exact q.store (hr.rn.trans hr.sn.symm) (by have := hr.tk; simpa using this) (by rw [hr.sn]; exact Nat.le_refl _) hlt (by rw [hfx]; exact hF)
  · rw [if_neg hlt] at hm
    cases hm
theorem psd_asg {m : E} {n : G} (he : PD X cl W e m) (hg : PGd X cl fx W tg n) (hn : ∀ x r fl, n x r = some fl → ∃ r', fl = .nx r') (hs : swapsWithSole [tg] e pos.line X.env = pure false := by rfl) (hw : swappedStores [tg] e X.env = pure none := by rfl) (ha : (assignEach [tg] X.env).map (·.2) = [assign tg X.env] := by rfl) : PSd X cl fx W (.Assign [tg] e pos) (sAsg m n) := by
  obtain ⟨te, h1, h2⟩ := he
  obtain ⟨tgt, h3, h4⟩ := hg
  refine ⟨_, ps_asg h1 h3 hs hw ha, fun B Hs r s t k H D fl hf hr hm hp => ?_⟩
  rcases sE_cases hm with ⟨x, r1, q1, q2⟩ | ⟨ee, r1, q1, q2⟩
  · refine h2 B _ r s t k H _ _ hr q1 fun v HsH' H' hr' => h4 B _ r1 s t k H' x v _ fl hf hr' q2 ?_
    obtain ⟨r', e⟩ := hn x r1 fl q2
    subst e
    exact ⟨r', rfl, hp⟩
  · subst q2
    exact h2 B _ r s t k H _ _ hr q1 (hp s)
theorem gN_nx {i : Nat} : ∀ x r fl, gN i x r = some fl → ∃ r', fl = .nx r' := fun x r fl h => by
  unfold gN at h
  split at h
  · cases h
    exact ⟨_, rfl⟩
  · cases h
end
end Py

set_option Elab.async false
set_option linter.all false
set_option maxRecDepth 100000
/-! Sg: calls of the text's own defs, and their promises. -/
namespace Py
open PySem L2
open Classical

def B0 (F Hb Hs : Hp) : Bs := ⟨0, F, Hb, Hs, fun _ => false, []⟩
def PostF (g : Gm) (B : Bs) (vs : List V) (Q : VK) (E : XK) : FOut → Prop
  | .ret x ps => ∀ v Hs' H', Rep g B Hs' (ps ++ [x]) (vs.map some ++ [some v]) H' → Q v H'
  | .ex e ps => ∀ C d Hs' H', g.cl e.cls = some C → Rep g B Hs' ps (vs.map some) H' → XOk g Hs' e d → E (.ref C) d H'
/-- the promise of a def that means f -/
def spF (g : Gm) (np : Nat) (f : Fn) : Sp := fun vs H Q E => vs.length = np ∧ ∃ (F Hb Hs : Hp) (xs : List Sl) (o : FOut), Rep g (B0 F Hb Hs) Hs xs (vs.map some) H ∧ f xs = some o ∧ PostF g (B0 F Hb Hs) vs Q E o

section
variable {g : Gm} {B : Bs} {Hs : Hp} {r : Env} {s : St} {t : Env} {k : St} {H : Hp} {W : WX}
theorem Rep.rebase (h : Rep g B Hs r s H) : Rep g ⟨0, B.F, B.Hb, B.Hs0, fun _ => false, []⟩ Hs r s H := let ⟨ho, q⟩ := h; ⟨ho, q.len, Nat.zero_le _, q.ok, q.oo, q.os, q.of, q.oh, q.sh, q.fh, q.sf, q.bf, q.h0, fun _ z => Bool.noConfusion z⟩
/-- the places of operands among slots and values -/
def argIx : Nat → List Arg → List Nat
  | _, [] => []
  | n, .r i :: as => i :: argIx n as
  | n, .v _ :: as => n :: argIx (n + 1) as
theorem argIx_mem : ∀ (as : List Arg) (n i : Nat), i ∈ argIx n as → i ∈ refs as ∨ n ≤ i
  | [], _, _, h => by cases h
  | .r j :: as, n, i, h => by
    rcases List.mem_cons.mp h with h | h
    · exact .inl (List.mem_cons.mpr (.inl h))
    · rcases argIx_mem as n i h with z | z
      · exact .inl (List.mem_cons.mpr (.inr z))
      · exact .inr z
  | .v _ :: as, n, i, h => by
    rcases List.mem_cons.mp h with h | h
    · exact .inr (by omega)
    · rcases argIx_mem as (n + 1) i h with z | z
      · exact .inl z
      · exact .inr (by omega)
theorem argIx_nodup : ∀ (as : List Arg) (n : Nat), (refs as).Nodup → (∀ i ∈ refs as, i < n) → (argIx n as).Nodup
  | [], _, _, _ => List.nodup_nil
  | .r j :: as, n, h, hl => by
    have h' := List.nodup_cons.mp h
    refine List.nodup_cons.mpr ⟨fun z => ?_, argIx_nodup as n h'.2 fun i hi => hl i (List.mem_cons.mpr (.inr hi))⟩
    rcases argIx_mem as n j z with z | z
    · exact h'.1 z
    · have := hl j (List.mem_cons.mpr (.inl rfl))
      omega
  | .v _ :: as, n, h, hl => by
    refine List.nodup_cons.mpr ⟨fun z => ?_, argIx_nodup as (n + 1) h fun i hi => Nat.lt_succ_of_lt (hl i hi)⟩
    rcases argIx_mem as (n + 1) n z with z | z
    · have := hl n z
      omega
    · omega
theorem AV.len : ∀ {as : List Arg} {vs : List V} {kv : St}, AV s as vs kv → as.length = vs.length
  | _, _, _, .nil => rfl
  | _, _, _, .r _ h => by simp [AV.len h]
  | _, _, _, .v h => by simp [AV.len h]
theorem AV.refs_lt : ∀ {as : List Arg} {vs : List V} {kv : St}, AV s as vs kv → ∀ i ∈ refs as, i < s.length
  | _, _, _, .nil, i, hi => by cases hi
  | _, _, _, .r e h, i, hi => by
    rcases List.mem_cons.mp hi with z | z
    · subst z
      exact (List.getElem?_eq_some_iff.mp e).1
    · exact AV.refs_lt h i z
  | _, _, _, .v h, i, hi => AV.refs_lt h i hi
/-- each operand, at its place -/
theorem AV.ix : ∀ {as : List Arg} {vs : List V} {kv : St} {t : Env} {k : St}, AV s as vs kv → r.length = s.length → t.length = k.length → ∀ (j : Nat) (a : Arg) (v : V), as[j]? = some a → vs[j]? = some v →
    ∃ i y, (argIx (r.length + t.length) as)[j]? = some i ∧ (r ++ (t ++ tms as))[i]? = some y ∧ (s ++ (k ++ kv))[i]? = some (some v) ∧ ((∃ i', a = .r i' ∧ i = i' ∧ i < r.length ∧ Arg.hand r a = y ∧ r[i]? = some y) ∨ (Arg.hand r a = y ∧ a = .v y ∧ r.length + t.length ≤ i))
  | _, _, _, _, _, .nil, _, _, j, a, w, h, _ => by simp at h
  | .r i :: as, _, _, t, k, .r e h, hl, htk, 0, a, w, h1, h2 => by
    cases h1
    cases h2
    have hi := (List.getElem?_eq_some_iff.mp e).1
    have hi' : i < r.length := by omega
    refine ⟨i, r[i], rfl, ?_, ?_, .inl ⟨i, rfl, rfl, hi', ?_, List.getElem?_eq_getElem hi'⟩⟩
    · rw [List.getElem?_append_left hi', List.getElem?_eq_getElem hi']
    · rw [List.getElem?_append_left hi]
      exact e
    · show ((r[i]?).getD .no) = _
      rw [List.getElem?_eq_getElem hi']
      rfl
  | .r i :: as, _, _, t, k, .r e h, hl, htk, j + 1, a, w, h1, h2 => by
    obtain ⟨i', y, e1, e2, e3, e4⟩ := AV.ix (t := t) (k := k) h hl htk j a w (by simpa using h1) (by simpa using h2)
    exact ⟨i', y, by simpa [argIx] using e1, e2, e3, e4⟩
  | .v x :: as, _, _, t, k, @AV.v _ _ w' _ _ kv h, hl, htk, 0, a, w, h1, h2 => by
    cases h1
    cases h2
    refine ⟨r.length + t.length, x, rfl, ?_, ?_, .inr ⟨rfl, rfl, Nat.le_refl _⟩⟩
    · rw [List.getElem?_append_right (by omega), List.getElem?_append_right (by omega)]
      simp [tms]
    · rw [List.getElem?_append_right (by omega), List.getElem?_append_right (by omega), hl, htk]
      simp
  | .v x :: as, _, _, t, k, @AV.v _ _ w' _ _ kv h, hl, htk, j + 1, a, w, h1, h2 => by
    obtain ⟨i', y, e1, e2, e3, e4⟩ := AV.ix (t := t ++ [x]) (k := k ++ [some w']) h hl (by simp [htk]) j a w (by simpa using h1) (by simpa using h2)
    refine ⟨i', y, ?_, ?_, ?_, ?_⟩
    · simp only [argIx, List.getElem?_cons_succ]
      rw [List.length_append, List.length_singleton, ← Nat.add_assoc] at e1
      exact e1
    · rw [List.append_assoc] at e2
      exact e2
    · rw [List.append_assoc] at e3
      exact e3
    · rcases e4 with e4 | ⟨e5, e6, e7⟩
      · exact .inl e4
      · exact .inr ⟨e5, e6, by simp at e7; omega⟩
theorem comeBack_len : ∀ (as : List Arg) (ps : List Sl), (comeBack r as ps).length = r.length
  | [], _ => by simp [comeBack]
  | .r i :: as, [] => rfl
  | .r i :: as, p :: ps => by simp [comeBack, comeBack_len as ps]
  | .v _ :: as, [] => rfl
  | .v _ :: as, p :: ps => by simp [comeBack, comeBack_len as ps]
theorem comeBack_get : ∀ (as : List Arg) (ps : List Sl), (refs as).Nodup → as.length = ps.length → ∀ i : Nat, i < r.length →
    (i ∉ refs as ∧ (comeBack r as ps)[i]? = r[i]?) ∨ ∃ (j : Nat) (y p : Sl), as[j]? = some (.r i) ∧ r[i]? = some y ∧ ps[j]? = some p ∧ (comeBack r as ps)[i]? = some (y.back p)
  | [], ps, _, _, i, hi => .inl ⟨by simp [refs], by cases ps <;> rfl⟩
  | .r i' :: as, p :: ps, h, hl, i, hi => by
    have h' := List.nodup_cons.mp h
    by_cases e : i = i'
    · subst e
      right
      refine ⟨0, r[i], p, rfl, List.getElem?_eq_getElem hi, rfl, ?_⟩
      unfold comeBack
      rw [List.getElem?_set_self (by rw [comeBack_len]; exact hi), List.getElem?_eq_getElem hi]
      rfl
    · rcases comeBack_get as ps h'.2 (by simpa using hl) i hi with ⟨z1, z2⟩ | ⟨j, y, q, z1, z2, z3, z4⟩
      · left
        refine ⟨fun w => (List.mem_cons.mp w).elim e z1, ?_⟩
        unfold comeBack
        rw [List.getElem?_set_ne (Ne.symm e)]
        exact z2
      · right
        refine ⟨j + 1, y, q, by simpa using z1, z2, by simpa using z3, ?_⟩
        unfold comeBack
        rw [List.getElem?_set_ne (Ne.symm e)]
        exact z4
  | .v _ :: as, p :: ps, h, hl, i, hi => by
    rcases comeBack_get as ps h (by simpa using hl) i hi with ⟨z1, z2⟩ | ⟨j, y, q, z1, z2, z3, z4⟩
    · exact .inl ⟨z1, z2⟩
    · exact .inr ⟨j + 1, y, q, by simpa using z1, z2, by simpa using z3, z4⟩
  | .r _ :: _, [], _, hl, _, _ => by cases hl
  | .v _ :: _, [], _, hl, _, _ => by cases hl
theorem SlO.any {Hb h h' : Hp} {x : Sl} {o : Option V} (n : x.owns = false) (q : SlO g Hs Hb h x o) : SlO g Hs Hb h' x o := by
  rcases q with q | ⟨v, e, q⟩
  · exact .inl q
  · refine .inr ⟨v, e, ?_⟩
    cases x with
    | no => simp only [SlV]
    | sh d =>
      simp only [SlV] at q ⊢
      exact q
    | bw x =>
      simp only [SlV] at q ⊢
      exact q
    | ow d => cases n
    | nd k xs => cases n
/-- all the rest -/
noncomputable def hfr (P : Addr → Prop) (H : Hp) : Hp := fun a => if P a then none else H a
theorem hfr_le {P : Addr → Prop} {H : Hp} : Same (hfr P H) H := fun a o e => by
  unfold hfr at e
  split at e
  · cases e
  · exact e
theorem hfr_in {P : Addr → Prop} {H h : Hp} (e : Same h H) (d : ∀ a o, h a = some o → ¬ P a) : Same h (hfr P H) := fun a o z => by
  unfold hfr
  rw [if_neg (d a o z)]
  exact e a o z
theorem hfr_dj {P : Addr → Prop} {H h : Hp} (d : ∀ a o, h a = some o → P a) : Dj h (hfr P H) := fun a o z => if_pos (d a o z)
end

/-! ### what is lent, and how it comes back -/
section
variable {g : Gam} {B : Bs} {Hs : Hp} {r : Env} {s : St} {t : Env} {k : St} {H : Hp} {W : WX} {as : List Arg} {vs : List V} {kv : St}
theorem map_get {α β : Type} {f : α → β} {l : List α} {j : Nat} {y : β} (h : (l.map f)[j]? = some y) : ∃ x, l[j]? = some x ∧ f x = y := by
  rw [List.getElem?_map] at h
  cases q : l[j]? with
  | none =>
    rw [q] at h
    cases h
  | some x =>
    rw [q] at h
    exact ⟨x, rfl, Option.some.inj h⟩
/-- what is handed on, and the shared heap -/
def hnd (Hs : Hp) (ho : Nat → Hp) (ix : List Nat) (a : Addr) : Prop := (∃ o, Hs a = some o) ∨ ∃ i ∈ ix, ∃ o, ho i a = some o
theorem argIx_len : ∀ (as : List Arg) (n : Nat), (argIx n as).length = as.length
  | [], _ => rfl
  | .r i :: as, n => by simp [argIx, argIx_len as n]
  | .v _ :: as, n => by simp [argIx, argIx_len as (n + 1)]
/-- a call, there and back -/
theorem lend_back (av : AV s as vs kv) (hr : RepT g B Hs r s (t ++ tms as) (k ++ kv) H) (hl : t.length = k.length) (hn : (refs as).Nodup) :
    ∃ F, Rep g (B0 F B.Hb Hs) Hs (as.map (Arg.hand r)) (vs.map some) H ∧
      ∀ (ps more : List Sl) (us : St) (Hs' H' : Hp), more.length = us.length → ps.length = as.length → Rep g (B0 F B.Hb Hs) Hs' (ps ++ more) (vs.map some ++ us) H' → RepT g B Hs' (comeBack r as ps) s (t ++ more) (k ++ us) H' := by
  have el : r.length = s.length := hr.el
  have al := av.len
  obtain ⟨ho, q⟩ := hr.rep
  obtain ⟨n0, e0⟩ : ∃ n0, n0 = r.length + t.length := ⟨_, rfl⟩
  obtain ⟨ix, eix⟩ : ∃ ix, ix = argIx n0 as := ⟨_, rfl⟩
  have ixl : ix.length = as.length := by rw [eix]; exact argIx_len as n0
  have nd : ix.Nodup := by
    rw [eix]
    exact argIx_nodup as _ hn fun i hi => by
      have := av.refs_lt i hi
      omega
  have avix : ∀ (j : Nat) (a : Arg) (v : V), as[j]? = some a → vs[j]? = some v → ∃ i y, ix[j]? = some i ∧ (r ++ (t ++ tms as))[i]? = some y ∧ (s ++ (k ++ kv))[i]? = some (some v) ∧ ((∃ i', a = .r i' ∧ i = i' ∧ i < r.length ∧ Arg.hand r a = y ∧ r[i]? = some y) ∨ (Arg.hand r a = y ∧ a = .v y ∧ r.length + t.length ≤ i)) := by
    intro j a v h1 h2
    rw [eix, e0]
    exact av.ix el hl j a v h1 h2
  have memR : ∀ i, i < n0 → i ∈ ix → i ∈ refs as := fun i h1 h2 => by
    rw [eix] at h2
    rcases argIx_mem as n0 i h2 with z | z
    · exact z
    · omega
  obtain ⟨F, eF⟩ : ∃ F, F = hfr (hnd Hs ho ix) H := ⟨_, rfl⟩
  have fin : ∀ i, i ∉ ix → Same (ho i) F := fun i hi => by
    rw [eF]
    refine hfr_in (q.oh i) fun a o z => ?_
    rintro (⟨u, w⟩ | ⟨j, hj, u, w⟩)
    · exact (q.os i).ne z w
    · exact (q.oo i j (fun e => hi (e ▸ hj))).ne z w
  have fF : Same B.F F := by
    rw [eF]
    refine hfr_in q.fh fun a o z => ?_
    rintro (⟨u, w⟩ | ⟨j, hj, u, w⟩)
    · exact q.sf.ne w z
    · exact (q.of j).ne w z
  have dF : ∀ i ∈ ix, Dj (ho i) F := fun i hi => by
    rw [eF]
    exact hfr_dj fun a o z => .inr ⟨i, hi, o, z⟩
  refine ⟨F, ⟨fun j => match ix[j]? with | some i => ho i | none => hemp, ⟨by simp [al], Nat.zero_le _, fun j x o h1 h2 => ?_, fun j j' n => ?_, fun j => ?_, fun j => ?_, fun j => ?_, q.sh, by rw [eF]; exact hfr_le, by rw [eF]; exact hfr_dj fun a o z => .inl ⟨o, z⟩, q.bf.tr fF, same_rfl, fun _ z => Bool.noConfusion z⟩⟩, fun ps more us Hs' H' hml hpl hC => ?_⟩
  · obtain ⟨a, e1, e2⟩ := map_get h1
    obtain ⟨v, e3, e4⟩ := map_get h2
    obtain ⟨i, y, f1, f2, f3, f4⟩ := avix j a v e1 e3
    subst e2
    subst e4
    have ok := q.ok i y (some v) f2 f3
    have eh : Arg.hand r a = y := f4.elim (fun ⟨_, _, _, _, z, _⟩ => z) fun z => z.1
    rw [eh, f1]
    exact ok
  · cases q1 : ix[j]? with
    | none => exact dj_emp
    | some i =>
      cases q2 : ix[j']? with
      | none => exact dj_emp.symm
      | some i' =>
        refine q.oo i i' fun e => n ?_
        subst e
        exact nd_ix nd q1 q2
  · cases q1 : ix[j]? with
    | none => exact dj_emp
    | some i => exact q.os i
  · cases q1 : ix[j]? with
    | none => exact dj_emp
    | some i => exact dF i (List.mem_of_getElem? q1)
  · cases q1 : ix[j]? with
    | none => exact same_emp
    | some i => exact q.oh i
  · obtain ⟨ho1, c⟩ := hC
    have hvl : (vs.map some).length = ps.length := by simp [hpl, al]
    have cl := comeBack_len (r := r) as ps
    have hs1 : Same Hs Hs' := c.h0
    have ixOf : ∀ i j, ix[j]? = some i → ix.idxOf i = j := fun i j z => by
      have hm := List.mem_of_getElem? z
      have h1 : ix[ix.idxOf i]? = some i := by rw [List.getElem?_eq_getElem (List.idxOf_lt_length_of_mem hm)]; simp
      exact nd_ix nd h1 z
    let ho2 : Nat → Hp := fun i => if i < n0 then (if i ∈ ix then ho1 (ix.idxOf i) else ho i) else ho1 (i - n0 + as.length)
    have e2a : ∀ i, i < n0 → i ∈ ix → ho2 i = ho1 (ix.idxOf i) := fun i h1 h2 => by
      show (if i < n0 then (if i ∈ ix then ho1 (ix.idxOf i) else ho i) else ho1 (i - n0 + as.length)) = _
      rw [if_pos h1, if_pos h2]
    have e2b : ∀ i, i < n0 → i ∉ ix → ho2 i = ho i := fun i h1 h2 => by
      show (if i < n0 then (if i ∈ ix then ho1 (ix.idxOf i) else ho i) else ho1 (i - n0 + as.length)) = _
      rw [if_pos h1, if_neg h2]
    have e2c : ∀ i, ¬ i < n0 → ho2 i = ho1 (i - n0 + as.length) := fun i h1 => by
      show (if i < n0 then (if i ∈ ix then ho1 (ix.idxOf i) else ho i) else ho1 (i - n0 + as.length)) = _
      rw [if_neg h1]
    have cases2 : ∀ i, (i < n0 ∧ i ∈ ix ∧ ho2 i = ho1 (ix.idxOf i) ∧ ix.idxOf i < as.length) ∨ (i < n0 ∧ i ∉ ix ∧ ho2 i = ho i) ∨ (¬ i < n0 ∧ ho2 i = ho1 (i - n0 + as.length)) := fun i => by
      by_cases h1 : i < n0
      · by_cases h2 : i ∈ ix
        · exact .inl ⟨h1, h2, e2a i h1 h2, by have := List.idxOf_lt_length_of_mem h2; omega⟩
        · exact .inr (.inl ⟨h1, h2, e2b i h1 h2⟩)
      · exact .inr (.inr ⟨h1, e2c i h1⟩)
    have dOld : ∀ i b, i ∉ ix → Dj (ho i) (ho1 b) := fun i b hi => ((c.of b).mono same_rfl (fin i hi)).symm
    refine ⟨cl.trans hr.rn, hr.sn, by simp [hl, hml], ⟨ho2, ⟨by simp [cl, el, hl, hml], by simp [hr.sn], fun i x o h1 h2 => ?_, fun i j n => ?_, fun i => ?_, fun i => ?_, fun i => ?_, c.sh, fF.tr c.fh, c.sf.mono same_rfl fF, q.bf, q.h0.tr hs1, fun i hi => ?_⟩⟩, hr.sx⟩
    · by_cases hi : i < r.length
      · have h2' : s[i]? = some o := by rw [List.getElem?_append_left (by omega)] at h2; exact h2
        have e2 : (s ++ (k ++ kv))[i]? = some o := by rw [List.getElem?_append_left (by omega)]; exact h2'
        rw [List.getElem?_append_left (by omega)] at h1
        rcases comeBack_get as ps hn hpl.symm i hi with ⟨z1, z2⟩ | ⟨j, y, p, z1, z2, z3, z4⟩
        · rw [z2] at h1
          have e1 : (r ++ (t ++ tms as))[i]? = some x := by rw [List.getElem?_append_left hi]; exact h1
          rw [e2b i (by omega) fun z => z1 (memR i (by omega) z)]
          exact (q.ok i x o e1 e2).mono hs1 same_rfl same_rfl
        · rw [z4] at h1
          have hx : y.back p = x := Option.some.inj h1
          have e1 : (r ++ (t ++ tms as))[i]? = some y := by rw [List.getElem?_append_left hi]; exact z2
          have hj : j < vs.length := by
            have := (List.getElem?_eq_some_iff.mp z1).1
            omega
          obtain ⟨i2, y2, f1, f2, f3, f4⟩ := avix j _ _ z1 (List.getElem?_eq_getElem hj)
          have hi2 : i2 = i := by
            rcases f4 with ⟨i', g1, g2, g3, _, _⟩ | ⟨_, g2, _⟩
            · cases g1
              exact g2
            · cases g2
          subst hi2
          unfold Sl.back at hx
          by_cases ow : y.owns = true
          · rw [if_pos ow] at hx
            by_cases hv : p.isV = true
            · rw [if_pos hv] at hx
              subst hx
              rw [e2a i2 (by omega) (List.mem_of_getElem? f1), ixOf _ _ f1]
              refine c.ok j p o ?_ ?_
              · rw [List.getElem?_append_left (List.getElem?_eq_some_iff.mp z3).1]
                exact z3
              · rw [List.getElem?_append_left (by simpa using hj), List.getElem?_map, List.getElem?_eq_getElem hj]
                rw [e2] at f3
                cases f3
                rfl
            · rw [if_neg hv] at hx
              exact .inl hx.symm
          · rw [if_neg ow] at hx
            subst hx
            exact ((q.ok i2 y o e1 e2).mono hs1 same_rfl same_rfl).any (by simpa using ow)
      · have a1 : (comeBack r as ps ++ (t ++ more))[i]? = (t ++ more)[i - r.length]? := by
          rw [List.getElem?_append_right (by omega), cl]
        have a2 : (s ++ (k ++ us))[i]? = (k ++ us)[i - r.length]? := by
          rw [List.getElem?_append_right (by omega), el]
        have b1 : (r ++ (t ++ tms as))[i]? = (t ++ tms as)[i - r.length]? := by
          rw [List.getElem?_append_right (by omega)]
        have b2 : (s ++ (k ++ kv))[i]? = (k ++ kv)[i - r.length]? := by
          rw [List.getElem?_append_right (by omega), el]
        rw [a1] at h1
        rw [a2] at h2
        by_cases hi2 : i - r.length < t.length
        · rw [List.getElem?_append_left hi2] at h1
          rw [List.getElem?_append_left (by omega)] at h2
          have e1 : (r ++ (t ++ tms as))[i]? = some x := by rw [b1, List.getElem?_append_left hi2]; exact h1
          have e2 : (s ++ (k ++ kv))[i]? = some o := by rw [b2, List.getElem?_append_left (by omega)]; exact h2
          rw [e2b i (by omega) fun z => by have := av.refs_lt _ (memR i (by omega) z); omega]
          exact (q.ok i x o e1 e2).mono hs1 same_rfl same_rfl
        · rw [List.getElem?_append_right (by omega)] at h1
          rw [List.getElem?_append_right (by omega)] at h2
          rw [e2c i (by omega)]
          have ej : i - n0 + as.length = ps.length + (i - r.length - t.length) := by omega
          rw [ej]
          refine c.ok _ x o ?_ ?_
          · rw [List.getElem?_append_right (by omega), Nat.add_sub_cancel_left]
            exact h1
          · rw [List.getElem?_append_right (by rw [hvl]; omega), hvl, Nat.add_sub_cancel_left, hl]
            exact h2
    · rcases cases2 i with ⟨a1, a2, a3, a4⟩ | ⟨a1, a2, a3⟩ | ⟨a1, a3⟩
      · rcases cases2 j with ⟨b1, b2, b3, b4⟩ | ⟨b1, b2, b3⟩ | ⟨b1, b3⟩
        · rw [a3, b3]
          refine c.oo _ _ fun e => n ?_
          have h1 : ix[ix.idxOf i]? = some i := by rw [List.getElem?_eq_getElem (List.idxOf_lt_length_of_mem a2)]; simp
          have h2 : ix[ix.idxOf j]? = some j := by rw [List.getElem?_eq_getElem (List.idxOf_lt_length_of_mem b2)]; simp
          rw [e, h2] at h1
          exact (Option.some.inj h1).symm
        · rw [a3, b3]
          exact (dOld j _ b2).symm
        · rw [a3, b3]
          exact c.oo _ _ (by omega)
      · rcases cases2 j with ⟨b1, b2, b3, b4⟩ | ⟨b1, b2, b3⟩ | ⟨b1, b3⟩
        · rw [a3, b3]
          exact dOld i _ a2
        · rw [a3, b3]
          exact q.oo i j n
        · rw [a3, b3]
          exact dOld i _ a2
      · rcases cases2 j with ⟨b1, b2, b3, b4⟩ | ⟨b1, b2, b3⟩ | ⟨b1, b3⟩
        · rw [a3, b3]
          exact c.oo _ _ (by omega)
        · rw [a3, b3]
          exact (dOld j _ b2).symm
        · rw [a3, b3]
          exact c.oo _ _ (by omega)
    · rcases cases2 i with ⟨a1, a2, a3, a4⟩ | ⟨a1, a2, a3⟩ | ⟨a1, a3⟩
      · rw [a3]
        exact c.os _
      · rw [a3]
        exact (c.sf.mono same_rfl (fin i a2)).symm
      · rw [a3]
        exact c.os _
    · rcases cases2 i with ⟨a1, a2, a3, a4⟩ | ⟨a1, a2, a3⟩ | ⟨a1, a3⟩
      · rw [a3]
        exact (c.of _).mono same_rfl fF
      · rw [a3]
        exact q.of i
      · rw [a3]
        exact (c.of _).mono same_rfl fF
    · rcases cases2 i with ⟨a1, a2, a3, a4⟩ | ⟨a1, a2, a3⟩ | ⟨a1, a3⟩
      · rw [a3]
        exact c.oh _
      · rw [a3]
        exact (fin i a2).tr c.fh
      · rw [a3]
        exact c.oh _
    · have z := q.fix i hi
      refine ⟨z.1, ?_⟩
      rw [← z.2, List.getElem?_append_left (by rw [hr.sn]; exact z.1), List.getElem?_append_left (by rw [hr.sn]; exact z.1)]
end
end Py

set_option Elab.async false
set_option linter.all false
set_option maxRecDepth 100000
/-! Sh: a call as a step; a def by its body. -/
namespace Py
open PySem PySem.Spec PyProof.Rows L2

section
variable {g : Gam} {W : WX}
theorem call_den {ta : TA} {as : As} {f : Fn} {np : Nat} (hnp : ∀ xs o, f xs = some o → xs.length = np) (hlen : ∀ xs x ps, (f xs = some (.ret x ps) → ps.length = xs.length)) (hlex : ∀ xs x ps, (f xs = some (.ex x ps) → ps.length = xs.length)) (h : DAs g ta as W) :
    DE g (fun s H Q => ta s H fun vs H1 => spF g np f vs H1 Q (WE W s)) (eCall f as) W := by
  intro B Hs r s t k H Q o hr hm hp
  rcases bind_cases hm with ⟨xs, r1, q1, q2⟩ | ⟨e, r1, q1, q2⟩
  · refine h B Hs r s t k H _ _ hr q1 fun vs kv Hs1 H1 av hr1 => ?_
    by_cases hn : (refs xs).Nodup
    · rw [if_pos hn] at q2
      obtain ⟨F, rp, bk⟩ := lend_back av hr1 hr.tk hn
      have hl : vs.length = (xs.map (Arg.hand r1)).length := by simp [av.len]
      cases q3 : f (xs.map (Arg.hand r1)) with
      | none =>
        rw [q3] at q2
        cases q2
      | some u =>
        rw [q3] at q2
        refine ⟨hl.trans (hnp _ _ q3), F, B.Hb, Hs1, _, u, rp, q3, ?_⟩
        cases u with
        | ret x ps =>
          dsimp only at q2
          by_cases hv : x.isV = true
          · rw [if_pos hv] at q2
            cases q2
            intro v Hs' H' hC
            have pl := hlen _ _ _ q3
            exact hp v Hs' H' (bk ps [x] [some v] Hs' H' rfl (by simpa using pl) hC)
          · rw [if_neg hv] at q2
            cases q2
        | ex e ps =>
          cases q2
          intro C d Hs' H' hc hC hx
          have pl := hlex _ _ _ q3
          have b1 := bk ps [] [] Hs' H' rfl (by simpa using pl) (by rw [List.append_nil, List.append_nil]; exact hC)
          rw [List.append_nil, List.append_nil] at b1
          exact hp C d Hs' H' hc b1 hx
    · rw [if_neg hn] at q2
      cases q2
  · subst q2
    exact h B Hs r s t k H _ _ hr q1 hp
theorem mkFn_some {n : Nat} {mask : List Bool} {body : S} {xs : List Sl} {o : FOut} (h : mkFn n mask body xs = some o) : xs.length = mask.length ∧ ∃ fl, body (xs ++ List.replicate (n - xs.length) .no) = some fl ∧ (match fl with
    | .nx r => o = .ret (.sh .non) (mkBack mask r)
    | .rt s r => o = .ret s (mkBack mask r)
    | .ex e r => o = .ex e (mkBack mask r)
    | _ => False) := by
  unfold mkFn at h
  split at h
  · rename_i hl
    refine ⟨hl, ?_⟩
    cases q : body (xs ++ List.replicate (n - xs.length) .no) with
    | none =>
      rw [q] at h
      cases h
    | some fl =>
      rw [q] at h
      refine ⟨fl, rfl, ?_⟩
      cases fl with
      | nx r =>
        cases h
        rfl
      | rt s r =>
        cases h
        rfl
      | ex e r =>
        cases h
        rfl
      | bk r => cases h
      | ct r => cases h
  · cases h
end
section
variable {X : Cx} {cl : Cs} {W : WX} {e : Expr} {es : List Expr} {as : As} {pos p : Pos} {x : Str} {f : Fn} {fa : Addr} {fd : FuncData} {ps : List Str} {k : Nat}
/-- a def that means f -/
structure Means (P : Program) (w : World) (K : PySem.W.Frag) (mg : Str → Option Value) (base : Heap) (cl : Str → Option Addr) (k : Nat) (x : Str) (ps : List Str) (f : Fn) : Prop where
  ex : ∃ fa fd, FnOk P w K mg base (L2.CX P w) k fa fd ps (spF ⟨K, cl⟩ ps.length f) ∧ mg x = some (.ref fa) ∧ PySem.W.keepIn K (.ref fa) = true ∧ Binds K fd ps []
  np : ∀ xs o, f xs = some o → xs.length = ps.length
  rl : ∀ xs x qs, f xs = some (.ret x qs) → qs.length = xs.length
  xl : ∀ xs x qs, f xs = some (.ex x qs) → qs.length = xs.length
theorem pd_call (F : Means X.prog X.w X.K X.mg X.base cl.c k x ps f) (hr : Room k X.A) (hg : Gl X x) (tk : Takes X W) (ha : PAs X cl W (e :: es) as)
    (hdb : (x == ("__debug__" : Str)) = false := by decide) (he : starEach (e :: es) X.env = (false, eval e X.env) :: starEach es X.env := by rfl) (hpl : (backTo pos (starEach es X.env)).any (·.1) = false := by rfl) :
    PD X cl W (.Call (.Name x p) (e :: es) [] pos) (eCall f as) := by
  obtain ⟨ta, h1, h2⟩ := ha
  obtain ⟨fa, fd, G, hm, kp, hb⟩ := F.ex
  exact ⟨_, pe_callS G hr hg hm kp hb (fun σ => passAt tk σ) h1 hdb he hpl, call_den F.np F.rl F.xl h2⟩
end

/-! ### a def -/
theorem mkBack_len : ∀ {mask : List Bool} {r : Py.Env}, (mkBack mask r).length = mask.length
  | [], _ => by unfold mkBack; rfl
  | _ :: bs, [] => by simp [mkBack, mkBack_len (mask := bs)]
  | _ :: bs, _ :: r => by simp [mkBack, mkBack_len (mask := bs)]
theorem mkBack_get : ∀ {mask : List Bool} {r : Py.Env} {i : Nat} {x : Sl}, (mkBack mask r)[i]? = some x → x = .no ∨ (mask[i]? = some true ∧ r[i]? = some x)
  | [], _, i, x, h => by simp [mkBack] at h
  | b :: bs, [], 0, x, h => by
    simp [mkBack] at h
    exact .inl h.symm
  | b :: bs, [], i + 1, x, h => by
    have h' : (mkBack bs [])[i]? = some x := by simpa [mkBack] using h
    rcases mkBack_get h' with z | ⟨_, z⟩
    · exact .inl z
    · simp at z
  | b :: bs, y :: r, 0, x, h => by
    simp only [mkBack, List.getElem?_cons_zero, Option.some.injEq] at h
    by_cases hb : b = true
    · rw [if_pos hb] at h
      subst hb
      subst h
      exact .inr ⟨rfl, rfl⟩
    · rw [if_neg hb] at h
      exact .inl h.symm
  | b :: bs, y :: r, i + 1, x, h => by
    have h' : (mkBack bs r)[i]? = some x := by simpa [mkBack] using h
    rcases mkBack_get h' with z | ⟨z1, z2⟩
    · exact .inl z
    · exact .inr ⟨by simpa using z1, by simpa using z2⟩
section
variable {P : Program} {w : World} {K : PySem.W.Frag} {mg : Str → Option Value} {base : Heap} {cl : Str → Option Addr}
theorem fn_core {qual : Str} {st : Stmt} {f : Addr} {N ps : List Str} {mask : List Bool} {body : S} {cdv : Value} {A : PySem.Around} {outer : List PySem.Env} {s : Shared} {H : Hp} {vs : List V} {Q : VK} {E : XK} (S : FnScope N ps (defScope st)) (hml : mask.length = ps.length)
    (hbody : PSsd (cxOf (L2.CX P w) P w K mg base N qual (defScope st) f cdv A outer s H E) ⟨cl, none⟩ (fun i => mask.getD i false) (fun c d _ H => E c d H) (defBody st) body) (hsp : spF ⟨K, cl⟩ ps.length (mkFn N.length mask body) vs H Q E) :
    ∃ t, PSs (cxOf (L2.CX P w) P w K mg base N qual (defScope st) f cdv A outer s H E) (defBody st) t ∧ t { nx := fun _ G => Q .non G, rt := Q } (L2.start N vs) H := by
  obtain ⟨hvl, F0, Hb, Hs, xs, o, rp, ho, hpost⟩ := hsp
  obtain ⟨ts, h1, h2⟩ := hbody
  refine ⟨ts, h1, ?_⟩
  obtain ⟨hxl, fl, hb, hf⟩ := mkFn_some ho
  have hpl : ps.length ≤ N.length := by
    have := congrArg List.length S.pre
    rw [List.length_take] at this
    omega
  let B : Bs := ⟨N.length, F0, Hb, Hs, fun i => mask.getD i false, L2.start N vs⟩
  have hst : (L2.start N vs).length = N.length := by
    unfold L2.start
    simp
    omega
  have rp2 : Rep ⟨K, cl⟩ B Hs (xs ++ List.replicate (N.length - xs.length) .no) (L2.start N vs) H := by
    have q : Rep ⟨K, cl⟩ (B0 F0 Hb Hs) Hs (xs ++ List.replicate (N.length - xs.length) .no) (L2.start N vs) H := by
      refine rp.sub (fun i => i) (by rw [hst]; simp; omega) (Nat.zero_le _) (fun i z => Bool.noConfusion z) (fun i y u e1 e2 => ?_) fun _ _ _ _ e => .inl e
      by_cases hi : i < xs.length
      · right
        rw [List.getElem?_append_left hi] at e1
        unfold L2.start at e2
        rw [List.getElem?_append_left (by simp; omega)] at e2
        exact ⟨e1, e2⟩
      · left
        rw [List.getElem?_append_right (by omega), List.getElem?_replicate] at e1
        split at e1
        · exact (Option.some.inj e1).symm
        · cases e1
    obtain ⟨hh, q⟩ := q
    exact ⟨hh, q.len, by rw [hst]; exact Nat.le_refl _, q.ok, q.oo, q.os, q.of, q.oh, q.sh, q.fh, q.sf, q.bf, q.h0, fun i hi => ⟨by
      have hi' : mask.getD i false = true := hi
      have : i < mask.length := by
        rw [List.getD_eq_getElem?_getD] at hi'
        cases z : mask[i]? with
        | none =>
          rw [z] at hi'
          cases hi'
        | some b => exact (List.getElem?_eq_some_iff.mp z).1
      show i < N.length
      omega, rfl⟩⟩
  have rpT : RepT ⟨⟨K, cl⟩, none⟩ B Hs (xs ++ List.replicate (N.length - xs.length) .no) (L2.start N vs) [] [] H :=
    ⟨by show _ = N.length; simp; omega, hst, rfl, by rw [List.append_nil, List.append_nil]; exact rp2, fun _ _ z => by cases z⟩
  -- the end
  have fin : ∀ (r' : Env) (s' : L2.St) (more : Env) (us : L2.St) (Hs' H' : Hp), more.length = us.length → RepT ⟨⟨K, cl⟩, none⟩ B Hs' r' s' more us H' → Rep ⟨K, cl⟩ (B0 F0 Hb Hs) Hs' (mkBack mask r' ++ more) (vs.map some ++ us) H' := by
    intro r' s' more us Hs' H' hmu h
    have e1 := h.rn
    have e2 := h.sn
    have e1' : r'.length = N.length := e1
    have e2' : s'.length = N.length := e2
    have bl := mkBack_len (mask := mask) (r := r')
    refine h.rep.rebase.sub (fun i => if i < mask.length then i else i - mask.length + N.length) (by simp [bl, hmu]; omega) (Nat.zero_le _) (fun i z => Bool.noConfusion z) (fun i y u f1 f2 => ?_) fun i j hi hj e => ?_
    · by_cases hi : i < mask.length
      · rw [List.getElem?_append_left (by omega)] at f1
        rw [List.getElem?_append_left (by simp; omega)] at f2
        rw [if_pos hi]
        rcases mkBack_get f1 with z | ⟨z1, z2⟩
        · exact .inl z
        · right
          have fx := (h.rep.fix i (by show mask.getD i false = true; rw [List.getD_eq_getElem?_getD, z1]; rfl)).2
          rw [List.getElem?_append_left (by omega)] at fx ⊢
          rw [List.getElem?_append_left (by omega), fx]
          refine ⟨z2, ?_⟩
          show (L2.start N vs)[i]? = some u
          unfold L2.start
          rw [List.getElem?_append_left (by simp; omega)]
          exact f2
      · rw [if_neg hi]
        right
        rw [List.getElem?_append_right (by omega), bl] at f1
        rw [List.getElem?_append_right (by simp; omega)] at f2
        have g1 : (r' ++ more)[i - mask.length + N.length]? = more[i - mask.length]? := by
          rw [List.getElem?_append_right (by omega)]
          congr 1
          omega
        have g2 : (s' ++ us)[i - mask.length + N.length]? = us[i - mask.length]? := by
          rw [List.getElem?_append_right (by omega)]
          congr 1
          omega
        rw [g1, g2]
        refine ⟨f1, ?_⟩
        rw [← f2]
        congr 1
        simp
        omega
    · left
      split at e <;> split at e <;> omega
  refine h2 B Hs _ _ [] [] H _ fl rfl rpT hb ?_
  cases fl with
  | nx r' =>
    have hf' : o = .ret (.sh .non) (mkBack mask r') := hf
    subst hf'
    intro s' Hs' H' h
    exact hpost .non Hs' H' (fin r' s' [.sh .non] [some .non] Hs' H' rfl (h.push .non))
  | rt y r' =>
    have hf' : o = .ret y (mkBack mask r') := hf
    subst hf'
    intro v s' Hs' H' h
    exact hpost v Hs' H' (fin r' s' [y] [some v] Hs' H' rfl h)
  | ex e r' =>
    have hf' : o = .ex e (mkBack mask r') := hf
    subst hf'
    intro s' C d Hs' H' hc h hx
    have q := fin r' s' [] [] Hs' H' rfl h
    rw [List.append_nil, List.append_nil] at q
    exact hpost C d Hs' H' hc q hx
  | bk r' => exact hf.elim
  | ct r' => exact hf.elim
theorem fn_D {x qual : Str} {st : Stmt} {f : Addr} {fd : FuncData} {N ps : List Str} {k : Nat} {mask : List Bool} {body : S} (F : Fun K x qual st f fd) (S : FnScope N ps (defScope st)) (hml : mask.length = ps.length)
    (hbody : ∀ (cdv : Value) (A : PySem.Around) (outer : List PySem.Env) (s : Shared) (H : Hp) (E : XK), Room k (A.deeper (envOfC qual (defScope st) s.heap.objs.size f cdv)) →
      PSsd (cxOf (L2.CX P w) P w K mg base N qual (defScope st) f cdv A outer s H E) ⟨cl, none⟩ (fun i => mask.getD i false) (fun c d _ H => E c d H) (defBody st) body) :
    FnOk P w K mg base (L2.CX P w) (k + 1) f fd ps (spF ⟨K, cl⟩ ps.length (mkFn N.length mask body)) :=
  F.okX S (fun vs H Q E h => h.1) fun cdv A outer s H vs Q E hr hsp => fn_core S hml (hbody cdv A outer s H E hr) hsp
end
theorem mkFn_np {n : Nat} {mask : List Bool} {body : S} {np : Nat} (h : mask.length = np) : ∀ xs o, mkFn n mask body xs = some o → xs.length = np := fun xs o q => (mkFn_some q).1.trans h
theorem mkFn_rl {n : Nat} {mask : List Bool} {body : S} : ∀ xs x qs, mkFn n mask body xs = some (.ret x qs) → qs.length = xs.length := fun xs x qs q => by
  obtain ⟨h1, fl, h2, h3⟩ := mkFn_some q
  cases fl with
  | nx r =>
    cases h3
    rw [mkBack_len, h1]
  | rt s r =>
    cases h3
    rw [mkBack_len, h1]
  | ex e r => cases h3
  | bk r => exact h3.elim
  | ct r => exact h3.elim
theorem mkFn_xl {n : Nat} {mask : List Bool} {body : S} : ∀ xs x qs, mkFn n mask body xs = some (.ex x qs) → qs.length = xs.length := fun xs x qs q => by
  obtain ⟨h1, fl, h2, h3⟩ := mkFn_some q
  cases fl with
  | nx r => cases h3
  | rt s r => cases h3
  | ex e r =>
    cases h3
    rw [mkBack_len, h1]
  | bk r => exact h3.elim
  | ct r => exact h3.elim
theorem means_mk {P : Program} {w : World} {K : PySem.W.Frag} {mg : Str → Option Value} {base : Heap} {cl : Str → Option Addr} {x : Str} {st : Stmt} {f : Addr} {fd : FuncData} {N ps : List Str} {k : Nat} {mask : List Bool} {body : S} (F : Fun K x x st f fd) (S : FnScope N ps (defScope st)) (hml : mask.length = ps.length)
    (gx : mg x = some (.ref f)) (bd : Binds K fd ps [])
    (hbody : ∀ (cdv : Value) (A : Around) (outer : List PySem.Env) (s : Shared) (H : Hp) (E : XK), Room k (A.deeper (envOfC x (defScope st) s.heap.objs.size f cdv)) →
      PSsd (cxOf (L2.CX P w) P w K mg base N x (defScope st) f cdv A outer s H E) ⟨cl, none⟩ (fun i => mask.getD i false) (fun c d _ H => E c d H) (defBody st) body) : Means P w K mg base cl (k + 1) x ps (mkFn N.length mask body) :=
  ⟨⟨f, fd, fn_D F S hml hbody, gx, F.kp, bd⟩, mkFn_np hml, mkFn_rl, mkFn_xl⟩
end Py

set_option Elab.async false
set_option linter.all false
set_option maxRecDepth 100000
/-! Si: stores, unpacking, loops, raise. -/
namespace Py
open PySem L2

section
variable {g : Gam} {B : Bs} {Hs : Hp} {r : Env} {s : St} {t : Env} {k : St} {H : Hp} {W : WX}
theorem ixAt_eq (n : Nat) (i : Int) : ixAt n i = ixN n i := rfl
theorem RepT.write {i : Nat} {d d' : D} {p : Addr} {o' : HO} (h : RepT g B Hs r s t k H) (hi : r[i]? = some (.ow d)) (hs : s[i]? = some (some (.ref p))) (hn : NodeO g Hs o' d') : RepT g B Hs (r.set i (.ow d')) s t k (upd H p o') := by
  have hil := (List.getElem?_eq_some_iff.mp hi).1
  have q := h.rep.write (i := i) (d := d) (d' := d') (p := p) (o' := o') (by rw [List.getElem?_append_left hil]; exact hi) (by rw [List.getElem?_append_left (h.lt hi)]; exact hs) hn
  rw [List.set_append_left _ _ hil] at q
  exact ⟨by simp [h.rn], h.sn, h.tk, q, h.sx⟩
/-- an operand's data, in the whole heap; and the state without it -/
theorem ArgOk.dat {v : V} {a : Arg} {d : D} (h : ArgOk g B Hs r s t k H v a) (hd : a.dat r = some d) : RC g Hs H v d ∧ RepT g B Hs r s t k H := by
  cases a with
  | r i =>
    obtain ⟨h1, h2⟩ := h
    have e : (Arg.r i).dat r = ((r[i]?).getD .no).get := rfl
    rw [e] at hd
    cases q : r[i]? with
    | none =>
      rw [q] at hd
      cases hd
    | some x =>
      rw [q] at hd
      obtain ⟨o, e1, e2⟩ := h2.rc q hd
      rw [h1] at e1
      cases e1
      exact ⟨e2, h2⟩
  | v x => exact ⟨RepT.topC h hd, RepT.pop h⟩
end

section
variable {X : Cx} {cl : Cs} {fx : Nat → Bool} {W : WX} {e : Expr} {pos p2 : Pos} {x : Str}
theorem pgd_set {i : Nat} {mi : A} (ho : PE X (.Name x p2) (tVar i)) (hi : PO X cl W e mi)
    (ha : ∀ v, assign (.Subscript (.Name x p2) e pos) X.env v = (do
      let ov ← holding [v] (eval (.Name x p2) X.env)
      let iv ← holding [v, ov] (eval e X.env)
      standAt pos
      holding [v, ov, iv] (setItem ov iv v)
      release [v, ov, iv] []) := by intro _; rfl) : PGd X cl fx W (.Subscript (.Name x p2) e pos) (gSet i mi) := by
  obtain ⟨ti, h1, h2⟩ := hi
  refine ⟨_, pg_sub ho h1 set_list ha, fun B Hs r s t k H y v Q fl hfx hr hm hp => ?_⟩
  unfold gSet at hm
  cases q0 : (r[i]?).bind Sl.get with
  | none =>
    rw [q0] at hm
    cases hm
  | some dz =>
  rw [q0] at hm
  dsimp only at hm
  obtain ⟨y0, qa, qb⟩ := Option.bind_eq_some_iff.mp q0
  obtain ⟨v0, ea, _⟩ := hr.rc qa qb
  refine ⟨v0, ea, ?_⟩
  cases q : mi r with
  | none =>
    rw [q] at hm
    cases hm
  | some u =>
    rw [q] at hm
    cases u with
    | ex e r1 => cases hm
    | ok a r1 =>
      dsimp only at hm
      split at hm
      · rename_i ds z d q1 q2 q3
        obtain ⟨j, q4, q5⟩ := Option.map_eq_some_iff.mp hm
        obtain ⟨r', er, hq⟩ := hp
        rw [er] at q5
        cases q5
        refine h2 B _ r s (t ++ [y]) (k ++ [some v]) H _ _ hr q fun iv HsH2 H2 ao => ?_
        obtain ⟨c1, c2⟩ := ao.dat q2
        have ri := c1.toR c2.shH
        cases ri
        have hd : t.length = k.length := by have := hr.tk; simpa using this
        obtain ⟨Hs3, _, c3, rv⟩ := AV.shared (as := [.v y]) (.v .nil) c2 hd (by unfold shds; rw [show (Arg.v y).shd r1 = some d from q3]; rfl)
        obtain ⟨p, o1, e1, e2, xs, n1, n2⟩ := c3.ow q1
        rw [ea] at e1
        cases e1
        subst n1
        cases rv with
        | cons rv _ =>
          refine ⟨p, xs, z, j, rfl, rfl, e2, by rw [n2.length]; exact q4, ?_⟩
          exact hq _ _ _ (c3.write q1 ea ⟨_, rfl, n2.set rv j⟩)
      · cases hm
theorem gSet_nx {i : Nat} {mi : A} : ∀ x r fl, gSet i mi x r = some fl → ∃ r', fl = .nx r' := fun x r fl h => by
  unfold gSet at h
  split at h
  · cases h
  · split at h
    · split at h
      · obtain ⟨j, _, e⟩ := Option.map_eq_some_iff.mp h
        exact ⟨_, e.symm⟩
      · cases h
    · cases h
/-- targets one by one -/
def AllIn (t : Env) (k : St) (ds : List D) (vs : List V) : Prop := ∀ (j : Nat) (d : D) (v : V), ds[j]? = some d → vs[j]? = some v → ∃ i : Nat, t[i]? = some (.sh d) ∧ k[i]? = some (some v)
def DGs (g : Gam) (fx : Nat → Bool) (tg : TGs) (ms : List G) : Prop := ∀ B Hs r s t k H ds vs Q fl, B.fx = fx → RepT g B Hs r s t k H → AllIn t k ds vs → ds.length = vs.length → gUn ms ds r = some fl → (∃ r', fl = .nx r' ∧ ∀ s' Hs' H', RepT g B Hs' r' s' t k H' → Q s' H') → tg vs s H Q
theorem RepT.inTemp {g : Gam} {B : Bs} {Hs : Hp} {r : Env} {s : St} {t : Env} {k : St} {H : Hp} {i : Nat} {d : D} {v : V} (h : RepT g B Hs r s t k H) (h1 : t[i]? = some (.sh d)) (h2 : k[i]? = some (some v)) : R g Hs v d := by
  have e : r.length = s.length := h.el
  obtain ⟨v', e1, e2⟩ := h.rep.shd (i := r.length + i) (d := d) (by rw [List.getElem?_append_right (by omega), Nat.add_sub_cancel_left]; exact h1)
  rw [List.getElem?_append_right (by omega), e, Nat.add_sub_cancel_left, h2] at e1
  cases e1
  exact e2
theorem RepT.pushAll {g : Gam} {B : Bs} {Hs : Hp} {r : Env} {s : St} {H : Hp} : ∀ {ds : List D} {vs : List V} {t : Env} {k : St}, RepT g B Hs r s t k H → RA g Hs vs ds → RepT g B Hs r s (t ++ ds.map .sh) (k ++ vs.map some) H
  | [], [], t, k, h, _ => by
    show RepT g B Hs r s (t ++ []) (k ++ []) H
    rw [List.append_nil, List.append_nil]
    exact h
  | d :: ds, v :: vs, t, k, h, .cons h1 h2 => by
    have q := RepT.pushAll (h.push h1) h2
    rw [List.append_assoc, List.append_assoc] at q
    exact q
theorem pgsd_nil : ∃ tg, PGs X [] tg ∧ DGs (gm X cl) fx tg [] := ⟨_, pgs_nil, fun B Hs r s t k H ds vs Q fl hfx hr hin hl hm hp => by
  cases ds with
  | cons d ds => cases hm
  | nil =>
    cases vs with
    | cons v vs => cases hl
    | nil =>
      cases hm
      obtain ⟨r', e, hq⟩ := hp
      cases e
      exact ⟨rfl, hq s _ H hr⟩⟩
theorem pgsd_cons {es : List Expr} {m : G} {ms : List G} (h : PGd X cl fx W e m) (hs : ∃ tg, PGs X es tg ∧ DGs (gm X cl) fx tg ms)
    (hst : (assignEach (e :: es) X.env).map (·.2) = assign e X.env :: (assignEach es X.env).map (·.2) := by rfl) : ∃ tg, PGs X (e :: es) tg ∧ DGs (gm X cl) fx tg (m :: ms) := by
  obtain ⟨tg, h1, h2⟩ := h
  obtain ⟨tgs, h3, h4⟩ := hs
  refine ⟨_, pgs_cons h1 h3 hst, fun B Hs r s t k H ds vs Q fl hfx hr hin hl hm hp => ?_⟩
  cases ds with
  | nil => cases hm
  | cons d ds =>
    cases vs with
    | nil => cases hl
    | cons v vs =>
      refine ⟨v, vs, rfl, ?_⟩
      unfold gUn at hm
      split at hm
      · rename_i r1 q
        obtain ⟨i, e1, e2⟩ := hin 0 d v rfl rfl
        refine h2 B _ r s t k H (.sh d) v _ _ hfx (hr.push (hr.inTemp e1 e2)) q ⟨r1, rfl, fun s' HsH' H' hr' => ?_⟩
        exact h4 B _ r1 s' t k H' ds vs Q fl hfx hr' (fun j d' v' z1 z2 => hin (j + 1) d' v' (by simpa using z1) (by simpa using z2)) (by simpa using hl) hm hp
      · cases hm
theorem gUn_nx {ms : List G} : ∀ (ms : List G) (ds : List D) (r : Env) (fl : Flow), gUn ms ds r = some fl → ∃ r', fl = .nx r'
  | [], [], r, fl, h => by
    cases h
    exact ⟨_, rfl⟩
  | [], _ :: _, _, _, h => by cases h
  | _ :: _, [], _, _, h => by cases h
  | m :: ms, d :: ds, r, fl, h => by
    unfold gUn at h
    split at h
    · rename_i r1 q
      exact gUn_nx (ms := ms) ms ds r1 fl h
    · cases h
theorem gTup_nx {ms : List G} : ∀ x r fl, gTup ms x r = some fl → ∃ r', fl = .nx r' := fun x r fl h => by
  unfold gTup at h
  split at h
  · exact gUn_nx (ms := ms) _ _ _ _ h
  · cases h
theorem gUn_len : ∀ {ms : List G} {ds : List D} {r : Env} {fl : Flow}, gUn ms ds r = some fl → ds.length = ms.length
  | [], [], r, fl, h => rfl
  | [], _ :: _, _, _, h => by cases h
  | _ :: _, [], _, _, h => by cases h
  | m :: ms, d :: ds, r, fl, h => by
    unfold gUn at h
    split at h
    · rename_i r1 q
      simp [gUn_len h]
    · cases h
theorem pgd_tup {es : List Expr} {kk : Nat} {ms : List G} (hc : X.calm = true) (h : ∃ tg, PGs X es tg ∧ DGs (gm X cl) fx tg ms)
    (hn : (assignEach es X.env).length = ms.length := by rfl) (hst : (assignEach es X.env).findIdx? (·.1) = none := by rfl) : PGd X cl fx W (.Tuple es kk pos) (gTup ms) := by
  obtain ⟨tg, h1, h2⟩ := h
  refine ⟨_, pg_tup hc h1 hn hst, fun B Hs r s t k H x v Q fl hfx hr hm hp => ?_⟩
  unfold gTup at hm
  split at hm
  · rename_i ds
    have e2 := RepT.top hr
    cases e2 with
    | tup hq ra =>
      rename_i a xs
      have sq : SqT X.K H a xs := sqT_mono hr.shH hq
      refine ⟨a, xs, rfl, sq, ?_, ?_⟩
      · rw [ra.length]
        exact gUn_len hm
      · have hr2 := hr.pushAll ra
        have hl : t.length = k.length := by have := hr.tk; simpa using this
        refine h2 B _ r s _ _ H ds xs Q fl hfx hr2 (fun j d v z1 z2 => ⟨(t ++ [Sl.sh (.tup ds)]).length + j, ?_, ?_⟩) ra.length.symm hm ?_
        · rw [List.getElem?_append_right (by omega), Nat.add_sub_cancel_left, List.getElem?_map, z1]
          rfl
        · rw [List.getElem?_append_right (by simp; omega), List.getElem?_map]
          have : (t ++ [Sl.sh (.tup ds)]).length + j - (k ++ [some (V.ref a)]).length = j := by simp; omega
          rw [this, z2]
          rfl
        · obtain ⟨r', e, hq⟩ := hp
          exact ⟨r', e, fun s' HsH' H' hr' => hq s' _ H' ((RepT.dropped hr' hr.tk).pop)⟩
  · cases hm
/-- a, b = e, f: both new at once -/
theorem psd_par {i j : Nat} {y : Str} {a b : Expr} {as : As} {px py pt : Pos} {kt k2 pt2} (hc : X.calm = true) (hN : X.N.Nodup) (hi : X.N[i]? = some x) (hj : X.N[j]? = some y) (hij : i ≠ j)
    (hx : X.env.scope.names.lookup x = some .local) (hy : X.env.scope.names.lookup y = some .local) (ha : PAs X cl W [a, b] as) (hFi : fx i = false) (hFj : fx j = false)
    (hw : swappedStores [.Tuple [.Name x px, .Name y py] kt pt] (.Tuple [a, b] k2 pt2) X.env = pure (some [x, y]))
    (hs : swapsWithSole [.Tuple [.Name x px, .Name y py] kt pt] (.Tuple [a, b] k2 pt2) pos.line X.env = pure false := by rfl) :
    PSd X cl fx W (.Assign [.Tuple [.Name x px, .Name y py] kt pt] (.Tuple [a, b] k2 pt2) pos) (sPar i j as) := by
  obtain ⟨ta, h1, h2⟩ := ha
  refine ⟨_, ps_par hc hN hi hj hij hx hy h1 hw hs, fun B Hs r s t k H D fl hf hr hm hp => ?_⟩
  rcases sE_cases hm with ⟨xs, r1, q1, q2⟩ | ⟨ee, r1, q1, q2⟩
  · refine h2 B _ r s t k H _ _ hr q1 fun vs kv HsH1 H1 av hr1 => ?_
    split at q2
    · rename_i u w
      split at q2
      · rename_i hlt
        cases q2
        match vs, kv, av with
        | _, _, @AV.v _ _ v1 _ _ _ (@AV.v _ _ v2 _ _ _ .nil) =>
            refine ⟨v1, v2, rfl, hp _ HsH1 H1 ?_⟩
            have e : r1.length = s.length := hr1.rn.trans hr1.sn.symm
            have q := hr1.rep
            have a1 : r1 ++ (t ++ tms [Arg.v u, Arg.v w]) = ((r1 ++ (t ++ [u])) ++ [w]) := by simp [tms]
            have a2 : s ++ (k ++ [some v1, some v2]) = ((s ++ (k ++ [some v1])) ++ [some v2]) := by simp
            rw [a1, a2] at q
            have q3 := q.store (i := j) e (by simp [hr.tk]) (by rw [hr1.sn]; exact Nat.le_refl _) hlt.2 (by rw [hf]; exact hFj)
            have a3 : r1.set j w ++ (t ++ [u]) = ((r1.set j w ++ t) ++ [u]) := by simp
            have a4 : s.set j (some v2) ++ (k ++ [some v1]) = ((s.set j (some v2) ++ k) ++ [some v1]) := by simp
            rw [a3, a4] at q3
            have q5 := q3.store (i := i) (by simp [e]) hr.tk (by simp [hr1.sn]) (by simpa using hlt.1) (by rw [hf]; exact hFi)
            refine ⟨by simp [hr1.rn], by simp [hr1.sn], hr.tk, ?_, hr1.sx⟩
            rw [List.set_comm _ _ hij, List.set_comm (l := s) _ _ hij]
            exact q5
      · cases q2
    · cases q2
  · subst q2
    exact h2 B _ r s t k H _ _ hr q1 (hp s)
end
end Py

set_option Elab.async false
set_option linter.all false
set_option maxRecDepth 100000
/-! Sj: loops, raise. -/
namespace Py
open PySem L2

section
variable {X : Cx} {cl : Cs} {fx : Nat → Bool} {W : WX} {e c tg : Expr} {body : List Stmt} {pos p2 : Pos} {x : Str}
theorem psd_while {t : T} {b : S} (hp : PassesOwn (model X.prog X.w) X.A X.env X.xe) (hc : PTd X cl W c t) (hb : PSsd X cl fx W body b) : PSd X cl fx W (.While c body [] pos) (sWhile t b) := by
  obtain ⟨tc, h1, h2⟩ := hc
  obtain ⟨tb, h3, h4⟩ := hb
  refine ⟨_, ps_while hp h1 h3, fun B Hs r s t' k H D fl hf hr hm hpst => ?_⟩
  obtain ⟨n, hn⟩ := sWhile_iff.mp hm
  refine ⟨fun m s H => ∃ Hs r, RepT (gm X cl) B Hs r s t' k H ∧ whileN t b m r = some fl, ⟨n, Hs, r, hr, hn⟩, ?_⟩
  rintro m s H ⟨Hs, r, hr, hm⟩
  cases m with
  | zero => cases hm
  | succ m =>
    unfold whileN at hm
    cases q : t r with
    | none =>
      rw [q] at hm
      cases hm
    | some u =>
      rw [q] at hm
      refine h2 B _ r s t' k H _ _ hr q ?_
      cases u with
      | ex e r1 =>
        cases hm
        exact hpst s
      | ok c r1 =>
        intro Hs1 H1 hr1
        cases c with
        | false =>
          cases hm
          exact iteF (hpst s _ H1 hr1)
        | true =>
          dsimp only at hm
          refine iteT ⟨fun s' H' => ∃ Hs' r', RepT (gm X cl) B Hs' r' s' t' k H' ∧ whileN t b m r' = some fl, fun s' H' z => ⟨m, Nat.lt_succ_self m, z⟩, ?_⟩
          cases q2 : b r1 with
          | none =>
            rw [q2] at hm
            cases hm
          | some f =>
            rw [q2] at hm
            refine h4 B _ r1 s t' k H1 _ _ hf hr1 q2 ?_
            cases f with
            | nx r2 => exact fun s' HsH' H' hr' => ⟨_, r2, hr', hm⟩
            | ct r2 => exact fun s' HsH' H' hr' => ⟨_, r2, hr', hm⟩
            | bk r2 =>
              cases hm
              exact hpst
            | rt x r2 =>
              cases hm
              exact hpst
            | ex x r2 =>
              cases hm
              exact hpst
/-- a for, by what it walks: W at the i-th turn -/
theorem forL_den {g : Gam} {J : It} {tg : TG} {tb : TS} {m : G} {b : S} {B : Bs} {t t' : Env} {k k' : St} {Z : Ends} {fl : Flow} {ds : List D} (hm : DG g fx tg m W) (hb : DS g fx tb b W) (hfx : B.fx = fx) (hnx : ∀ x r fl, m x r = some fl → ∃ r', fl = .nx r')
    (hl : t.length = k.length)
    (hgo : ∀ (i : Nat) (d : D) (Hs : Hp) (r : Env) (s : St) (H : Hp), ds[i]? = some d → RepT g B Hs r s (t ++ t') (k ++ k') H → J.go i H ∧ ∀ x H', J.yld i H x H' → ∃ Hs', RepT g B Hs' r s ((t ++ t') ++ [.sh d]) ((k ++ k') ++ [some x]) H')
    (hstop : ∀ (Hs : Hp) (r : Env) (s : St) (H : Hp), RepT g B Hs r s (t ++ t') (k ++ k') H → J.stop ds.length H)
    (Hs : Hp) (r : Env) (s : St) (H : Hp) (hr : RepT g B Hs r s (t ++ t') (k ++ k') H) (hf : forL m b ds r = some fl) (hp : PostS g B t k W Z fl) :
    ∃ W : Nat → Nat → St → Hp → Prop, (∃ m, W 0 m s H) ∧ ∀ i m σ H, W i m σ H →
      (J.stop i H ∧ Z.nx σ H) ∨ (J.go i H ∧ ∃ N : St → Hp → Prop, (∀ σ' H', N σ' H' → ∃ m', m' < m ∧ W (i + 1) m' σ' H') ∧ ∀ x H', J.yld i H x H' → tg x σ H' fun σ2 H2 => tb { Z with nx := N, ct := N, bk := Z.nx } σ2 H2) := by
  have htl := hr.tk
  refine ⟨fun i n s H => ∃ Hs r, RepT g B Hs r s (t ++ t') (k ++ k') H ∧ n = ds.length - i ∧ i ≤ ds.length ∧ forL m b (ds.drop i) r = some fl, ⟨ds.length, Hs, r, hr, rfl, Nat.zero_le _, hf⟩, ?_⟩
  rintro i n s H ⟨Hs, r, hr, rfl, hi, hf⟩
  by_cases hlt : i < ds.length
  · right
    have hd : ds[i]? = some ds[i] := List.getElem?_eq_getElem hlt
    obtain ⟨g1, g2⟩ := hgo i ds[i] Hs r s H hd hr
    refine ⟨g1, fun s' H' => ∃ Hs' r', RepT g B Hs' r' s' (t ++ t') (k ++ k') H' ∧ forL m b (ds.drop (i + 1)) r' = some fl, fun s' H' z => ?_, fun x H' hy => ?_⟩
    · obtain ⟨Hs', r', z1, z2⟩ := z
      exact ⟨ds.length - (i + 1), by omega, Hs', r', z1, rfl, hlt, z2⟩
    · rw [List.drop_eq_getElem_cons hlt] at hf
      unfold forL at hf
      obtain ⟨Hs2, hr2⟩ := g2 x H' hy
      cases q : m (.sh ds[i]) r with
      | none =>
        rw [q] at hf
        cases hf
      | some f1 =>
        obtain ⟨r1, e1⟩ := hnx _ _ _ q
        subst e1
        rw [q] at hf
        dsimp only at hf
        refine hm B Hs2 r s (t ++ t') (k ++ k') H' (.sh ds[i]) x _ _ hfx hr2 q ⟨r1, rfl, fun s2 HsH2 H2 hr3 => ?_⟩
        cases q2 : b r1 with
        | none =>
          rw [q2] at hf
          cases hf
        | some f2 =>
          rw [q2] at hf
          refine hb B _ r1 s2 (t ++ t') (k ++ k') H2 _ _ hfx hr3 q2 ?_
          cases f2 with
          | nx r2 => exact fun s' HsH' H' hr' => ⟨_, r2, hr', hf⟩
          | ct r2 => exact fun s' HsH' H' hr' => ⟨_, r2, hr', hf⟩
          | bk r2 =>
            cases hf
            exact fun s' HsH' H' hr' => hp s' _ H' (hr'.dropped hl)
          | rt x r2 =>
            cases hf
            intro v s' Hs' H' hr'
            refine hp v s' Hs' H' ?_
            -- the walked thing is dropped below the result
            have e : (r2 ++ t).length = (s' ++ k).length := by simp [hr'.rn, hr'.sn, hl]
            refine ⟨hr'.rn, hr'.sn, by simp [hl], ?_, hr'.sx⟩
            have hrs : r2.length = s'.length := hr'.rn.trans hr'.sn.symm
            have hk' : t'.length = k'.length := by
              have := hr.tk
              simp at this
              omega
            refine hr'.rep.sub (fun j => if j < r2.length + t.length then j else j + t'.length) (by simp [hrs, hl]) (by simp [hr'.sn]) (fun j hj => ?_) (fun j y u h1 h2 => ?_) fun a b ha hb e => ?_
            · have := (hr'.rep.fix j hj).1
              rw [List.getElem?_append_left (by rw [hr'.sn]; exact this), List.getElem?_append_left (by rw [hr'.sn]; exact this)]
            · right
              by_cases hj : j < r2.length + t.length
              · rw [if_pos hj]
                have a1 : (r2 ++ (t ++ [x]))[j]? = (r2 ++ t)[j]? := by
                  rw [← List.append_assoc]
                  exact List.getElem?_append_left (by simpa using hj)
                have a2 : (s' ++ (k ++ [some v]))[j]? = (s' ++ k)[j]? := by
                  rw [← List.append_assoc]
                  exact List.getElem?_append_left (by simp; omega)
                have b1 : (r2 ++ ((t ++ t') ++ [x]))[j]? = (r2 ++ t)[j]? := by
                  rw [show r2 ++ ((t ++ t') ++ [x]) = (r2 ++ t) ++ (t' ++ [x]) by simp]
                  exact List.getElem?_append_left (by simpa using hj)
                have b2 : (s' ++ ((k ++ k') ++ [some v]))[j]? = (s' ++ k)[j]? := by
                  rw [show s' ++ ((k ++ k') ++ [some v]) = (s' ++ k) ++ (k' ++ [some v]) by simp]
                  exact List.getElem?_append_left (by simp; omega)
                rw [b1, b2, ← a1, ← a2]
                exact ⟨h1, h2⟩
              · rw [if_neg hj]
                have hj2 : j = r2.length + t.length := by
                  have := (List.getElem?_eq_some_iff.mp h1).1
                  simp at this
                  omega
                subst hj2
                have b1 : (r2 ++ ((t ++ t') ++ [x]))[r2.length + t.length + t'.length]? = some x := by
                  rw [show r2 ++ ((t ++ t') ++ [x]) = (r2 ++ (t ++ t')) ++ [x] by simp, List.getElem?_append_right (by simp; omega)]
                  simp [Nat.add_assoc]
                have b2 : (s' ++ ((k ++ k') ++ [some v]))[r2.length + t.length + t'.length]? = some (some v) := by
                  rw [show s' ++ ((k ++ k') ++ [some v]) = (s' ++ (k ++ k')) ++ [some v] by simp, List.getElem?_append_right (by simp; omega)]
                  simp [Nat.add_assoc, hrs, hl, hk']
                have a1 : (r2 ++ (t ++ [x]))[r2.length + t.length]? = some x := by
                  rw [← List.append_assoc, List.getElem?_append_right (by simp)]
                  simp
                have a2 : (s' ++ (k ++ [some v]))[r2.length + t.length]? = some (some v) := by
                  rw [← List.append_assoc, List.getElem?_append_right (by simp; omega)]
                  simp [hrs, hl]
                rw [a1] at h1
                rw [a2] at h2
                rw [b1, b2]
                exact ⟨h1, h2⟩
            · left
              simp at ha hb
              split at e <;> split at e <;> omega
          | ex x r2 =>
            cases hf
            exact fun s' => PostX.drop hl (hp s')
  · left
    have e : i = ds.length := by omega
    subst e
    rw [List.drop_length] at hf
    cases hf
    exact ⟨hstop _ r s H hr, hp s _ H (hr.dropped hl)⟩
theorem psd_for {m : E} {n : G} {b : S} (hp : PassesOwn (model X.prog X.w) X.A X.env X.xe) (hc : X.calm = true) (he : PD X cl W e m) (hg : PGd X cl fx W tg n) (hb : PSsd X cl fx W body b) (hnx : ∀ x r fl, n x r = some fl → ∃ r', fl = .nx r')
    (hs : ∀ v, foldedSetIterable e X.env v = pure v := by intro _; rfl) : PSd X cl fx W (.For tg e body [] pos) (sFor m n b) := by
  obtain ⟨te, h1, h2⟩ := he
  obtain ⟨tgt, h3, h4⟩ := hg
  obtain ⟨tb, h5, h6⟩ := hb
  refine ⟨_, ps_for hp hc (pi_list h1) h3 h5 hs, fun B Hs r s t k H D fl hf hr hm hpst => ?_⟩
  rcases sE_cases hm with ⟨y, r1, q1, q2⟩ | ⟨ee, r1, q1, q2⟩
  · refine h2 B _ r s t k H _ _ hr q1 fun v HsH1 H1 hr1 => ?_
    split at q2
    · rename_i ds q3
      have rc : ∀ (Hs' : Hp) (r' : Env) (s' : St) (H' : Hp), RepT (gm X cl) B Hs' r' s' (t ++ [y]) (k ++ [some v]) H' → ∃ a xs, v = .ref a ∧ SqL X.K H' a xs ∧ RA (gm X cl) Hs' xs ds := fun Hs' r' s' H' hr' => by
        obtain ⟨a, xs, z1, z2, z3⟩ := (RepT.topC hr' (d := .lst ds) q3).lst hr'.shH
        exact ⟨a, xs, z1, SqL.of z2, z3⟩
      obtain ⟨a, xs, e1, e2, e3⟩ := rc _ r1 s H1 hr1
      subst e1
      refine ⟨a, rfl, ⟨xs, e2⟩, forL_den (t' := [y]) (k' := [some (V.ref a)]) (ds := ds) h4 h6 hf hnx hr.tk (fun i d Hs' r' s' H' hd hr' => ?_) (fun Hs' r' s' H' hr' => ?_) _ r1 s H1 hr1 q2 hpst⟩
      · obtain ⟨a', xs', z1, z2, z3⟩ := rc _ r' s' H' hr'
        cases z1
        obtain ⟨w, w1, w2⟩ := z3.get hd
        refine ⟨⟨xs', w, z2, w1⟩, fun x H2 hy => ?_⟩
        obtain ⟨y1, y2⟩ := hy
        subst y1
        have := y2 xs' z2
        rw [w1] at this
        cases this
        exact ⟨_, hr'.push w2⟩
      · obtain ⟨a', xs', z1, z2, z3⟩ := rc _ r' s' H' hr'
        cases z1
        exact ⟨xs', z2, by rw [z3.length]; exact Nat.le_refl _⟩
    · cases q2
  · subst q2
    exact h2 B _ r s t k H _ _ hr q1 (hpst s)
/-- over range(n) -/
theorem psd_forR1 {a : Expr} {ma : A} {n : G} {b : S} {q pos' : Pos} (hp : PassesOwn (model X.prog X.w) X.A X.env X.xe) (hc : X.calm = true) (hgl : Gl X "range") (hmr : X.mg "range" = none) (ha : PO X cl W a ma) (hg : PGd X cl fx W tg n) (hb : PSsd X cl fx W body b) (hnx : ∀ x r fl, n x r = some fl → ∃ r', fl = .nx r')
    (hs : starEach [a] X.env = [(false, eval a X.env)] := by rfl) : PSd X cl fx W (.For tg (.Call (.Name "range" q) [a] [] pos') body [] pos) (sForR1 ma n b) := by
  obtain ⟨ta, h1, h2⟩ := ha
  obtain ⟨tgt, h3, h4⟩ := hg
  obtain ⟨tb, h5, h6⟩ := hb
  refine ⟨_, ps_for hp hc (pi_range1 hgl hmr (pa_cons h1 pa_nil hs) hs) h3 h5, fun B Hs r s t k H D fl hf hr hm hpst => ?_⟩
  have das := das_cons (W := W) (g := gm X cl) h2 das_nil
  unfold tFor iRng1
  rcases sE_cases hm with ⟨ys, r1, q1, q2⟩ | ⟨ee, r1, q1, q2⟩
  · refine das B _ r s t k H _ _ hr q1 fun vs kv HsH1 H1 av hr1 => ?_
    split at q2
    · rename_i j q3
      split at q2
      · rename_i hj
        have rca := (av.rca hr1 hr.tk q3).toRA hr1.shH
        cases rca with
        | cons r1' r2' =>
          cases r2'
          cases r1'
          obtain ⟨j1, j2⟩ := small62_iff.mp hj
          have hr2 := hr1.dropped hr.tk
          have hr3 : RepT (gm X cl) B HsH1 r1 s (t ++ []) (k ++ []) H1 := by
            rw [List.append_nil, List.append_nil]
            exact hr2
          refine ⟨j, rfl, j1, j2, forL_den (t' := []) (k' := []) (ds := rangeD 0 j.toNat) h4 h6 hf hnx hr.tk (fun i d Hs' r' s' H' hd hr' => ?_) (fun Hs' r' s' H' hr' => ?_) _ r1 s H1 hr3 q2 hpst⟩
          · unfold rangeD at hd
            obtain ⟨n, n1, n2⟩ := map_get hd
            have hi : i < j.toNat := by
              have := (List.getElem?_eq_some_iff.mp n1).1
              simpa using this
            rw [List.getElem?_range hi] at n1
            cases n1
            refine ⟨hi, fun x H2 hy => ?_⟩
            obtain ⟨y1, y2⟩ := hy
            subst y1
            subst y2
            subst n2
            exact ⟨_, hr'.push (.int _)⟩
          · show j.toNat ≤ _
            simp [rangeD]
      · cases q2
    · cases q2
  · subst q2
    exact das B _ r s t k H _ _ hr q1 (hpst s)
/-- raise C('..') of a class without an __init__ of its own -/
theorem psd_raise {C : Addr} {m : Str} {j : Nat} {p p2 pos3 : Pos} (hc : X.calm = true) (tk : Takes X W) (hcl : cl.c x = some C) (gC : X.mg x = some (.ref C))
    (he : PySem.W.excIn X.K C He.veBase "ValueError.__new__" = true ∧ PySem.W.keepIn X.K (.ref C) = true ∧ PySem.W.subIn X.K (.ref C) (.type "BaseException") = some true ∧ PySem.W.typeIn X.K (.ref C) = some (.type "type")) (hg : Gl X x)
    (hdb : (x == ("__debug__" : Str)) = false := by decide) : PSd X cl fx W (.Raise (some (.Call (.Name x p) [.Constant (.str m) j p2] [] pos3)) none pos) (sRaise x) := by
  refine ⟨_, ps_raise hc tk (pmk_own PySem.F.excBase_ValueError he.1 gC he.2.1 (raises_own he.2.2.1 he.2.2.2) hg hdb), fun B Hs r s t k H D fl hf hr hm hpst => ?_⟩
  cases hm
  exact hpst s C none _ H hcl hr rfl
end
end Py

set_option Elab.async false
set_option linter.all false
set_option maxRecDepth 100000
/-! Sk: try .. except C as e: suite. -/
namespace Py
open PySem L2

/-- the meaning itself as a reading -/
def canS (g : Gam) (fx : Nat → Bool) (m : S) (W : WX) : TS := fun Z s H => ∃ B Hs r t k fl, B.fx = fx ∧ RepT g B Hs r s t k H ∧ m r = some fl ∧ PostS g B t k W Z fl
theorem pss_can {X : Cx} {cl : Cs} {fx : Nat → Bool} {W : WX} {sts : List Stmt} {m : S} (h : PSsd X cl fx W sts m) : PSs X sts (canS (gm X cl) fx m W) := by
  obtain ⟨ts, h1, h2⟩ := h
  refine ⟨fun pins s σ H Z I q => ?_⟩
  obtain ⟨B, Hs, r, t, k, fl, a1, a2, a3, a4⟩ := q
  exact h1.run pins s σ H Z I (h2 B Hs r σ t k H Z fl a1 a2 a3 a4)

section
variable {g : Gm} {B : Bs} {Hs : Hp} {r : Env} {s : St} {t : Env} {k : St} {H : Hp}
theorem Rep.fxTo {fx' : Nat → Bool} {s0' : St} (h : Rep g B Hs r s H) (hf : ∀ j : Nat, fx' j = true → j < B.n ∧ s[j]? = s0'[j]?) : Rep g { B with fx := fx', s0 := s0' } Hs r s H := let ⟨ho, q⟩ := h; ⟨ho, q.len, q.big, q.ok, q.oo, q.os, q.of, q.oh, q.sh, q.fh, q.sf, q.bf, q.h0, hf⟩
/-- slot i is given another value of which nothing is known -/
theorem Rep.forget {i : Nat} {o : Option V} (h : Rep g B Hs (r ++ t) (s ++ k) H) (hl : r.length = s.length) (hi : B.fx i = false) (hb : B.n ≤ s.length) : Rep g B Hs (r.set i .no ++ t) (s.set i o ++ k) H := by
  by_cases hlt : i < r.length
  · have e1 : r.set i .no ++ t = (r ++ t).set i .no := (List.set_append_left _ _ hlt).symm
    have e2 : s.set i o ++ k = (s ++ k).set i o := (List.set_append_left _ _ (hl ▸ hlt)).symm
    rw [e1, e2]
    have hl2 := h.len
    refine h.sub (fun j => j) (by simpa using hl2) (by have := h.big; simpa using this) (fun j hj => ?_) (fun j x u a1 a2 => ?_) fun _ _ _ _ e => .inl e
    · have : j ≠ i := fun z => by rw [z, hi] at hj; cases hj
      rw [List.getElem?_set_ne (Ne.symm this)]
    · by_cases hj : j = i
      · subst hj
        left
        rw [List.getElem?_set_self (by simp; omega)] at a1
        exact (Option.some.inj a1).symm
      · right
        rw [List.getElem?_set_ne (Ne.symm hj)] at a1 a2
        exact ⟨a1, a2⟩
  · rw [List.set_eq_of_length_le (by omega), List.set_eq_of_length_le (by omega)]
    exact h
end

section
variable {X : Cx} {cl : Cs} {fx : Nat → Bool} {W : WX} {x n : Str} {cv : Value} {i : Nat} {body suite : List Stmt} {b0 : Stmt} {np pos pos' : Pos}
abbrev fxAnd (fx : Nat → Bool) (i : Nat) : Nat → Bool := fun j => fx j || j == i
theorem psd_try {b : S} {su : Exc → S} (sub : Str → Bool) (hs : X.stack = X.env :: X.outer) (hf : X.env.frame = some X.env.locals) (hN : X.N.Nodup) (hi : X.N[i]? = some n) (hln : X.env.kindOf n = some .local) (hc : Names X x cv) (tk : Takes X W) (hfi : fx i = false)
    (hsub : ∀ c C, cl.c c = some C → PySem.W.exmOne X.K (.ref C) cv = some (sub c))
    (hb : ∀ (W' : WX) (pn : List (Addr × Obj)) (xe : Value → Shared → Prop), Takes (X.tr pn xe) W' → PassesOwn (model X.prog X.w) X.A X.env xe → PSsd (X.tr pn xe) cl fx W' body b)
    (hsu : ∀ (a : Addr) (oe : Obj) (C : Addr) (d : Option Addr) (pn : List (Addr × Obj)) (e : Exc), cl.c e.cls = some C → sub e.cls = true → (e.fs = [] → d = none) → Zc (.ref C) d oe → (∃ vs, oe.data = .fields vs) →
      PSsd (X.suite a ((a, oe) :: pn)) ⟨cl.c, some (i, .ref a)⟩ (fxAnd fx i) (fun _ _ _ _ => False) (b0 :: suite) (su e)) :
    PSd X cl fx W (.Try body [.ExceptHandler (some (.Name x np)) (some n) (b0 :: suite) pos'] [] [] pos) (sTry i sub b su) := by
  have key := ps_try_as (X := X) (x := x) (n := n) (c := cv) (i := i) (body := body) (suite := suite) (b₀ := b0) (np := np) (pos := pos) (pos' := pos') (tb := fun W' => canS (gm X cl) fx b W')
    (ts := fun a cls d Z s H => ∃ e C, cls = .ref C ∧ cl.c e.cls = some C ∧ sub e.cls = true ∧ (e.fs = [] → d = none) ∧ canS ⟨⟨X.K, cl.c⟩, some (i, .ref a)⟩ (fxAnd fx i) (su e) (fun _ _ _ _ => False) Z s H) (Wout := W) hs hf hN hi hln hc tk
    (fun W' pn xe h1 h2 => pss_can (hb W' pn xe h1 h2)) (fun a oe cls d pn hz hv => ⟨fun pins s σ H Z I q => by
      obtain ⟨e, C, e1, e2, e3, e4, e5⟩ := q
      subst e1
      exact (pss_can (hsu a oe C d pn e e2 e3 e4 hz hv)).run pins s σ H Z I e5⟩)
  refine ⟨_, key, fun B Hs r s t k H Z fl hfx hr hm hp => ?_⟩
  unfold sTry at hm
  cases q : b r with
  | none =>
    rw [q] at hm
    cases hm
  | some f =>
    rw [q] at hm
    refine ⟨B, Hs, r, t, k, f, hfx, hr, q, ?_⟩
    cases f with
    | nx r1 =>
      cases hm
      exact hp
    | bk r1 =>
      cases hm
      exact hp
    | ct r1 =>
      cases hm
      exact hp
    | rt y r1 =>
      cases hm
      exact hp
    | ex e r1 =>
      dsimp only at hm
      intro s1 C d Hs1 H1 hC hr1 hx
      refine ⟨sub e.cls, hsub _ _ hC, fun hsb a na => ?_, fun hsb => ?_⟩
      · rw [if_pos hsb] at hm
        split at hm
        case isFalse => cases hm
        rename_i hiR
        have hiN : i < B.n := hr1.rn ▸ hiR
        refine ⟨e, C, rfl, hC, hsb, fun hz => ?_, ?_⟩
        · unfold XOk at hx
          rw [hz] at hx
          exact hx
        have hrs : r1.length = s1.length := hr1.rn.trans hr1.sn.symm
        have rp := hr1.rep.forget (i := i) (o := some (V.ref a)) hrs (by rw [hfx]; exact hfi) (by rw [hr1.sn]; exact Nat.le_refl _)
        let B' : Bs := { B with fx := fxAnd fx i, s0 := s1.set i (some (.ref a)) }
        have rpB : Rep ⟨X.K, cl.c⟩ B' Hs1 (r1.set i .no ++ t) (s1.set i (some (.ref a)) ++ k) H1 := by
          refine rp.fxTo fun j hj => ?_
          have hj' : (fx j || j == i) = true := hj
          have hjn : j < B.n := by
            rcases Bool.or_eq_true_iff.mp hj' with z | z
            · exact (hr1.rep.fix j (by rw [hfx]; exact z)).1
            · rw [eq_of_beq z]
              exact hiN
          refine ⟨hjn, ?_⟩
          rw [List.getElem?_append_left (by simp [hr1.sn]; exact hjn)]
        -- back to the outer state
        have back : ∀ (Hs2 : Hp) (r2 : Env) (s2 : St) (t2 : Env) (k2 : St) (H2 : Hp), RepT ⟨⟨X.K, cl.c⟩, some (i, .ref a)⟩ B' Hs2 r2 s2 t2 k2 H2 → RepT (gm X cl) B Hs2 (r2.set i .no) (s2.set i none) t2 k2 H2 := by
          intro Hs2 r2 s2 t2 k2 H2 h2
          have h2s : s2.length = B.n := h2.sn
          have h2r : r2.length = B.n := h2.rn
          have q2 : Rep ⟨X.K, cl.c⟩ B Hs2 (r2 ++ t2) (s2 ++ k2) H2 := by
            refine h2.rep.fxTo (fx' := B.fx) (s0' := B.s0) fun j hj => ?_
            have hj0 : fx j = true := by rw [← hfx]; exact hj
            have ne : j ≠ i := fun z => by rw [z, hfi] at hj0; cases hj0
            obtain ⟨z1, z2⟩ := h2.rep.fix j (show (fx j || j == i) = true by rw [hj0]; rfl)
            refine ⟨z1, z2.trans ?_⟩
            show (s1.set i (some (V.ref a)))[j]? = B.s0[j]?
            rw [List.getElem?_set_ne (Ne.symm ne)]
            have z3 := (hr1.rep.fix j hj).2
            rw [List.getElem?_append_left (by rw [hr1.sn]; exact z1)] at z3
            exact z3
          exact ⟨by simpa using h2r, by simpa using h2s, h2.tk, q2.forget (h2r.trans h2s.symm) (by rw [hfx]; exact hfi) (by rw [h2s]; exact Nat.le_refl _), hr.sx⟩
        cases q2 : su e (r1.set i .no) with
        | none =>
          rw [q2] at hm
          cases hm
        | some f2 =>
          rw [q2] at hm
          refine ⟨B', Hs1, r1.set i .no, t, k, f2, rfl, ⟨by simpa using hr1.rn, by simpa using hr1.sn, hr1.tk, rpB, fun j v z => ?_⟩, q2, ?_⟩
          · cases z
            refine ⟨by show (fx i || i == i) = true; simp, ?_⟩
            show (s1.set i (some (V.ref a)))[i]? = some (some (.ref a))
            rw [List.getElem?_set_self (by rw [hr1.sn]; exact hiN)]
          · cases f2 with
            | nx r2 =>
              cases hm
              exact fun s2 Hs2 H2 h2 => hp _ _ H2 (back _ r2 s2 t k H2 h2)
            | bk r2 =>
              cases hm
              exact fun s2 Hs2 H2 h2 => hp _ _ H2 (back _ r2 s2 t k H2 h2)
            | ct r2 =>
              cases hm
              exact fun s2 Hs2 H2 h2 => hp _ _ H2 (back _ r2 s2 t k H2 h2)
            | rt y r2 =>
              cases hm
              exact fun v s2 Hs2 H2 h2 => hp v _ _ H2 (back _ r2 s2 _ _ H2 h2)
            | ex ee r2 => cases hm
      · rw [hsb, if_neg Bool.false_ne_true] at hm
        cases hm
        exact hp s1 C d _ H1 hC hr1 hx

theorem roomH_units {k : Nat} {A : PySem.Around} (h : L2H.RoomH k A) : A.units + 64 < cLine := by have := h.un; omega
theorem roomH_mk {j k : Nat} {A : PySem.Around} {a : Addr} (h : Room k A) (hj : j ≤ k) : L2H.RoomH j (A.mark (some (.ref a))) := ⟨(h.mono hj).dp, (h.mono hj).un⟩
/-! ### a def that is handed the exception that is handled -/
/-- the exception at p is of the class at C and has no attributes of its own -/
def ExAt (C : Addr) (p : Addr × Obj) : Prop := Zc (.ref C) none p.2 ∧ ∃ vs, p.2.data = .fields vs
/-- called with an exception of the class at C, while that one is handled, the def at f gives b -/
structure Tells (P : Program) (w : World) (K : PySem.W.Frag) (mg : Str → Option Value) (base : Heap) (k : Nat) (x : Str) (C : Addr) (b : Bool) : Prop where
  ex : ∃ fa fd n, mg x = some (.ref fa) ∧ PySem.W.keepIn K (.ref fa) = true ∧ Binds K fd [n] [] ∧
    ∀ (A : PySem.Around) (outer : List PySem.Env) (s : Shared) (H : Hp) (args : Args) (Q : VK) (E : XK) (p : Addr × Obj), L2H.RoomH k A → A.handled = some (.ref p.1) → L2H.PinOk outer H s p → ExAt C p → Env0 P w K mg base A outer s H → BindsTo s fd args ([n].zip [Value.ref p.1]) →
      (∀ H', Same H H' → Q (.bl b) H') → codeAny (model P w) A (.call (.ref fa) args) (CR CX0 outer P w H s Q E) s
theorem pe_tells {k : Nat} {y : Str} {C : Addr} {b : Bool} {p : Addr × Obj} {q q2 : Pos} (F : Tells X.prog X.w X.K X.mg X.base k y C b) (hr : L2H.RoomH k X.A) (hh : X.A.handled = some (.ref p.1)) (hp : p ∈ X.pn) (hE : ExAt C p) (hg : Gl X y) (hn : PE X (.Name n q2) (tVar i))
    (hdb : (y == ("__debug__" : Str)) = false := by decide) : PE X (.Call (.Name y q) [.Name n q2] [] pos) (fun s H Q => s[i]? = some (some (.ref p.1)) ∧ ∀ H', Same H H' → Q (.bl b) H') := by
  refine ⟨fun pins s σ H Q I h => ?_⟩
  obtain ⟨h1, h2⟩ := h
  obtain ⟨fa, fd, nm, m1, m2, m3, m4⟩ := F.ex
  refine wpAny_Call_Name_kw (ld_glob I hg m1 ?_ hdb)
  have ha : PA X [.Name n q2] (tCons (tVar i) tNil) := pa_cons hn pa_nil
  refine PySem.W.callWith_K (h₀ := X.base) I.ok.mod.kin m2 (thn (ha.run pos pins s σ H (fun vs H1 => vs = [V.ref p.1] ∧ H1 = H) I ⟨_, h1, rfl, rfl⟩) fun us s1 z => ?_)
  obtain ⟨vs, H1, I1, r1, ev, eH⟩ := z
  subst ev
  subst eH
  refine ⟨I1.kIn, ?_⟩
  cases r1 with
  | cons ru rn =>
    cases rn
    cases ru
    have P1 := I1.pin p (List.mem_append_left _ hp)
    have pin : L2H.PinOk X.stack H1 s1 p := ⟨P1.1, P1.2.1, fun hm => (List.mem_cons.mp (I1.stkSub p.1 hm)).elim P1.2.2.1 P1.2.2.2.1, P1.2.2.2.2⟩
    have bd := m3 s1 [Value.ref p.1] I1.kIn rfl
    refine wpAny_call (codeAny_mono (m4 X.A X.stack s1 H1 ⟨[.ref p.1], []⟩ Q (fun _ _ _ => False) p hr hh pin hE I1.env0 bd h2) fun res s' hq => ?_)
    cases res with
    | error e => exact hq.elim
    | ok fl =>
      cases fl with
      | ret u => exact I1.after hq
      | next => exact hq.elim
      | brk => exact hq.elim
      | cont => exact hq.elim
/-- .. as a piece of a suite -/
theorem pd_tells {k : Nat} {y : Str} {C : Addr} {b : Bool} {p : Addr × Obj} {q q2 : Pos} {cc : Str → Option Addr} (F : Tells X.prog X.w X.K X.mg X.base k y C b) (hr : L2H.RoomH k X.A) (hh : X.A.handled = some (.ref p.1)) (hp : p ∈ X.pn) (hE : ExAt C p) (hg : Gl X y) (hn : PE X (.Name n q2) (tVar i))
    (hdb : (y == ("__debug__" : Str)) = false := by decide) : PD X ⟨cc, some (i, .ref p.1)⟩ W (.Call (.Name y q) [.Name n q2] [] pos) (eC (.bl b)) := by
  refine ⟨_, pe_tells F hr hh hp hE hg hn hdb, fun B Hs r s t k H Q o hr hm hq => ?_⟩
  cases hm
  obtain ⟨z1, z2⟩ := hr.sx i _ rfl
  obtain ⟨z3, z4⟩ := hr.rep.fix i z1
  refine ⟨?_, fun H' hs => hq _ _ H' ((hr.grow hs).push (.bl b))⟩
  rw [List.getElem?_append_left (by rw [hr.sn]; exact z3)] at z4
  rw [z4]
  exact z2
theorem pd_none {e : Expr} : PD X cl W e (fun _ => none) := ⟨fun _ _ _ => False, ⟨fun _ _ _ _ _ _ h => h.elim⟩, fun B Hs r s t k H Q o hr hm hq => by cases hm⟩
theorem pd_tellsE {k : Nat} {y : Str} {C : Addr} {b : Bool} {a : Addr} {oe : Obj} {d : Option Addr} {q q2 : Pos} {cc : Str → Option Addr} (e : Exc) (F : Tells X.prog X.w X.K X.mg X.base k y C b) (hr : L2H.RoomH k X.A) (hh : X.A.handled = some (.ref a)) (hp : (a, oe) ∈ X.pn) (hd : e.fs = [] → d = none) (hz : Zc (.ref C) d oe) (hv : ∃ vs, oe.data = .fields vs) (hg : Gl X y) (hn : PE X (.Name n q2) (tVar i))
    (hdb : (y == ("__debug__" : Str)) = false := by decide) : PD X ⟨cc, some (i, .ref a)⟩ W (.Call (.Name y q) [.Name n q2] [] pos) (eFl e b) := by
  cases h : e.fs with
  | nil =>
    have e1 : eFl e b = eC (.bl b) := by unfold eFl; rw [h]
    rw [e1]
    cases hd h
    exact pd_tells (p := (a, oe)) F hr hh hp ⟨hz, hv⟩ hg hn hdb
  | cons x xs =>
    have e1 : eFl e b = fun _ => none := by unfold eFl; rw [h]
    rw [e1]
    exact pd_none
end
end Py

set_option Elab.async false
set_option linter.all false
set_option maxRecDepth 100000
/-! Sl: a def that looks at the exception it is handed; the facts of the head. -/
namespace Py
open PySem PySem.Spec PyProof.Rows L2

/-! ### isinstance of an exception that is pinned -/
section
variable {X : Cx} {p : Addr × Obj} {C : Addr}
theorem inst_pin {pins : List (Addr × Obj)} {s : Shared} {σ : L2.St} {H : Hp} (I : Inv X pins σ H s) (hp : p ∈ X.pn) (hE : ExAt C p) : PySem.W.InstAt s.heap p.1 p.2 C none := by
  have g := (I.pin p (List.mem_append_left _ hp)).1
  obtain ⟨⟨h1, h2⟩, vs, h3⟩ := hE
  obtain ⟨a, o⟩ := p
  obtain ⟨c1, c2, c3, c4⟩ := o
  dsimp only at h1 h2 h3 g ⊢
  subst h1 h2 h3
  exact ⟨g, rfl, rfl, trivial⟩
def rIsP (K : PySem.W.Frag) (C a : Addr) : List V → Hp → VK → Prop := fun xs H Q => ∃ (c : V) (u : Value) (b : Bool), xs = [.ref a, c] ∧ ClsV c u ∧ PySem.W.kitOne K (.ref C) u = some b ∧ Q (.bl b) H
theorem call_isP (hp : p ∈ X.pn) (hE : ExAt C p) (c : ExcC X.K C) : CallR X (.builtin "isinstance") (rIsP X.K C p.1) := by
  intro pins s σ H xs us Q I r h
  obtain ⟨cv, u, b, rfl, k, e, q⟩ := h
  obtain ⟨u1, u2, rfl, r1, r2⟩ := vals2 r
  obtain rfl := k.eq r2
  cases (show u1 = Value.ref p.1 from r1)
  exact PySem.W.kia_one (PySem.W.handS_kitx_exc c.hg c.hk c.hs c.hd c.ha c.hn c.ht c.hm) I.kIn (inst_pin I hp hE) e (fun z => nomatch z) fun tk => ⟨.bl b, H, I.tok tk, rfl, q⟩
def rIsPT (K : PySem.W.Frag) (C a : Addr) : List V → Hp → VK → Prop := fun xs H Q => ∃ (tp : Addr) (cs : List V) (us : List Value) (b : Bool), xs = [.ref a, .ref tp] ∧ H tp = some (.tup cs) ∧ Paired ClsV cs us ∧ PySem.W.kitAny K (.ref C) us = some b ∧ Q (.bl b) H
theorem call_isPT (hp : p ∈ X.pn) (hE : ExAt C p) (c : ExcC X.K C) : CallR X (.builtin "isinstance") (rIsPT X.K C p.1) := by
  intro pins s σ H xs us Q I r h
  obtain ⟨tp, cs, ws, b, rfl, hT, k, e, q⟩ := h
  obtain ⟨u1, u2, rfl, r1, r2⟩ := vals2 r
  cases (show u1 = Value.ref p.1 from r1)
  cases (show u2 = Value.ref tp from r2)
  have ob : ObjOk X.prog X.w H s.heap tp (.tup cs) := I.hok tp _ hT
  obtain ⟨_, its, rv, o, h1, h2, n, h3⟩ := ob
  obtain rfl := ClsV.all k rv
  obtain ⟨oc, od, dt, sl⟩ := o
  dsimp only at h2 h3
  subst h2
  subst h3
  exact PySem.W.kia_tup (PySem.W.handS_kitx_exc c.hg c.hk c.hs c.hd c.ha c.hn c.ht c.hm) I.kIn (inst_pin I hp hE) h1 e (fun z => nomatch z) fun tk => ⟨.bl b, H, I.tok tk, rfl, q⟩
/-- class names as operands -/
theorem pac_nil : PA X [] (fun _ H Q => Q [] H) := pa_nil
theorem pac_cons {x : Str} {D : Addr} {es : List Expr} {cs : List V} {pos : Pos} (hg : Gl X x) (hm : X.mg x = some (.ref D)) (h : PA X es (fun _ H Q => Q cs H)) (hd : (x == ("__debug__" : Str)) = false := by decide)
    (hs : starEach (.Name x pos :: es) X.env = (false, eval (.Name x pos) X.env) :: starEach es X.env := by rfl) : PA X (.Name x pos :: es) (fun _ H Q => Q (.ref D :: cs) H) :=
  pa_cons (pe_glob (v := .ref D) hg hm rfl hd) h hs
variable {cc : Str → Option Addr} {W : WX} {i : Nat} {n : Str} {q q1 q2 pos tpos : Pos} {b : Bool}
theorem slot_sx {g : Gm} {v : V} {B : Bs} {Hs : Hp} {r : Py.Env} {s : L2.St} {t : Py.Env} {k : L2.St} {H : Hp} (h : RepT ⟨g, some (i, v)⟩ B Hs r s t k H) : s[i]? = some (some v) := by
  obtain ⟨z1, z2⟩ := h.sx i _ rfl
  obtain ⟨z3, z4⟩ := h.rep.fix i z1
  rw [List.getElem?_append_left (by rw [h.sn]; exact z3)] at z4
  rw [z4]
  exact z2
/-- isinstance(e, C) -/
theorem pd_isP {x : Str} {cv : V} {u : Value} (hp : p ∈ X.pn) (hE : ExAt C p) (c : ExcC X.K C) (hgI : Gl X "isinstance") (hmI : X.mg "isinstance" = none) (hn : PE X (.Name n q) (tVar i)) (hx : PE X (.Name x q1) (tC cv)) (hcv : ClsV cv u) (hk : PySem.W.kitOne X.K (.ref C) u = some b)
    (h1 : starEach [.Name n q, .Name x q1] X.env = (false, eval (.Name n q) X.env) :: starEach [.Name x q1] X.env := by rfl) (h2 : starEach [.Name x q1] X.env = (false, eval (.Name x q1) X.env) :: starEach [] X.env := by rfl) (h3 : (backTo pos (starEach [.Name x q1] X.env)).any (·.1) = false := by rfl) :
    PD X ⟨cc, some (i, .ref p.1)⟩ W (.Call (.Name "isinstance" q2) [.Name n q, .Name x q1] [] pos) (eC (.bl b)) := by
  refine ⟨_, pe_callB (call_isP hp hE c) hgI hmI (by decide +kernel) (pa_cons hn (pa_cons hx pa_nil h2) h1) (by decide) (by decide) h1 h3, fun B Hs r s t k H Q o hr hm hq => ?_⟩
  cases hm
  exact ⟨_, slot_sx hr, cv, u, b, rfl, hcv, hk, hq _ _ H (hr.push (.bl b))⟩
/-- isinstance(e, (C1, ..)) -/
theorem pd_isPT {es : List Expr} {cs : List V} {us : List Value} {tk : Nat} (hp : p ∈ X.pn) (hE : ExAt C p) (c : ExcC X.K C) (hgI : Gl X "isinstance") (hmI : X.mg "isinstance" = none) (hn : PE X (.Name n q) (tVar i)) (hx : PA X es (fun _ H Q => Q cs H)) (hcv : Paired ClsV cs us) (hl : cs.length ≤ lim) (hk : PySem.W.kitAny X.K (.ref C) us = some b)
    (h1 : starEach [.Name n q, .Tuple es tk tpos] X.env = (false, eval (.Name n q) X.env) :: starEach [.Tuple es tk tpos] X.env := by rfl) (h2 : starEach [.Tuple es tk tpos] X.env = (false, eval (.Tuple es tk tpos) X.env) :: starEach [] X.env := by rfl) (h3 : (backTo pos (starEach [.Tuple es tk tpos] X.env)).any (·.1) = false := by rfl) :
    PD X ⟨cc, some (i, .ref p.1)⟩ W (.Call (.Name "isinstance" q2) [.Name n q, .Tuple es tk tpos] [] pos) (eC (.bl b)) := by
  refine ⟨_, pe_callB (call_isPT hp hE c) hgI hmI (by decide +kernel) (pa_cons hn (pa_cons (pe_tup hx) pa_nil h2) h1) (by decide) (by decide) h1 h3, fun B Hs r s t k H Q o hr hm hq => ?_⟩
  cases hm
  refine ⟨_, slot_sx hr, hl, fun tp ht => ⟨tp, cs, us, b, rfl, upd_same, hcv, hk, ?_⟩⟩
  exact hq _ _ _ ((hr.grow (same_upd ht)).push (.bl b))
end

/-! ### the def -/
section
variable {P : Program} {w : World} {K : PySem.W.Frag} {mg : Str → Option Value} {base : Heap} {cl : Str → Option Addr}
theorem tells_of {x qual n : Str} {st : Stmt} {f C : Addr} {fd : FuncData} {N : List Str} {k : Nat} {b : Bool} {body : S} {r' : Py.Env} (F : Fun K x qual st f fd) (Sc : FnScope N [n] (defScope st)) (gx : mg x = some (.ref f)) (hbd : Binds K fd [n] [])
    (hbody : ∀ (cdv : Value) (A : PySem.Around) (outer : List PySem.Env) (s : Shared) (H : Hp) (E : XK) (p : Addr × Obj), ExAt C p → L2H.RoomH k (A.deeper (envOfC qual (defScope st) s.heap.objs.size f cdv)) →
      PSsd (L2H.cxH CX0 P w K mg base N qual (defScope st) f cdv A outer s H E p) ⟨cl, some (0, .ref p.1)⟩ (fun i => i == 0) (fun _ _ _ _ => False) (defBody st) body)
    (hval : body (List.replicate N.length .no) = some (.rt (.sh (.bl b)) r')) : Tells P w K mg base (k + 1) x C b := by
  obtain ⟨oc, od, kV, doc, pm, an, cdv, ct, osl, rfl, lk, hcd⟩ := F.ex
  refine ⟨f, _, n, gx, F.kp, hbd, fun A outer s H args Q E p hr hh hpin hE e0 hb hq => ?_⟩
  have KX : K.In s.heap := e0.mod.kin.keeps fun b o e => (e0.bs b o e).1
  have lim0 : s.heap.NoLimit := e0.mod.nolimit.keeps fun b o e => (e0.bs b o e).1
  have hN : 0 < N.length := by
    have := congrArg List.length Sc.pre
    rw [List.length_take] at this
    simp at this
    omega
  refine codeAny_call_function hr.depth (KX _ _ lk) rfl Sc.co Sc.gen rfl (PySem.W.codeRec_of KX hcd) (hb _ _ _ _ ?_)
  refine wpAny_newFunctionEnv_cells Sc.kind (fun y hy => ?_) fun env he s1 xx => ?_
  · obtain ⟨y1, y2⟩ := y
    rcases Sc.par y1 (List.of_mem_zip hy).1 with z | z
    · exact .inl z
    · exact .inr ⟨z, PySem.W.cellsFrom_some _ _ _ (.inl z)⟩
  subst he
  refine ⟨lim0.keeps xx.toInCall.keep, codeAny_func ?_⟩
  obtain ⟨ts, ht, hd⟩ := hbody cdv A outer s H E p hE (hr.deeper _)
  have I := L2H.inv_startH (CX := CX0) (E := E) (us := [Value.ref p.1]) (vs := [V.ref p.1]) Sc hpin e0 rfl (.cons rfl .nil) xx
  let B : Bs := ⟨N.length, H, hemp, hemp, fun i => i == 0, L2.start N [V.ref p.1]⟩
  have hst : (L2.start N [V.ref p.1]).length = N.length := by
    unfold L2.start
    simp
    omega
  have rp : Rep ⟨K, cl⟩ B hemp (List.replicate N.length Sl.no) (L2.start N [V.ref p.1]) H := by
    refine ⟨fun _ => hemp, by rw [hst]; simp, by rw [hst]; exact Nat.le_refl _, fun i y o z1 z2 => ?_, fun _ _ _ => dj_emp, fun _ => dj_emp, fun _ => dj_emp, fun _ => same_emp, same_emp, same_rfl, dj_emp, same_emp, same_emp, fun i hi => ⟨?_, rfl⟩⟩
    · rw [List.getElem?_replicate] at z1
      split at z1
      · cases z1
        exact .inl rfl
      · cases z1
    · have : i = 0 := eq_of_beq hi
      show i < N.length
      omega
  have rT : RepT ⟨⟨K, cl⟩, some (0, .ref p.1)⟩ B hemp (List.replicate N.length Sl.no) (L2.start N [V.ref p.1]) [] [] H := by
    refine ⟨by show _ = N.length; simp, hst, rfl, by rw [List.append_nil, List.append_nil]; exact rp, fun i v z => ?_⟩
    cases z
    exact ⟨rfl, rfl⟩
  refine wpAny_mono (ht.run [] s1 (L2.start N [V.ref p.1]) H { nx := fun _ H' => Q .non H', rt := Q } I (hd B _ _ _ [] [] H _ _ rfl rT hval ?_)) (fun fl s' hs => ?_) fun e s' hs => hs
  · intro v s2 Hs2 H2 h2
    have e2 := h2.top
    cases e2
    obtain ⟨_, z⟩ := h2.rep
    exact hq H2 z.fh
  · cases fl with
    | ret u =>
      obtain ⟨v, s2, H2, J, rv, q⟩ := hs
      exact ⟨v, H2, J.os, J.bare, J.base, J.hok, rv, q⟩
    | next =>
      obtain ⟨s2, H2, J, q⟩ := hs
      exact ⟨V.non, H2, J.os, J.bare, J.base, J.hok, rfl, q⟩
    | brk =>
      obtain ⟨_, _, _, q⟩ := hs
      exact q.elim
    | cont =>
      obtain ⟨_, _, _, q⟩ := hs
      exact q.elim
end

/-! ### the head's facts -/
abbrev FactK := PySem.W.Frag → Bool
def obsX (fs : List FactK) (fn : List He.DefD) (K : PySem.W.Frag) : He.AlD := ((fs.all fun f => f K) && fn.all fun d => d.ok K, fn.map fun d => He.fnW K d.at_)
def SaysX (fs : List FactK) (fn : List He.DefD) (K : PySem.W.Frag) : Prop := obsX fs fn K = He.valD fn
def obsXG (n : Nat) (fs : List FactK) (fn : List He.DefD) (g : Addr → Option Obj) : He.AlD := obsX fs fn (He.frG g (He.asD g n))
def hookX (n : Nat) (fs : List FactK) (fn : List He.DefD) : PySem.W.Hook where
  α := He.AlD
  obs := fun s => obsXG n fs fn s.heap.get?
  val := fun _ => He.valD fn
  says := fun _ h => ∃ K : PySem.W.Frag, K.In h ∧ SaysX fs fn K
  of := fun _ _ e => ⟨_, He.frG_in, e⟩
  keeps := fun _ _ _ ⟨K, hK, c⟩ k => ⟨K, PySem.W.Frag.In.keeps hK k, c⟩
theorem obsXG_eq {n : Nat} {fs : List FactK} {fn : List He.DefD} {g : Addr → Option Obj} {s : Shared} (h : ∀ a, g a = s.heap.get? a) : obsXG n fs fn g = (hookX n fs fn).obs s := by
  have e : g = s.heap.get? := funext h
  subst e
  rfl
theorem SaysX.fact {fs : List FactK} {fn : List He.DefD} {K : PySem.W.Frag} (c : SaysX fs fn K) (i : Nat) {f : FactK} (h : fs[i]? = some f := by rfl) : f K = true := by
  have c1 : ((fs.all fun f => f K) && fn.all fun d => d.ok K) = true := congrArg (fun z : He.AlD => z.1) c
  exact List.all_eq_true.mp (Bool.and_eq_true_iff.mp c1).1 f (List.mem_of_getElem? h)
theorem SaysX.def_ {fs : List FactK} {fn : List He.DefD} {K : PySem.W.Frag} (c : SaysX fs fn K) (i : Nat) {d : He.DefD} (h : fn[i]? = some d := by rfl) : ∃ fd, FunD K d.name d.qual d.params d.body d.scope (d.dvs K) (d.kws K) (He.fAd K d.at_) fd := by
  have c1 : ((fs.all fun f => f K) && fn.all fun d => d.ok K) = true := congrArg (fun z : He.AlD => z.1) c
  have e : fn.map (fun d => He.fnW K d.at_) = fn.map He.DefD.val := congrArg (fun z : He.AlD => z.2) c
  have e2 : (fn.map fun d => He.fnW K d.at_)[i]? = (fn.map He.DefD.val)[i]? := by rw [e]
  rw [List.getElem?_map, List.getElem?_map, h] at e2
  exact He.DefD.funD (Option.some.inj e2) (List.all_eq_true.mp (Bool.and_eq_true_iff.mp c1).2 d (List.mem_of_getElem? h))
/-- a def without defaults -/
theorem fun_of_D {K : PySem.W.Frag} {x qual : Str} {st : Stmt} {f : Addr} {fd : FuncData} (h : FunD K x qual (defArgs st) (defBody st) (defScope st) [] [] f fd) : Fun K x qual st f fd := by
  obtain ⟨oc, od, dV, kV, doc, pm, an, cdv, ct, osl, h1, h2, h3, h4, h5⟩ := h.ex
  rcases h4 with ⟨_, z⟩ | ⟨z, _⟩
  · subst z
    exact ⟨⟨oc, od, kV, doc, pm, an, cdv, ct, osl, h1, h2, h3⟩, h.kp⟩
  · exact absurd rfl z
end Py

/-! Ops: what operators and built-ins do to data. -/
namespace Py
open PySem

mutual
@[simp] def eqv : D → D → Bool
  | .non, .non => true
  | .bl a, .bl b => a == b
  | .bl a, .int j => (if a then 1 else 0) == j
  | .int i, .bl b => i == (if b then 1 else 0)
  | .int i, .int j => i == j
  | .str x, .str y => x == y
  | .tup xs, .tup ys => eqvs xs ys
  | .lst xs, .lst ys => eqvs xs ys
  | _, _ => false
@[simp] def eqvs : List D → List D → Bool
  | [], [] => true
  | x :: xs, y :: ys => eqv x y && eqvs xs ys
  | _, _ => false
end
mutual
/-- may be compared: no dict, no object in it -/
@[simp] def cmpOk : D → Bool
  | .non => true
  | .bl _ => true
  | .int _ => true
  | .str x => x.cps.all (· < 0x110000)
  | .tup xs => cmpOks xs
  | .lst xs => cmpOks xs
  | _ => false
@[simp] def cmpOks : List D → Bool
  | [] => true
  | x :: xs => cmpOk x && cmpOks xs
end
mutual
@[simp] def dep : D → Nat
  | .tup xs => deps xs + 1
  | .lst xs => deps xs + 1
  | _ => 0
@[simp] def deps : List D → Nat
  | [] => 0
  | x :: xs => max (dep x) (deps xs)
end
@[simp] def eqOk (d : D) : Bool := cmpOk d && decide (dep d ≤ 64)
abbrev rI (i : Int) : Option Sl := some (.sh (.int i))
abbrev rB (b : Bool) : Option Sl := some (.sh (.bl b))

@[simp] def oAdd : List D → Option Sl
  | [.int i, .int j] => rI (i + j)
  | [.str x, .str y] => if x.length + y.length ≤ lim then some (.sh (.str (x ++ y))) else none
  | [.lst xs, .lst ys] => if xs.length + ys.length ≤ lim then some (.ow (.lst (xs ++ ys))) else none
  | [.tup xs, .tup ys] => if xs.length + ys.length ≤ lim then some (.sh (.tup (xs ++ ys))) else none
  | _ => none
@[simp] def oSub : List D → Option Sl
  | [.int i, .int j] => rI (i - j)
  | _ => none
def mulOk (i j : Int) : Bool := decide (i.natAbs.log2 + j.natAbs.log2 < 1000000)
@[simp] def oMul : List D → Option Sl
  | [.int i, .int j] => if mulOk i j = true then rI (i * j) else none
  | _ => none
def divOk (j : Int) : Bool := decide (j ≠ 0 ∧ j.natAbs.log2 < 9000)
@[simp] def oFdiv : List D → Option Sl
  | [.int i, .int j] => if divOk j = true then rI (i.fdiv j) else none
  | _ => none
@[simp] def oMod : List D → Option Sl
  | [.int i, .int j] => if j ≠ 0 then rI (i.fmod j) else none
  | _ => none
@[simp] def oPow : List D → Option Sl
  | [.int i, .int j] => if 0 ≤ j ∧ j ≤ 1000000 ∧ i.natAbs < 2 ^ 64 then rI (i ^ j.toNat) else none
  | _ => none
@[simp] def oNeg : List D → Option Sl
  | [.int i] => rI (-i)
  | _ => none
@[simp] def oEq : List D → Option Sl
  | [x, y] => if eqOk x = true ∧ eqOk y = true then rB (eqv x y) else none
  | _ => none
@[simp] def oNe : List D → Option Sl
  | [x, y] => if eqOk x = true ∧ eqOk y = true then rB (!eqv x y) else none
  | _ => none
@[simp] def oLt : List D → Option Sl
  | [.int i, .int j] => rB (decide (i < j))
  | _ => none
@[simp] def oLe : List D → Option Sl
  | [.int i, .int j] => rB (decide (i ≤ j))
  | _ => none
@[simp] def oGt : List D → Option Sl
  | [.int i, .int j] => rB (decide (j < i))
  | _ => none
@[simp] def oGe : List D → Option Sl
  | [.int i, .int j] => rB (decide (j ≤ i))
  | _ => none
@[simp] def isNon : D → Bool
  | .non => true
  | _ => false
/-- is, is not: with None, or of two truths -/
@[simp] def oIs : List D → Option Sl
  | [x, .non] => rB (isNon x)
  | [.bl a, .bl b] => rB (decide (a = b))
  | _ => none
@[simp] def oIsNot : List D → Option Sl
  | [x, .non] => rB (!isNon x)
  | [.bl a, .bl b] => rB (!decide (a = b))
  | _ => none
@[simp] def oIx : List D → Option Sl
  | [.lst xs, .int i] => ((ixAt xs.length i).bind fun j => xs[j]?).map .sh
  | [.tup xs, .int i] => ((ixAt xs.length i).bind fun j => xs[j]?).map .sh
  | [.scr xs, .int i] => ((ixAt xs.length i).bind fun j => xs[j]?).map .sh
  | [.str x, .int i] => if x.length ≤ lim then ((ixAt x.cps.size i).bind fun j => x.cps[j]?).map fun c => .sh (.str ⟨#[c]⟩) else none
  | _ => none
@[simp] def oLen : List D → Option Sl
  | [.lst xs] => rI xs.length
  | [.tup xs] => rI xs.length
  | [.scr xs] => rI xs.length
  | [.str x] => if x.length ≤ lim then rI x.length else none
  | _ => none
@[simp] def oAbs : List D → Option Sl
  | [.int i] => rI (if i < 0 then -i else i)
  | _ => none
@[simp] def oMax2 : List D → Option Sl
  | [.int i, .int j] => rI (if j > i then j else i)
  | _ => none
@[simp] def oMin2 : List D → Option Sl
  | [.int i, .int j] => rI (if j < i then j else i)
  | _ => none
@[simp] def oDivmod : List D → Option Sl
  | [.int i, .int j] => if 0 < j ∧ j.natAbs.log2 < 9000 then some (.sh (.tup [.int (i / j), .int (i % j)])) else none
  | _ => none
@[simp] def oStr : List D → Option Sl
  | [.int i] => if i.natAbs.log2 < 1920 then some (.sh (.str (Str.ofString (toString i)))) else none
  | _ => none
/-- int of a number or a truth -/
@[simp] def oInt : List D → Option Sl
  | [.int i] => rI i
  | [.bl b] => rI (if b then 1 else 0)
  | _ => none
/-- isinstance with a built-in class -/
inductive Ty where
  | int | bool | str | tuple | list | dict
@[simp] def Ty.has : Ty → D → Option Bool
  | .int, .int _ => some true
  | .int, .bl _ => some true
  | .bool, .bl _ => some true
  | .str, .str _ => some true
  | .tuple, .tup _ => some true
  | .list, .lst _ => some true
  | .dict, .dic _ _ => some true
  | _, .obj _ _ _ => none
  | _, .exc _ _ _ => none
  | _, .scr _ => none
  | _, _ => some false
@[simp] def oIsi (t : Ty) : List D → Option Sl
  | [d] => (t.has d).map fun b => .sh (.bl b)
  | _ => none
/-! slices -/
def slIx (n d : Nat) : Option Int → Nat
  | none => d
  | some v => if v < 0 then (v + (n : Int)).toNat else min v.toNat n
def cutD (xs : List D) (lo hi : Option Int) : List D := (xs.drop (slIx xs.length 0 lo)).take (slIx xs.length xs.length hi - slIx xs.length 0 lo)
def cutT (z : Str) (lo hi : Option Int) : Str := ⟨((z.cps.toList.drop (slIx z.length 0 lo)).take (slIx z.length z.length hi - slIx z.length 0 lo)).toArray⟩
@[simp] def oSlice (lo hi : Option Int) : List D → Option Sl
  | [.lst xs] => some (.ow (.lst (cutD xs lo hi)))
  | [.scr xs] => some (.ow (.lst (cutD xs lo hi)))
  | [.tup xs] => some (.sh (.tup (cutD xs lo hi)))
  | [.str z] => if z.length ≤ lim then some (.sh (.str (cutT z lo hi))) else none
  | _ => none
/-- the bound of a slice -/
abbrev OA := M (Option Int)
@[simp] def oaN : OA := M.pure none
@[simp] def oaS (a : A) : OA := M.bind (asC a asN) fun xs => M.get fun r => match dats r xs with
  | some [.int i] => some (some i)
  | _ => none
@[simp] def eSl (a : A) (lo hi : OA) (f : Option Int → Option Int → List D → Option Sl) : E :=
  M.bind (asC a asN) fun xs => M.bind lo fun l => M.bind hi fun h => M.get fun r => (dats r xs).bind (f l h)
end Py

set_option Elab.async false
set_option linter.all false
set_option maxRecDepth 100000
/-! Sm: operators and built-ins mean what Ops says. -/
namespace Py
open PySem PySem.Spec PyProof.Rows L2

/-! ### readings joined -/
theorem opR_or {X : Cx} {f : Value → Value → Sem Value} {r r' : R2} (h : OpR X f r) (h' : OpR X f r') : OpR X f (fun x y H Q => r x y H Q ∨ r' x y H Q) := by
  intro pins s σ H x y v u Q I rx ry q
  rcases q with q | q
  · exact h pins s σ H x y v u Q I rx ry q
  · exact h' pins s σ H x y v u Q I rx ry q
theorem callR_or {X : Cx} {f : Value} {r r' : List V → Hp → VK → Prop} (h : CallR X f r) (h' : CallR X f r') : CallR X f (fun xs H Q => r xs H Q ∨ r' xs H Q) := by
  intro pins s σ H xs us Q I rx q
  rcases q with q | q
  · exact h pins s σ H xs us Q I rx q
  · exact h' pins s σ H xs us Q I rx q
theorem ixR_or {X : Cx} {r r' : R2} (h : IxR X r) (h' : IxR X r') : IxR X (fun x y H Q => r x y H Q ∨ r' x y H Q) := by
  intro value slice pins s σ H x y v u Q I rx ry q
  rcases q with q | q
  · exact h value slice pins s σ H x y v u Q I rx ry q
  · exact h' value slice pins s σ H x y v u Q I rx ry q

section
variable {g : Gm} {Hs H : Hp}
theorem RC.int {v : V} {i : Int} (h : RC g Hs H v (.int i)) : v = .int i := by
  cases h with
  | sh h => cases h; rfl
  | nd _ h => exact h.elim
theorem RC.bl {v : V} {i : Bool} (h : RC g Hs H v (.bl i)) : v = .bl i := by
  cases h with
  | sh h => cases h; rfl
  | nd _ h => exact h.elim
theorem RC.str {v : V} {i : Str} (h : RC g Hs H v (.str i)) : v = .str i := by
  cases h with
  | sh h => cases h; rfl
  | nd _ h => exact h.elim
theorem RC.non {v : V} (h : RC g Hs H v .non) : v = .non := by
  cases h with
  | sh h => cases h; rfl
  | nd _ h => exact h.elim
theorem rca1 {vs : List V} {d : D} (h : RCA g Hs H vs [d]) : ∃ v, vs = [v] ∧ RC g Hs H v d := by
  cases h with
  | cons h t => cases t; exact ⟨_, rfl, h⟩
theorem rca2 {vs : List V} {d e : D} (h : RCA g Hs H vs [d, e]) : ∃ v w, vs = [v, w] ∧ RC g Hs H v d ∧ RC g Hs H w e := by
  cases h with
  | cons h t =>
    obtain ⟨w, rfl, h2⟩ := rca1 t
    exact ⟨_, w, rfl, h, h2⟩
end

/-! ### arithmetic -/
section
variable {X : Cx} {cl : Cs}
theorem op_fdivX : OpR X (binaryOp .FloorDiv) (L2.rI (fun _ j => j ≠ 0 ∧ j.natAbs.log2 < 9000) fun i j => .int (i.fdiv j)) := opI fun i j _ _ _ _ _ hc q => floordiv_int hc.1 q (.inl (PyProof.noPylong_of_log2 hc.2))
abbrev rAddX (K : PySem.W.Frag) : R2 := fun x y H Q => ((rI0 (fun i j => V.int (i + j)) x y H Q ∨ (∃ i j, x = .str i ∧ y = .str j ∧ i.length + j.length ≤ sizeLine ∧ Q (.str (i ++ j)) H)) ∨ rCat x y H Q) ∨ rCatA K x y H Q
theorem op_addX : OpR X (binaryOp .Add) (rAddX X.K) := opR_or (opR_or (opR_or op_add op_add_str) op_cat) op_catA
theorem od_add : OpD (gm X cl) (r2L (rAddX X.K)) oAdd := by
  intro Hs H vs ds x Q e hv hf c
  unfold oAdd at hf
  split at hf
  · obtain ⟨v, w, rfl, h1, h2⟩ := rca2 hv
    cases h1.int
    cases h2.int
    cases hf
    exact .inl (.inl (.inl ⟨_, _, rfl, rfl, c.val _ _ rfl (.int _)⟩))
  · obtain ⟨v, w, rfl, h1, h2⟩ := rca2 hv
    cases h1.str
    cases h2.str
    split at hf
    · rename_i hl
      cases hf
      exact .inl (.inl (.inr ⟨_, _, rfl, rfl, hl, c.val _ _ rfl (.str _)⟩))
    · cases hf
  · obtain ⟨v, w, rfl, h1, h2⟩ := rca2 hv
    split at hf
    · rename_i hl
      cases hf
      obtain ⟨a, xs, rfl, a1, a2⟩ := h1.lst e
      obtain ⟨b, ys, rfl, b1, b2⟩ := h2.lst e
      exact .inl (.inr ⟨a, b, xs, ys, rfl, rfl, a1, b1, by rw [a2.length, b2.length]; exact hl, fun p hp => c.lst p _ _ rfl hp (a2.append b2)⟩)
    · cases hf
  · obtain ⟨v, w, rfl, h1, h2⟩ := rca2 hv
    split at hf
    · rename_i hl
      cases hf
      obtain ⟨a, xs, rfl, a1, a2⟩ := h1.tup e
      obtain ⟨b, ys, rfl, b1, b2⟩ := h2.tup e
      have rw1 : ∀ {v : V} {l : List D}, RC (gm X cl) Hs H v (.tup l) → R (gm X cl) Hs v (.tup l) := fun h => by
        cases h with
        | sh h => exact h
        | nd _ h => exact h.elim
      refine .inr ⟨a, b, xs, ys, rfl, rfl, a1, b1, by rw [a2.length, b2.length]; exact hl, fun z => ?_, fun _ z => ?_, fun _ _ p hp => c.tup p _ _ rfl hp (a2.append b2)⟩
      · subst z
        cases a2
        exact c.val _ _ rfl (rw1 h2)
      · subst z
        cases b2
        refine c.val _ _ rfl ?_
        rw [List.append_nil]
        exact rw1 h1
    · cases hf
  · cases hf
theorem od_sub : OpD (gm X cl) (r2L (rI0 fun i j => V.int (i - j))) oSub := by
  intro Hs H vs ds x Q e hv hf c
  unfold oSub at hf
  split at hf
  · obtain ⟨v, w, rfl, h1, h2⟩ := rca2 hv
    cases h1.int
    cases h2.int
    cases hf
    exact ⟨_, _, rfl, rfl, c.val _ _ rfl (.int _)⟩
  · cases hf
theorem od_mul : OpD (gm X cl) (r2L (L2.rI CMulW fun i j => V.int (i * j))) oMul := by
  intro Hs H vs ds x Q e hv hf c
  unfold oMul at hf
  split at hf
  · obtain ⟨v, w, rfl, h1, h2⟩ := rca2 hv
    cases h1.int
    cases h2.int
    split at hf
    · rename_i hl
      cases hf
      unfold mulOk at hl
      exact ⟨_, _, rfl, rfl, by have z := of_decide_eq_true hl; exact z, c.val _ _ rfl (.int _)⟩
    · cases hf
  · cases hf
theorem od_fdiv : OpD (gm X cl) (r2L (L2.rI (fun _ j => j ≠ 0 ∧ j.natAbs.log2 < 9000) fun i j => V.int (i.fdiv j))) oFdiv := by
  intro Hs H vs ds x Q e hv hf c
  unfold oFdiv at hf
  split at hf
  · obtain ⟨v, w, rfl, h1, h2⟩ := rca2 hv
    cases h1.int
    cases h2.int
    split at hf
    · rename_i hl
      cases hf
      exact ⟨_, _, rfl, rfl, of_decide_eq_true hl, c.val _ _ rfl (.int _)⟩
    · cases hf
  · cases hf
theorem od_mod : OpD (gm X cl) (r2L (L2.rI (fun _ j => j ≠ 0) fun i j => V.int (i.fmod j))) oMod := by
  intro Hs H vs ds x Q e hv hf c
  unfold oMod at hf
  split at hf
  · obtain ⟨v, w, rfl, h1, h2⟩ := rca2 hv
    cases h1.int
    cases h2.int
    split at hf
    · rename_i hl
      cases hf
      exact ⟨_, _, rfl, rfl, hl, c.val _ _ rfl (.int _)⟩
    · cases hf
  · cases hf
theorem od_pow : OpD (gm X cl) (r2L (L2.rI CPow fun i j => V.int (i ^ j.toNat))) oPow := by
  intro Hs H vs ds x Q e hv hf c
  unfold oPow at hf
  split at hf
  · obtain ⟨v, w, rfl, h1, h2⟩ := rca2 hv
    cases h1.int
    cases h2.int
    split at hf
    · rename_i hl
      cases hf
      exact ⟨_, _, rfl, rfl, hl, c.val _ _ rfl (.int _)⟩
    · cases hf
  · cases hf
theorem od_neg : OpD (gm X cl) (r1L (rU fun i => V.int (-i))) oNeg := by
  intro Hs H vs ds x Q e hv hf c
  unfold oNeg at hf
  split at hf
  · obtain ⟨v, rfl, h1⟩ := rca1 hv
    cases h1.int
    cases hf
    exact ⟨_, rfl, c.val _ _ rfl (.int _)⟩
  · cases hf
end

/-! ### comparing data -/
mutual
def toPy : D → PyData
  | .non => .none
  | .bl b => .bool b
  | .int i => .int i
  | .str x => .str x
  | .tup xs => .tuple (toPys xs)
  | .lst xs => .list (toPys xs)
  | _ => .none
def toPys : List D → List PyData
  | [] => []
  | x :: xs => toPy x :: toPys xs
end
mutual
theorem dp_of {g : Gm} {H : Hp} : ∀ {d : D} {v : V}, cmpOk d = true → R g H v d → Dp g.K H v (toPy d)
  | .non, _, _, .non => .non
  | .bl b, _, _, .bl _ => .bl b
  | .int i, _, _, .int _ => .int i
  | .str x, _, _, .str _ => .str x
  | .tup ds, _, h, .tup h1 h2 => by
    have h' : cmpOks ds = true := by simpa only [cmpOk] using h
    show Dp g.K H _ (.tuple (toPys ds))
    exact .tup h1 (dps_of h' h2)
  | .lst ds, _, h, .lst h1 h2 => by
    have h' : cmpOks ds = true := by simpa only [cmpOk] using h
    show Dp g.K H _ (.list (toPys ds))
    exact .lst (SqL.of h1) (dps_of h' h2)
  | .scr ds, _, h, _ => by simp [cmpOk] at h
  | .dic _ _, _, h, _ => by simp [cmpOk] at h
  | .obj _ _ _, _, h, _ => by simp [cmpOk] at h
  | .exc _ _ _, _, h, _ => by simp [cmpOk] at h
theorem dps_of {g : Gm} {H : Hp} : ∀ {ds : List D} {vs : List V}, cmpOks ds = true → RA g H vs ds → DpAll g.K H vs (toPys ds)
  | [], _, _, .nil => .nil
  | d :: ds, _, h, .cons h1 h2 => by
    have h' : cmpOk d = true ∧ cmpOks ds = true := by simpa only [cmpOks, Bool.and_eq_true] using h
    exact .cons (dp_of h'.1 h1) (dps_of h'.2 h2)
end
mutual
theorem canLay_toPy : ∀ {d : D}, cmpOk d = true → (toPy d).canLay0 = true
  | .non, _ => rfl
  | .bl b, _ => rfl
  | .int i, _ => rfl
  | .str x, h => by
    show PyData.canLay0 (.str x) = true
    unfold cmpOk at h
    unfold PyData.canLay0
    exact h
  | .tup ds, h => by
    have h' : cmpOks ds = true := by simpa only [cmpOk] using h
    show PyData.canLay0 (.tuple (toPys ds)) = true
    unfold PyData.canLay0
    exact canLays_toPy h'
  | .lst ds, h => by
    have h' : cmpOks ds = true := by simpa only [cmpOk] using h
    show PyData.canLay0 (.list (toPys ds)) = true
    unfold PyData.canLay0
    exact canLays_toPy h'
  | .scr ds, h => by simp [cmpOk] at h
  | .dic _ _, h => by simp [cmpOk] at h
  | .obj _ _ _, h => by simp [cmpOk] at h
  | .exc _ _ _, h => by simp [cmpOk] at h
theorem canLays_toPy : ∀ {ds : List D}, cmpOks ds = true → PyData.canLayAll0 (toPys ds) = true
  | [], _ => rfl
  | d :: ds, h => by
    have h' : cmpOk d = true ∧ cmpOks ds = true := by simpa only [cmpOks, Bool.and_eq_true] using h
    show PyData.canLayAll0 (toPy d :: toPys ds) = true
    unfold PyData.canLayAll0
    rw [canLay_toPy h'.1, canLays_toPy h'.2]
    rfl
end
mutual
theorem depth_toPy : ∀ {d : D}, cmpOk d = true → (toPy d).depth = dep d
  | .non, _ => by simp [toPy, PyData.depth, dep]
  | .bl b, _ => by simp [toPy, PyData.depth, dep]
  | .int i, _ => by simp [toPy, PyData.depth, dep]
  | .str x, h => by simp [toPy, PyData.depth, dep]
  | .tup ds, h => by
    have h' : cmpOks ds = true := by simpa only [cmpOk] using h
    simp only [toPy, PyData.depth, dep]
    rw [depths_toPy h']
  | .lst ds, h => by
    have h' : cmpOks ds = true := by simpa only [cmpOk] using h
    simp only [toPy, PyData.depth, dep]
    rw [depths_toPy h']
  | .scr ds, h => by simp [cmpOk] at h
  | .dic _ _, h => by simp [cmpOk] at h
  | .obj _ _ _, h => by simp [cmpOk] at h
  | .exc _ _ _, h => by simp [cmpOk] at h
theorem depths_toPy : ∀ {ds : List D}, cmpOks ds = true → PyData.depthAll (toPys ds) = deps ds
  | [], _ => by simp [toPys, PyData.depthAll, deps]
  | d :: ds, h => by
    have h' : cmpOk d = true ∧ cmpOks ds = true := by simpa only [cmpOks, Bool.and_eq_true] using h
    simp only [toPys, PyData.depthAll, deps]
    rw [depth_toPy h'.1, depths_toPy h'.2]
end
mutual
theorem eqv_toPy : ∀ {d e : D}, cmpOk d = true → cmpOk e = true → PyData.eqv (toPy d) (toPy e) = eqv d e := by
  intro d e hd he
  cases d <;> first | (simp [cmpOk] at hd; done) | skip
  all_goals cases e <;> first | (simp [cmpOk] at he; done) | skip
  all_goals first | (simp only [toPy, PyData.eqv, eqv]; done) | skip
  · simp only [toPy, PyData.eqv, eqv]
    exact eqvs_toPy (by simpa only [cmpOk] using hd) (by simpa only [cmpOk] using he)
  · simp only [toPy, PyData.eqv, eqv]
    exact eqvs_toPy (by simpa only [cmpOk] using hd) (by simpa only [cmpOk] using he)
theorem eqvs_toPy : ∀ {ds es : List D}, cmpOks ds = true → cmpOks es = true → PyData.eqvAll (toPys ds) (toPys es) = eqvs ds es := by
  intro ds es hd he
  cases ds with
  | nil =>
    cases es with
    | nil => simp only [toPys, PyData.eqvAll, eqvs]
    | cons e es => simp only [toPys, PyData.eqvAll, eqvs]
  | cons d ds =>
    cases es with
    | nil => simp only [toPys, PyData.eqvAll, eqvs]
    | cons e es =>
      have h1 : cmpOk d = true ∧ cmpOks ds = true := by simpa only [cmpOks, Bool.and_eq_true] using hd
      have h2 : cmpOk e = true ∧ cmpOks es = true := by simpa only [cmpOks, Bool.and_eq_true] using he
      simp only [toPys, PyData.eqvAll, eqvs]
      rw [eqv_toPy h1.1 h2.1, eqvs_toPy h1.2 h2.2]
end

section
variable {X : Cx} {cl : Cs}
theorem shaped_of {d : D} (h : eqOk d = true) : SeqAt.shaped (toPy d) = true ∧ cmpOk d = true := by
  unfold eqOk at h
  obtain ⟨h1, h2⟩ := Bool.and_eq_true_iff.mp h
  refine ⟨?_, h1⟩
  unfold SeqAt.shaped
  rw [canLay_toPy h1, depth_toPy h1]
  exact h2
theorem od_eq : OpD (gm X cl) (r2L (rEqD X.K)) oEq := by
  intro Hs H vs ds x Q e hv hf c
  unfold oEq at hf
  split at hf
  · rename_i d1 d2
    split at hf
    · rename_i hl
      cases hf
      obtain ⟨v, w, rfl, h1, h2⟩ := rca2 hv
      obtain ⟨s1, s2⟩ := shaped_of hl.1
      obtain ⟨s3, s4⟩ := shaped_of hl.2
      refine ⟨toPy d1, toPy d2, dp_of s2 (h1.toR e), dp_of s4 (h2.toR e), s1, s3, ?_⟩
      rw [eqv_toPy s2 s4]
      exact c.val _ _ rfl (.bl _)
    · cases hf
  · cases hf
theorem od_ne : OpD (gm X cl) (r2L (rNeD X.K)) oNe := by
  intro Hs H vs ds x Q e hv hf c
  unfold oNe at hf
  split at hf
  · rename_i d1 d2
    split at hf
    · rename_i hl
      cases hf
      obtain ⟨v, w, rfl, h1, h2⟩ := rca2 hv
      obtain ⟨s1, s2⟩ := shaped_of hl.1
      obtain ⟨s3, s4⟩ := shaped_of hl.2
      refine ⟨toPy d1, toPy d2, dp_of s2 (h1.toR e), dp_of s4 (h2.toR e), s1, s3, ?_⟩
      rw [eqv_toPy s2 s4]
      exact c.val _ _ rfl (.bl _)
    · cases hf
  · cases hf
theorem od_lt : OpD (gm X cl) (r2L (rI0 fun i j => V.bl (decide (i < j)))) oLt := by
  intro Hs H vs ds x Q e hv hf c
  unfold oLt at hf
  split at hf
  · obtain ⟨v, w, rfl, h1, h2⟩ := rca2 hv
    cases h1.int
    cases h2.int
    cases hf
    exact ⟨_, _, rfl, rfl, c.val _ _ rfl (.bl _)⟩
  · cases hf
theorem od_le : OpD (gm X cl) (r2L (rI0 fun i j => V.bl (decide (i ≤ j)))) oLe := by
  intro Hs H vs ds x Q e hv hf c
  unfold oLe at hf
  split at hf
  · obtain ⟨v, w, rfl, h1, h2⟩ := rca2 hv
    cases h1.int
    cases h2.int
    cases hf
    exact ⟨_, _, rfl, rfl, c.val _ _ rfl (.bl _)⟩
  · cases hf
theorem od_gt : OpD (gm X cl) (r2L (rI0 fun i j => V.bl (decide (j < i)))) oGt := by
  intro Hs H vs ds x Q e hv hf c
  unfold oGt at hf
  split at hf
  · obtain ⟨v, w, rfl, h1, h2⟩ := rca2 hv
    cases h1.int
    cases h2.int
    cases hf
    exact ⟨_, _, rfl, rfl, c.val _ _ rfl (.bl _)⟩
  · cases hf
theorem od_ge : OpD (gm X cl) (r2L (rI0 fun i j => V.bl (decide (j ≤ i)))) oGe := by
  intro Hs H vs ds x Q e hv hf c
  unfold oGe at hf
  split at hf
  · obtain ⟨v, w, rfl, h1, h2⟩ := rca2 hv
    cases h1.int
    cases h2.int
    cases hf
    exact ⟨_, _, rfl, rfl, c.val _ _ rfl (.bl _)⟩
  · cases hf
theorem isNon_iff {g : Gm} {Hs H : Hp} {v : V} {d : D} (h : RC g Hs H v d) : decide (v = .non) = isNon d := by
  cases h with
  | sh h => cases h <;> simp [isNon]
  | nd _ h =>
    cases d with
    | non => exact h.elim
    | _ => simp [isNon]
abbrev rIsX : R2 := fun x y H Q => (y = .non ∧ Q (.bl (decide (x = .non))) H) ∨ rIsB x y H Q
theorem op_isX : OpR X (compareOp .Is) rIsX := opR_or op_isN op_isBl
abbrev rIsNotX : R2 := fun x y H Q => (y = .non ∧ Q (.bl (!decide (x = .non))) H) ∨ rNotB x y H Q
theorem op_isNotX : OpR X (compareOp .IsNot) rIsNotX := opR_or op_notN op_notBl
theorem od_is : OpD (gm X cl) (r2L rIsX) oIs := by
  intro Hs H vs ds x Q e hv hf c
  unfold oIs at hf
  split at hf
  · obtain ⟨v, w, rfl, h1, h2⟩ := rca2 hv
    cases h2.non
    cases hf
    exact .inl ⟨rfl, by rw [isNon_iff h1]; exact c.val _ _ rfl (.bl _)⟩
  · obtain ⟨v, w, rfl, h1, h2⟩ := rca2 hv
    cases h1.bl
    cases h2.bl
    cases hf
    exact .inr ⟨_, _, rfl, rfl, c.val _ _ rfl (.bl _)⟩
  · cases hf
theorem od_isNot : OpD (gm X cl) (r2L rIsNotX) oIsNot := by
  intro Hs H vs ds x Q e hv hf c
  unfold oIsNot at hf
  split at hf
  · obtain ⟨v, w, rfl, h1, h2⟩ := rca2 hv
    cases h2.non
    cases hf
    exact .inl ⟨rfl, by rw [isNon_iff h1]; exact c.val _ _ rfl (.bl _)⟩
  · obtain ⟨v, w, rfl, h1, h2⟩ := rca2 hv
    cases h1.bl
    cases h2.bl
    cases hf
    exact .inr ⟨_, _, rfl, rfl, c.val _ _ rfl (.bl _)⟩
  · cases hf
/-! ### subscripts, lengths -/
abbrev rIxX (K : PySem.W.Frag) : R2 := fun x y H Q => (rIxL K x y H Q ∨ rIxT K x y H Q) ∨ rIxS x y H Q
theorem ix_X : IxR X (rIxX X.K) := ixR_or (ixR_or ix_list ix_tup) ix_str
theorem at_of_ds {g : Gm} {Hs : Hp} {xs : List V} {ds : List D} {i : Int} {d : D} (h : RA g Hs xs ds) (hd : ((ixAt ds.length i).bind fun j => ds[j]?) = some d) : ∃ v, atI xs i = some v ∧ R g Hs v d := by
  obtain ⟨j, h1, h2⟩ := Option.bind_eq_some_iff.mp hd
  obtain ⟨v, h3, h4⟩ := h.get h2
  refine ⟨v, ?_, h4⟩
  show (ixN xs.length i).bind (fun j => xs[j]?) = some v
  rw [h.length]
  exact Option.bind_eq_some_iff.mpr ⟨j, h1, h3⟩
theorem od_ix : OpD (gm X cl) (r2L (rIxX X.K)) oIx := by
  intro Hs H vs ds x Q e hv hf c
  unfold oIx at hf
  split at hf
  · obtain ⟨v, w, rfl, h1, h2⟩ := rca2 hv
    cases h2.int
    obtain ⟨d, hd, hx⟩ := Option.map_eq_some_iff.mp hf
    obtain ⟨a, xs, rfl, a1, a2⟩ := h1.lst e
    obtain ⟨v, b1, b2⟩ := at_of_ds a2 hd
    exact .inl (.inl ⟨a, xs, _, v, rfl, rfl, SqL.of a1, b1, c.val _ _ hx.symm b2⟩)
  · obtain ⟨v, w, rfl, h1, h2⟩ := rca2 hv
    cases h2.int
    obtain ⟨d, hd, hx⟩ := Option.map_eq_some_iff.mp hf
    obtain ⟨a, xs, rfl, a1, a2⟩ := h1.tup e
    obtain ⟨v, b1, b2⟩ := at_of_ds a2 hd
    exact .inl (.inr ⟨a, xs, _, v, rfl, rfl, a1, b1, c.val _ _ hx.symm b2⟩)
  · obtain ⟨v, w, rfl, h1, h2⟩ := rca2 hv
    cases h2.int
    obtain ⟨d, hd, hx⟩ := Option.map_eq_some_iff.mp hf
    obtain ⟨a, xs, rfl, a1, a2⟩ := h1.scr e
    obtain ⟨v, b1, b2⟩ := at_of_ds a2 hd
    exact .inl (.inl ⟨a, xs, _, v, rfl, rfl, a1, b1, c.val _ _ hx.symm b2⟩)
  · obtain ⟨v, w, rfl, h1, h2⟩ := rca2 hv
    cases h1.str
    cases h2.int
    split at hf
    · rename_i z i hl
      obtain ⟨ch, hd, hx⟩ := Option.map_eq_some_iff.mp hf
      refine .inr ⟨z, i, ch, rfl, rfl, hl, ?_, c.val _ _ hx.symm (.str _)⟩
      obtain ⟨j, h1, h2⟩ := Option.bind_eq_some_iff.mp hd
      show (ixN z.cps.toList.length i).bind (fun j => z.cps.toList[j]?) = some ch
      exact Option.bind_eq_some_iff.mpr ⟨j, by rw [Array.length_toList]; exact h1, by rw [Array.getElem?_toList]; exact h2⟩
    · cases hf
  · cases hf
theorem od_len : OpD (gm X cl) (fun xs H Q => ∃ x n, xs = [x] ∧ LenV X.K x H n ∧ Q (.int n) H) oLen := by
  intro Hs H vs ds x Q e hv hf c
  unfold oLen at hf
  split at hf
  · obtain ⟨v, rfl, h1⟩ := rca1 hv
    cases hf
    obtain ⟨a, xs, rfl, a1, a2⟩ := h1.lst e
    exact ⟨_, _, rfl, .inl ⟨xs, SqL.of a1, rfl⟩, by rw [a2.length]; exact c.val _ _ rfl (.int _)⟩
  · obtain ⟨v, rfl, h1⟩ := rca1 hv
    cases hf
    obtain ⟨a, xs, rfl, a1, a2⟩ := h1.tup e
    exact ⟨_, _, rfl, .inr ⟨xs, a1, rfl⟩, by rw [a2.length]; exact c.val _ _ rfl (.int _)⟩
  · obtain ⟨v, rfl, h1⟩ := rca1 hv
    cases hf
    obtain ⟨a, xs, rfl, a1, a2⟩ := h1.scr e
    exact ⟨_, _, rfl, .inl ⟨xs, a1, rfl⟩, by rw [a2.length]; exact c.val _ _ rfl (.int _)⟩
  · obtain ⟨v, rfl, h1⟩ := rca1 hv
    cases h1.str
    split at hf
    · rename_i hl
      cases hf
      exact ⟨_, _, rfl, ⟨hl, rfl⟩, c.val _ _ rfl (.int _)⟩
    · cases hf
  · cases hf
theorem od_abs : OpD (gm X cl) (fun xs H Q => ∃ i, xs = [V.int i] ∧ Q (.int (if i < 0 then -i else i)) H) oAbs := by
  intro Hs H vs ds x Q e hv hf c
  unfold oAbs at hf
  split at hf
  · obtain ⟨v, rfl, h1⟩ := rca1 hv
    cases h1.int
    cases hf
    exact ⟨_, rfl, c.val _ _ rfl (.int _)⟩
  · cases hf
theorem od_max2 : OpD (gm X cl) (fun xs H Q => ∃ i j, xs = [V.int i, V.int j] ∧ Q (.int (if j > i then j else i)) H) oMax2 := by
  intro Hs H vs ds x Q e hv hf c
  unfold oMax2 at hf
  split at hf
  · obtain ⟨v, w, rfl, h1, h2⟩ := rca2 hv
    cases h1.int
    cases h2.int
    cases hf
    exact ⟨_, _, rfl, c.val _ _ rfl (.int _)⟩
  · cases hf
theorem od_min2 : OpD (gm X cl) (fun xs H Q => ∃ i j, xs = [V.int i, V.int j] ∧ Q (.int (if j < i then j else i)) H) oMin2 := by
  intro Hs H vs ds x Q e hv hf c
  unfold oMin2 at hf
  split at hf
  · obtain ⟨v, w, rfl, h1, h2⟩ := rca2 hv
    cases h1.int
    cases h2.int
    cases hf
    exact ⟨_, _, rfl, c.val _ _ rfl (.int _)⟩
  · cases hf
theorem od_divmod : OpD (gm X cl) (fun xs H Q => ∃ i j, xs = [V.int i, V.int j] ∧ CDivP i j ∧ ∀ p, H p = none → Q (.ref p) (upd H p (.tup [.int (i / j), .int (i % j)]))) oDivmod := by
  intro Hs H vs ds x Q e hv hf c
  unfold oDivmod at hf
  split at hf
  · obtain ⟨v, w, rfl, h1, h2⟩ := rca2 hv
    cases h1.int
    cases h2.int
    split at hf
    · rename_i hl
      cases hf
      exact ⟨_, _, rfl, ⟨hl.1, PyProof.noPylong_of_log2 hl.2⟩, fun p hp => c.tup p _ _ rfl hp (.cons (.int _) (.cons (.int _) .nil))⟩
    · cases hf
  · cases hf
theorem od_str : OpD (gm X cl) (fun xs H Q => ∃ i : Int, xs = [V.int i] ∧ i.natAbs.log2 < 1920 ∧ Q (.str (toString i)) H) oStr := by
  intro Hs H vs ds x Q e hv hf c
  unfold oStr at hf
  split at hf
  · obtain ⟨v, rfl, h1⟩ := rca1 hv
    cases h1.int
    split at hf
    · rename_i hl
      cases hf
      exact ⟨_, rfl, hl, c.val _ _ rfl (.str _)⟩
    · cases hf
  · cases hf
/-! ### isinstance -/
def Ty.nm : Ty → String
  | .int => "int"
  | .bool => "bool"
  | .str => "str"
  | .tuple => "tuple"
  | .list => "list"
  | .dict => "dict"
/-- the name of data's own class -/
def tyNm : D → Option String
  | .non => some "NoneType"
  | .bl _ => some "bool"
  | .int _ => some "int"
  | .str _ => some "str"
  | .tup _ => some "tuple"
  | .lst _ => some "list"
  | .dic _ _ => some "dict"
  | _ => none
theorem tyX_of {K : PySem.W.Frag} {c : Str → Option Addr} {Hs H : Hp} {v : V} {d : D} {n : String} (e : Same Hs H) (h : RC ⟨K, c⟩ Hs H v d) (hn : tyNm d = some n) : TyX K H v (.type n) := by
  have r := h.toR e
  cases r with
  | non => cases hn; exact .base .non
  | bl b => cases hn; exact .base (.bl b)
  | int i => cases hn; exact .base (.int i)
  | str x => cases hn; exact .base (.str x)
  | tup h1 h2 =>
    cases hn
    rcases h1 with (h1 | ⟨o, h1⟩) | ⟨o, its, n, h1, h2, _⟩
    · exact .base (.tup h1)
    · exact .fTuple h1
    · exact .kTuple h1 h2
  | lst h1 h2 => cases hn; exact .base (.lst h1)
  | dic h1 _ _ => cases hn; exact .base (.dK h1)
  | _ => cases hn
theorem kit_has {t : Ty} {d : D} {b : Bool} (h : t.has d = some b) : ∃ n, tyNm d = some n ∧ kitB n t.nm = some b := by
  cases t <;> cases d <;> first | (cases h; done) | skip
  all_goals (cases h; exact ⟨_, rfl, by decide +kernel⟩)
theorem od_isi (t : Ty) : OpD (gm X cl) (fun xs H Q => rIsi X.K (xs ++ [V.ty t.nm]) H Q) (oIsi t) := by
  intro Hs H vs ds x Q e hv hf c
  unfold oIsi at hf
  split at hf
  · obtain ⟨v, rfl, h1⟩ := rca1 hv
    obtain ⟨b, hb, hx⟩ := Option.map_eq_some_iff.mp hf
    obtain ⟨n, n1, n2⟩ := kit_has hb
    exact ⟨v, .ty t.nm, .type n, .type t.nm, b, rfl, .ty _, tyX_of e h1 n1, kit_ty n2, c.val _ _ hx.symm (.bl _)⟩
  · cases hf
variable {W : WX} {a : Expr} {ma : A} {x : Str} {q p2 pos : Pos}
theorem pd_isi (t : Ty) (hgI : Gl X "isinstance") (hmI : X.mg "isinstance" = none) (ha : PO X cl W a ma) (hx : PE X (.Name x p2) (tC (.ty t.nm)))
    (h1 : starEach [a, .Name x p2] X.env = (false, eval a X.env) :: starEach [.Name x p2] X.env := by rfl) (h2 : starEach [.Name x p2] X.env = (false, eval (.Name x p2) X.env) :: starEach [] X.env := by rfl) (h3 : (backTo pos (starEach [.Name x p2] X.env)).any (·.1) = false := by rfl) :
    PD X cl W (.Call (.Name "isinstance" q) [a, .Name x p2] [] pos) (eOp (asC ma asN) (oIsi t)) := by
  obtain ⟨ta, h4, h5⟩ := ha
  exact ⟨_, pe_callB call_isi hgI hmI (by decide +kernel) (pa_cons h4 (pa_cons hx pa_nil h2) h1) (by decide) (by decide) h1 h3, op_den (ta := tCons ta tNil) (das_cons h5 das_nil) (od_isi t)⟩
end
end Py

set_option Elab.async false
set_option linter.all false
set_option maxRecDepth 100000
/-! Sn: slices. -/
namespace Py
open PySem PySem.Spec PyProof.Rows L2

def PostI (g : Gam) (B : Bs) (s : L2.St) (t : Py.Env) (k : L2.St) (W : WX) (Q : Option Int → Hp → Prop) : Out (Option Int) → Prop
  | .ok b r' => ∀ Hs' H', RepT g B Hs' r' s t k H' → Q b H'
  | .ex e r' => PostX g B t k W e r' s
/-- a slice's bound -/
def PId (X : Cx) (cl : Cs) (W : WX) (e : Option Expr) (m : OA) : Prop := ∃ tt, L2.PO X e tt ∧ ∀ B Hs r s t k H Q o, RepT (gm X cl) B Hs r s t k H → m r = some o → PostI (gm X cl) B s t k W Q o → tt s H Q
section
variable {X : Cx} {cl : Cs} {W : WX} {e : Expr} {lo hi : Option Expr} {p2 pos : Pos}
theorem pid_none : PId X cl W none oaN := ⟨_, po_none, fun B Hs r s t k H Q o hr hm hp => by
  cases hm
  exact hp _ H hr⟩
theorem pid_some {m : A} (h : Py.PO X cl W e m) : PId X cl W (some e) (oaS m) := by
  obtain ⟨te, h1, h2⟩ := h
  refine ⟨_, po_some h1, fun B Hs r s t k H Q o hr hm hp => ?_⟩
  have das := das_cons (W := W) (g := gm X cl) h2 das_nil
  rcases bind_cases hm with ⟨ys, r1, q1, q2⟩ | ⟨ee, r1, q1, q2⟩
  · refine das B _ r s t k H (fun vs H1 => match vs with | [x] => ∃ i, x = .int i ∧ Q (some i) H1 | _ => True) _ hr q1 fun vs kv HsH1 H1 av hr1 => ?_
    unfold M.get at q2
    dsimp only at q2
    cases q3 : dats r1 ys with
    | none =>
      rw [q3] at q2
      cases q2
    | some ds =>
      have rca := av.rca hr1 hr.tk q3
      rw [q3] at q2
      split at q2
      · cases q2
      · rename_i a qa
        cases q2
        split at qa
        · rename_i i hh
          cases hh
          cases qa
          obtain ⟨v, rfl, h3⟩ := rca1 rca
          cases h3.int
          exact ⟨i, rfl, hp _ H1 (hr1.dropped hr.tk)⟩
        · cases qa
  · subst q2
    exact das B _ r s t k H (fun vs H1 => match vs with | [x] => ∃ i, x = .int i ∧ Q (some i) H1 | _ => True) _ hr q1 hp
/-- a slice of values reads as f of data -/
def SlD (g : Gm) (rr : V → Option Int → Option Int → Hp → VK → Prop) (f : Option Int → Option Int → List D → Option Sl) : Prop :=
  ∀ Hs H v d lo hi x Q, Same Hs H → RC g Hs H v d → f lo hi [d] = some x → Cont g Hs H Q x → rr v lo hi H Q
theorem pd_slice {ma : A} {ml mh : OA} {rr : V → Option Int → Option Int → Hp → VK → Prop} {f : Option Int → Option Int → List D → Option Sl} (hr : SlR X rr) (hf : SlD (gm X cl) rr f) (he : Py.PO X cl W e ma) (hl : PId X cl W lo ml) (hh : PId X cl W hi mh) :
    PD X cl W (.Subscript e (.Slice lo hi none p2) pos) (eSl ma ml mh f) := by
  obtain ⟨te, h1, h2⟩ := he
  obtain ⟨tl, h3, h4⟩ := hl
  obtain ⟨th, h5, h6⟩ := hh
  refine ⟨_, pe_slice hr h1 h3 h5, fun B Hs r s t k H Q o hrp hm hp => ?_⟩
  have das := das_cons (W := W) (g := gm X cl) h2 das_nil
  rcases bind_cases hm with ⟨ys, r1, q1, q2⟩ | ⟨ee, r1, q1, q2⟩
  · refine das B _ r s t k H (fun vs H1 => match vs with | [x] => tl s H1 fun l H2 => th s H2 fun u H3 => rr x l u H3 Q | _ => True) _ hrp q1 fun vs kv HsH1 H1 av hr1 => ?_
    obtain ⟨v, rfl⟩ : ∃ v, vs = [v] := by
      rcases bind_cases q1 with ⟨y, r2, z1, z2⟩ | ⟨_, _, _, z⟩
      · rcases bind_cases z2 with ⟨y2, r3, z3, z4⟩ | ⟨_, _, _, z⟩
        · cases z3
          cases z4
          cases av with
          | r _ av => cases av; exact ⟨_, rfl⟩
          | v av => cases av; exact ⟨_, rfl⟩
        · cases z
      · cases z
    show tl s H1 fun l H2 => th s H2 fun u H3 => rr v l u H3 Q
    rcases bind_cases q2 with ⟨l, r2, q3, q4⟩ | ⟨ee, r2, q3, q4⟩
    · refine h4 B _ r1 s _ _ H1 _ _ hr1 q3 fun HsH2 H2 hr2 => ?_
      rcases bind_cases q4 with ⟨u, r3, q5, q6⟩ | ⟨ee, r3, q5, q6⟩
      · refine h6 B _ r2 s _ _ H2 _ _ hr2 q5 fun HsH3 H3 hr3 => ?_
        unfold M.get at q6
        dsimp only at q6
        cases q7 : dats r3 ys with
        | none =>
          rw [q7] at q6
          cases q6
        | some ds =>
          rw [q7] at q6
          dsimp only [Option.bind_some] at q6
          cases q8 : f l u ds with
          | none =>
            rw [q8] at q6
            cases q6
          | some x =>
            rw [q8] at q6
            cases q6
            have rca := av.rca hr3 hrp.tk q7
            have hrd := hr3.dropped hrp.tk
            have hds : ∃ d, ds = [d] := by
              cases rca with
              | cons _ t => cases t; exact ⟨_, rfl⟩
            obtain ⟨d, rfl⟩ := hds
            obtain ⟨v', e1, e2⟩ := rca1 rca
            cases e1
            refine hf _ H3 v d l u x Q hr3.shH e2 q8 ⟨fun v d e hv => ?_, fun p xs l e hn hv => ?_, fun p xs l e hn hv => ?_⟩
            · subst e
              exact hp v _ H3 (hrd.push hv)
            · subst e
              exact hp _ _ _ (hrd.pushTup hn hv)
            · subst e
              exact hp _ _ _ (hrd.pushLst hn hv)
      · subst q6
        exact h6 B _ r2 s _ _ H2 _ _ hr2 q5 (PostX.drop hrp.tk hp)
    · subst q4
      exact h4 B _ r1 s _ _ H1 _ _ hr1 q3 (PostX.drop hrp.tk hp)
  · subst q2
    exact das B _ r s t k H (fun vs H1 => match vs with | [x] => tl s H1 fun l H2 => th s H2 fun u H3 => rr x l u H3 Q | _ => True) _ hrp q1 hp
/-! ### of lists, texts, tuples -/
theorem RA.cut {g : Gm} {H : Hp} {xs : List V} {ds : List D} (h : RA g H xs ds) (lo hi : Option Int) : RA g H (cutV xs lo hi) (cutD ds lo hi) := by
  unfold cutV cutD
  rw [h.length]
  exact (h.drop _).take _
abbrev rSlX (K : PySem.W.Frag) : V → Option Int → Option Int → Hp → VK → Prop := fun x lo hi H Q => (rSlL K x lo hi H Q ∨ rSlA K x lo hi H Q) ∨ rSlS x lo hi H Q
theorem sl_X : SlR X (rSlX X.K) := SlR.or (SlR.or sl_list sl_tupA) sl_str
theorem sd_X : SlD (gm X cl) (rSlX X.K) oSlice := by
  intro Hs H v d lo hi x Q e h hf c
  unfold oSlice at hf
  split at hf
  · rename_i xs hh
    cases hh
    cases hf
    obtain ⟨a, ys, rfl, a1, a2⟩ := h.lst e
    exact .inl (.inl ⟨a, ys, rfl, SqL.of a1, fun p hp => c.lst p _ _ rfl hp (a2.cut lo hi)⟩)
  · rename_i xs hh
    cases hh
    cases hf
    obtain ⟨a, ys, rfl, a1, a2⟩ := h.scr e
    exact .inl (.inl ⟨a, ys, rfl, a1, fun p hp => c.lst p _ _ rfl hp (a2.cut lo hi)⟩)
  · rename_i xs hh
    cases hh
    cases hf
    obtain ⟨a, ys, ev, a1, a2⟩ := h.tup e
    have hw : R (gm X cl) Hs v (.tup xs) := by
      cases h with
      | sh h => exact h
      | nd _ h => exact h.elim
    subst ev
    refine .inl (.inr ⟨a, ys, rfl, a1, fun z => c.val _ _ rfl ?_, fun _ p hp => c.tup p _ _ rfl hp (a2.cut lo hi)⟩)
    have ec : cutD xs lo hi = xs := by
      rw [a2.length] at z
      obtain ⟨z1, z2⟩ := z
      have z1' : slIx xs.length 0 lo = 0 := z1
      have z2' : slIx xs.length xs.length hi = xs.length := z2
      unfold cutD
      rw [z1', z2', List.drop_zero, Nat.sub_zero, List.take_length]
    rw [ec]
    exact hw
  · rename_i z hh
    cases hh
    split at hf
    · rename_i hl
      cases hf
      cases h.str
      exact .inr ⟨z, rfl, hl, c.val _ _ rfl (.str _)⟩
    · cases hf
  · cases hf
end
end Py

set_option Elab.async false
set_option linter.all false
set_option maxRecDepth 100000
/-! So: the end of a law. -/
namespace Py
open PySem PySem.Spec PyProof.Rows L2

theorem fnok_calm {P : Program} {w : World} {K : PySem.W.Frag} {mg : Str → Option Value} {base : Heap} {k : Nat} {f : Addr} {fd : FuncData} {ps : List Str} {sp : Sp} (F : FnOk P w K mg base (L2.CX P w) k f fd ps sp) :
    FnOk P w K mg base CX0 k f fd ps (fun vs H Q _ => sp vs H Q (fun _ _ _ => False)) := by
  refine ⟨fun vs H Q E h => F.len vs H Q _ h, fun A outer s H args us vs Q E hr he hb hv hs => ?_⟩
  refine codeAny_mono (F.run A outer s H args us vs Q _ hr he hb hv hs) fun r s' hq => ?_
  cases r with
  | error e =>
    obtain ⟨a, B, H', cls, d, _, _, _, _, _, _, _, z⟩ := hq
    exact z.elim
  | ok fl =>
    cases fl with
    | ret u => exact hq
    | next => exact hq
    | brk => exact hq
    | cont => exact hq
theorem ra_ints {g : Gm} : ∀ (ns : List Int) (H : Hp), RA g H (ns.map V.int) (ns.map D.int)
  | [], _ => .nil
  | n :: ns, H => .cons (.int n) (ra_ints ns H)
/-- the law's def, given the script -/
theorem sp_law {g : Gm} {f : Fn} {ps : List Sl} {H : Hp} {a : Addr} {ns : List Int} (hf : f [.sh (.scr (ns.map .int))] = some (.ret (.sh (.bl true)) ps)) (hS : SqL g.K H a (ns.map V.int)) : spF g 1 f [.ref a] H (fun v _ => v = .bl true) (fun _ _ _ => False) := by
  have ra : ∀ H : Hp, RA g H (ns.map V.int) (ns.map D.int) := ra_ints ns
  refine ⟨rfl, hemp, hemp, H, [.sh (.scr (ns.map .int))], _, ⟨fun _ => hemp, rfl, Nat.zero_le _, fun i x o h1 h2 => ?_, fun _ _ _ => dj_emp, fun _ => dj_emp, fun _ => dj_emp, fun _ => same_emp, same_rfl, same_emp, dj_emp.symm, same_emp, same_rfl, fun i z => Bool.noConfusion z⟩, hf, fun v Hs' H' h => ?_⟩
  · cases i with
    | zero =>
      cases h1
      cases h2
      exact .inr ⟨_, rfl, by simp only [SlV]; exact .scr hS (ra _)⟩
    | succ i => simp at h1
  · have hl := h.len
    have e1 : (ps ++ [Sl.sh (.bl true)])[ps.length]? = some (.sh (.bl true)) := by simp
    obtain ⟨v', h1, h3⟩ := h.shd e1
    have hp : ps.length = 1 := by simpa using hl
    rw [hp] at h1
    have : v' = v := by simpa using h1.symm
    subst this
    cases h3
    rfl
theorem bind1 {K : PySem.W.Frag} {x qual p : Str} {st : Stmt} {f : Addr} {fd : FuncData} (F : Fun K x qual st f fd)
    (h : ∀ (kV doc pm : Value) (an : Option Addr) (cdv ct : Value) (us : List Value), us.length = 1 → bindArgs (PySem.W.fnOf x qual (defArgs st) (defBody st) (defScope st) .none kV doc pm an cdv ct) ⟨us, []⟩ = pure ([p].zip us)) (s : Shared) (v : Value) : BindsTo s fd ⟨[v], []⟩ [(p, v)] := by
  obtain ⟨oc, od, kV, doc, pm, an, cdv, ct, osl, rfl, lk, hcd⟩ := F.ex
  exact .of_eq (h kV doc pm an cdv ct [v] rfl)
end Py

/-! It: what loops walk; list comprehensions. -/
namespace Py
open PySem
/-- what a loop walks: the things; what is kept meanwhile -/
abbrev Wk := M (List D × List Sl)
def signsD (z : Str) : List D := z.cps.toList.map fun c => D.str ⟨#[c]⟩
@[simp] def seqD : D → Option (List D)
  | .lst ds => some ds
  | .tup ds => some ds
  | .scr ds => some ds
  | .str z => some (signsD z)
  | _ => none
@[simp] def wSeq (e : E) : Wk := M.bind e fun x => M.get fun _ => match x.get with
  | some d => (seqD d).map fun ds => (ds, [x])
  | _ => none
@[simp] noncomputable def wR1 (a : A) : Wk := M.bind (asC a asN) fun xs => M.get fun r => match dats r xs with
  | some [.int j] => if small62 j = true then some (rangeD 0 j.toNat, []) else none
  | _ => none
@[simp] noncomputable def wR2 (a c : A) : Wk := M.bind (asC a (asC c asN)) fun xs => M.get fun r => match dats r xs with
  | some [.int i, .int j] => if small62 i = true ∧ small62 j = true then some (rangeD i (j - i).toNat, []) else none
  | _ => none
def enumD : Nat → List D → List D
  | _, [] => []
  | i, d :: ds => .tup [.int i, d] :: enumD (i + 1) ds
theorem enumD_length : ∀ (i : Nat) (ds : List D), (enumD i ds).length = ds.length
  | _, [] => rfl
  | i, d :: ds => by simp [enumD, enumD_length (i + 1) ds]
theorem enumD_get : ∀ (i : Nat) (ds : List D) (j : Nat), (enumD i ds)[j]? = (ds[j]?).map fun d => .tup [.int ((i + j : Nat) : Int), d]
  | _, [], j => by simp [enumD]
  | i, d :: ds, 0 => by simp [enumD]
  | i, d :: ds, j + 1 => by
    simp only [enumD, List.getElem?_cons_succ]
    rw [enumD_get (i + 1) ds j]
    have : i + 1 + j = i + (j + 1) := by omega
    rw [this]
@[simp] def wEnum (a : A) : Wk := M.bind (asC a asN) fun xs => M.get fun r => match xs, dats r xs with
  | [.v x], some [.lst ds] => some (enumD 0 ds, [x])
  | _, _ => none
@[simp] def sForI (w : Wk) (g : G) (b : S) : S := sE w fun p => forL g b p.1
/-- the names of a comprehension forgotten -/
@[simp] def wipeE (r : Env) : List Nat → Env
  | [] => r
  | v :: vs => (wipeE r vs).set v .no
def lcL (n : G) (t : T) (m : E) (vs : List Nat) : List D → List D → Env → Option (List D × Env)
  | [], acc, r => some (acc, r)
  | d :: ds, acc, r => match n (.sh d) r with
    | some (.nx r1) => match t r1 with
      | some (.ok true r2) => match m r2 with
        | some (.ok x r3) => match x.val with
          | some y => if acc.length < lim then lcL n t m vs ds (acc ++ [y]) (wipeE r3 vs) else none
          | none => none
        | _ => none
      | some (.ok false r2) => lcL n t m vs ds acc (wipeE r2 vs)
      | _ => none
    | _ => none
@[simp] def eLc (w : Wk) (n : G) (t : T) (m : E) (vs : List Nat) : E := M.bind w fun p r => match lcL n t m vs p.1 [] (wipeE r vs) with
  | some (acc, r') => some (.ok (.ow (.lst acc)) r')
  | none => none
@[simp] def tYesE : T := M.pure true
/-- one turn that keeps its thing -/
theorem lcL_take {n : G} {t : T} {m : E} {vs : List Nat} {d : D} {ds acc : List D} {r r1 r2 r3 : Env} {x : Sl} {y : D} (h1 : n (.sh d) r = some (.nx r1)) (h2 : t r1 = some (.ok true r2)) (h3 : m r2 = some (.ok x r3)) (h4 : x.val = some y) (h5 : acc.length < lim) :
    lcL n t m vs (d :: ds) acc r = lcL n t m vs ds (acc ++ [y]) (wipeE r3 vs) := by
  rw [lcL, h1]
  simp only [h2, h3, h4, if_pos h5]
theorem lcL_skip {n : G} {t : T} {m : E} {vs : List Nat} {d : D} {ds acc : List D} {r r1 r2 : Env} (h1 : n (.sh d) r = some (.nx r1)) (h2 : t r1 = some (.ok false r2)) :
    lcL n t m vs (d :: ds) acc r = lcL n t m vs ds acc (wipeE r2 vs) := by
  rw [lcL, h1]
  simp only [h2]
/-- where each thing d that is kept becomes f d, and the slots come back as they were -/
theorem lcL_map {n : G} {t : T} {m : E} {vs : List Nat} {p : D → Bool} {f : D → D} {r : Env} : ∀ (ds acc : List D), (∀ d ∈ ds, (p d = true ∧ ∃ r1 r2 x r3, n (.sh d) r = some (.nx r1) ∧ t r1 = some (.ok true r2) ∧ m r2 = some (.ok x r3) ∧ x.val = some (f d) ∧ wipeE r3 vs = r) ∨ (p d = false ∧ ∃ r1 r2, n (.sh d) r = some (.nx r1) ∧ t r1 = some (.ok false r2) ∧ wipeE r2 vs = r)) →
    acc.length + ds.length ≤ lim → lcL n t m vs ds acc r = some (acc ++ (ds.filter p).map f, r)
  | [], acc, _, _ => by simp [lcL]
  | d :: ds, acc, h, hl => by
    rcases h d (.head _) with ⟨hp, r1, r2, x, r3, h1, h2, h3, h4, h5⟩ | ⟨hp, r1, r2, h1, h2, h3⟩
    · rw [lcL_take h1 h2 h3 h4 (by simp at hl; omega), h5, lcL_map ds _ (fun d' hd' => h d' (.tail _ hd')) (by simp at hl ⊢; omega)]
      simp [hp]
    · rw [lcL_skip h1 h2, h3, lcL_map ds _ (fun d' hd' => h d' (.tail _ hd')) (by simp at hl ⊢; omega)]
      simp [hp]
/-- a <= b <= c, of numbers -/
@[simp] def eChain (a b c : A) (f g : Int → Int → Bool) : E := M.bind (asC a (asC b asN)) fun xs => M.bind (M.get fun r => match dats r xs with
    | some [.int i, .int j] => some (i, j)
    | _ => none) fun p => if f p.1 p.2 = true then M.bind (asC c asN) fun ys => M.get fun r => match dats r ys with
    | some [.int k] => some (.sh (.bl (g p.2 k)))
    | _ => none
  else M.pure (.sh (.bl false))
end Py

set_option Elab.async false
set_option linter.all false
set_option maxRecDepth 100000
/-! Sp: what loops walk; comprehensions; chains. -/
namespace Py
open PySem L2

/-- the weakest demands -/
def teOf (g : Gam) (m : E) (W : WX) : TE := fun s H Q => ∃ B Hs r t k o, RepT g B Hs r s t k H ∧ m r = some o ∧ PostE g B s t k W Q o
def ttOf (g : Gam) (m : T) (W : WX) : TT := fun s H Q => ∃ B Hs r t k o, RepT g B Hs r s t k H ∧ m r = some o ∧ PostT g B s t k W Q o
/-- a target that changes nothing but the slots vs -/
def DGv (g : Gam) (vs : List Nat) (tg : TG) (m : G) : Prop := ∀ B Hs r s t k H x v Q fl, (∀ i ∈ vs, B.fx i = false) → RepT g B Hs r s (t ++ [x]) (k ++ [some v]) H → m x r = some fl → (∃ r', fl = .nx r' ∧ ∀ s' Hs' H', RepT g B Hs' r' s' t k H' → (∀ i : Nat, i ∉ vs → s'[i]? = s[i]?) → Q s' H') → tg v s H Q
def PGv (X : Cx) (cl : Cs) (vs : List Nat) (e : Expr) (m : G) : Prop := ∃ tg, PG X e tg ∧ DGv (gm X cl) vs tg m
def tgOf (g : Gam) (vs : List Nat) (m : G) : TG := fun v s H Q => ∃ B Hs r t k x fl, (∀ i ∈ vs, B.fx i = false) ∧ RepT g B Hs r s (t ++ [x]) (k ++ [some v]) H ∧ m x r = some fl ∧ (∃ r', fl = .nx r' ∧ ∀ s' Hs' H', RepT g B Hs' r' s' t k H' → (∀ i : Nat, i ∉ vs → s'[i]? = s[i]?) → Q s' H')
section
variable {X : Cx} {cl : Cs} {W : WX} {e : Expr}
theorem pe_of {m : E} (h : PD X cl W e m) : PE X e (teOf (gm X cl) m W) := by
  obtain ⟨te, h1, h2⟩ := h
  exact ⟨fun pins s σ H Q I ⟨B, Hs, r, t, k, o, a, b, c⟩ => h1.run pins s σ H Q I (h2 B Hs r σ t k H Q o a b c)⟩
theorem pt_of {m : T} (h : PTd X cl W e m) : PT X e (ttOf (gm X cl) m W) := by
  obtain ⟨te, h1, h2⟩ := h
  exact ⟨fun pins s σ H Q I ⟨B, Hs, r, t, k, o, a, b, c⟩ => h1.run pins s σ H Q I (h2 B Hs r σ t k H Q o a b c)⟩
theorem pg_of {m : G} {vs : List Nat} (h : PGv X cl vs e m) : PG X e (tgOf (gm X cl) vs m) := by
  obtain ⟨te, h1, h2⟩ := h
  exact ⟨fun pins s σ H x v Q I rx ⟨B, Hs, r, t, k, y, fl, f, a, b, c⟩ => h1.run pins s σ H x v Q I rx (h2 B Hs r σ t k H y x Q fl f a b c)⟩
theorem pgv_name {pos : Pos} {i : Nat} {x : Str} {vs : List Nat} (hN : X.N.Nodup) (hi : X.N[i]? = some x) (hx : Loc X.env.scope x) (hv : i ∈ vs) (hf : X.fn x = true ∨ X.env.scope.names.lookup x = some .local) : PGv X cl vs (.Name x pos) (gN i) := by
  refine ⟨_, pg_name hN hi hx hf, fun B Hs r s t k H y v Q fl hfx hr hm hp => ?_⟩
  obtain ⟨r', e, hq⟩ := hp
  subst e
  unfold gN at hm
  by_cases hlt : i < r.length
  · rw [if_pos hlt] at hm
    cases hm
    refine hq _ Hs H ⟨by simp [hr.rn], by simp [hr.sn], by have := hr.tk; simpa using this, ?_, hr.sx⟩ fun j hj => ?_
    · have q := hr.rep
      rw [← List.append_assoc, ← List.append_assoc] at q
      exact q.store (hr.rn.trans hr.sn.symm) (by have := hr.tk; simpa using this) (by rw [hr.sn]; exact Nat.le_refl _) hlt (hfx i hv)
    · have : i ≠ j := fun z => hj (z ▸ hv)
      exact List.getElem?_set_ne this
  · rw [if_neg hlt] at hm
    cases hm
def DGsv (g : Gam) (ws : List Nat) (tg : TGs) (ms : List G) : Prop := ∀ B Hs r s t k H ds vs Q fl, (∀ i ∈ ws, B.fx i = false) → RepT g B Hs r s t k H → AllIn t k ds vs → ds.length = vs.length → gUn ms ds r = some fl → (∃ r', fl = .nx r' ∧ ∀ s' Hs' H', RepT g B Hs' r' s' t k H' → (∀ i : Nat, i ∉ ws → s'[i]? = s[i]?) → Q s' H') → tg vs s H Q
theorem pgsv_nil {ws : List Nat} : ∃ tg, PGs X [] tg ∧ DGsv (gm X cl) ws tg [] := ⟨_, pgs_nil, fun B Hs r s t k H ds vs Q fl hfx hr hin hl hm hp => by
  cases ds with
  | cons d ds => cases hm
  | nil =>
    cases vs with
    | cons v vs => cases hl
    | nil =>
      cases hm
      obtain ⟨r', e, hq⟩ := hp
      cases e
      exact ⟨rfl, hq s _ H hr fun _ _ => rfl⟩⟩
theorem pgsv_cons {ws : List Nat} {es : List Expr} {m : G} {ms : List G} (h : PGv X cl ws e m) (hs : ∃ tg, PGs X es tg ∧ DGsv (gm X cl) ws tg ms)
    (hst : (assignEach (e :: es) X.env).map (·.2) = assign e X.env :: (assignEach es X.env).map (·.2) := by rfl) : ∃ tg, PGs X (e :: es) tg ∧ DGsv (gm X cl) ws tg (m :: ms) := by
  obtain ⟨tg, h1, h2⟩ := h
  obtain ⟨tgs, h3, h4⟩ := hs
  refine ⟨_, pgs_cons h1 h3 hst, fun B Hs r s t k H ds vs Q fl hfx hr hin hl hm hp => ?_⟩
  cases ds with
  | nil => cases hm
  | cons d ds =>
    cases vs with
    | nil => cases hl
    | cons v vs =>
      refine ⟨v, vs, rfl, ?_⟩
      unfold gUn at hm
      split at hm
      · rename_i r1 q
        obtain ⟨i, e1, e2⟩ := hin 0 d v rfl rfl
        refine h2 B _ r s t k H (.sh d) v _ _ hfx (hr.push (hr.inTemp e1 e2)) q ⟨r1, rfl, fun s' HsH' H' hr' hk => ?_⟩
        obtain ⟨r', er, hq⟩ := hp
        exact h4 B _ r1 s' t k H' ds vs Q fl hfx hr' (fun j d' v' z1 z2 => hin (j + 1) d' v' (by simpa using z1) (by simpa using z2)) (by simpa using hl) hm ⟨r', er, fun s2 HsH2 H2 hr2 hk2 => hq s2 _ H2 hr2 fun i hi => (hk2 i hi).trans (hk i hi)⟩
      · cases hm
theorem pgv_tup {pos : Pos} {ws : List Nat} {es : List Expr} {kk : Nat} {ms : List G} (hc : X.calm = true) (h : ∃ tg, PGs X es tg ∧ DGsv (gm X cl) ws tg ms)
    (hn : (assignEach es X.env).length = ms.length := by rfl) (hst : (assignEach es X.env).findIdx? (·.1) = none := by rfl) : PGv X cl ws (.Tuple es kk pos) (gTup ms) := by
  obtain ⟨tg, h1, h2⟩ := h
  refine ⟨_, pg_tup hc h1 hn hst, fun B Hs r s t k H x v Q fl hfx hr hm hp => ?_⟩
  unfold gTup at hm
  split at hm
  · rename_i ds
    have e2 := RepT.top hr
    cases e2 with
    | tup hq ra =>
      rename_i a xs
      have sq : SqT X.K H a xs := sqT_mono hr.shH hq
      refine ⟨a, xs, rfl, sq, ?_, ?_⟩
      · rw [ra.length]
        exact gUn_len hm
      · have hr2 := hr.pushAll ra
        have hl : t.length = k.length := by have := hr.tk; simpa using this
        refine h2 B _ r s _ _ H ds xs Q fl hfx hr2 (fun j d v z1 z2 => ⟨(t ++ [Sl.sh (.tup ds)]).length + j, ?_, ?_⟩) ra.length.symm hm ?_
        · rw [List.getElem?_append_right (by omega), Nat.add_sub_cancel_left, List.getElem?_map, z1]
          rfl
        · rw [List.getElem?_append_right (by simp; omega), List.getElem?_map]
          have : (t ++ [Sl.sh (.tup ds)]).length + j - (k ++ [some (V.ref a)]).length = j := by simp; omega
          rw [this, z2]
          rfl
        · obtain ⟨r', e, hq⟩ := hp
          exact ⟨r', e, fun s' HsH' H' hr' hk => hq s' _ H' ((RepT.dropped hr' hr.tk).pop) hk⟩
  · cases hm
end

/-! ### what is walked -/
/-- J walks ds; the temps t' stay meanwhile -/
structure ItOk (g : Gam) (J : It) (ds : List D) (t' : Env) (k' : St) : Prop where
  go : ∀ B Hs r s tA kA tB kB H (i : Nat) d, tA.length = kA.length → ds[i]? = some d → RepT g B Hs r s (tA ++ (t' ++ tB)) (kA ++ (k' ++ kB)) H → J.go i H ∧ ∀ x H', J.yld i H x H' → ∃ Hs', RepT g B Hs' r s ((tA ++ (t' ++ tB)) ++ [.sh d]) ((kA ++ (k' ++ kB)) ++ [some x]) H'
  stop : ∀ B Hs r s tA kA tB kB H, tA.length = kA.length → RepT g B Hs r s (tA ++ (t' ++ tB)) (kA ++ (k' ++ kB)) H → J.stop ds.length H
def PostW (g : Gam) (B : Bs) (s : St) (t : Env) (k : St) (W : WX) (R : It → Hp → Prop) : Out (List D × Env) → Prop
  | .ok p r' => ∀ J k' Hs' H', ItOk g J p.1 p.2 k' → RepT g B Hs' r' s (t ++ p.2) (k ++ k') H' → R J H'
  | .ex e r' => PostX g B t k W e r' s
def DWk (g : Gam) (wi : TI) (m : Wk) (W : WX) : Prop := ∀ B Hs r s t k H R o, RepT g B Hs r s t k H → m r = some o → PostW g B s t k W R o → wi s H R
def PWk (X : Cx) (cl : Cs) (W : WX) (tg e : Expr) (m : Wk) : Prop := ∃ wi, PI X tg e wi ∧ DWk (gm X cl) wi m W
section
variable {X : Cx} {cl : Cs} {fx : Nat → Bool} {W : WX} {e tg : Expr} {body : List Stmt} {pos p2 : Pos} {x : Str}
theorem psd_forI {w : Wk} {n : G} {b : S} (hp : PassesOwn (model X.prog X.w) X.A X.env X.xe) (hc : X.calm = true) (he : PWk X cl W tg e w) (hg : PGd X cl fx W tg n) (hb : PSsd X cl fx W body b) (hnx : ∀ x r fl, n x r = some fl → ∃ r', fl = .nx r')
    (hs : ∀ v, foldedSetIterable e X.env v = pure v := by intro _; rfl) : PSd X cl fx W (.For tg e body [] pos) (sForI w n b) := by
  obtain ⟨wi, h1, h2⟩ := he
  obtain ⟨tgt, h3, h4⟩ := hg
  obtain ⟨tb, h5, h6⟩ := hb
  refine ⟨_, ps_for hp hc h1 h3 h5 hs, fun B Hs r s t k H D fl hf hr hm hpst => ?_⟩
  rcases sE_cases hm with ⟨y, r1, q1, q2⟩ | ⟨ee, r1, q1, q2⟩
  · refine h2 B _ r s t k H _ _ hr q1 fun J k' Hs1 H1 ok hr1 => ?_
    refine forL_den (t' := y.2) (k' := k') (ds := y.1) h4 h6 hf hnx hr.tk (fun i d Hs' r' s' H' hd hr' => ?_) (fun Hs' r' s' H' hr' => ?_) _ r1 s H1 hr1 q2 hpst
    · have := ok.go B _ r' s' t k [] [] H' i d hr.tk hd (by simpa using hr')
      simpa using this
    · exact ok.stop B _ r' s' t k [] [] H' hr.tk (by simpa using hr')
  · subst q2
    exact h2 B _ r s t k H _ _ hr q1 (hpst s)
/-- a list, a tuple, a text -/
def iAny (K : PySem.W.Frag) (te : TE) : TI := fun σ H R => te σ H fun x H1 => (∃ a, x = .ref a ∧ (∃ xs, SqL K H1 a xs) ∧ R (Itl K a) H1) ∨ (∃ a, x = .ref a ∧ (∃ xs, SqT K H1 a xs) ∧ R (Itt K a) H1) ∨ ∃ z, x = .str z ∧ R (Its z) H1
theorem pi_any {te : TE} (he : PE X e te) : PI X tg e (iAny X.K te) := by
  refine ⟨fun pins s σ H R I h => ?_⟩
  refine thn (he.run pins s σ H _ I h) fun v s1 ⟨y, H1, I1, r1, q1⟩ => ?_
  rcases q1 with ⟨a, ex, ⟨xs, hq⟩, q⟩ | ⟨a, ex, ⟨xs, hq⟩, q⟩ | ⟨z, ex, q⟩
  · subst ex
    cases r1
    obtain ⟨its, rv, p, hz⟩ := I1.list hq
    refine wpAny_pyIter_list p.isList ?_
    refine ⟨s1.heap.objs.size, [s1.heap.objs.size], _, _, H1, rfl, I1.kept (t' := s1.toks) fun b o e => Heap.get?_push_of_some _ e, turn_list a _, ⟨_, Heap.get?_push_size _ rfl, rfl, rfl⟩, fun b hb => ?_, q⟩
    have e : b = s1.heap.objs.size := by simpa using hb
    subst e
    exact I1.fpOk (Nat.le_refl _) (I1.hok.fresh (Nat.le_refl _))
  · subst ex
    cases r1
    obtain ⟨its, rv, p, hz⟩ := I1.tuple hq
    refine wpAny_pyIter_tuple (show s1.heap.IsTuple a its.toArray from p) ?_
    refine ⟨s1.heap.objs.size, [s1.heap.objs.size], _, _, H1, rfl, I1.kept (t' := s1.toks) fun b o e => Heap.get?_push_of_some _ e, turn_tuple a _, ⟨_, Heap.get?_push_size _ rfl, rfl, rfl⟩, fun b hb => ?_, q⟩
    have e : b = s1.heap.objs.size := by simpa using hb
    subst e
    exact I1.fpOk (Nat.le_refl _) (I1.hok.fresh (Nat.le_refl _))
  · subst ex
    obtain ⟨t, rfl⟩ := r1
    cases ha : z.cps.all (· < 128)
    · exact wpAny_pyIter_wide ha (pi_one (tk := s1.toks) I1 _ (turn_str _ z t "str_iterator" (.inr rfl)) ⟨_, Heap.get?_push_size _ rfl, rfl, rfl⟩ q)
    · exact wpAny_pyIter_ascii ha (pi_one (tk := s1.toks) I1 _ (turn_str _ z t "str_ascii_iterator" (.inl rfl)) ⟨_, Heap.get?_push_size _ rfl, rfl, rfl⟩ q)
theorem ItOk.list {g : Gam} {ds : List D} {y : Sl} {a : Addr} (hy : y.get = some (.lst ds)) : ItOk g (Itl g.m.K a) ds [y] [some (.ref a)] := by
  have rc : ∀ B Hs r s tA kA tB kB H, tA.length = kA.length → RepT g B Hs r s (tA ++ ([y] ++ tB)) (kA ++ ([some (V.ref a)] ++ kB)) H → ∃ xs, SqL g.m.K H a xs ∧ RA g Hs xs ds := fun B Hs r s tA kA tB kB H hl hr => by
    have e2 := RepT.trc (t' := tB) (k' := kB) hr hl (d := .lst ds) hy
    obtain ⟨a, xs, z1, z2, z3⟩ := e2.lst hr.shH
    cases z1
    exact ⟨xs, SqL.of z2, z3⟩
  refine ⟨fun B Hs r s tA kA tB kB H i d hl hd hr => ?_, fun B Hs r s tA kA tB kB H hl hr => ?_⟩
  · obtain ⟨xs, z2, z3⟩ := rc B Hs r s tA kA tB kB H hl hr
    obtain ⟨w, w1, w2⟩ := z3.get hd
    refine ⟨⟨xs, w, z2, w1⟩, fun x H2 hy => ?_⟩
    obtain ⟨y1, y2⟩ := hy
    subst y1
    have := y2 xs z2
    rw [w1] at this
    cases this
    exact ⟨_, hr.push w2⟩
  · obtain ⟨xs, z2, z3⟩ := rc B Hs r s tA kA tB kB H hl hr
    exact ⟨xs, z2, by rw [z3.length]; exact Nat.le_refl _⟩
theorem ItOk.scr {g : Gam} {ds : List D} {y : Sl} {a : Addr} (hy : y.get = some (.scr ds)) : ItOk g (Itl g.m.K a) ds [y] [some (.ref a)] := by
  have rc : ∀ B Hs r s tA kA tB kB H, tA.length = kA.length → RepT g B Hs r s (tA ++ ([y] ++ tB)) (kA ++ ([some (V.ref a)] ++ kB)) H → ∃ xs, SqL g.m.K H a xs ∧ RA g Hs xs ds := fun B Hs r s tA kA tB kB H hl hr => by
    have e2 := RepT.trc (t' := tB) (k' := kB) hr hl (d := .scr ds) hy
    obtain ⟨a, xs, z1, z2, z3⟩ := e2.scr hr.shH
    cases z1
    exact ⟨xs, z2, z3⟩
  refine ⟨fun B Hs r s tA kA tB kB H i d hl hd hr => ?_, fun B Hs r s tA kA tB kB H hl hr => ?_⟩
  · obtain ⟨xs, z2, z3⟩ := rc B Hs r s tA kA tB kB H hl hr
    obtain ⟨w, w1, w2⟩ := z3.get hd
    refine ⟨⟨xs, w, z2, w1⟩, fun x H2 hy => ?_⟩
    obtain ⟨y1, y2⟩ := hy
    subst y1
    have := y2 xs z2
    rw [w1] at this
    cases this
    exact ⟨_, hr.push w2⟩
  · obtain ⟨xs, z2, z3⟩ := rc B Hs r s tA kA tB kB H hl hr
    exact ⟨xs, z2, by rw [z3.length]; exact Nat.le_refl _⟩
theorem ItOk.tup {g : Gam} {ds : List D} {y : Sl} {a : Addr} (hy : y.get = some (.tup ds)) : ItOk g (Itt g.m.K a) ds [y] [some (.ref a)] := by
  have rc : ∀ B Hs r s tA kA tB kB H, tA.length = kA.length → RepT g B Hs r s (tA ++ ([y] ++ tB)) (kA ++ ([some (V.ref a)] ++ kB)) H → ∃ xs, SqT g.m.K H a xs ∧ RA g Hs xs ds := fun B Hs r s tA kA tB kB H hl hr => by
    have e2 := RepT.trc (t' := tB) (k' := kB) hr hl (d := .tup ds) hy
    obtain ⟨a, xs, z1, z2, z3⟩ := e2.tup hr.shH
    cases z1
    exact ⟨xs, z2, z3⟩
  refine ⟨fun B Hs r s tA kA tB kB H i d hl hd hr => ?_, fun B Hs r s tA kA tB kB H hl hr => ?_⟩
  · obtain ⟨xs, z2, z3⟩ := rc B Hs r s tA kA tB kB H hl hr
    obtain ⟨w, w1, w2⟩ := z3.get hd
    refine ⟨⟨xs, w, z2, w1⟩, fun x H2 hy => ?_⟩
    obtain ⟨y1, y2⟩ := hy
    subst y1
    have := y2 xs z2
    rw [w1] at this
    cases this
    exact ⟨_, hr.push w2⟩
  · obtain ⟨xs, z2, z3⟩ := rc B Hs r s tA kA tB kB H hl hr
    exact ⟨xs, z2, by rw [z3.length]; exact Nat.le_refl _⟩
theorem ItOk.str {g : Gam} {z : Str} {y : Sl} {v : V} : ItOk g (Its z) (signsD z) [y] [some v] := by
  refine ⟨fun B Hs r s tA kA tB kB H i d hl hd hr => ?_, fun B Hs r s tA kA tB kB H hl hr => ?_⟩
  · unfold signsD at hd
    obtain ⟨c, n1, n2⟩ := map_get hd
    have hc : z.cps[i]? = some c := by
      rw [← Array.getElem?_toList]
      exact n1
    have hi : i < z.cps.size := (Array.getElem?_eq_some_iff.mp hc).1
    refine ⟨hi, fun x H2 hy => ?_⟩
    obtain ⟨y1, c', y2, y3⟩ := hy
    rw [hc] at y2
    cases y2
    subst y1
    subst y3
    subst n2
    exact ⟨_, hr.push (.str _)⟩
  · show z.cps.size ≤ _
    simp [signsD]
theorem ItOk.rng {g : Gam} {lo : Int} {n : Nat} : ItOk g (Itr lo n) (rangeD lo n) [] [] := by
  refine ⟨fun B Hs r s tA kA tB kB H i d hl hd hr => ?_, fun B Hs r s tA kA tB kB H hl hr => ?_⟩
  · unfold rangeD at hd
    obtain ⟨m, n1, n2⟩ := map_get hd
    have hi : i < n := by
      have := (List.getElem?_eq_some_iff.mp n1).1
      simpa using this
    rw [List.getElem?_range hi] at n1
    cases n1
    refine ⟨hi, fun x H2 hy => ?_⟩
    obtain ⟨y1, y2⟩ := hy
    subst y1
    subst y2
    subst n2
    exact ⟨_, hr.push (.int _)⟩
  · show n ≤ _
    simp [rangeD]
end
end Py

set_option Elab.async false
set_option linter.all false
set_option maxRecDepth 100000
/-! Sq: sources of loops, comprehensions, chains. -/
namespace Py
open PySem L2
section
variable {X : Cx} {cl : Cs} {fx : Nat → Bool} {W : WX} {e tg a b c : Expr} {body : List Stmt} {pos p2 : Pos} {x : Str}
theorem pwk_seq {m : E} (he : PD X cl W e m) : PWk X cl W tg e (wSeq m) := by
  obtain ⟨te, h1, h2⟩ := he
  refine ⟨_, pi_any h1, fun B Hs r s t k H R o hr hm hp => ?_⟩
  rcases bind_cases hm with ⟨y, r1, q1, q2⟩ | ⟨ee, r1, q1, q2⟩
  · refine h2 B _ r s t k H _ _ hr q1 fun v HsH1 H1 hr1 => ?_
    unfold M.get at q2
    cases q3 : y.get with
    | none =>
      rw [q3] at q2
      cases q2
    | some d =>
      rw [q3] at q2
      have e2 := RepT.topC hr1 (d := d) q3
      cases d with
      | lst ds =>
        cases q2
        obtain ⟨a, xs, z1, z2, z3⟩ := e2.lst (RepT.shH (by assumption))
        cases z1
        exact .inl ⟨a, rfl, ⟨xs, SqL.of z2⟩, hp _ _ _ _ (ItOk.list q3) hr1⟩
      | scr ds =>
        cases q2
        obtain ⟨a, xs, z1, z2, z3⟩ := e2.scr (RepT.shH (by assumption))
        cases z1
        exact .inl ⟨a, rfl, ⟨xs, z2⟩, hp _ _ _ _ (ItOk.scr q3) hr1⟩
      | tup ds =>
        cases q2
        obtain ⟨a, xs, z1, z2, z3⟩ := e2.tup (RepT.shH (by assumption))
        cases z1
        exact .inr (.inl ⟨a, rfl, ⟨xs, z2⟩, hp _ _ _ _ (ItOk.tup q3) hr1⟩)
      | str z =>
        cases q2
        have := e2.toR (RepT.shH (by assumption))
        cases this
        exact .inr (.inr ⟨z, rfl, hp _ _ _ _ ItOk.str hr1⟩)
      | _ => cases q2
  · subst q2
    exact h2 B _ r s t k H _ _ hr q1 hp
theorem pwk_r1 {q : Pos} {ma : A} (hgl : Gl X "range") (hmr : X.mg "range" = none) (ha : PO X cl W a ma) (hs : starEach [a] X.env = [(false, eval a X.env)] := by rfl) : PWk X cl W tg (.Call (.Name "range" q) [a] [] pos) (wR1 ma) := by
  obtain ⟨ta, h1, h2⟩ := ha
  refine ⟨_, pi_range1 hgl hmr (pa_cons h1 pa_nil hs) hs, fun B Hs r s t k H R o hr hm hp => ?_⟩
  have das := das_cons (W := W) (g := gm X cl) h2 das_nil
  unfold iRng1
  rcases bind_cases hm with ⟨ys, r1, q1, q2⟩ | ⟨ee, r1, q1, q2⟩
  · refine das B _ r s t k H _ _ hr q1 fun vs kv HsH1 H1 av hr1 => ?_
    unfold M.get at q2
    dsimp only at q2
    split at q2
    · cases q2
    · rename_i p q3
      split at q3
      · rename_i j q4
        split at q3
        · rename_i hj
          cases q3
          cases q2
          have rca := (av.rca hr1 hr.tk q4).toRA hr1.shH
          cases rca with
          | cons r1' r2' =>
            cases r2'
            cases r1'
            obtain ⟨j1, j2⟩ := small62_iff.mp hj
            refine ⟨j, rfl, j1, j2, hp _ [] HsH1 _ ItOk.rng ?_⟩
            rw [List.append_nil, List.append_nil]
            exact hr1.dropped hr.tk
        · cases q3
      · cases q3
  · subst q2
    exact das B _ r s t k H _ _ hr q1 hp
theorem pwk_r2 {q : Pos} {ma mb : A} (hgl : Gl X "range") (hmr : X.mg "range" = none) (ha : PO X cl W a ma) (hb : PO X cl W b mb) (hs : starEach [a, b] X.env = [(false, eval a X.env), (false, eval b X.env)] := by rfl) (hs2 : starEach [b] X.env = [(false, eval b X.env)] := by rfl) : PWk X cl W tg (.Call (.Name "range" q) [a, b] [] pos) (wR2 ma mb) := by
  obtain ⟨ta, h1, h2⟩ := ha
  obtain ⟨tb, h3, h4⟩ := hb
  refine ⟨_, pi_range2 hgl hmr (pa_cons h1 (pa_cons h3 pa_nil hs2) (by rw [hs, hs2])) hs hs2, fun B Hs r s t k H R o hr hm hp => ?_⟩
  have das := das_cons (W := W) (g := gm X cl) h2 (das_cons h4 das_nil)
  unfold iRng2
  rcases bind_cases hm with ⟨ys, r1, q1, q2⟩ | ⟨ee, r1, q1, q2⟩
  · refine das B _ r s t k H _ _ hr q1 fun vs kv HsH1 H1 av hr1 => ?_
    unfold M.get at q2
    dsimp only at q2
    split at q2
    · cases q2
    · rename_i p q3
      split at q3
      · rename_i i j q4
        split at q3
        · rename_i hj
          cases q3
          cases q2
          have rca := (av.rca hr1 hr.tk q4).toRA hr1.shH
          cases rca with
          | cons r1' r2' =>
            cases r2' with
            | cons r2' r3' =>
              cases r3'
              cases r1'
              cases r2'
              obtain ⟨j1, j2⟩ := small62_iff.mp hj.1
              obtain ⟨j3, j4⟩ := small62_iff.mp hj.2
              refine ⟨i, j, rfl, ⟨j1, j2, j3, j4⟩, hp _ [] HsH1 _ ItOk.rng ?_⟩
              rw [List.append_nil, List.append_nil]
              exact hr1.dropped hr.tk
        · cases q3
      · cases q3
  · subst q2
    exact das B _ r s t k H _ _ hr q1 hp
theorem ItOk.enum {g : Gam} {ds : List D} {y : Sl} {a : Addr} (hy : y.get = some (.lst ds)) : ItOk g (Ite g.m.K a) (enumD 0 ds) [y] [some (.ref a)] := by
  have rc : ∀ B Hs r s tA kA tB kB H, tA.length = kA.length → RepT g B Hs r s (tA ++ ([y] ++ tB)) (kA ++ ([some (V.ref a)] ++ kB)) H → ∃ xs, SqL g.m.K H a xs ∧ RA g Hs xs ds := fun B Hs r s tA kA tB kB H hl hr => by
    have e2 := RepT.trc (t' := tB) (k' := kB) hr hl (d := .lst ds) hy
    obtain ⟨a, xs, z1, z2, z3⟩ := e2.lst hr.shH
    cases z1
    exact ⟨xs, SqL.of z2, z3⟩
  refine ⟨fun B Hs r s tA kA tB kB H i d hl hd hr => ?_, fun B Hs r s tA kA tB kB H hl hr => ?_⟩
  · obtain ⟨xs, z2, z3⟩ := rc B Hs r s tA kA tB kB H hl hr
    rw [enumD_get] at hd
    obtain ⟨d0, hd0, hd1⟩ := Option.map_eq_some_iff.mp hd
    subst hd1
    obtain ⟨w, w1, w2⟩ := z3.get hd0
    refine ⟨⟨xs, w, z2, w1⟩, fun x H2 hy => ?_⟩
    obtain ⟨T, x0, y1, y2, y3, y4⟩ := hy
    have := y4 xs z2
    rw [w1] at this
    cases this
    subst y1
    subst y3
    rw [Nat.zero_add]
    exact ⟨_, hr.pushTup y2 (.cons (.int _) (.cons w2 .nil))⟩
  · obtain ⟨xs, z2, z3⟩ := rc B Hs r s tA kA tB kB H hl hr
    exact ⟨xs, z2, by rw [enumD_length, z3.length]; exact Nat.le_refl _⟩
theorem pwk_enum {q tpos : Pos} {elts : List Expr} {kk : Nat} {m : E} (hgl : Gl X "enumerate") (hmr : X.mg "enumerate" = none) (ha : PD X cl W a m) (hs : starEach [a] X.env = [(false, eval a X.env)] := by rfl) : PWk X cl W (.Tuple elts kk tpos) (.Call (.Name "enumerate" q) [a] [] pos) (wEnum (aV m)) := by
  obtain ⟨ta, h1, h2⟩ := po_v ha
  refine ⟨_, pi_enum hgl hmr (pa_cons h1 pa_nil hs) hs, fun B Hs r s t k H R o hr hm hp => ?_⟩
  have das := das_cons (W := W) (g := gm X cl) h2 das_nil
  unfold iEnum
  rcases bind_cases hm with ⟨ys, r1, q1, q2⟩ | ⟨ee, r1, q1, q2⟩
  · refine das B _ r s t k H _ _ hr q1 fun vs kv HsH1 H1 av hr1 => ?_
    unfold M.get at q2
    dsimp only at q2
    split at q2
    · cases q2
    · rename_i p q3
      split at q3
      · rename_i y ds q4
        cases q3
        cases q2
        have rca := av.rca hr1 hr.tk q4
        match vs, kv, av with
        | _, _, @AV.v _ _ v1 _ _ _ .nil =>
          have hy : y.get = some (.lst ds) := by
            unfold dats at q4
            cases q5 : (Arg.v y).dat r1 with
            | none =>
              rw [q5] at q4
              cases q4
            | some d =>
              rw [q5] at q4
              unfold dats at q4
              cases q4
              exact q5
          have hr2 : RepT (gm X cl) B HsH1 r1 s (t ++ [y]) (k ++ [some v1]) H1 := hr1
          have e2 := RepT.topC hr2 (d := .lst ds) hy
          obtain ⟨a, xs, z1, z2, z3⟩ := e2.lst (RepT.shH (by assumption))
          cases z1
          exact ⟨a, xs, rfl, SqL.of z2, hp _ _ _ _ (ItOk.enum hy) hr2⟩
      · cases q3
  · subst q2
    exact das B _ r s t k H _ _ hr q1 hp
def chQ2 (g : Int → Int → Bool) (y : V) (Q : VK) : List V → Hp → Prop
  | [w], H => rI0 (fun i j => V.bl (g i j)) y w H Q
  | _, _ => True
def chQ (f g : Int → Int → Bool) (tc : TE) (s : St) (Q : VK) : List V → Hp → Prop
  | [x, y], H => rI0 (fun i j => V.bl (f i j)) x y H fun z H3 => ∃ k, z = .bl k ∧ (if k = true then tc s H3 fun w H4 => rI0 (fun i j => V.bl (g i j)) y w H4 Q else Q (.bl false) H3)
  | _, _ => True
theorem chain_den {f g : Int → Int → Bool} {ma mb mc : A} {ta tb tc : TE} (h2 : DO (gm X cl) ta ma W) (h4 : DO (gm X cl) tb mb W) (h6 : DO (gm X cl) tc mc W) : DE (gm X cl) (tChain (rI0 fun i j => V.bl (f i j)) (rI0 fun i j => V.bl (g i j)) ta tb tc) (eChain ma mb mc f g) W := by
  have das := das_cons (W := W) (g := gm X cl) h2 (das_cons h4 das_nil)
  have das2 := das_cons (W := W) (g := gm X cl) h6 das_nil
  intro B Hs r s t k H Q o hr hmm hp
  rcases bind_cases hmm with ⟨ys, r1, q1, q2⟩ | ⟨ee, r1, q1, q2⟩
  · refine das B _ r s t k H (chQ f g tc s Q) _ hr q1 fun vs kv HsH1 H1 av hr1 => ?_
    rcases bind_cases q2 with ⟨p, r2, q3, q4⟩ | ⟨ee, r2, q3, q4⟩
    · unfold M.get at q3
      dsimp only at q3
      split at q3
      · cases q3
      · rename_i p' q5
        cases q3
        split at q5
        · rename_i i j q6
          cases q5
          have rca := (av.rca hr1 hr.tk q6).toRA hr1.shH
          cases rca with
          | cons r1' r2' =>
            cases r2' with
            | cons r2' r3' =>
              cases r1'
              cases r2'
              cases r3'
              have hr2 := hr1.dropped hr.tk
              refine ⟨i, j, rfl, rfl, f i j, rfl, ?_⟩
              dsimp only at q4
              by_cases hf : f i j = true
              · rw [if_pos hf] at q4
                rw [if_pos hf]
                rcases bind_cases q4 with ⟨zs, r3, q7, q8⟩ | ⟨ee, r3, q7, q8⟩
                · refine das2 B _ r1 s t k H1 (chQ2 g (.int j) Q) _ hr2 q7 fun vs kv HsH4 H4 av hr4 => ?_
                  unfold M.get at q8
                  dsimp only at q8
                  split at q8
                  · cases q8
                  · rename_i p2 q9
                    cases q8
                    split at q9
                    · rename_i kk q10
                      cases q9
                      have rca := (av.rca hr4 hr2.tk q10).toRA hr4.shH
                      cases rca with
                      | cons r1' r2' =>
                        cases r1'
                        cases r2'
                        exact ⟨j, kk, rfl, rfl, hp _ _ _ ((hr4.dropped hr2.tk).push (.bl _))⟩
                    · cases q9
                · subst q8
                  exact das2 B _ r1 s t k H1 (chQ2 g (.int j) Q) _ hr2 q7 hp
              · rw [if_neg hf] at q4
                rw [if_neg hf]
                cases q4
                exact hp _ _ _ (hr2.push (.bl _))
        · cases q5
    · unfold M.get at q3
      dsimp only at q3
      split at q3
      · cases q3
      · cases q3
  · subst q2
    exact das B _ r s t k H (chQ f g tc s Q) _ hr q1 hp
/-- a <= b <= c -/
theorem pd_chain {op op' : CmpOp} {f g : Int → Int → Bool} {ma mb mc : A} (ho : OpR X (compareOp op) (rI0 fun i j => V.bl (f i j))) (ho' : OpR X (compareOp op') (rI0 fun i j => V.bl (g i j))) (ha : PO X cl W a ma) (hb : PO X cl W b mb) (hc : PO X cl W c mc)
    (hm : lastMarks [op, op'] [b, c] = false := by with_unfolding_all rfl) : PD X cl W (.Compare a [op, op'] [b, c] pos) (eChain ma mb mc f g) := by
  obtain ⟨ta, h1, h2⟩ := ha
  obtain ⟨tb, h3, h4⟩ := hb
  obtain ⟨tc, h5, h6⟩ := hc
  exact ⟨_, pe_chain ho ho' h1 h3 h5 hm, chain_den h2 h4 h6⟩
theorem ptd_chain {op op' : CmpOp} {f g : Int → Int → Bool} {ma mb mc : A} (ho : OpR X (compareOp op) (rI0 fun i j => V.bl (f i j))) (ho' : OpR X (compareOp op') (rI0 fun i j => V.bl (g i j))) (ha : PO X cl W a ma) (hb : PO X cl W b mb) (hc : PO X cl W c mc)
    (hm : lastMarks [op, op'] [b, c] = false := by with_unfolding_all rfl) : PTd X cl W (.Compare a [op, op'] [b, c] pos) (tV (eChain ma mb mc f g)) := by
  obtain ⟨ta, h1, h2⟩ := ha
  obtain ⟨tb, h3, h4⟩ := hb
  obtain ⟨tc, h5, h6⟩ := hc
  exact ⟨_, pt_chain ho ho' h1 h3 h5 hm, test_den (chain_den h2 h4 h6)⟩
theorem _root_.L2.Room.units1 {k : Nat} {A : Around} (r : Room k A) : A.units + 65 < cLine := by have := r.un; omega
end
end Py

set_option Elab.async false
set_option linter.all false
set_option maxRecDepth 100000
/-! Sr: list comprehensions. -/
namespace Py
open PySem L2
theorem wipeE_len (r : Env) : ∀ vs : List Nat, (wipeE r vs).length = r.length
  | [] => rfl
  | v :: vs => by simp [wipeE, wipeE_len r vs]
theorem wipeE_out {r : Env} {i : Nat} : ∀ {vs : List Nat}, i ∉ vs → (wipeE r vs)[i]? = r[i]?
  | [], _ => rfl
  | v :: vs, h => by
    have h1 : v ≠ i := fun e => h (e ▸ .head _)
    rw [wipeE, List.getElem?_set_ne h1, wipeE_out fun z => h (.tail _ z)]
theorem wipeE_in {r : Env} {i : Nat} {x : Sl} : ∀ {vs : List Nat}, i ∈ vs → (wipeE r vs)[i]? = some x → x = .no
  | v :: vs, h, e => by
    rw [wipeE] at e
    by_cases hv : v = i
    · subst hv
      have hl : v < ((wipeE r vs).set v .no).length := (List.getElem?_eq_some_iff.mp e).1
      rw [List.getElem?_set_self (by simpa using hl)] at e
      exact (Option.some.inj e).symm
    · rw [List.getElem?_set_ne hv] at e
      rcases List.mem_cons.mp h with z | z
      · exact absurd z.symm hv
      · exact wipeE_in z e
/-- the ground of a block: of the fixed slots that of the exception alone -/
def bS (g : Gam) (B : Bs) : Bs := { B with fx := fun i => match g.sx with
  | some (j, _) => i == j
  | none => false }
section
variable {g : Gam} {B : Bs} {Hs : Hp} {r : Env} {s : St} {t : Env} {k : St} {H : Hp} {vs : List Nat}
theorem bS_fx (h : RepT g B Hs r s t k H) {i : Nat} (hi : (bS g B).fx i = true) : B.fx i = true ∧ ∃ v, g.sx = some (i, v) := by
  have hi : (match g.sx with
    | some (j, _) => i == j
    | none => false) = true := hi
  split at hi
  · rename_i j v q
    have e : i = j := by simpa using hi
    subst e
    exact ⟨(h.sx i v q).1, v, q⟩
  · cases hi
theorem bS_no {vs : List Nat} (h : ∀ i v, g.sx = some (i, v) → i ∉ vs) : ∀ i ∈ vs, (bS g B).fx i = false := fun i hi => by
  show (match g.sx with
    | some (j, _) => i == j
    | none => false) = false
  split
  · rename_i j v q
    have := h j v q
    have ne : i ≠ j := fun e => this (e ▸ hi)
    simpa using ne
  · rfl
theorem RepT.toS (h : RepT g B Hs r s t k H) : RepT g (bS g B) Hs r s t k H where
  rn := h.rn
  sn := h.sn
  tk := h.tk
  rep := h.rep.fxTo (fx' := (bS g B).fx) (s0' := B.s0) fun i hi => h.rep.fix i (bS_fx h hi).1
  sx := fun i v q => ⟨by
    show (match g.sx with
      | some (j, _) => i == j
      | none => false) = true
    rw [q]
    simp, (h.sx i v q).2⟩
theorem get_app {α : Type} {a b a' b' : List α} {i : Nat} (hl : a.length = a'.length) (h1 : i < a.length → a'[i]? = a[i]?) (h2 : b = b') : (a' ++ b')[i]? = (a ++ b)[i]? := by
  subst h2
  by_cases hi : i < a.length
  · rw [List.getElem?_append_left hi, List.getElem?_append_left (by omega)]
    exact h1 hi
  · rw [List.getElem?_append_right (by omega), List.getElem?_append_right (by omega), hl]
theorem RepT.wiped (h : RepT g B Hs r s t k H) (hs : ∀ i v, g.sx = some (i, v) → i ∉ vs) : RepT g (bS g B) Hs (wipeE r vs) (wipe s vs) t k H := by
  have h0 := h.toS
  have el : r.length = s.length := h.rn.trans h.sn.symm
  refine ⟨by rw [wipeE_len]; exact h.rn, by rw [wipe_length]; exact h.sn, h.tk, ?_, h0.sx⟩
  refine h0.rep.sub id (by simp [wipeE_len, wipe_length, el, h.tk]) (by simp [wipe_length]; have := h.sn; show B.n ≤ _; omega) (fun i hi => ?_) (fun i x o e1 e2 => ?_) fun i j _ _ e => .inl e
  · obtain ⟨z1, v, z2⟩ := bS_fx h hi
    exact get_app (wipe_length s vs).symm (fun _ => wipe_out (hs i v z2)) rfl
  · by_cases hi : i < r.length
    · rw [List.getElem?_append_left (by rw [wipeE_len]; exact hi)] at e1
      by_cases hv : i ∈ vs
      · exact .inl (wipeE_in hv e1)
      · rw [wipeE_out hv] at e1
        refine .inr ⟨by simp only [id]; rw [List.getElem?_append_left hi]; exact e1, ?_⟩
        rw [List.getElem?_append_left (by rw [wipe_length]; omega), wipe_out hv] at e2
        simp only [id]
        rw [List.getElem?_append_left (by omega)]
        exact e2
    · right
      rw [List.getElem?_append_right (by rw [wipeE_len]; omega), wipeE_len] at e1
      rw [List.getElem?_append_right (by rw [wipe_length]; omega), wipe_length] at e2
      exact ⟨by rw [List.getElem?_append_right (by simp; omega)]; exact e1, by rw [List.getElem?_append_right (by simp; omega)]; exact e2⟩
/-- behind the block the slots are again what they were -/
theorem RepT.unwiped {r0 : Env} {t0 : Env} {k0 : St} {Hs0 H0 : Hp} (h0 : RepT g B Hs0 r0 s t0 k0 H0) (h : RepT g (bS g B) Hs r (wipe s vs) t k H) (hs : ∀ i v, g.sx = some (i, v) → i ∉ vs) (hn : ∀ i ∈ vs, ∀ x, r[i]? = some x → x = .no) : RepT g B Hs r s t k H := by
  have el : r.length = s.length := h.rn.trans h0.sn.symm
  have q : Rep g (bS g B) Hs (r ++ t) (s ++ k) H := by
    refine h.rep.sub id (by simp [el, h.tk]) (by simp; have := h0.sn; show B.n ≤ _; omega) (fun i hi => ?_) (fun i x o e1 e2 => ?_) fun i j _ _ e => .inl e
    · obtain ⟨z1, v, z2⟩ := bS_fx h0 hi
      exact get_app (wipe_length s vs) (fun _ => (wipe_out (hs i v z2)).symm) rfl
    · by_cases hi : i < r.length
      · rw [List.getElem?_append_left hi] at e1
        by_cases hv : i ∈ vs
        · exact .inl (hn i hv x e1)
        · refine .inr ⟨by rw [List.getElem?_append_left (by simpa using hi)]; exact e1, ?_⟩
          rw [List.getElem?_append_left (by omega)] at e2
          rw [List.getElem?_append_left (by rw [wipe_length]; simp; omega)]
          simp only [id]
          rw [wipe_out hv]
          exact e2
      · right
        rw [List.getElem?_append_right (by omega)] at e1 e2
        refine ⟨by rw [List.getElem?_append_right (by simp; omega)]; exact e1, ?_⟩
        rw [List.getElem?_append_right (by rw [wipe_length]; simp; omega), wipe_length]
        exact e2
  refine ⟨h.rn, h0.sn, h.tk, q.fxTo (fx' := B.fx) (s0' := B.s0) fun i hi => ?_, h0.sx⟩
  obtain ⟨z1, z2⟩ := h0.rep.fix i hi
  refine ⟨z1, ?_⟩
  have hs : i < s.length := by rw [h0.sn]; exact z1
  rw [List.getElem?_append_left hs] at z2 ⊢
  exact z2
/-- a turn's end: the slots of the block forgotten again -/
theorem RepT.rewiped {s2 : St} (h : RepT g (bS g B) Hs r s2 t k H) (hs : ∀ i v, g.sx = some (i, v) → i ∉ vs) : RepT g (bS g B) Hs (wipeE r vs) (wipe s2 vs) t k H := by
  have := RepT.wiped (B := bS g B) (vs := vs) h hs
  exact this
theorem wipe_eq {s s2 : St} (hl : s2.length = s.length) (h : ∀ i : Nat, i ∉ vs → s2[i]? = (wipe s vs)[i]?) : wipe s2 vs = wipe s vs := by
  apply List.ext_getElem?
  intro i
  by_cases hv : i ∈ vs
  · have key : ∀ (s : St) {ws : List Nat}, i ∈ ws → i < s.length → (wipe s ws)[i]? = some none := by
      intro s ws
      induction ws with
      | nil => intro h; cases h
      | cons w ws ih =>
        intro h hl
        rw [wipe]
        by_cases e : w = i
        · subst e
          exact List.getElem?_set_self (by rw [wipe_length]; exact hl)
        · rw [List.getElem?_set_ne e]
          rcases List.mem_cons.mp h with z | z
          · exact absurd z.symm e
          · exact ih z hl
    by_cases hi : i < s.length
    · rw [key s hv hi, key s2 hv (by omega)]
    · rw [List.getElem?_eq_none (by rw [wipe_length]; omega), List.getElem?_eq_none (by rw [wipe_length]; omega)]
  · rw [wipe_out hv]
    exact h i hv
/-- an owned list on top but one takes what is on top -/
theorem RepT.append {acc : List D} {p : Addr} {x : Sl} {y : V} {d : D} (h : RepT g B Hs r s ((t ++ [.ow (.lst acc)]) ++ [x]) ((k ++ [some (.ref p)]) ++ [some y]) H) (hx : x.val = some d) :
    ∃ Hs' xs, H p = some (.lst xs) ∧ xs.length = acc.length ∧ RepT g B Hs' r s (t ++ [.ow (.lst (acc ++ [d]))]) (k ++ [some (.ref p)]) (upd H p (.lst (xs ++ [y]))) := by
  have hl1 : (t ++ [Sl.ow (.lst acc)]).length = (k ++ [some (V.ref p)]).length := by have := h.tk; simpa using this
  have hl : t.length = k.length := by simpa using hl1
  have el : r.length = s.length := h.rn.trans h.sn.symm
  -- what is on top becomes shared
  obtain ⟨Hs', m, h1, ra⟩ := AV.shared (as := [.v x]) (.v .nil) h hl1 (by unfold shds; rw [show (Arg.v x).shd r = some d from hx]; rfl)
  obtain ⟨o1, z1, xs, n2, n3⟩ : ∃ o, H p = some o ∧ NodeO g Hs' o (.lst acc) := by
    have c := RepT.topC h1 (d := .lst acc) rfl
    have q1 : (r ++ (t ++ [Sl.ow (.lst acc)]))[r.length + t.length]? = some (.ow (.lst acc)) := by
      rw [← List.append_assoc, List.getElem?_append_right (by simp)]
      simp
    obtain ⟨p', o, z1, z2, z3⟩ := h1.rep.ow q1
    rw [← List.append_assoc, List.getElem?_append_right (by simp; omega)] at z1
    simp [el, hl] at z1
    subst z1
    exact ⟨o, z2, z3⟩
  subst n2
  cases ra with
  | cons rv _ =>
  refine ⟨Hs', xs, z1, n3.length, h1.rn, h1.sn, by simpa using hl, ?_, h1.sx⟩
  have i1 : (r ++ (t ++ [Sl.ow (.lst acc)]))[r.length + t.length]? = some (.ow (.lst acc)) := by
    rw [← List.append_assoc, List.getElem?_append_right (by simp)]
    simp
  have i2 : (s ++ (k ++ [some (V.ref p)]))[r.length + t.length]? = some (some (.ref p)) := by
    rw [← List.append_assoc, List.getElem?_append_right (by simp; omega)]
    simp [el, hl]
  have q := h1.rep.write (d' := .lst (acc ++ [d])) (o' := .lst (xs ++ [y])) i1 i2 ⟨_, rfl, n3.append (.cons rv .nil)⟩
  have e : (r ++ (t ++ [Sl.ow (.lst acc)])).set (r.length + t.length) (.ow (.lst (acc ++ [d]))) = r ++ (t ++ [.ow (.lst (acc ++ [d]))]) := by
    rw [← List.append_assoc, List.set_append_right _ _ (by simp)]
    simp
  rw [e] at q
  exact q
end
def WF : WX := fun _ _ _ _ => False
/-- the tests of a comprehension -/
def PTsd (X : Cx) (cl : Cs) (W : WX) (ifs : List Expr) (m : T) : Prop := PTs X ifs (ttOf (gm X cl) m W)
section
variable {X : Cx} {cl : Cs} {W : WX} {e tg : Expr} {pos p2 : Pos}
theorem ptsd_nil : PTsd X cl W [] tYesE := ⟨fun pins s σ H Q I ⟨B, Hs, r, t, k, o, a, b, c⟩ => by
  cases b
  exact pts_nil.run pins s σ H Q I (c Hs H a)⟩
theorem ptsd_one {m : T} (h : PTd X cl W e m) : PTsd X cl W [e] m := pts_one (pt_of h)
theorem takesF (X : Cx) : Takes X WF := fun u s' ⟨a, B, sI, pins, σ, H, cls, d, e, I, nb, up, sky, na, os, ag, w⟩ => False.elim w
theorem lc_den {g : Gam} {wi : TI} {w : Wk} {n : G} {tt : T} {m : E} {vs : List Nat} (hw : DWk g wi w W) (hs : ∀ i v, g.sx = some (i, v) → i ∉ vs) :
    DE g (tLc wi (tgOf g vs n) (ttOf g tt WF) (teOf g m WF) vs) (eLc w n tt m vs) W := by
  intro B Hs r s t k H Q o hr hm hp
  rcases bind_cases hm with ⟨p, r1, q1, q2⟩ | ⟨ee, r1, q1, q2⟩
  · refine hw B _ r s t k H _ _ hr q1 fun J k' Hs1 H1 ok hr1 D hD => ?_
    cases q3 : lcL n tt m vs p.1 [] (wipeE r1 vs) with
    | none =>
      rw [q3] at q2
      cases q2
    | some pr =>
      obtain ⟨accF, rF⟩ := pr
      rw [q3] at q2
      cases q2
      have hk' : p.2.length = k'.length := by have := hr1.tk; simp [hr.tk] at this; omega
      have hr2 := (hr1.wiped hs).pushLst hD (xs := []) (l := []) .nil
      have nf : ∀ i ∈ vs, (bS g B).fx i = false := bS_no hs
      refine ⟨fun i m' H => ∃ Hs r acc, RepT g (bS g B) Hs r (wipe s vs) ((t ++ p.2) ++ [.ow (.lst acc)]) ((k ++ k') ++ [some (.ref D)]) H ∧ m' = p.1.length - i ∧ i ≤ p.1.length ∧ lcL n tt m vs (p.1.drop i) acc r = some (accF, rF) ∧ ∀ i ∈ vs, ∀ x, r[i]? = some x → x = .no,
        ⟨_, _, _, _, hr2, rfl, Nat.zero_le _, q3, fun i hi x e => wipeE_in hi e⟩, ?_⟩
      rintro i m' H2 ⟨Hs2, r2, acc, hr2, rfl, hi, hl, hno⟩
      by_cases hlt : i < p.1.length
      · right
        have hd : p.1[i]? = some p.1[i] := List.getElem?_eq_getElem hlt
        have hr2' : RepT g (bS g B) Hs2 r2 (wipe s vs) (t ++ (p.2 ++ [.ow (.lst acc)])) (k ++ (k' ++ [some (.ref D)])) H2 := by simpa using hr2
        obtain ⟨g1, g2⟩ := ok.go (bS g B) Hs2 r2 (wipe s vs) t k [.ow (.lst acc)] [some (.ref D)] H2 i p.1[i] hr.tk hd hr2'
        refine ⟨g1, fun H' => ∃ Hs r acc, RepT g (bS g B) Hs r (wipe s vs) ((t ++ p.2) ++ [.ow (.lst acc)]) ((k ++ k') ++ [some (.ref D)]) H' ∧ lcL n tt m vs (p.1.drop (i + 1)) acc r = some (accF, rF) ∧ ∀ i ∈ vs, ∀ x, r[i]? = some x → x = .no, fun H' z => ?_, fun x H' hy => ?_⟩
        · obtain ⟨Hs', r', acc', z1, z2, z3⟩ := z
          exact ⟨p.1.length - (i + 1), by omega, Hs', r', acc', z1, rfl, hlt, z2, z3⟩
        · rw [List.drop_eq_getElem_cons hlt, lcL] at hl
          obtain ⟨Hs3, hr3⟩ := g2 x H' hy
          have hr3' : RepT g (bS g B) Hs3 r2 (wipe s vs) (((t ++ p.2) ++ [.ow (.lst acc)]) ++ [.sh p.1[i]]) (((k ++ k') ++ [some (.ref D)]) ++ [some x]) H' := by simpa using hr3
          cases q4 : n (.sh p.1[i]) r2 with
          | none =>
            rw [q4] at hl
            cases hl
          | some f1 =>
            rw [q4] at hl
            cases f1 with
            | nx r3 =>
              refine ⟨bS g B, Hs3, r2, _, _, _, _, nf, hr3', q4, r3, rfl, fun s2 HsH3 H3 hr4 hk2 => ?_⟩
              have we : wipe s2 vs = wipe s vs := wipe_eq (by have := hr4.sn; rw [this]; exact hr.sn.symm) hk2
              refine ⟨we, ?_⟩
              dsimp only at hl
              cases q5 : tt r3 with
              | none =>
                rw [q5] at hl
                cases hl
              | some f2 =>
                rw [q5] at hl
                cases f2 with
                | ex e r4 => cases hl
                | ok b r4 =>
                  refine ⟨bS g B, _, r3, _, _, _, hr4, q5, fun HsH4 H4 hr5 => ?_⟩
                  cases b with
                  | false =>
                    refine iteF ⟨HsH4, wipeE r4 vs, acc, ?_, hl, fun i hi x e => wipeE_in hi e⟩
                    have := hr5.rewiped (vs := vs) hs
                    rw [we] at this
                    exact this
                  | true =>
                    refine iteT ?_
                    dsimp only at hl
                    cases q6 : m r4 with
                    | none =>
                      rw [q6] at hl
                      cases hl
                    | some f3 =>
                      rw [q6] at hl
                      cases f3 with
                      | ex e r5 => cases hl
                      | ok y r5 =>
                        refine ⟨bS g B, _, r4, _, _, _, hr5, q6, fun v HsH5 H5 hr6 => ?_⟩
                        dsimp only at hl
                        cases q7 : y.val with
                        | none =>
                          rw [q7] at hl
                          cases hl
                        | some d =>
                          rw [q7] at hl
                          dsimp only at hl
                          split at hl
                          · rename_i hlen
                            obtain ⟨Hs6, xs, a1, a2, a3⟩ := RepT.append hr6 q7
                            refine ⟨xs, a1, by rw [a2]; exact hlen, Hs6, wipeE r5 vs, acc ++ [d], ?_, hl, fun i hi x e => wipeE_in hi e⟩
                            have := a3.rewiped (vs := vs) hs
                            rw [we] at this
                            exact this
                          · cases hl
            | bk r3 => cases hl
            | ct r3 => cases hl
            | rt y r3 => cases hl
            | ex y r3 => cases hl
      · left
        have e : i = p.1.length := by omega
        subst e
        rw [List.drop_length] at hl
        cases hl
        refine ⟨ok.stop (bS g B) _ rF (wipe s vs) t k [.ow (.lst accF)] [some (.ref D)] H2 hr.tk (by simpa using hr2), hp _ Hs2 _ ?_⟩
        have h3 := hr1.unwiped (vs := vs) hr2 hs hno
        -- the walked thing goes
        refine ⟨h3.rn, h3.sn, by simp [hr.tk], ?_, h3.sx⟩
        have hrs : rF.length = s.length := h3.rn.trans h3.sn.symm
        refine h3.rep.sub (fun j => if j < rF.length + t.length then j else j + p.2.length) (by simp [hrs, hr.tk]) (by simp [h3.sn]) (fun j hj => ?_) (fun j y u e1 e2 => ?_) fun a b ha hb e => ?_
        · have := (h3.rep.fix j hj).1
          rw [List.getElem?_append_left (by rw [h3.sn]; exact this), List.getElem?_append_left (by rw [h3.sn]; exact this)]
        · right
          by_cases hj : j < rF.length + t.length
          · rw [if_pos hj]
            have a1 : (rF ++ (t ++ [Sl.ow (.lst accF)]))[j]? = (rF ++ t)[j]? := by
              rw [← List.append_assoc]
              exact List.getElem?_append_left (by simpa using hj)
            have a2 : (s ++ (k ++ [some (V.ref D)]))[j]? = (s ++ k)[j]? := by
              rw [← List.append_assoc]
              exact List.getElem?_append_left (by simp [← hrs, ← hr.tk]; omega)
            have b1 : (rF ++ ((t ++ p.2) ++ [Sl.ow (.lst accF)]))[j]? = (rF ++ t)[j]? := by
              rw [show rF ++ ((t ++ p.2) ++ [Sl.ow (.lst accF)]) = (rF ++ t) ++ (p.2 ++ [.ow (.lst accF)]) by simp]
              exact List.getElem?_append_left (by simpa using hj)
            have b2 : (s ++ ((k ++ k') ++ [some (V.ref D)]))[j]? = (s ++ k)[j]? := by
              rw [show s ++ ((k ++ k') ++ [some (V.ref D)]) = (s ++ k) ++ (k' ++ [some (V.ref D)]) by simp]
              exact List.getElem?_append_left (by simp [← hrs, ← hr.tk]; omega)
            rw [b1, b2, ← a1, ← a2]
            exact ⟨e1, e2⟩
          · rw [if_neg hj]
            have hj2 : j = rF.length + t.length := by
              have := (List.getElem?_eq_some_iff.mp e1).1
              simp at this
              omega
            subst hj2
            have b1 : (rF ++ ((t ++ p.2) ++ [Sl.ow (.lst accF)]))[rF.length + t.length + p.2.length]? = some (.ow (.lst accF)) := by
              rw [show rF ++ ((t ++ p.2) ++ [Sl.ow (.lst accF)]) = (rF ++ (t ++ p.2)) ++ [.ow (.lst accF)] by simp, List.getElem?_append_right (by simp; omega)]
              simp [Nat.add_assoc]
            have b2 : (s ++ ((k ++ k') ++ [some (V.ref D)]))[rF.length + t.length + p.2.length]? = some (some (V.ref D)) := by
              rw [show s ++ ((k ++ k') ++ [some (V.ref D)]) = (s ++ (k ++ k')) ++ [some (V.ref D)] by simp, List.getElem?_append_right (by have := hr.tk; simp; omega)]
              simp [Nat.add_assoc, hrs, hr.tk, hk']
            have a1 : (rF ++ (t ++ [Sl.ow (.lst accF)]))[rF.length + t.length]? = some (.ow (.lst accF)) := by
              rw [← List.append_assoc, List.getElem?_append_right (by simp)]
              simp
            have a2 : (s ++ (k ++ [some (V.ref D)]))[rF.length + t.length]? = some (some (V.ref D)) := by
              rw [← List.append_assoc, List.getElem?_append_right (by simp [hr.tk]; omega)]
              simp [hrs, hr.tk]
            rw [a1] at e1
            rw [a2] at e2
            rw [b1, b2]
            exact ⟨e1, e2⟩
        · left
          simp at ha hb
          split at e <;> split at e <;> omega
  · subst q2
    exact hw B _ r s t k H _ _ hr q1 hp
/-- [elt for tg in iter if ..] -/
theorem pd_lc {elt iter : Expr} {ifs : List Expr} {scope : Scope} {own : List (Str × Nat)} {w : Wk} {n : G} {tt : T} {m : E} (hc : X.calm = true) (hN : X.N.Nodup) (hi : PWk X cl W tg iter w) (ok : BlkOk X.N X.env.scope scope own)
    (hg : ∀ (s : Shared) (H : Hp) (C : Addr) (c : List (Str × Addr)) (fp : List Addr), PGv (X.blk s H scope (compEnvC scope c C X.env) fp) cl (own.map (·.2)) tg n) (ht : ∀ (s : Shared) (H : Hp) (C : Addr) (c : List (Str × Addr)) (fp : List Addr), PTsd (X.blk s H scope (compEnvC scope c C X.env) fp) cl WF ifs tt)
    (he : ∀ (s : Shared) (H : Hp) (C : Addr) (c : List (Str × Addr)) (fp : List Addr), PD (X.blk s H scope (compEnvC scope c C X.env) fp) cl WF elt m) (hx : ∀ i v, cl.sx = some (i, v) → i ∉ own.map (·.2)) (hs : ∀ x, foldedSetIterable iter X.env x = pure x := by intro _; rfl) :
    PD X cl W (.ListComp elt [⟨tg, iter, ifs, 0⟩] scope pos) (eLc w n tt m (own.map (·.2))) := by
  obtain ⟨wi, h1, h2⟩ := hi
  exact ⟨_, pe_lc hc hN h1 ok (fun s H C c fp => pg_of (hg s H C c fp)) (tt := ttOf (gm X cl) tt WF) (fun s H C c fp => ht s H C c fp) (fun s H C c fp => pe_of (he s H C c fp)) hs, lc_den h2 hx⟩
end
end Py

/-! Opt: more operations. -/
namespace Py
open PySem
@[simp] def flatD : D → Bool
  | .non => true
  | .bl _ => true
  | .int _ => true
  | .str _ => true
  | _ => false
abbrev KeyD := Sum Int Str
@[simp] def keyOf : D → Option KeyD
  | .int i => some (.inl i)
  | .str x => some (.inr x)
  | _ => none
@[simp] def inD : D → D → Option Bool
  | .str x, .str z => match x.cps.toList with
    | [c] => some (decide (c ∈ z.cps.toList))
    | _ => none
  | x, .lst ds => if eqOk x = true ∧ eqOk (.lst ds) = true then some (ds.any fun z => eqv z x) else none
  | x, .tup ds => if flatD x = true ∧ ds.all flatD = true then some (ds.any fun z => eqv z x) else none
  | x, .dic ks _ => (keyOf x).map fun k => ks.any fun k' => decide (k' = k)
  | _, _ => none
@[simp] def oIn : List D → Option Sl
  | [x, y] => (inD x y).map fun b => .sh (.bl b)
  | _ => none
@[simp] def oNotIn : List D → Option Sl
  | [x, y] => (inD x y).map fun b => .sh (.bl !b)
  | _ => none
/-- ==, also of a dict and a text -/
@[simp] def oEqX : List D → Option Sl
  | [.str x, .str y] => rB (x == y)
  | [.dic _ _, .str _] => rB false
  | [.lst xs, .lst ys] => if xs.length = ys.length then oEq [.lst xs, .lst ys] else rB false
  | ds => oEq ds
@[simp] def oNeX : List D → Option Sl
  | [.str x, .str y] => rB (!(x == y))
  | [.dic _ _, .str _] => rB true
  | [.lst xs, .lst ys] => if xs.length = ys.length then oNe [.lst xs, .lst ys] else rB true
  | ds => oNe ds
@[simp] def blsD : List D → Option (List Bool)
  | [] => some []
  | .bl b :: ds => (blsD ds).map fun bs => b :: bs
  | _ => none
@[simp] def oAll : List D → Option Sl
  | [.lst ds] => (blsD ds).map fun bs => .sh (.bl (bs.all id))
  | _ => none
@[simp] def oAny : List D → Option Sl
  | [.lst ds] => (blsD ds).map fun bs => .sh (.bl (bs.any id))
  | _ => none
@[simp] def oList : List D → Option Sl
  | [.lst ds] => some (.ow (.lst ds))
  | [.scr ds] => some (.ow (.lst ds))
  | [.tup ds] => some (.ow (.lst ds))
  | _ => none
@[simp] def oTuple : List D → Option Sl
  | [.lst ds] => some (.sh (.tup ds))
  | [.scr ds] => some (.sh (.tup ds))
  | [.tup ds] => some (.sh (.tup ds))
  | _ => none
@[simp] def strsD : List D → Option (List Str)
  | [] => some []
  | .str x :: ds => (strsD ds).map fun xs => x :: xs
  | _ => none
@[simp] def oJoin : List D → Option Sl
  | [.str a, .lst ds] => (strsD ds).bind fun ys => if (ys.map (·.length)).sum + ys.length * a.length ≤ 16777216 then some (.sh (.str (Str.join a ys))) else none
  | _ => none
/-- the thing ahead of a method, and what it is handed -/
@[simp] def tyIs : Ty → D → Option Unit
  | .str, .str _ => some ()
  | .list, .lst _ => some ()
  | .list, .scr _ => some ()
  | .dict, .dic _ _ => some ()
  | _, _ => none
@[simp] def asM (ty : Ty) (a : A) (as : As) : As := M.bind a fun x => M.bind (M.get fun r => (x.dat r).bind (tyIs ty)) fun _ => M.bind as fun xs => M.pure (x :: xs)
/-- a new dict -/
@[simp] def eNewK : E := M.pure (.ow (.dic [] []))
/-- xs.append(e), xs.extend(e), xs.clear() -/
@[simp] def sAppend (i : Nat) (m : E) : S := fun r => match (r[i]?).bind Sl.get with
  | some (.lst _) => sE m (fun x r1 => match r1[i]?, x.val with
    | some (.ow (.lst ds)), some d => if ds.length < lim then some (.nx (r1.set i (.ow (.lst (ds ++ [d]))))) else none
    | _, _ => none) r
  | _ => none
@[simp] def sExtend (i : Nat) (m : E) : S := fun r => match (r[i]?).bind Sl.get with
  | some (.lst _) => sE m (fun x r1 => match r1[i]?, x.get with
    | some (.ow (.lst ds)), some (.lst es) => if ds.length + es.length ≤ lim then some (.nx (r1.set i (.ow (.lst (ds ++ es))))) else none
    | _, _ => none) r
  | _ => none
@[simp] def sClear (i : Nat) : S := fun r => match r[i]? with
  | some (.ow (.lst _)) => some (.nx (r.set i (.ow (.lst []))))
  | _ => none
/-- a constant of the module -/
@[simp] def eK (d : D) : E := eC d
end Py

set_option Elab.async false
set_option linter.all false
set_option maxRecDepth 100000
/-! St: in, all, any, list, tuple, join, append; dicts. -/
namespace Py
open PySem L2
section
variable {X : Cx} {cl : Cs}
theorem R.flat {g : Gm} {H : Hp} {v : V} {d : D} (h : R g H v d) (hf : flatD d = true) : flatV v = true := by
  cases h <;> first | rfl | cases hf
theorem RA.flat {g : Gm} {H : Hp} : ∀ {vs : List V} {ds : List D}, RA g H vs ds → ds.all flatD = true → vs.all flatV = true
  | _, _, .nil, _ => rfl
  | _, _, .cons h t, hf => by
    rw [List.all_cons, Bool.and_eq_true] at hf ⊢
    exact ⟨h.flat hf.1, t.flat hf.2⟩
theorem eqV_eqv {g : Gm} {H : Hp} {v w : V} {d e : D} (h1 : R g H v d) (h2 : R g H w e) (f1 : flatD d = true) (f2 : flatD e = true) : eqV v w = eqv d e := by
  cases h1 <;> first | (cases f1; done) | skip
  all_goals cases h2 <;> first | (cases f2; done) | (simp only [eqV, eqv]; done)
theorem inV_any {g : Gm} {H : Hp} {v : V} {d : D} (h : R g H v d) (hf : flatD d = true) : ∀ {vs : List V} {ds : List D}, RA g H vs ds → ds.all flatD = true → inV v vs = ds.any fun z => eqv z d
  | _, _, .nil, _ => rfl
  | _, _, .cons h1 t, f => by
    rw [List.all_cons, Bool.and_eq_true] at f
    have ih := inV_any h hf t f.2
    unfold inV at ih ⊢
    rw [List.any_cons, List.any_cons, ih, eqV_eqv h1 h f.1 hf]
/-- membership in a dict -/
def rInK : R2 := fun x y H Q => ∃ a o, y = .ref a ∧ DGet H a x o ∧ Q (.bl o.isSome) H
def rNotInK : R2 := fun x y H Q => ∃ a o, y = .ref a ∧ DGet H a x o ∧ Q (.bl (!o.isSome)) H
theorem op_inK (hu : X.A.units + 1 < cLine) : OpR X (compareOp .In) rInK := fun pins s σ H x y v u Q I rx ry ⟨a, o, e, g, q⟩ => by
  subst e
  cases ry
  exact d_in hu I g rx fun s' I' => ⟨.bl _, H, I', rfl, q⟩
theorem op_notInK (hu : X.A.units + 1 < cLine) : OpR X (compareOp .NotIn) rNotInK := fun pins s σ H x y v u Q I rx ry ⟨a, o, e, g, q⟩ => by
  subst e
  cases ry
  exact d_notIn hu I g rx fun s' I' => ⟨.bl _, H, I', rfl, q⟩
abbrev rInX (K : PySem.W.Frag) : R2 := fun x y H Q => ((rInS x y H Q ∨ rInD K x y H Q) ∨ rIn K false x y H Q) ∨ rInK x y H Q
abbrev rNotInX (K : PySem.W.Frag) : R2 := fun x y H Q => ((rNotInS x y H Q ∨ rNotInD K x y H Q) ∨ rIn K true x y H Q) ∨ rNotInK x y H Q
theorem op_inX (hu : X.A.units + 65 < cLine) : OpR X (compareOp .In) (rInX X.K) := opR_or (opR_or (opR_or op_inS (op_inD hu)) op_in_seq) (op_inK (by omega))
theorem op_notInX (hu : X.A.units + 65 < cLine) : OpR X (compareOp .NotIn) (rNotInX X.K) := opR_or (opR_or (opR_or op_notInS (op_notInD hu)) op_notIn_seq) (op_notInK (by omega))
theorem toPys_any {d : D} (hd : cmpOk d = true) : ∀ {ds : List D}, cmpOks ds = true → (toPys ds).any (fun z => PyData.eqv z (toPy d)) = ds.any fun z => eqv z d
  | [], _ => rfl
  | e :: ds, h => by
    have h' : cmpOk e = true ∧ cmpOks ds = true := by simpa only [cmpOks, Bool.and_eq_true] using h
    show (toPy e :: toPys ds).any _ = _
    rw [List.any_cons, List.any_cons, toPys_any hd h'.2, eqv_toPy h'.1 hd]
theorem keyOf_kV {g : Gm} {Hs H : Hp} {v : V} {d : D} {k : Key} (h : RC g Hs H v d) (hk : keyOf d = some k) : v = kV k := by
  cases d with
  | int i =>
    cases hk
    exact h.int
  | str x =>
    cases hk
    exact h.str
  | _ => cases hk
theorem valV_zip {k : Key} : ∀ {ks : List Key} {xs : List V}, ks.length = xs.length → (valV (ks.zip xs) k).isSome = ks.any fun k' => decide (k' = k)
  | [], _, _ => rfl
  | a :: ks, [], h => by cases h
  | a :: ks, x :: xs, h => by
    rw [List.zip_cons_cons, List.any_cons]
    by_cases e : a = k
    · rw [valV_pos e]
      simp [e]
    · rw [valV_neg e, valV_zip (by simpa using h)]
      simp [e]
theorem in_core {d e : D} {b : Bool} {v w : V} {Hs H : Hp} (hs : Same Hs H) (h1 : RC (gm X cl) Hs H v d) (h2 : RC (gm X cl) Hs H w e) (hi : inD d e = some b) :
    (∀ Q : VK, Q (.bl b) H → rInX X.K v w H Q) ∧ ∀ Q : VK, Q (.bl !b) H → rNotInX X.K v w H Q := by
  cases e with
  | str z =>
    cases d with
    | str x =>
      have hi : (match x.cps.toList with
        | [c] => some (decide (c ∈ z.cps.toList))
        | _ => none) = some b := hi
      split at hi
      · rename_i c hc
        cases hi
        cases h1.str
        cases h2.str
        have ex : x = ⟨#[c]⟩ := by
          cases x with
          | mk a =>
            cases a with
            | mk l =>
              have : l = [c] := hc
              subst this
              rfl
        subst ex
        exact ⟨fun Q q => .inl (.inl (.inl ⟨c, z, rfl, rfl, q⟩)), fun Q q => .inl (.inl (.inl ⟨c, z, rfl, rfl, q⟩))⟩
      · cases hi
    | _ => cases hi
  | lst ds =>
    have hi' : (if eqOk d = true ∧ eqOk (.lst ds) = true then some (ds.any fun z => eqv z d) else none) = some b := by
      cases d <;> exact hi
    split at hi'
    · rename_i hk
      cases hi'
      obtain ⟨s1, s2⟩ := shaped_of hk.1
      obtain ⟨s3, s4⟩ := shaped_of hk.2
      have s5 : cmpOks ds = true := by simpa only [cmpOk] using s4
      have key := toPys_any s2 s5
      have p1 := dp_of s2 (h1.toR hs)
      have p2 := dp_of s4 (h2.toR hs)
      exact ⟨fun Q q => .inl (.inl (.inr ⟨toPy d, toPys ds, p1, p2, s1, s3, by rw [key]; exact q⟩)), fun Q q => .inl (.inl (.inr ⟨toPy d, toPys ds, p1, p2, s1, s3, by rw [key]; exact q⟩))⟩
    · cases hi'
  | tup ds =>
    have hi' : (if flatD d = true ∧ ds.all flatD = true then some (ds.any fun z => eqv z d) else none) = some b := by
      cases d <;> exact hi
    split at hi'
    · rename_i hk
      cases hi'
      obtain ⟨a, xs, rfl, a1, a2⟩ := h2.tup hs
      have r1 := h1.toR hs
      have r2 := a2.mono hs
      have key := inV_any r1 hk.1 r2 hk.2
      exact ⟨fun Q q => .inl (.inr ⟨a, xs, rfl, .inr a1, r1.flat hk.1, r2.flat hk.2, by rw [if_neg (by decide), key]; exact q⟩), fun Q q => .inl (.inr ⟨a, xs, rfl, .inr a1, r1.flat hk.1, r2.flat hk.2, by rw [if_pos rfl, key]; exact q⟩)⟩
    · cases hi'
  | dic ks ds =>
    have hi' : ((keyOf d).map fun k => ks.any fun k' => decide (k' = k)) = some b := by
      cases d <;> exact hi
    obtain ⟨k, hk, hb⟩ := Option.map_eq_some_iff.mp hi'
    obtain ⟨a, xs, rfl, a1, a2, a3⟩ := h2.dic hs
    have ev := keyOf_kV h1 hk
    subst ev
    have key := valV_zip (k := k) a2
    rw [hb] at key
    exact ⟨fun Q q => .inr ⟨a, _, rfl, DGet.k a1, by rw [key]; exact q⟩, fun Q q => .inr ⟨a, _, rfl, DGet.k a1, by rw [key]; exact q⟩⟩
  | _ => cases d <;> cases hi
theorem od_in : OpD (gm X cl) (r2L (rInX X.K)) oIn := by
  intro Hs H vs ds x Q e hv hf c
  unfold oIn at hf
  split at hf
  · obtain ⟨b, hb, hx⟩ := Option.map_eq_some_iff.mp hf
    subst hx
    obtain ⟨v, w, rfl, h1, h2⟩ := rca2 hv
    exact (in_core e h1 h2 hb).1 Q (c.val _ _ rfl (.bl _))
  · cases hf
theorem od_notIn : OpD (gm X cl) (r2L (rNotInX X.K)) oNotIn := by
  intro Hs H vs ds x Q e hv hf c
  unfold oNotIn at hf
  split at hf
  · obtain ⟨b, hb, hx⟩ := Option.map_eq_some_iff.mp hf
    subst hx
    obtain ⟨v, w, rfl, h1, h2⟩ := rca2 hv
    exact (in_core e h1 h2 hb).2 Q (c.val _ _ rfl (.bl _))
  · cases hf
theorem RA.bls {g : Gm} {H : Hp} : ∀ {vs : List V} {ds : List D} {bs : List Bool}, RA g H vs ds → blsD ds = some bs → vs = bs.map V.bl
  | _, _, _, .nil, h => by
    cases h
    rfl
  | _, d :: ds, _, .cons h1 t, h => by
    cases d with
    | bl b =>
      obtain ⟨cs, hc, rfl⟩ := Option.map_eq_some_iff.mp h
      cases h1
      rw [t.bls hc]
      rfl
    | _ => cases h
theorem RA.strs {g : Gm} {H : Hp} : ∀ {vs : List V} {ds : List D} {bs : List Str}, RA g H vs ds → strsD ds = some bs → vs = bs.map V.str
  | _, _, _, .nil, h => by
    cases h
    rfl
  | _, d :: ds, _, .cons h1 t, h => by
    cases d with
    | str b =>
      obtain ⟨cs, hc, rfl⟩ := Option.map_eq_some_iff.mp h
      cases h1
      rw [t.strs hc]
      rfl
    | _ => cases h
theorem od_all : OpD (gm X cl) (rAll X.K) oAll := by
  intro Hs H vs ds x Q e hv hf c
  unfold oAll at hf
  split at hf
  · obtain ⟨b, hb, hx⟩ := Option.map_eq_some_iff.mp hf
    subst hx
    obtain ⟨v, rfl, h1⟩ := rca1 hv
    obtain ⟨a, xs, rfl, a1, a2⟩ := h1.lst e
    exact ⟨a, b, rfl, by rw [← a2.bls hb]; exact SqL.of a1, c.val _ _ rfl (.bl _)⟩
  · cases hf
theorem od_any : OpD (gm X cl) (rAny X.K) oAny := by
  intro Hs H vs ds x Q e hv hf c
  unfold oAny at hf
  split at hf
  · obtain ⟨b, hb, hx⟩ := Option.map_eq_some_iff.mp hf
    subst hx
    obtain ⟨v, rfl, h1⟩ := rca1 hv
    obtain ⟨a, xs, rfl, a1, a2⟩ := h1.lst e
    exact ⟨a, b, rfl, by rw [← a2.bls hb]; exact SqL.of a1, c.val _ _ rfl (.bl _)⟩
  · cases hf
theorem od_list : OpD (gm X cl) (fun xs H Q => ∃ p ys, xs = [.ref p] ∧ (SqL X.K H p ys ∨ SqT X.K H p ys) ∧ ∀ l, H l = none → Q (.ref l) (upd H l (.lst ys))) oList := by
  intro Hs H vs ds x Q e hv hf c
  unfold oList at hf
  split at hf
  · obtain ⟨v, rfl, h1⟩ := rca1 hv
    obtain ⟨a, xs, rfl, a1, a2⟩ := h1.lst e
    cases hf
    exact ⟨a, xs, rfl, .inl (SqL.of a1), fun p hp => c.lst p xs _ rfl hp a2⟩
  · obtain ⟨v, rfl, h1⟩ := rca1 hv
    obtain ⟨a, xs, rfl, a1, a2⟩ := h1.scr e
    cases hf
    exact ⟨a, xs, rfl, .inl a1, fun p hp => c.lst p xs _ rfl hp a2⟩
  · obtain ⟨v, rfl, h1⟩ := rca1 hv
    obtain ⟨a, xs, rfl, a1, a2⟩ := h1.tup e
    cases hf
    exact ⟨a, xs, rfl, .inr a1, fun p hp => c.lst p xs _ rfl hp a2⟩
  · cases hf
theorem od_tuple : OpD (gm X cl) (fun xs H Q => ∃ p ys, xs = [.ref p] ∧ ((SqL X.K H p ys ∧ ∀ l, H l = none → Q (.ref l) (upd H l (.tup ys))) ∨ (SqT X.K H p ys ∧ Q (.ref p) H))) oTuple := by
  intro Hs H vs ds x Q e hv hf c
  unfold oTuple at hf
  split at hf
  · obtain ⟨v, rfl, h1⟩ := rca1 hv
    obtain ⟨a, xs, rfl, a1, a2⟩ := h1.lst e
    cases hf
    exact ⟨a, xs, rfl, .inl ⟨SqL.of a1, fun p hp => c.tup p xs _ rfl hp a2⟩⟩
  · obtain ⟨v, rfl, h1⟩ := rca1 hv
    obtain ⟨a, xs, rfl, a1, a2⟩ := h1.scr e
    cases hf
    exact ⟨a, xs, rfl, .inl ⟨a1, fun p hp => c.tup p xs _ rfl hp a2⟩⟩
  · obtain ⟨v, rfl, h1⟩ := rca1 hv
    cases hf
    cases h1 with
    | sh h =>
      cases h with
      | tup a1 a2 => exact ⟨_, _, rfl, .inr ⟨sqT_mono e a1, c.val _ _ rfl (.tup a1 a2)⟩⟩
    | nd _ h => exact h.elim
  · cases hf
end
end Py

set_option Elab.async false
set_option linter.all false
set_option maxRecDepth 100000
/-! Su: constants of the module, methods of texts and lists, new dicts. -/
namespace Py
open PySem L2
/-- the module's name x is the constant d -/
def Con (K : PySem.W.Frag) (mg : Str → Option Value) (x : Str) (d : D) : Prop := ∃ v u, mg x = some u ∧ RelV v u ∧ ∀ (c : Str → Option Addr) H, R ⟨K, c⟩ H v d
def conF : Value → D → Bool
  | .int i _, .int j => decide (i = j)
  | .str x _, .str y => decide (x = y)
  | _, _ => false
def conFs : List Value → List D → Bool
  | [], [] => true
  | u :: us, d :: ds => conF u d && conFs us ds
  | _, _ => false
def conV (K : PySem.W.Frag) : Value → D → Bool
  | .ref a, .tup ds => match K.lookup a with
    | some o => match o.cls, o.data with
      | .type n, .seq its _ => decide (n = "tuple") && (decide (its.size ≤ sizeLine) && conFs its.toList ds)
      | _, _ => false
    | _ => false
  | u, d => conF u d
def conK (x : Str) (d : D) (K : PySem.W.Frag) : Bool := match PySem.W.nsIn K mainGlobals x with
  | some (some u) => conV K u d
  | _ => false
theorem conF_ok {u : Value} {d : D} (h : conF u d = true) : ∃ v, RelV v u ∧ ∀ (g : Gm) H, R g H v d := by
  unfold conF at h
  split at h
  · have e := of_decide_eq_true h
    subst e
    exact ⟨.int _, ⟨_, rfl⟩, fun _ _ => .int _⟩
  · have e := of_decide_eq_true h
    subst e
    exact ⟨.str _, ⟨_, rfl⟩, fun _ _ => .str _⟩
  · cases h
theorem conFs_ok : ∀ {us : List Value} {ds : List D}, conFs us ds = true → ∃ vs, Vals vs us ∧ ∀ (g : Gm) H, RA g H vs ds
  | [], [], _ => ⟨[], .nil, fun _ _ => .nil⟩
  | [], _ :: _, h => by cases h
  | _ :: _, [], h => by cases h
  | u :: us, d :: ds, h => by
    have h' : (conF u d && conFs us ds) = true := h
    rw [Bool.and_eq_true] at h'
    obtain ⟨v, v1, v2⟩ := conF_ok h'.1
    obtain ⟨vs, w1, w2⟩ := conFs_ok h'.2
    exact ⟨v :: vs, .cons v1 w1, fun g H => .cons (v2 g H) (w2 g H)⟩
theorem con_ok {K : PySem.W.Frag} {h : Heap} {mg : Str → Option Value} (X : K.In h) (G : h.Ns mainGlobals mg) {x : Str} {d : D} (c : conK x d K = true) : Con K mg x d := by
  unfold conK at c
  split at c
  · rename_i u e
    have hm := PySem.W.mg_of X G e
    unfold conV at c
    split at c
    · rename_i a ds
      split at c
      · rename_i o ho
        split at c
        · rename_i n its k e1 e2
          rw [Bool.and_eq_true, Bool.and_eq_true] at c
          obtain ⟨c1, c2, c3⟩ := c
          have en := of_decide_eq_true c1
          subst en
          obtain ⟨vs, w1, w2⟩ := conFs_ok c3
          exact ⟨.ref a, .ref a, hm, rfl, fun c H => .tup (.inr ⟨o, its, k, ho, e1, e2, of_decide_eq_true c2, w1⟩) (w2 _ _)⟩
        · cases c
      · cases c
    · obtain ⟨v, v1, v2⟩ := conF_ok c
      exact ⟨v, _, hm, v1, fun c H => v2 _ H⟩
  · cases c
section
variable {X : Cx} {cl : Cs} {fx : Nat → Bool} {W : WX} {e : Expr} {pos p2 apos cpos : Pos} {x : Str}
theorem pd_con {d : D} (hg : Gl X x) (h : Con X.K X.mg x d) (hd : (x == ("__debug__" : Str)) = false := by decide) : PD X cl W (.Name x pos) (eC d) := by
  obtain ⟨v, u, h1, h2, h3⟩ := h
  refine ⟨_, pe_glob hg h1 h2 hd, fun B Hs r s t k H Q o hr hm hp => ?_⟩
  cases hm
  exact hp v _ H (hr.push (h3 _ _))
/-- {} with keys that are texts or numbers -/
theorem pd_newK : PD X cl W (.Dict [] [] pos) eNewK := by
  refine ⟨_, pe_dnewK, fun B Hs r s t k H Q o hr hm hp => ?_⟩
  cases hm
  exact fun p hpn => hp _ _ _ (hr.pushOw hpn ⟨[], rfl, rfl, .nil⟩)
end
def mL (r : V → List V → Hp → VK → Prop) : List V → Hp → VK → Prop
  | x :: xs, H, Q => r x xs H Q
  | [], _, _ => True
theorem tyV_of {g : Gam} {Hs H : Hp} {v : V} {d : D} {ty : Ty} {u : Unit} (e : Same Hs H) (h : RC g Hs H v d) (ht : tyIs ty d = some u) : tyV g.m.K ty.nm v H := by
  cases ty <;> cases d <;> first | (cases ht; done) | skip
  · cases h.str
    rfl
  · obtain ⟨a, xs, rfl, a1, a2⟩ := h.lst e
    exact .inl ⟨rfl, xs, SqL.of a1⟩
  · obtain ⟨a, xs, rfl, a1, a2⟩ := h.scr e
    exact .inl ⟨rfl, xs, a1⟩
  · obtain ⟨a, xs, rfl, a1, a2, a3⟩ := h.dic e
    exact .inr (.inr (.inl ⟨rfl, .inl ⟨_, a1⟩⟩))
theorem das_mt {g : Gam} {W : WX} {to : TE} {ta : TA} {a : A} {as : As} {ty : Ty} (h2 : DO g to a W) (h4 : DAs g ta as W) : DAs g (fun s H Q => to s H fun x H1 => tyV g.m.K ty.nm x H1 ∧ ta s H1 fun xs H2 => Q (x :: xs) H2) (asM ty a as) W := by
  intro B Hs r s t k H Q o hr hm hp
  rcases bind_cases hm with ⟨x, r1, q, qq⟩ | ⟨ee, r1, q, qq⟩
  · rcases bind_cases qq with ⟨u, r2, q3, q4⟩ | ⟨ee, r2, q3, q4⟩
    · unfold M.get at q3
      dsimp only at q3
      split at q3
      · cases q3
      · rename_i u' q5
        cases q3
        obtain ⟨d, qd, qt⟩ := Option.bind_eq_some_iff.mp q5
        rcases bind_cases q4 with ⟨xs, r3, q6, q7⟩ | ⟨ee, r3, q6, q7⟩
        · cases q7
          refine h2 B _ r s t k H _ _ hr q fun v HsH1 H1 ha => ?_
          obtain ⟨c1, c2⟩ := ha.dat qd
          refine ⟨tyV_of c2.shH c1 qt, ?_⟩
          cases x with
          | r i =>
            obtain ⟨ha1, ha2⟩ := ha
            exact h4 B _ r1 s t k H1 _ _ ha2 q6 fun vs kv HsH2 H2 av hr2 => hp (v :: vs) kv _ H2 (.r ha1 av) hr2
          | v x =>
            refine h4 B _ r1 s (t ++ [x]) (k ++ [some v]) H1 _ _ ha q6 fun vs kv HsH2 H2 av hr2 => hp (v :: vs) (some v :: kv) HsH2 H2 (.v av) ?_
            rw [List.append_assoc, List.append_assoc] at hr2
            exact hr2
        · subst q7
          refine h2 B _ r s t k H _ _ hr q fun v HsH1 H1 ha => ?_
          obtain ⟨c1, c2⟩ := ha.dat qd
          refine ⟨tyV_of c2.shH c1 qt, ?_⟩
          cases x with
          | r i =>
            obtain ⟨ha1, ha2⟩ := ha
            exact h4 B _ r1 s t k H1 _ _ ha2 q6 hp
          | v x => exact h4 B _ r1 s (t ++ [x]) (k ++ [some v]) H1 _ _ ha q6 (PostX.drop hr.tk hp)
    · unfold M.get at q3
      dsimp only at q3
      split at q3 <;> cases q3
  · subst qq
    exact h2 B _ r s t k H _ _ hr q hp
section
variable {X : Cx} {cl : Cs} {fx : Nat → Bool} {W : WX} {e : Expr} {es : List Expr} {pos p2 apos cpos : Pos} {x : Str}
/-- a method that reads -/
theorem pd_meth {id : String} {name : Str} {r : V → List V → Hp → VK → Prop} {o : Expr} {mo : A} {as : As} {f : List D → Option Sl} (ty : Ty) (pa : PlainAttrs ty.nm) (slot : Slot ty.nm name id) (hty : typeOf (.builtin id) = pure (.type "method_descriptor")) (hm : MtR X id r)
    (hf : OpD (gm X cl) (mL r) f) (ho : PO X cl W o mo) (ha : PAs X cl W (e :: es) as)
    (hbase : attributeBase o name X.env (eval o X.env) = eval o X.env := by rfl)
    (hfew : ((backTo cpos (starEach (e :: es) X.env)).all (fun x => !x.1) && (backToKw cpos (keywordEach [] X.env)).all (fun x => x.1.isSome)
      && decide ((e :: es).length + ([] : List Keyword).length + (if ([] : List Keyword).isEmpty then 0 else 1) < 30)) = true := by rfl)
    (hline : (apos.endLine == cpos.line) = true := by rfl) (hs : starEach (e :: es) X.env = (false, eval e X.env) :: starEach es X.env := by rfl) (hplain : (backTo cpos (starEach es X.env)).any (·.1) = false := by rfl) :
    PD X cl W (.Call (.Attribute o name apos) (e :: es) [] cpos) (eOp (asM ty mo as) f) := by
  obtain ⟨to, h1, h2⟩ := ho
  obtain ⟨ta, h3, h4⟩ := ha
  exact ⟨_, pe_bm pa slot hty hm h1 h3 hbase hfew hline hs hplain, op_den (das_mt (ty := ty) h2 h4) hf⟩
theorem pd_meth0 {id : String} {name : Str} {r : V → List V → Hp → VK → Prop} {o : Expr} {mo : A} {f : List D → Option Sl} (ty : Ty) (pa : PlainAttrs ty.nm) (slot : Slot ty.nm name id) (hty : typeOf (.builtin id) = pure (.type "method_descriptor")) (hm : MtR X id r)
    (hf : OpD (gm X cl) (mL r) f) (ho : PO X cl W o mo)
    (hbase : attributeBase o name X.env (eval o X.env) = eval o X.env := by rfl) (hline : (apos.endLine == cpos.line) = true := by rfl) : PD X cl W (.Call (.Attribute o name apos) [] [] cpos) (eOp (asM ty mo asN) f) := by
  obtain ⟨to, h1, h2⟩ := ho
  exact ⟨_, pe_bm0 pa slot hty hm h1 hbase hline, op_den (das_mt (ty := ty) h2 das_nil) hf⟩
theorem od_join : OpD (gm X cl) (mL (fun x xs H Q => ∃ a p, ∃ ys : List Str, x = .str a ∧ xs = [.ref p] ∧ (SqL X.K H p (ys.map V.str) ∨ SqT X.K H p (ys.map V.str)) ∧
    (ys.map (·.length)).sum + ys.length * a.length ≤ 16777216 ∧ Q (.str (Txt.join a ys)) H)) oJoin := by
  intro Hs H vs ds x Q e hv hf c
  unfold oJoin at hf
  split at hf
  · obtain ⟨ys, hy, h2⟩ := Option.bind_eq_some_iff.mp hf
    split at h2
    · rename_i hl
      cases h2
      obtain ⟨v, w, rfl, h1, h2⟩ := rca2 hv
      cases h1.str
      obtain ⟨a, xs, rfl, a1, a2⟩ := h2.lst e
      exact ⟨_, a, ys, rfl, rfl, .inl (by rw [← a2.strs hy]; exact SqL.of a1), hl, c.val _ _ rfl (by rw [show Txt.join _ ys = Str.join _ ys from StrLaws.glued_eq_join _ ys]; exact .str _)⟩
    · cases h2
  · cases hf
theorem od_int : OpD (gm X cl) (fun xs H Q => (∃ i, xs = [.int i] ∧ Q (.int i) H) ∨ ∃ k, xs = [.bl k] ∧ Q (.int (if k then 1 else 0)) H) oInt := by
  intro Hs H vs ds x Q e hv hf c
  unfold oInt at hf
  split at hf
  · obtain ⟨v, rfl, h1⟩ := rca1 hv
    cases h1.int
    cases hf
    exact .inl ⟨_, rfl, c.val _ _ rfl (.int _)⟩
  · obtain ⟨v, rfl, h1⟩ := rca1 hv
    cases h1.bl
    cases hf
    exact .inr ⟨_, rfl, c.val _ _ rfl (.int _)⟩
  · cases hf
/-! ### lists that grow -/
theorem psd_append {i : Nat} {m : E} (ho : PE X (.Name x p2) (tVar i)) (he : PD X cl W e m)
    (hs0 : swapsWith (.Call (.Attribute (.Name x p2) "append" apos) [e] [] cpos) none pos.line X.env = pure false := by rfl)
    (hbase : attributeBase (.Name x p2) "append" X.env (eval (.Name x p2) X.env) = eval (.Name x p2) X.env := by rfl)
    (hfew : ((backTo cpos (starEach [e] X.env)).all (fun x => !x.1) && (backToKw cpos (keywordEach [] X.env)).all (fun x => x.1.isSome)
      && decide ([e].length + ([] : List Keyword).length + (if ([] : List Keyword).isEmpty then 0 else 1) < 30)) = true := by rfl)
    (hline : (apos.endLine == cpos.line) = true := by rfl) (hs : starEach [e] X.env = (false, eval e X.env) :: starEach [] X.env := by rfl) (hplain : (backTo cpos (starEach [] X.env)).any (·.1) = false := by rfl) :
    PSd X cl fx W (.Expr (.Call (.Attribute (.Name x p2) "append" apos) [e] [] cpos) pos) (sAppend i m) := by
  obtain ⟨te, h1, h2⟩ := he
  refine ⟨_, ps_expr (pe_bm F.plainAttrs_list F.slot_list_append F.type_list_append mt_append ho (pa_cons h1 pa_nil hs) hbase hfew hline hs hplain) hs0, fun B Hs r s t k H D fl hf hr hm hp => ?_⟩
  unfold sAppend at hm
  split at hm
  · rename_i ds0 q0
    obtain ⟨y, q1, q2⟩ := Option.bind_eq_some_iff.mp q0
    obtain ⟨v, e1, e4⟩ := hr.rc q1 q2
    obtain ⟨a, xs, rfl, a1, a2⟩ := e4.lst hr.shH
    refine ⟨_, e1, .inl ⟨rfl, xs, SqL.of a1⟩, ?_⟩
    rcases sE_cases hm with ⟨y1, r1, q3, q4⟩ | ⟨ee, r1, q3, q4⟩
    · refine h2 B _ r s t k H _ _ hr q3 fun v1 HsH1 H1 hr1 => ?_
      split at q4
      · rename_i ds d q5 q6
        split at q4
        · rename_i hlen
          cases q4
          have hl : t.length = k.length := hr.tk
          obtain ⟨Hs2, _, c3, rv⟩ := AV.shared (as := [.v y1]) (.v .nil) hr1 hl (by unfold shds; rw [show (Arg.v y1).shd r1 = some d from q6]; rfl)
          obtain ⟨p, o1, f1, f2, xs1, n1, n2⟩ := c3.ow q5
          rw [e1] at f1
          cases f1
          subst n1
          refine ⟨a, xs1, v1, rfl, rfl, f2, by rw [n2.length]; exact hlen, ?_⟩
          exact hp _ _ _ (c3.write q5 e1 ⟨_, rfl, n2.append rv⟩)
        · cases q4
      · cases q4
    · subst q4
      exact h2 B _ r s t k H _ _ hr q3 (hp s)
  · cases hm
theorem psd_extend {i : Nat} {m : E} (ho : PE X (.Name x p2) (tVar i)) (he : PD X cl W e m)
    (hs0 : swapsWith (.Call (.Attribute (.Name x p2) "extend" apos) [e] [] cpos) none pos.line X.env = pure false := by rfl)
    (hbase : attributeBase (.Name x p2) "extend" X.env (eval (.Name x p2) X.env) = eval (.Name x p2) X.env := by rfl)
    (hfew : ((backTo cpos (starEach [e] X.env)).all (fun x => !x.1) && (backToKw cpos (keywordEach [] X.env)).all (fun x => x.1.isSome)
      && decide ([e].length + ([] : List Keyword).length + (if ([] : List Keyword).isEmpty then 0 else 1) < 30)) = true := by rfl)
    (hline : (apos.endLine == cpos.line) = true := by rfl) (hs : starEach [e] X.env = (false, eval e X.env) :: starEach [] X.env := by rfl) (hplain : (backTo cpos (starEach [] X.env)).any (·.1) = false := by rfl) :
    PSd X cl fx W (.Expr (.Call (.Attribute (.Name x p2) "extend" apos) [e] [] cpos) pos) (sExtend i m) := by
  obtain ⟨te, h1, h2⟩ := he
  refine ⟨_, ps_expr (pe_bm F.plainAttrs_list F.slot_list_extend F.type_list_extend mt_extend ho (pa_cons h1 pa_nil hs) hbase hfew hline hs hplain) hs0, fun B Hs r s t k H D fl hf hr hm hp => ?_⟩
  unfold sExtend at hm
  split at hm
  · rename_i ds0 q0
    obtain ⟨y, q1, q2⟩ := Option.bind_eq_some_iff.mp q0
    obtain ⟨v, e1, e4⟩ := hr.rc q1 q2
    obtain ⟨a, xs, rfl, a1, a2⟩ := e4.lst hr.shH
    refine ⟨_, e1, .inl ⟨rfl, xs, SqL.of a1⟩, ?_⟩
    rcases sE_cases hm with ⟨y1, r1, q3, q4⟩ | ⟨ee, r1, q3, q4⟩
    · refine h2 B _ r s t k H _ _ hr q3 fun v1 HsH1 H1 hr1 => ?_
      split at q4
      · rename_i ds es q5 q6
        split at q4
        · rename_i hlen
          cases q4
          have hl : t.length = k.length := hr.tk
          have g2 := RepT.topC hr1 (d := .lst es) q6
          obtain ⟨b, ys, rfl, b1, b2⟩ := g2.lst hr1.shH
          have c3 := hr1.pop
          obtain ⟨p, o1, f1, f2, xs1, n1, n2⟩ := c3.ow q5
          rw [e1] at f1
          cases f1
          subst n1
          refine ⟨a, b, xs1, ys, rfl, rfl, f2, b1, by rw [n2.length, b2.length]; exact hlen, ?_⟩
          exact hp _ _ _ (c3.write q5 e1 ⟨_, rfl, n2.append b2⟩)
        · cases q4
      · cases q4
    · subst q4
      exact h2 B _ r s t k H _ _ hr q3 (hp s)
  · cases hm
theorem psd_clear {i : Nat} (ho : PE X (.Name x p2) (tVar i))
    (hs0 : swapsWith (.Call (.Attribute (.Name x p2) "clear" apos) [] [] cpos) none pos.line X.env = pure false := by rfl)
    (hbase : attributeBase (.Name x p2) "clear" X.env (eval (.Name x p2) X.env) = eval (.Name x p2) X.env := by rfl) (hline : (apos.endLine == cpos.line) = true := by rfl) :
    PSd X cl fx W (.Expr (.Call (.Attribute (.Name x p2) "clear" apos) [] [] cpos) pos) (sClear i) := by
  refine ⟨_, ps_expr (pe_bm0 F.plainAttrs_list F.slot_list_clear F.type_list_clear mt_clear ho hbase hline) hs0, fun B Hs r s t k H D fl hf hr hm hp => ?_⟩
  unfold sClear at hm
  split at hm
  · rename_i ds0 q0
    cases hm
    obtain ⟨p, o, e1, e2, xs, n1, n2⟩ := hr.ow q0
    subst n1
    refine ⟨_, e1, .inl ⟨rfl, xs, SqL.of e2⟩, ?_⟩
    refine ⟨p, xs, rfl, rfl, e2, ?_⟩
    exact hp _ _ _ (hr.write q0 e1 ⟨[], rfl, .nil⟩)
  · cases hm
end
end Py

set_option Elab.async false
set_option linter.all false
set_option maxRecDepth 100000
/-! Sv: == of a dict and a text; a name bound to a comprehension. -/
namespace Py
section
open PySem PySem.SeqAt
theorem dict_eq_str (l : Addr) (es : Array DictEntry) (ep : Nat) (b : Str) (u : Tok) :
    Meets (Builtin.«dict.__eq__» ⟨[.ref l, .str b u], []⟩) (fun _ R s => s.heap.get? l = some { cls := .type "dict", data := .dict es ep } ∧ R (.ok (.ret .notImplemented)) s) :=
  .of_wp fun prog w A R s h => by obtain ⟨hp, g, d, tk, os⟩ := s; obtain ⟨hl, h⟩ := h; have f1 := F.sub_str_dict; wp_walk using wpAny_loadPart' hl; exact ⟨_, rfl, h⟩
theorem str_eq_dict (l : Addr) (es : Array DictEntry) (ep : Nat) (b : Str) (u : Tok) :
    Meets (Builtin.«str.__eq__» ⟨[.str b u, .ref l], []⟩) (fun _ R s => s.heap.get? l = some { cls := .type "dict", data := .dict es ep } ∧ R (.ok (.ret .notImplemented)) s) :=
  .of_wp fun prog w A R s h => by obtain ⟨hp, g, d, tk, os⟩ := s; obtain ⟨hl, h⟩ := h; wp_walk using wpAny_loadPart' hl, wpAny_load hl; exact ⟨_, rfl, h⟩
theorem dict_ne_str (l : Addr) (es : Array DictEntry) (ep : Nat) (b : Str) (u : Tok) :
    Meets (Builtin.«dict.__ne__» ⟨[.ref l, .str b u], []⟩) (fun _ R s => s.heap.get? l = some { cls := .type "dict", data := .dict es ep } ∧ R (.ok (.ret .notImplemented)) s) :=
  .of_wp fun prog w A R s h => by obtain ⟨hp, g, d, tk, os⟩ := s; obtain ⟨hl, h⟩ := h; have f1 := F.sub_str_dict; wp_walk using wpAny_loadPart' hl; exact ⟨_, rfl, h⟩
theorem str_ne_dict (l : Addr) (es : Array DictEntry) (ep : Nat) (b : Str) (u : Tok) :
    Meets (Builtin.«str.__ne__» ⟨[.str b u, .ref l], []⟩) (fun _ R s => s.heap.get? l = some { cls := .type "dict", data := .dict es ep } ∧ R (.ok (.ret .notImplemented)) s) :=
  .of_wp fun prog w A R s h => by obtain ⟨hp, g, d, tk, os⟩ := s; obtain ⟨hl, h⟩ := h; wp_walk using wpAny_loadPart' hl, wpAny_load hl; exact ⟨_, rfl, h⟩
section
variable {A : Around} {s : Shared} {l : Addr} {es : Array DictEntry} {ep : Nat}
theorem rc_dict_str (b : Str) (u : Tok) (ho : s.heap.get? l = some { cls := .type "dict", data := .dict es ep }) (hu : A.units < cLine) : RcAt A s (.ref l) (.str b u) false := fun prog w E Q h =>
  rc_eq_decline_or (k := false) ⟨_, ho, rfl⟩ (typeIs_str s b u) (by decide) F.sub_str_dict F.slot_dict_eq F.slot_str_eq_refl
    (fun _ hq => call_meets F.slot_dict_eq ⟨_, ho, rfl⟩ F.entry_dict_eq (F.args_dict_eq_2 _ _) (dict_eq_str l es ep b u) ⟨ho, hq⟩)
    (fun _ hq => call_meets F.slot_str_eq_refl (typeIs_str s b u) F.entry_str_eq (F.args_str_eq_2 _ _) (str_eq_dict l es ep b u) ⟨ho, hq⟩)
    (fun _ hq => wpAny_of_eq (rfl : isSame (.ref l) (.str b u) = pure false) hq) (.inr hu) h
theorem rcn_dict_str (b : Str) (u : Tok) (ho : s.heap.get? l = some { cls := .type "dict", data := .dict es ep }) (hu : A.units < cLine) : RcNeAt A s (.ref l) (.str b u) true := fun prog w E Q h =>
  rc_ne_decline_or (k := false) ⟨_, ho, rfl⟩ (typeIs_str s b u) (by decide) F.sub_str_dict F.slot_dict_ne F.slot_str_ne_refl
    (fun _ hq => call_meets F.slot_dict_ne ⟨_, ho, rfl⟩ F.entry_dict_ne (F.args_dict_ne_2 _ _) (dict_ne_str l es ep b u) ⟨ho, hq⟩)
    (fun _ hq => call_meets F.slot_str_ne_refl (typeIs_str s b u) F.entry_str_ne (F.args_str_ne_2 _ _) (str_ne_dict l es ep b u) ⟨ho, hq⟩)
    (fun _ hq => wpAny_of_eq (rfl : isSame (.ref l) (.str b u) = pure false) hq) (.inr hu) h
end
end
open PySem L2
section
variable {X : Cx} {cl : Cs} {fx : Nat → Bool} {W : WX} {e : Expr} {es : List Expr} {pos p2 apos cpos : Pos} {x : Str}
def rEqDS (b : Bool) : R2 := fun x y H Q => ∃ a kvs z, x = .ref a ∧ y = .str z ∧ H a = some (.dK kvs) ∧ Q (.bl b) H
theorem op_eqDS (hu : X.A.units + 64 < cLine) : OpR X (compareOp .Eq) (rEqDS false) := fun pins s σ H x y v u Q I rx ry ⟨a, kvs, z, e1, e2, ha, q⟩ => by
  subst e1
  subst e2
  cases rx
  obtain ⟨t, rfl⟩ := ry
  obtain ⟨hz, hs, vs, kv, o, es, ep, ho, ex, hd, _⟩ := dk_of I.hok ha
  obtain ⟨c1, c2, c3⟩ := ex
  cases o with
  | mk cls dict data slots =>
    subst c1
    subst c2
    subst c3
    subst hd
    exact rc_dict_str z t ho (by omega) X.prog X.w X.xe _ ⟨.bl false, H, I, rfl, q⟩
theorem op_neDS (hu : X.A.units + 64 < cLine) : OpR X (compareOp .NotEq) (rEqDS true) := fun pins s σ H x y v u Q I rx ry ⟨a, kvs, z, e1, e2, ha, q⟩ => by
  subst e1
  subst e2
  cases rx
  obtain ⟨t, rfl⟩ := ry
  obtain ⟨hz, hs, vs, kv, o, es, ep, ho, ex, hd, _⟩ := dk_of I.hok ha
  obtain ⟨c1, c2, c3⟩ := ex
  cases o with
  | mk cls dict data slots =>
    subst c1
    subst c2
    subst c3
    subst hd
    exact rcn_dict_str z t ho (by omega) X.prog X.w X.xe _ ⟨.bl true, H, I, rfl, q⟩
def rEqLen (K : PySem.W.Frag) (b : Bool) : R2 := fun x y H Q => ∃ p q xs ys, x = .ref p ∧ y = .ref q ∧ SqL K H p xs ∧ SqL K H q ys ∧ xs.length ≠ ys.length ∧ Q (.bl b) H
theorem op_eqLen (hu : X.A.units + 64 < cLine) : OpR X (compareOp .Eq) (rEqLen X.K false) := fun pins s σ H x y v u Q I rx ry ⟨p, q, xs, ys, e1, e2, h1, h2, hne, k⟩ => by
  subst e1
  subst e2
  cases rx
  cases ry
  obtain ⟨its, rv, hl, _⟩ := I.list h1
  obtain ⟨its2, rv2, hl2, _⟩ := I.list h2
  have a1 := rv.length
  have a2 := rv2.length
  exact SeqAt.RcAt.lists_lengths hl.isList hl2.isList (by simp; omega) (by omega) X.prog X.w X.xe _ ⟨.bl false, H, I, rfl, k⟩
theorem op_neLen (hu : X.A.units + 64 < cLine) : OpR X (compareOp .NotEq) (rEqLen X.K true) := fun pins s σ H x y v u Q I rx ry ⟨p, q, xs, ys, e1, e2, h1, h2, hne, k⟩ => by
  subst e1
  subst e2
  cases rx
  cases ry
  obtain ⟨its, rv, hl, _⟩ := I.list h1
  obtain ⟨its2, rv2, hl2, _⟩ := I.list h2
  have a1 := rv.length
  have a2 := rv2.length
  exact SeqAt.RcNeAt.lists_lengths hl.isList hl2.isList (by simp; omega) (by omega) X.prog X.w X.xe _ ⟨.bl true, H, I, rfl, k⟩
/-- two texts -/
def rEqS2 (n : Bool) : R2 := fun x y H Q => ∃ a b, x = .str a ∧ y = .str b ∧ Q (.bl (n ^^ (a == b))) H
theorem op_eqS2 : OpR X (compareOp .Eq) (rEqS2 false) := fun pins s σ H x y v u Q I rx ry ⟨a, b, e1, e2, q⟩ => by
  subst e1
  subst e2
  exact op_eq pins s σ H _ _ v u Q I rx ry ⟨rfl, by rw [dec_str]; simpa using q⟩
theorem op_neS2 : OpR X (compareOp .NotEq) (rEqS2 true) := fun pins s σ H x y v u Q I rx ry ⟨a, b, e1, e2, q⟩ => by
  subst e1
  subst e2
  exact op_ne pins s σ H _ _ v u Q I rx ry ⟨rfl, by rw [dec_str]; simpa using q⟩
abbrev rEqX (K : PySem.W.Frag) : R2 := fun x y H Q => (rEqDS false x y H Q ∨ rEqLen K false x y H Q) ∨ rEqD K x y H Q ∨ rEqS2 false x y H Q
abbrev rNeX (K : PySem.W.Frag) : R2 := fun x y H Q => (rEqDS true x y H Q ∨ rEqLen K true x y H Q) ∨ rNeD K x y H Q ∨ rEqS2 true x y H Q
theorem op_eqX (hu : X.A.units + 64 < cLine) : OpR X (compareOp .Eq) (rEqX X.K) := opR_or (opR_or (op_eqDS hu) (op_eqLen hu)) (opR_or (op_eqD hu) op_eqS2)
theorem op_neX (hu : X.A.units + 64 < cLine) : OpR X (compareOp .NotEq) (rNeX X.K) := opR_or (opR_or (op_neDS hu) (op_neLen hu)) (opR_or (op_neD hu) op_neS2)
theorem od_eqX : OpD (gm X cl) (r2L (rEqX X.K)) oEqX := by
  intro Hs H vs ds x Q e hv hf c
  unfold oEqX at hf
  split at hf
  · cases hf
    obtain ⟨v, w, rfl, h1, h2⟩ := rca2 hv
    cases h1.str
    cases h2.str
    exact .inr (.inr ⟨_, _, rfl, rfl, c.val _ _ rfl (by first | exact .bl _ | (rw [Bool.false_xor]; exact .bl _) | (rw [Bool.true_xor]; exact .bl _))⟩)
  · cases hf
    obtain ⟨v, w, rfl, h1, h2⟩ := rca2 hv
    cases h2.str
    obtain ⟨a, xs, rfl, a1, a2⟩ := h1.dic e
    exact .inl (.inl ⟨a, _, _, rfl, rfl, a1, c.val _ _ rfl (.bl _)⟩)
  · split at hf
    · have := od_eq (X := X) (cl := cl) Hs H vs _ x Q e hv hf c
      match vs, this with
      | [v, w], this => exact .inr (.inl this)
      | [], _ => trivial
      | [_], _ => trivial
      | _ :: _ :: _ :: _, _ => trivial
    · rename_i hne
      cases hf
      obtain ⟨v, w, rfl, h1, h2⟩ := rca2 hv
      obtain ⟨a, xs, rfl, a1, a2⟩ := h1.lst e
      obtain ⟨b, ys, rfl, b1, b2⟩ := h2.lst e
      exact .inl (.inr ⟨a, b, xs, ys, rfl, rfl, SqL.of a1, SqL.of b1, by rw [a2.length, b2.length]; exact hne, c.val _ _ rfl (.bl _)⟩)
  · have := od_eq (X := X) (cl := cl) Hs H vs ds x Q e hv hf c
    match vs, this with
    | [v, w], this => exact .inr (.inl this)
    | [], _ => trivial
    | [_], _ => trivial
    | _ :: _ :: _ :: _, _ => trivial
theorem od_neX : OpD (gm X cl) (r2L (rNeX X.K)) oNeX := by
  intro Hs H vs ds x Q e hv hf c
  unfold oNeX at hf
  split at hf
  · cases hf
    obtain ⟨v, w, rfl, h1, h2⟩ := rca2 hv
    cases h1.str
    cases h2.str
    exact .inr (.inr ⟨_, _, rfl, rfl, c.val _ _ rfl (by first | exact .bl _ | (rw [Bool.false_xor]; exact .bl _) | (rw [Bool.true_xor]; exact .bl _))⟩)
  · cases hf
    obtain ⟨v, w, rfl, h1, h2⟩ := rca2 hv
    cases h2.str
    obtain ⟨a, xs, rfl, a1, a2⟩ := h1.dic e
    exact .inl (.inl ⟨a, _, _, rfl, rfl, a1, c.val _ _ rfl (.bl _)⟩)
  · split at hf
    · have := od_ne (X := X) (cl := cl) Hs H vs _ x Q e hv hf c
      match vs, this with
      | [v, w], this => exact .inr (.inl this)
      | [], _ => trivial
      | [_], _ => trivial
      | _ :: _ :: _ :: _, _ => trivial
    · rename_i hne
      cases hf
      obtain ⟨v, w, rfl, h1, h2⟩ := rca2 hv
      obtain ⟨a, xs, rfl, a1, a2⟩ := h1.lst e
      obtain ⟨b, ys, rfl, b1, b2⟩ := h2.lst e
      exact .inl (.inr ⟨a, b, xs, ys, rfl, rfl, SqL.of a1, SqL.of b1, by rw [a2.length, b2.length]; exact hne, c.val _ _ rfl (.bl _)⟩)
  · have := od_ne (X := X) (cl := cl) Hs H vs ds x Q e hv hf c
    match vs, this with
    | [v, w], this => exact .inr (.inl this)
    | [], _ => trivial
    | [_], _ => trivial
    | _ :: _ :: _ :: _, _ => trivial
theorem dg_name {i : Nat} {g : Gam} (hF : fx i = false) : DG g fx (gName i) (gN i) W := fun B Hs r s t k H y v Q fl hfx hr hm hp => by
  obtain ⟨r', e, hq⟩ := hp
  subst e
  unfold gN at hm
  by_cases hlt : i < r.length
  · rw [if_pos hlt] at hm
    cases hm
    refine hq _ Hs H ⟨by simp [hr.rn], by simp [hr.sn], by have := hr.tk; simpa using this, ?_, hr.sx⟩
    have q := hr.rep
    rw [← List.append_assoc, ← List.append_assoc] at q
    exact q.store (hr.rn.trans hr.sn.symm) (by have := hr.tk; simpa using this) (by rw [hr.sn]; exact Nat.le_refl _) hlt (by rw [hfx]; exact hF)
  · rw [if_neg hlt] at hm
    cases hm
/-- name = [.. for ..] on one row, the name a local -/
theorem psd_setLc {tg : Expr} {i : Nat} {y : Str} {py spos : Pos} {elt iter : Expr} {ifs : List Expr} {scope : Scope} {own : List (Str × Nat)} {w : Wk} {n : G} {tt : T} {m : E} (hc : X.calm = true) (hN : X.N.Nodup) (hy : X.N[i]? = some y) (hyl : X.env.scope.names.lookup y = some .local)
    (hk : X.env.scope.kind = .function) (hl : (py.line == pos.line) = true) (ha : (scope.names.any fun (n, k) => n == y && (k == .local || k == .cell)) = false) (hi : PWk X cl W tg iter w) (ok : BlkOk X.N X.env.scope scope own)
    (hg : ∀ (s : Shared) (H : Hp) (C : Addr) (c : List (Str × Addr)) (fp : List Addr), PGv (X.blk s H scope (compEnvC scope c C X.env) fp) cl (own.map (·.2)) tg n) (ht : ∀ (s : Shared) (H : Hp) (C : Addr) (c : List (Str × Addr)) (fp : List Addr), PTsd (X.blk s H scope (compEnvC scope c C X.env) fp) cl WF ifs tt)
    (he : ∀ (s : Shared) (H : Hp) (C : Addr) (c : List (Str × Addr)) (fp : List Addr), PD (X.blk s H scope (compEnvC scope c C X.env) fp) cl WF elt m) (hx : ∀ i v, cl.sx = some (i, v) → i ∉ own.map (·.2)) (hF : fx i = false := by rfl) (hs : ∀ x, foldedSetIterable iter X.env x = pure x := by intro _; rfl) :
    PSd X cl fx W (.Assign [.Name y py] (.ListComp elt [⟨tg, iter, ifs, 0⟩] scope pos) spos) (sAsg (eLc w n tt m (own.map (·.2))) (gN i)) := by
  obtain ⟨wi, h1, h2⟩ := hi
  refine ⟨_, ps_setLc hc hN hy hyl (sw_true hk hyl hl ha) h1 ok (g := tgOf (gm X cl) (own.map (·.2)) n) (fun s H C c fp => pg_of (hg s H C c fp)) (tt := ttOf (gm X cl) tt WF) (te := teOf (gm X cl) m WF) (fun s H C c fp => ht s H C c fp) (fun s H C c fp => pe_of (he s H C c fp)) hs, fun B Hs r s t k H D fl hf hr hm hp => ?_⟩
  have h2' := lc_den (n := n) (tt := tt) (m := m) (vs := own.map (·.2)) h2 hx
  rcases sE_cases hm with ⟨x, r1, q1, q2⟩ | ⟨ee, r1, q1, q2⟩
  · refine h2' B _ r s t k H _ _ hr q1 fun v HsH' H' hr' => dg_name (W := W) hF B _ r1 s t k H' x v _ fl hf hr' q2 ?_
    obtain ⟨r', e⟩ := gN_nx x r1 fl q2
    subst e
    exact ⟨r', rfl, hp⟩
  · subst q2
    exact h2' B _ r s t k H _ _ hr q1 (hp s)
end
end Py

set_option Elab.async false
set_option linter.all false
set_option maxRecDepth 100000
/-! Sw: slots that are only looked at meanwhile. -/
namespace Py
open PySem L2
open Classical
section
variable {g : Gam} {B : Bs} {Hs : Hp} {r : Env} {s : St} {t : Env} {k : St} {H : Hp} {W : WX}
/-- the base while slot i is only looked at -/
def Bs.hold (B : Bs) (h Hs : Hp) (fx : Nat → Bool) (s : St) : Bs := ⟨B.n, hor h B.F, hor h B.Hb, Hs, fx, s⟩
theorem nbAll_get : ∀ {r r1 : Env}, nbAll r r1 → ∀ (j : Nat) (y : Sl), r1[j]? = some y → y.nb = true ∨ r[j]? = some y
  | [], [], _, j, y, h => by simp at h
  | x :: r, z :: r1, h, 0, y, e => by
    simp at e
    subst e
    exact h.1.imp id fun q => by simp [q]
  | x :: r, z :: r1, h, j + 1, y, e => by
    have := nbAll_get h.2 j y (by simpa using e)
    simpa using this
  | [], _ :: _, h, _, _, _ => h.elim
  | _ :: _, [], h, _, _, _ => h.elim
theorem nbs_get : ∀ {r1 : Env}, Sl.nbs r1 = true → ∀ (j : Nat) (y : Sl), r1[j]? = some y → y.nb = true
  | [], _, j, y, h => by simp at h
  | z :: r1, h, 0, y, e => by
    simp at e
    subst e
    simp only [Sl.nbs, Bool.and_eq_true] at h
    exact h.1
  | z :: r1, h, j + 1, y, e => by
    simp only [Sl.nbs, Bool.and_eq_true] at h
    exact nbs_get h.2 j y (by simpa using e)
theorem nbEx_get : ∀ {i : Nat} {r1 : Env}, nbEx i r1 → ∀ (j : Nat) (y : Sl), j ≠ i → r1[j]? = some y → y.nb = true
  | _, [], _, j, y, _, h => by simp at h
  | 0, z :: r1, h, 0, y, n, e => absurd rfl n
  | 0, z :: r1, h, j + 1, y, n, e => nbs_get h j y (by simpa using e)
  | i + 1, z :: r1, h, 0, y, n, e => by
    simp at e
    subst e
    exact h.1
  | i + 1, z :: r1, h, j + 1, y, n, e => nbEx_get h.2 j y (fun q => n (by rw [q])) (by simpa using e)
/-- slot i is lent out, and comes back -/
theorem RepT.holdH {ho : Nat → Hp} {i : Nat} {x : Sl} (hr : RepT g B Hs r s t k H) (q : RepH g B Hs ho (r ++ t) (s ++ k) H) (hi : r[i]? = some x) (hx : x.owns = true) (fx : Nat → Bool) (hfx : ∀ j, B.fx j = true → fx j = true) (hn : ∀ j, fx j = true → j < B.n) (hsx : ∀ j v, g.sx = some (j, v) → fx j = true) :
    RepT g (B.hold (ho i) Hs fx s) Hs (r.set i (.bw x)) s t k H ∧
      ∀ (Hs' H' : Hp) (r1 : Env) (s1 : St) (tx : Env) (kx : St), tx.length = kx.length → Sl.nbs tx = true → r1[i]? = some (.bw x) → s1[i]? = s[i]? →
        (∀ (j : Nat) (y : Sl), j ≠ i → r1[j]? = some y → y.nb = true ∨ (r[j]? = some y ∧ s1[j]? = s[j]?)) → RepT g (B.hold (ho i) Hs fx s) Hs' r1 s1 (t ++ tx) (k ++ kx) H' → RepT g B Hs' (r1.set i x) s1 (t ++ tx) (k ++ kx) H' ∧ Same (ho i) H' := by
  have hil := (List.getElem?_eq_some_iff.mp hi).1
  have el := hr.el
  have hi2 : (r ++ t)[i]? = some x := by rw [List.getElem?_append_left hil]; exact hi
  have gx : ∀ j v, g.sx = some (j, v) → s[j]? = some (some v) := fun j v e => by
    obtain ⟨z1, z2⟩ := hr.sx j v e
    obtain ⟨z3, z4⟩ := hr.rep.fix j z1
    rw [List.getElem?_append_left (by rw [hr.sn]; exact z3)] at z4
    rw [z4]
    exact z2
  have dF : Dj (ho i) B.F := q.of i
  have dB : Dj (ho i) B.Hb := dF.mono same_rfl q.bf
  have sB : Same B.Hb (hor (ho i) B.Hb) := hor_r dB
  have sF : Same B.F (hor (ho i) B.F) := hor_r dF
  refine ⟨⟨by simp [Bs.hold, hr.rn], hr.sn, hr.tk, ⟨hset ho i hemp, by simpa using q.len, q.big, fun j y o h1 h2 => ?_, fun j l n => ?_, fun j => ?_, fun j => ?_, fun j => ?_, q.sh, hor_same (q.oh i) q.fh, (hor_dj (q.os i) q.sf.symm).symm, fun a o z => ?_, same_rfl, fun j hj => ⟨hn j hj, ?_⟩⟩, fun j v e => ⟨hsx j v e, gx j v e⟩⟩, fun Hs' H' r1 s1 tx kx hl hnb hi1 hs1 hbw h => ?_⟩
  · by_cases hj : j = i
    · subst hj
      rw [List.getElem?_append_left (by simpa using hil), List.getElem?_set_self hil] at h1
      cases h1
      rcases q.ok j x o hi2 h2 with z | ⟨v, e, z⟩
      · subst z
        cases hx
      · exact .inr ⟨v, e, by
          simp only [SlV]
          exact (z.mono same_rfl sB same_rfl).toBw hor_l⟩
    · rw [hset_ne hj]
      have h1' : (r ++ t)[j]? = some y := by
        rw [← List.set_append_left _ _ hil, List.getElem?_set_ne (Ne.symm hj)] at h1
        exact h1
      exact (q.ok j y o h1' h2).mono same_rfl sB same_rfl
  · unfold hset
    split
    · exact dj_emp
    · split
      · exact dj_emp.symm
      · exact q.oo j l n
  · unfold hset
    split
    · exact dj_emp
    · exact q.os j
  · by_cases hj : j = i
    · subst hj
      rw [hset_same]
      exact dj_emp
    · rw [hset_ne hj]
      exact (hor_dj (q.oo i j (Ne.symm hj)) (q.of j).symm).symm
  · unfold hset
    split
    · exact same_emp
    · exact q.oh j
  · rcases hor_cases z with z | z
    · exact hor_l a o z
    · exact sF a o (q.bf a o z)
  · rw [List.getElem?_append_left (by rw [hr.sn]; exact hn j hj)]
    rfl
  · obtain ⟨ho1, c⟩ := h.rep
    have hs' : Same Hs Hs' := c.h0
    have iF : Same (ho i) (hor (ho i) B.F) := hor_l
    have hil1 := (List.getElem?_eq_some_iff.mp hi1).1
    have el1 := h.el
    have rl1 : r1.length = r.length := by
      have a1 : r1.length = B.n := h.rn
      have a2 := hr.rn
      omega
    have sl1 : s1.length = s.length := by
      have a1 : s1.length = B.n := h.sn
      have a2 := hr.sn
      omega
    refine ⟨⟨by have := h.rn; simpa [Bs.hold] using this, h.sn, h.tk, ⟨hset ho1 i (ho i), by have := c.len; simpa using this, c.big, fun j y o h1 h2 => ?_, fun j l n => ?_, fun j => ?_, fun j => ?_, fun j => ?_, c.sh, sF.tr c.fh, c.sf.mono same_rfl sF, q.bf, q.h0.tr hs', fun j hj => ?_⟩, fun j v e => hr.sx j v e⟩, iF.tr c.fh⟩
    · by_cases hj : j = i
      · subst hj
        rw [List.getElem?_append_left (by simpa using hil1), List.getElem?_set_self hil1] at h1
        cases h1
        rw [hset_same]
        have h2' : (s ++ k)[j]? = some o := by
          rw [List.getElem?_append_left (by omega)] at h2 ⊢
          rw [← hs1]
          exact h2
        exact (q.ok j x o hi2 h2').mono hs' same_rfl same_rfl
      · rw [hset_ne hj]
        have h1' : (r1 ++ (t ++ tx))[j]? = some y := by
          rw [← List.set_append_left _ _ hil1, List.getElem?_set_ne (Ne.symm hj)] at h1
          exact h1
        have c1 := c.ok j y o h1' h2
        by_cases nb : y.nb = true
        · exact c1.nb nb
        · have no : y.owns = false := c1.nbOr.elim (fun z => absurd z nb) id
          have old : (r ++ t)[j]? = some y ∧ (s ++ k)[j]? = some o := by
            by_cases hjr : j < r1.length
            · rw [List.getElem?_append_left hjr] at h1'
              rw [List.getElem?_append_left (by omega)] at h2
              obtain ⟨z1, z2⟩ := (hbw j y hj h1').elim (fun z => absurd z nb) id
              rw [List.getElem?_append_left (by omega), List.getElem?_append_left (by omega)]
              exact ⟨z1, z2 ▸ h2⟩
            · rw [List.getElem?_append_right (by omega)] at h1' h2
              by_cases hjt : j - r1.length < t.length
              · rw [List.getElem?_append_left hjt] at h1'
                rw [List.getElem?_append_left (by have := hr.tk; omega)] at h2
                rw [List.getElem?_append_right (by omega), List.getElem?_append_right (by omega)]
                rw [rl1] at h1'
                rw [sl1] at h2
                exact ⟨h1', h2⟩
              · rw [List.getElem?_append_right (by omega)] at h1'
                exact absurd (nbs_get hnb _ y h1') nb
          exact ((q.ok j y o old.1 old.2).mono hs' same_rfl same_rfl).any no
    · by_cases hj : j = i
      · subst hj
        rw [hset_same, hset_ne (Ne.symm n)]
        exact ((c.of l).mono same_rfl iF).symm
      · by_cases hl' : l = i
        · subst hl'
          rw [hset_same, hset_ne hj]
          exact (c.of j).mono same_rfl iF
        · rw [hset_ne hj, hset_ne hl']
          exact c.oo j l n
    · by_cases hj : j = i
      · subst hj
        rw [hset_same]
        exact (c.sf.mono same_rfl iF).symm
      · rw [hset_ne hj]
        exact c.os j
    · by_cases hj : j = i
      · subst hj
        rw [hset_same]
        exact dF
      · rw [hset_ne hj]
        exact (c.of j).mono same_rfl sF
    · by_cases hj : j = i
      · subst hj
        rw [hset_same]
        exact iF.tr c.fh
      · rw [hset_ne hj]
        exact c.oh j
    · have z1 := q.fix j hj
      refine ⟨z1.1, ?_⟩
      have z2 := (c.fix j (hfx j hj)).2
      rw [List.getElem?_append_left (by rw [h.sn]; exact z1.1)] at z2 ⊢
      rw [z2]
      have z3 := z1.2
      rw [List.getElem?_append_left (by rw [hr.sn]; exact z1.1)] at z3
      exact z3
theorem RepT.hold {i : Nat} {x : Sl} (hr : RepT g B Hs r s t k H) (hi : r[i]? = some x) (hx : x.owns = true) (fx : Nat → Bool) (hfx : ∀ j, B.fx j = true → fx j = true) (hn : ∀ j, fx j = true → j < B.n) (hsx : ∀ j v, g.sx = some (j, v) → fx j = true) :
    ∃ h, RepT g (B.hold h Hs fx s) Hs (r.set i (.bw x)) s t k H ∧
      ∀ (Hs' H' : Hp) (r1 : Env) (s1 : St) (tx : Env) (kx : St), tx.length = kx.length → Sl.nbs tx = true → r1[i]? = some (.bw x) → s1[i]? = s[i]? →
        (∀ (j : Nat) (y : Sl), j ≠ i → r1[j]? = some y → y.nb = true ∨ (r[j]? = some y ∧ s1[j]? = s[j]?)) → RepT g (B.hold h Hs fx s) Hs' r1 s1 (t ++ tx) (k ++ kx) H' → RepT g B Hs' (r1.set i x) s1 (t ++ tx) (k ++ kx) H' := by
  obtain ⟨ho, q⟩ := hr.rep
  obtain ⟨a, b⟩ := hr.holdH q hi hx fx hfx hn hsx
  exact ⟨ho i, a, fun Hs' H' r1 s1 tx kx e1 e2 e3 e4 e5 e6 => (b Hs' H' r1 s1 tx kx e1 e2 e3 e4 e5 e6).1⟩
/-- .. and what slot i owns stays -/
theorem held_run {te : TE} {m : E} {i : Nat} {x : Sl} {o : Out Sl} {ho : Nat → Hp} {Q : VK} (h : DE g te m W) (hr : RepT g B Hs r s t k H) (q : RepH g B Hs ho (r ++ t) (s ++ k) H) (hi : r[i]? = some x) (hx : x.owns = true) (hm : heldO Sl.isV r i x (m (r.set i (.bw x))) = some o)
    (hp : match o with
      | .ok a r1 => r1[i]? = some x → ∀ v Hs' H', Same (ho i) H' → RepT g B Hs' r1 s (t ++ [a]) (k ++ [some v]) H' → Q v H'
      | .ex e r1 => PostX g B t k W e r1 s) : te s H Q := by
  obtain ⟨h1, h2⟩ := hr.holdH q hi hx B.fx (fun _ z => z) (fun j z => (hr.rep.fix j z).1) (fun j v e => (hr.sx j v e).1)
  cases q : m (r.set i (.bw x)) with
  | none =>
    rw [q] at hm
    cases hm
  | some u =>
    rw [q] at hm
    refine h _ _ _ s t k H Q u h1 q ?_
    cases u with
    | ok a r1 =>
      unfold heldO at hm
      dsimp only at hm
      split at hm
      · rename_i ha
        obtain ⟨r2, z1, z2⟩ := Option.map_eq_some_iff.mp hm
        subst z2
        unfold backB at z1
        split at z1
        · rename_i hb
          cases z1
          intro v Hs' H' hr'
          obtain ⟨w1, w2⟩ := h2 Hs' H' r1 s [a] [some v] rfl (by
            cases a with
            | sh d => rfl
            | ow d => rfl
            | nd k xs => simpa using ha
            | no => cases ha
            | bw x => cases ha) hb.1 rfl (fun j y hj e => by
              rcases nbAll_get hb.2 j y e with z | z
              · exact .inl z
              · rw [List.getElem?_set_ne (Ne.symm hj)] at z
                exact .inr ⟨z, rfl⟩) hr'
          exact hp (List.getElem?_set_self (List.getElem?_eq_some_iff.mp hb.1).1) v Hs' H' w2 w1
        · cases z1
      · cases hm
    | ex e r1 =>
      unfold heldO at hm
      dsimp only at hm
      obtain ⟨r2, z1, z2⟩ := Option.map_eq_some_iff.mp hm
      subst z2
      unfold backB at z1
      split at z1
      · rename_i hb
        cases z1
        intro C d Hs' H' hc hr' hxx
        have w := (h2 Hs' H' r1 s [] [] rfl rfl hb.1 rfl (fun j y hj e => by
          rcases nbAll_get hb.2 j y e with z | z
          · exact .inl z
          · rw [List.getElem?_set_ne (Ne.symm hj)] at z
            exact .inr ⟨z, rfl⟩) (by rw [List.append_nil, List.append_nil]; exact hr')).1
        rw [List.append_nil, List.append_nil] at w
        exact hp C d Hs' H' hc w hxx
      · cases z1
/-- an expression while slot i is only looked at -/
theorem held_den {te : TE} {m : E} {i : Nat} (h : DE g te m W) : DE g te (heldE i m) W := by
  intro B Hs r s t k H Q o hr hm hp
  have own : ∀ x, r[i]? = some x → x.owns = true → heldO Sl.isV r i x (m (r.set i (.bw x))) = some o → te s H Q := fun x hi hx hm => by
    obtain ⟨hh, h1, h2⟩ := hr.hold hi hx B.fx (fun _ z => z) (fun j z => (hr.rep.fix j z).1) (fun j v e => (hr.sx j v e).1)
    cases q : m (r.set i (.bw x)) with
    | none =>
      rw [q] at hm
      cases hm
    | some u =>
      rw [q] at hm
      refine h _ _ _ s t k H Q u h1 q ?_
      cases u with
      | ok a r1 =>
        unfold heldO at hm
        dsimp only at hm
        split at hm
        · rename_i ha
          obtain ⟨r2, z1, z2⟩ := Option.map_eq_some_iff.mp hm
          subst z2
          unfold backB at z1
          split at z1
          · rename_i hb
            cases z1
            intro v Hs' H' hr'
            refine hp v Hs' H' (h2 Hs' H' r1 s [a] [some v] rfl ?_ hb.1 rfl (fun j y hj e => ?_) hr')
            · cases a with
              | sh d => rfl
              | ow d => rfl
              | nd k xs => simpa using ha
              | no => cases ha
              | bw x => cases ha
            · rcases nbAll_get hb.2 j y e with z | z
              · exact .inl z
              · rw [List.getElem?_set_ne (Ne.symm hj)] at z
                exact .inr ⟨z, rfl⟩
          · cases z1
        · cases hm
      | ex e r1 =>
        unfold heldO at hm
        dsimp only at hm
        obtain ⟨r2, z1, z2⟩ := Option.map_eq_some_iff.mp hm
        subst z2
        unfold backB at z1
        split at z1
        · rename_i hb
          cases z1
          intro C d Hs' H' hc hr' hxx
          have w := h2 Hs' H' r1 s [] [] rfl rfl hb.1 rfl (fun j y hj e => by
            rcases nbAll_get hb.2 j y e with z | z
            · exact .inl z
            · rw [List.getElem?_set_ne (Ne.symm hj)] at z
              exact .inr ⟨z, rfl⟩) (by rw [List.append_nil, List.append_nil]; exact hr')
          rw [List.append_nil, List.append_nil] at w
          exact hp C d Hs' H' hc w hxx
        · cases z1
  unfold heldE held at hm
  split at hm
  · rename_i d q
    exact own _ q rfl hm
  · rename_i k' xs q
    exact own _ q rfl hm
  · exact h B Hs r s t k H Q o hr hm hp
  · cases hm
theorem heldT_den {te : TT} {m : T} {i : Nat} (h : DT g te m W) : DT g te (heldT i m) W := by
  intro B Hs r s t k H Q o hr hm hp
  have own : ∀ x, r[i]? = some x → x.owns = true → heldO (fun _ => true) r i x (m (r.set i (.bw x))) = some o → te s H Q := fun x hi hx hm => by
    obtain ⟨hh, h1, h2⟩ := hr.hold hi hx B.fx (fun _ z => z) (fun j z => (hr.rep.fix j z).1) (fun j v e => (hr.sx j v e).1)
    cases q : m (r.set i (.bw x)) with
    | none =>
      rw [q] at hm
      cases hm
    | some u =>
      rw [q] at hm
      refine h _ _ _ s t k H Q u h1 q ?_
      have fin : ∀ (r1 : Env) (Hs' H' : Hp), r1[i]? = some (.bw x) ∧ nbAll (r.set i (.bw x)) r1 → RepT g (B.hold hh Hs B.fx s) Hs' r1 s t k H' → RepT g B Hs' (r1.set i x) s t k H' := fun r1 Hs' H' hb hr' => by
        have w := h2 Hs' H' r1 s [] [] rfl rfl hb.1 rfl (fun j y hj e => by
          rcases nbAll_get hb.2 j y e with z | z
          · exact .inl z
          · rw [List.getElem?_set_ne (Ne.symm hj)] at z
            exact .inr ⟨z, rfl⟩) (by rw [List.append_nil, List.append_nil]; exact hr')
        rw [List.append_nil, List.append_nil] at w
        exact w
      cases u with
      | ok a r1 =>
        unfold heldO at hm
        dsimp only at hm
        rw [if_pos rfl] at hm
        obtain ⟨r2, z1, z2⟩ := Option.map_eq_some_iff.mp hm
        subst z2
        unfold backB at z1
        split at z1
        · rename_i hb
          cases z1
          exact fun Hs' H' hr' => hp Hs' H' (fin r1 Hs' H' hb hr')
        · cases z1
      | ex e r1 =>
        unfold heldO at hm
        dsimp only at hm
        obtain ⟨r2, z1, z2⟩ := Option.map_eq_some_iff.mp hm
        subst z2
        unfold backB at z1
        split at z1
        · rename_i hb
          cases z1
          exact fun C d Hs' H' hc hr' hxx => hp C d Hs' H' hc (fin r1 Hs' H' hb hr') hxx
        · cases z1
  unfold heldT held at hm
  split at hm
  · rename_i d q
    exact own _ q rfl hm
  · rename_i k' xs q
    exact own _ q rfl hm
  · exact h B Hs r s t k H Q o hr hm hp
  · cases hm
theorem heldS_den {ts : TS} {m : S} {i : Nat} {fx : Nat → Bool} (h : DS g (fxAnd fx i) ts m W) : DS g fx ts (heldS i m) W := by
  intro B Hs r s t k H D fl hf hr hm hp
  have own : ∀ x, r[i]? = some x → x.owns = true → heldF i x (m (r.set i (.bw x))) = some fl → ts D s H := fun x hi hx hm => by
    have hiN : i < B.n := by rw [← hr.rn]; exact (List.getElem?_eq_some_iff.mp hi).1
    obtain ⟨hh, h1, h2⟩ := hr.hold hi hx (fxAnd fx i) (fun j z => by rw [hf] at z; show (fx j || j == i) = true; rw [z]; rfl) (fun j z => by
      rcases Bool.or_eq_true_iff.mp z with z | z
      · exact (hr.rep.fix j (by rw [hf]; exact z)).1
      · rw [eq_of_beq z]
        exact hiN) (fun j v e => by have := (hr.sx j v e).1; rw [hf] at this; show (fx j || j == i) = true; rw [this]; rfl)
    have si : ∀ (r1 : Env) (s1 : St) (t1 : Env) (k1 : St) (Hs' H' : Hp), RepT g (B.hold hh Hs (fxAnd fx i) s) Hs' r1 s1 t1 k1 H' → s1[i]? = s[i]? := fun r1 s1 t1 k1 Hs' H' hr' => by
      have z := (hr'.rep.fix i (by show (fx i || i == i) = true; simp)).2
      rw [List.getElem?_append_left (by rw [hr'.sn]; exact hiN)] at z
      exact z
    have fin : ∀ (r1 : Env) (s1 : St) (Hs' H' : Hp) (tx : Env) (kx : St), tx.length = kx.length → Sl.nbs tx = true → r1[i]? = some (.bw x) ∧ nbEx i r1 → RepT g (B.hold hh Hs (fxAnd fx i) s) Hs' r1 s1 (t ++ tx) (k ++ kx) H' → RepT g B Hs' (r1.set i x) s1 (t ++ tx) (k ++ kx) H' := fun r1 s1 Hs' H' tx kx hl hnb hb hr' =>
      h2 Hs' H' r1 s1 tx kx hl hnb hb.1 (si _ _ _ _ _ _ hr') (fun j y hj e => .inl (nbEx_get hb.2 j y hj e)) hr'
    have fin0 : ∀ (r1 : Env) (s1 : St) (Hs' H' : Hp), r1[i]? = some (.bw x) ∧ nbEx i r1 → RepT g (B.hold hh Hs (fxAnd fx i) s) Hs' r1 s1 t k H' → RepT g B Hs' (r1.set i x) s1 t k H' := fun r1 s1 Hs' H' hb hr' => by
      have w := fin r1 s1 Hs' H' [] [] rfl rfl hb (by rw [List.append_nil, List.append_nil]; exact hr')
      rw [List.append_nil, List.append_nil] at w
      exact w
    have back : ∀ (r1 r2 : Env), backS i x r1 = some r2 → (r1[i]? = some (.bw x) ∧ nbEx i r1) ∧ r2 = r1.set i x := fun r1 r2 z => by
      unfold backS at z
      split at z
      · rename_i hb
        cases z
        exact ⟨hb, rfl⟩
      · cases z
    cases q : m (r.set i (.bw x)) with
    | none =>
      rw [q] at hm
      cases hm
    | some u =>
      rw [q] at hm
      refine h (B.hold hh Hs (fxAnd fx i) s) _ _ s t k H D u rfl h1 q ?_
      cases u with
      | nx r1 =>
        obtain ⟨r2, z1, z2⟩ := Option.map_eq_some_iff.mp (show (backS i x r1).map Flow.nx = some fl from hm)
        obtain ⟨hb, rfl⟩ := back r1 r2 z1
        subst z2
        exact fun s' Hs' H' hr' => hp s' Hs' H' (fin0 r1 s' Hs' H' hb hr')
      | bk r1 =>
        obtain ⟨r2, z1, z2⟩ := Option.map_eq_some_iff.mp (show (backS i x r1).map Flow.bk = some fl from hm)
        obtain ⟨hb, rfl⟩ := back r1 r2 z1
        subst z2
        exact fun s' Hs' H' hr' => hp s' Hs' H' (fin0 r1 s' Hs' H' hb hr')
      | ct r1 =>
        obtain ⟨r2, z1, z2⟩ := Option.map_eq_some_iff.mp (show (backS i x r1).map Flow.ct = some fl from hm)
        obtain ⟨hb, rfl⟩ := back r1 r2 z1
        subst z2
        exact fun s' Hs' H' hr' => hp s' Hs' H' (fin0 r1 s' Hs' H' hb hr')
      | rt a r1 =>
        unfold heldF at hm
        dsimp only at hm
        split at hm
        · rename_i ha
          obtain ⟨r2, z1, z2⟩ := Option.map_eq_some_iff.mp hm
          obtain ⟨hb, rfl⟩ := back r1 r2 z1
          subst z2
          refine fun v s' Hs' H' hr' => hp v s' Hs' H' (fin r1 s' Hs' H' [a] [some v] rfl ?_ hb hr')
          cases a with
          | sh d => rfl
          | ow d => rfl
          | nd k xs => simpa using ha
          | no => cases ha
          | bw x => cases ha
        · cases hm
      | ex e r1 =>
        obtain ⟨r2, z1, z2⟩ := Option.map_eq_some_iff.mp (show (backS i x r1).map (Flow.ex e) = some fl from hm)
        obtain ⟨hb, rfl⟩ := back r1 r2 z1
        subst z2
        exact fun s' C d Hs' H' hc hr' hxx => hp s' C d Hs' H' hc (fin0 r1 s' Hs' H' hb hr') hxx
  unfold heldS at hm
  split at hm
  · rename_i d q
    exact own _ q rfl hm
  · rename_i k' xs q
    exact own _ q rfl hm
  · cases hm
end
section
variable {X : Cx} {cl : Cs} {fx : Nat → Bool} {W : WX} {e : Expr} {st : Stmt}
theorem pd_held (i : Nat) {m : E} (h : PD X cl W e m) : PD X cl W e (heldE i m) := by
  obtain ⟨te, h1, h2⟩ := h
  exact ⟨te, h1, held_den h2⟩
theorem psd_held (i : Nat) {m : S} (h : PSd X cl (fxAnd fx i) W st m) : PSd X cl fx W st (heldS i m) := by
  obtain ⟨te, h1, h2⟩ := h
  exact ⟨te, h1, heldS_den h2⟩
theorem ptd_held (i : Nat) {m : T} (h : PTd X cl W e m) : PTd X cl W e (heldT i m) := by
  obtain ⟨te, h1, h2⟩ := h
  exact ⟨te, h1, heldT_den h2⟩
end
end Py

/-! Obj: objects, their fields, dicts. -/
namespace Py
open PySem
/-! dicts by keys and values -/
def dGet {κ α : Type} [DecidableEq κ] : List κ → List α → κ → Option α
  | k0 :: ks, x :: xs, k => if k0 = k then some x else dGet ks xs k
  | _, _, _ => none
def dSet {κ α : Type} [DecidableEq κ] (ks : List κ) (xs : List α) (k : κ) (y : α) : List α := List.zipWith (fun k' x => if k' = k then y else x) ks xs
def dPutK {κ : Type} [DecidableEq κ] (ks : List κ) (k : κ) : List κ := if k ∈ ks then ks else ks ++ [k]
def dPutV {κ α : Type} [DecidableEq κ] (ks : List κ) (xs : List α) (k : κ) (y : α) : List α := if k ∈ ks then dSet ks xs k y else xs ++ [y]
/-! fields -/
@[simp] def fGet {α : Type} (f : Str) : List Str → List α → Option α
  | g :: fs, x :: xs => if g = f then some x else fGet f fs xs
  | _, _ => none
@[simp] def fPutF (f : Str) : List Str → List Str
  | [] => [f]
  | g :: fs => if g = f then g :: fs else g :: fPutF f fs
@[simp] def fPutX {α : Type} (f : Str) (y : α) : List Str → List α → List α
  | [], _ => [y]
  | g :: fs, x :: xs => if g = f then y :: xs else x :: fPutX f y fs xs
  | _ :: _, [] => []
/-- as it is looked at -/
@[simp] def Sl.view : Sl → Sl
  | .ow d => .bw (.ow d)
  | .nd k xs => .bw (.nd k xs)
  | x => x
@[simp] def Sl.fldB (c f : Str) : Sl → Option Sl
  | .sh (.obj c' fs ds) => if c' = c then (fGet f fs ds).map .sh else none
  | .nd (.ob c' fs) xs => if c' = c then (fGet f fs xs).map Sl.view else none
  | .bw x => Sl.fldB c f x
  | _ => none
@[simp] def Sl.fld (c f : Str) : Sl → Option Sl
  | .sh d => Sl.fldB c f (.sh d)
  | .bw x => Sl.fldB c f x
  | _ => none
/-- o.f -/
@[simp] def eFld (c f : Str) (a : A) : E := M.bind a fun x => M.get fun r => (x.sl r).fld c f
/-- self.f = e -/
@[simp] def sFldW (c f : Str) (i : Nat) (m : E) : S := sE m fun y r => match r[i]? with
  | some (.nd (.ob c' fs) xs) => if c' = c ∧ y.isV = true ∧ fs.length < 1000 then some (.nx (r.set i (.nd (.ob c (fPutF f fs)) (fPutX f y fs xs)))) else none
  | _ => none
/-- self.f[k] = e, a dict -/
@[simp] noncomputable def sFldD (c f : Str) (i : Nat) (mk : E) (m : E) : S := sE m fun y r => match r[i]? with
  | some (.nd (.ob c' fs) xs) => if c' = c then (match fGet f fs xs with
      | some (.ow (.dic ks ds)) => sE (fun r => heldO Sl.isV r i (.nd (.ob c' fs) xs) (mk (r.set i (.bw (.nd (.ob c' fs) xs))))) (fun kx r1 => match kx.get.bind keyOf, y.val with
        | some k, some d => if ds.length < lim then some (.nx (r1.set i (.nd (.ob c fs) (fPutX f (.ow (.dic (dPutK ks k) (dPutV ks ds k d))) fs xs)))) else none
        | _, _ => none) r
      | _ => none) else none
  | _ => none
/-- d[k] = e -/
@[simp] def sPutD (i : Nat) (mk : A) (m : E) : S := sE m fun y r => match (r[i]?).bind Sl.get with
  | some (.dic _ _) => sE mk (fun a r1 => match r1[i]?, (a.dat r1).bind keyOf, y.val with
    | some (.ow (.dic ks ds)), some k, some d => if ds.length < lim then some (.nx (r1.set i (.ow (.dic (dPutK ks k) (dPutV ks ds k d))))) else none
    | _, _, _ => none) r
  | _ => none
/-- d[k] -/
@[simp] def oDGet : List D → Option Sl
  | [.dic ks ds, x] => (keyOf x).bind fun k => (dGet ks ds k).map .sh
  | _ => none
/-- an object of the class c, without a field m -/
@[simp] def Sl.isOb (c m : Str) : Sl → Option Unit
  | .sh (.obj c' fs _) => if c' = c ∧ m ∉ fs then some () else none
  | .nd (.ob c' fs) _ => if c' = c ∧ m ∉ fs then some () else none
  | .bw x => Sl.isOb c m x
  | _ => none
@[simp] def asO (c m : Str) (a : A) (as : As) : As := M.bind a fun x => M.bind (M.get fun r => (x.sl r).isOb c m) fun _ => M.bind as fun xs => M.pure (x :: xs)
/-- C(..): f is its __init__ -/
@[simp] def eMake (c : Str) (f : Fn) (as : As) : E := M.bind as fun xs r =>
  if (refs xs).Nodup then
    match f (.nd (.ob c []) [] :: xs.map (Arg.hand r)) with
    | some (.ret (.sh .non) (x :: ps)) => if x.isV = true then some (.ok x (comeBack r xs ps)) else none
    | some (.ex e (_ :: ps)) => some (.ex e (comeBack r xs ps))
    | _ => none
  else none
/-- a new thing becomes shared -/
@[simp] def eShr (m : E) : E := M.bind m fun x => M.get fun _ => x.val.map .sh
end Py

/-! Obk: more operations: subscripts of dicts, methods of new things, a choice. -/
namespace Py
open PySem
/-- xs[i], also of a dict -/
@[simp] def oIxX : List D → Option Sl
  | [.dic ks ds, x] => oDGet [.dic ks ds, x]
  | ds => oIx ds
/-- e.clear(), e.append(..) of a new list -/
@[simp] def sTmp0 (m : E) : S := sE m fun x r => match x with
  | .ow (.lst _) => some (.nx r)
  | _ => none
@[simp] def sTmp1 (m n : E) : S := sE m fun x r => match x with
  | .ow (.lst ds) => sE n (fun y r1 => if y.val.isSome = true ∧ ds.length < lim then some (.nx r1) else none) r
  | _ => none
/-- [a, b, ..][i] -/
@[simp] def valsOnly : List Arg → Bool
  | [] => true
  | .v _ :: as => valsOnly as
  | .r _ :: _ => false
@[simp] def eSel (as : As) (ai : A) : E := M.bind as fun xs => if valsOnly xs = true ∧ xs.length ≤ lim then M.bind ai fun a => M.get fun r => match a.dat r with
    | some (.int z) => (ixAt xs.length z).bind fun j => (xs[j]?).bind fun x => match x with
      | .v y => if y.isV = true then some y else none
      | .r _ => none
    | _ => none
  else fun _ => none
/-- a store into a list or a dict -/
@[simp] def gSetX (i : Nat) (mi : A) : G := fun x r => match (r[i]?).bind Sl.get with
  | none => none
  | some _ => match mi r with
    | some (.ok a r1) => match r1[i]?, a.dat r1, x.val with
      | some (.ow (.lst ds)), some (.int z), some d => (ixAt ds.length z).map fun j => .nx (r1.set i (.ow (.lst (ds.set j d))))
      | some (.ow (.dic ks ds)), some kd, some d => (keyOf kd).bind fun k => if ds.length < lim then some (.nx (r1.set i (.ow (.dic (dPutK ks k) (dPutV ks ds k d))))) else none
      | _, _, _ => none
    | _ => none
/-- which things such an exception takes -/
inductive Xk where
  | n | a | t
@[simp] def Xk.chk : Xk → List D → Bool
  | .n, [.int i] => decide (i.natAbs.log2 < 1920)
  | .a, [_] => true
  | .t, [.str x, .str y] => decide (x.length + y.length ≤ 1000000)
  | _, _ => false
@[simp] def sRaiseX (c : Str) (fs : List Str) (kd : Xk) (as : As) : S := sE as fun xs r => match shds r xs with
  | some ds => if kd.chk ds = true ∧ ds.length = fs.length then some (.ex ⟨c, (fs.zip ds).reverse⟩ r) else none
  | none => none
@[simp] def wEnumX (a : A) : Wk := M.bind (asC a asN) fun xs => M.get fun r => match xs, dats r xs with
  | [.v x], some [.lst ds] => some (enumD 0 ds, [x])
  | [.v x], some [.tup ds] => some (enumD 0 ds, [x])
  | _, _ => none
/-- a, b, c = e, f, h -/
@[simp] def sPar3 (i j l : Nat) (as : As) : S := sE as fun xs r => match xs with
  | [.v x, .v y, .v z] => if i < r.length ∧ j < r.length ∧ l < r.length then some (.nx (((r.set i x).set j y).set l z)) else none
  | _ => none
/-- products: of numbers; a text or a list so many times -/
def repS (x : Str) (n : Nat) : Str := ⟨(List.replicate n x.cps.toList).flatten.toArray⟩
@[simp] def oMulX : List D → Option Sl
  | [.int i, .int j] => if mulOk i j = true then rI (i * j) else none
  | [.str x, .int n] => if 1 ≤ n ∧ n ≤ 1000 ∧ x.length ≤ 1000 then some (.sh (.str (repS x n.toNat))) else none
  | [.lst xs, .int n] => if 0 ≤ n ∧ n ≤ 1000 ∧ xs.length ≤ 1000 then some (.ow (.lst (List.replicate n.toNat xs).flatten)) else none
  | _ => none
end Py

set_option Elab.async false
set_option linter.all false
set_option maxRecDepth 100000
/-! Sx: objects: fields, methods, making. -/
namespace Py
open PySem L2
open Classical
section
variable {g : Gm} {B : Bs} {Hs : Hp} {r : Env} {s : St} {H H' : Hp} {ho : Nat → Hp}
/-- slot i takes in what slot n has -/
theorem RepH.put2 {i n : Nat} {x' : Sl} {h' : Hp} (h : RepH g B Hs ho r s H) (hi : i < r.length) (hin : i ≠ n) (hx : ∀ o, s[i]? = some o → SlO g Hs B.Hb h' x' o) (kp : ∀ a o, H a = some o → ho i a = none → ho n a = none → H' a = some o) (e : Same h' H')
    (fr : ∀ a o, h' a = some o → (∃ u, ho i a = some u) ∨ (∃ u, ho n a = some u) ∨ H a = none) : RepH g B Hs (hset (hset ho n hemp) i h') ((r.set n .no).set i x') s H' := by
  have hil : i < (r.set n .no).length := by simpa using hi
  have h2 : RepH g B Hs (hset ho n hemp) (r.set n .no) s H := by
    refine ⟨by simpa using h.len, h.big, fun j x o q1 q2 => ?_, fun j l nn => ?_, fun j => ?_, fun j => ?_, fun j => ?_, h.sh, h.fh, h.sf, h.bf, h.h0, h.fix⟩
    · by_cases hj : j = n
      · subst hj
        by_cases hlt : j < r.length
        · rw [List.getElem?_set_self hlt] at q1
          cases q1
          exact .inl rfl
        · rw [List.getElem?_eq_none (by simpa using Nat.le_of_not_lt hlt)] at q1
          cases q1
      · rw [List.getElem?_set_ne (Ne.symm hj)] at q1
        rw [hset_ne hj]
        exact h.ok j x o q1 q2
    · unfold hset
      split
      · exact dj_emp
      · split
        · exact dj_emp.symm
        · exact h.oo j l nn
    · unfold hset
      split
      · exact dj_emp
      · exact h.os j
    · unfold hset
      split
      · exact dj_emp
      · exact h.of j
    · unfold hset
      split
      · exact same_emp
      · exact h.oh j
  have ei : hset ho n hemp i = ho i := hset_ne hin
  -- what n had is free now: it goes with i
  have dj : ∀ hh, Same hh H → Dj (ho i) hh → Dj (ho n) hh → Dj h' hh := fun hh m d1 d2 a o z => by
    rcases fr a o z with ⟨u, w⟩ | ⟨u, w⟩ | w
    · exact d1 a u w
    · exact d2 a u w
    · exact same_none m w
  have km : ∀ hh, Same hh H → Dj (ho i) hh → Dj (ho n) hh → Same hh H' := fun hh m d1 d2 a o z => kp a o (m a o z) (d1.symm a o z) (d2.symm a o z)
  have dn : ∀ j, j ≠ i → Dj (ho i) (hset ho n hemp j) ∧ Dj (ho n) (hset ho n hemp j) := fun j hj => by
    unfold hset
    split
    · exact ⟨dj_emp.symm, dj_emp.symm⟩
    · rename_i hjn
      exact ⟨h.oo i j (Ne.symm hj), h.oo n j (Ne.symm hjn)⟩
  refine ⟨by have := h2.len; simpa using this, h2.big, fun j x o q1 q2 => ?_, fun j l nn => ?_, fun j => ?_, fun j => ?_, fun j => ?_, km _ h.sh (h.os i) (h.os n), km _ h.fh (h.of i) (h.of n), h.sf, h.bf, h.h0, h.fix⟩
  · by_cases hj : j = i
    · subst hj
      rw [List.getElem?_set_self hil] at q1
      cases q1
      rw [hset_same]
      exact hx o q2
    · rw [List.getElem?_set_ne (Ne.symm hj)] at q1
      rw [hset_ne hj]
      exact h2.ok j x o q1 q2
  · by_cases hj : j = i
    · subst hj
      rw [hset_same, hset_ne (Ne.symm nn)]
      exact dj _ (h2.oh l) (dn l (Ne.symm nn)).1 (dn l (Ne.symm nn)).2
    · by_cases hl : l = i
      · subst hl
        rw [hset_same, hset_ne hj]
        exact (dj _ (h2.oh j) (dn j nn).1 (dn j nn).2).symm
      · rw [hset_ne hj, hset_ne hl]
        exact h2.oo j l nn
  · by_cases hj : j = i
    · subst hj
      rw [hset_same]
      exact dj _ h.sh (h.os j) (h.os n)
    · rw [hset_ne hj]
      exact h2.os j
  · by_cases hj : j = i
    · subst hj
      rw [hset_same]
      exact dj _ h.fh (h.of j) (h.of n)
    · rw [hset_ne hj]
      exact h2.of j
  · by_cases hj : j = i
    · subst hj
      rw [hset_same]
      exact e
    · rw [hset_ne hj]
      exact km _ (h2.oh j) (dn j hj).1 (dn j hj).2
end
/-! ### fields -/
theorem fGet_zip {α β : Type} {P : α → β → Prop} {f : Str} : ∀ {fs : List Str} {xs : List α} {vs : List β} {x : α}, xs.length = vs.length → (∀ (i : Nat) (x : α) (v : β), xs[i]? = some x → vs[i]? = some v → P x v) → fGet f fs xs = some x → ∃ v, (fs.zip vs).lookup f = some v ∧ P x v
  | [], xs, vs, x, _, _, h => by simp at h
  | _ :: _, [], vs, x, _, _, h => by simp at h
  | g :: fs, y :: xs, [], x, hl, _, h => by simp at hl
  | g :: fs, y :: xs, w :: vs, x, hl, hp, h => by
    unfold fGet at h
    by_cases e : g = f
    · rw [if_pos e] at h
      cases h
      have : (f == g) = true := by simpa using e.symm
      exact ⟨w, by simp [List.zip_cons_cons, List.lookup, this], hp 0 _ _ rfl rfl⟩
    · rw [if_neg e] at h
      obtain ⟨v, h1, h2⟩ := fGet_zip (fs := fs) (xs := xs) (vs := vs) (by simpa using hl) (fun i x v a b => hp (i + 1) x v (by simpa using a) (by simpa using b)) h
      have : (f == g) = false := by simpa using fun z : f = g => e z.symm
      exact ⟨v, by simp [List.zip_cons_cons, List.lookup, this, h1], h2⟩
theorem fPut_zip {f : Str} {v : V} : ∀ {fs : List Str} {vs : List V}, fs.length = vs.length → putF f v (fs.zip vs) = (fPutF f fs).zip (fPutX f v fs vs)
  | [], [], _ => rfl
  | [], _ :: _, h => by cases h
  | _ :: _, [], h => by cases h
  | g :: fs, w :: vs, h => by
    simp only [List.zip_cons_cons, putF, fPutF, fPutX]
    by_cases e : g = f
    · rw [if_pos e, if_pos e, if_pos e]
      rfl
    · rw [if_neg e, if_neg e, if_neg e, fPut_zip (by simpa using h)]
      rfl
theorem fPut_len {α : Type} {f : Str} {y : α} : ∀ {fs : List Str} {xs : List α}, fs.length = xs.length → (fPutF f fs).length = (fPutX f y fs xs).length
  | [], [], _ => rfl
  | [], _ :: _, h => by cases h
  | _ :: _, [], h => by cases h
  | g :: fs, w :: vs, h => by
    simp only [fPutF, fPutX]
    by_cases e : g = f
    · rw [if_pos e, if_pos e]
      simpa using h
    · rw [if_neg e, if_neg e]
      simp only [List.length_cons]
      rw [fPut_len (by simpa using h : fs.length = vs.length)]
/-- where a field goes -/
def fAt (f : Str) : List Str → Nat
  | [] => 0
  | g :: fs => if g = f then 0 else fAt f fs + 1
theorem fPutX_get {α : Type} {f : Str} {y : α} : ∀ {fs : List Str} {xs : List α}, fs.length = xs.length → ∀ (j : Nat) (x : α), (fPutX f y fs xs)[j]? = some x → (j = fAt f fs ∧ x = y) ∨ (j ≠ fAt f fs ∧ xs[j]? = some x)
  | [], [], _, j, x, h => by
    cases j with
    | zero =>
      simp at h
      exact .inl ⟨rfl, h.symm⟩
    | succ j => simp at h
  | [], _ :: _, h, _, _, _ => by cases h
  | _ :: _, [], h, _, _, _ => by cases h
  | g :: fs, w :: vs, hl, j, x, h => by
    simp only [fPutX] at h
    unfold fAt
    by_cases e : g = f
    · rw [if_pos e] at h ⊢
      cases j with
      | zero =>
        simp at h
        exact .inl ⟨rfl, h.symm⟩
      | succ j => exact .inr ⟨by omega, by simpa using h⟩
    · rw [if_neg e] at h ⊢
      cases j with
      | zero => exact .inr ⟨by omega, by simpa using h⟩
      | succ j =>
        rcases fPutX_get (fs := fs) (xs := vs) (by simpa using hl) j x (by simpa using h) with ⟨a, b⟩ | ⟨a, b⟩
        · exact .inl ⟨by omega, b⟩
        · exact .inr ⟨by omega, by simpa using b⟩
theorem fGet_at {α : Type} {f : Str} : ∀ {fs : List Str} {xs : List α} {x : α}, fGet f fs xs = some x → xs[fAt f fs]? = some x ∧ fAt f fs < fs.length
  | [], xs, x, h => by simp at h
  | _ :: _, [], x, h => by simp at h
  | g :: fs, y :: xs, x, h => by
    unfold fGet at h
    unfold fAt
    by_cases e : g = f
    · rw [if_pos e] at h ⊢
      exact ⟨by simpa using h, by simp⟩
    · rw [if_neg e] at h ⊢
      obtain ⟨a, b⟩ := fGet_at h
      exact ⟨by simpa using a, by simp; omega⟩
theorem nbs_put {f : Str} {y : Sl} (hy : y.nb = true) : ∀ {fs : List Str} {xs : List Sl}, Sl.nbs xs = true → Sl.nbs (fPutX f y fs xs) = true
  | [], _, _ => by simp [hy]
  | _ :: _, [], _ => rfl
  | g :: fs, x :: xs, h => by
    simp only [Sl.nbs, Bool.and_eq_true] at h
    simp only [fPutX]
    split
    · simp [hy, h.2]
    · simp [h.1, nbs_put hy (fs := fs) h.2]
theorem BwVs.len {g : Gm} {Hs Hb : Hp} : ∀ {xs : List Sl} {vs : List V}, BwVs g Hs Hb xs vs → xs.length = vs.length
  | [], [], _ => rfl
  | [], _ :: _, h => by simp only [BwVs] at h
  | _ :: _, [], h => by simp only [BwVs] at h
  | x :: xs, v :: vs, h => by
    simp only [BwVs] at h
    simp [BwVs.len h.2]
section
variable {g : Gm} {Hs Hb : Hp}
theorem BwV.view {x : Sl} {v : V} (h : BwV g Hs Hb x v) : SlV g Hs Hb hemp x.view v := by
  cases x with
  | no => simp only [Sl.view, SlV]
  | sh d =>
    simp only [BwV] at h
    simp only [Sl.view, SlV]
    exact h
  | ow d =>
    simp only [Sl.view, SlV]
    exact h
  | nd k xs =>
    simp only [Sl.view, SlV]
    exact h
  | bw x =>
    simp only [BwV] at h
    simp only [Sl.view, SlV]
    exact h
theorem BwV.fld {H : Hp} {c f : Str} {C : Addr} (hc : g.cl c = some C) (b : Same Hb H) (e : Same Hs H) : ∀ {x y : Sl} {v : V}, BwV g Hs Hb x v → Sl.fldB c f x = some y → ∃ p dx fs w, v = .ref p ∧ H p = some (.ins C dx fs) ∧ fs.lookup f = some w ∧ SlV g Hs Hb hemp y w
  | .no, y, v, _, q => by cases q
  | .sh d, y, v, h, q => by
    cases d with
    | obj c' fs ds =>
      simp only [Sl.fldB] at q
      by_cases hcc : c' = c
      · rw [if_pos hcc] at q
        subst hcc
        obtain ⟨d, q1, q2⟩ := Option.map_eq_some_iff.mp q
        subst q2
        simp only [BwV] at h
        cases h with
        | obj h1 h2 h3 h4 =>
          rw [hc] at h1
          cases h1
          obtain ⟨w, w1, w2⟩ := fGet_zip (P := fun d v => R g Hs v d) (fs := fs) (xs := ds) h4.length.symm (fun i d v a b => by
            obtain ⟨v', z1, z2⟩ := h4.get a
            rw [b] at z1
            cases z1
            exact z2) q1
          exact ⟨_, _, _, w, rfl, e _ _ h2, w1, by simp only [SlV]; exact w2⟩
      · rw [if_neg hcc] at q
        cases q
    | _ => cases q
  | .ow d, y, v, _, q => by cases q
  | .nd k xs, y, v, h, q => by
    cases k with
    | ob c' fs =>
      simp only [Sl.fldB] at q
      by_cases hcc : c' = c
      · rw [if_pos hcc] at q
        subst hcc
        obtain ⟨x, q1, q2⟩ := Option.map_eq_some_iff.mp q
        subst q2
        simp only [BwV] at h
        obtain ⟨p, o, vs, rfl, h1, h2, h3⟩ := h
        obtain ⟨C', dx, z1, z2, rfl⟩ := h2
        rw [hc] at z1
        cases z1
        have hl : xs.length = vs.length := h3.len
        obtain ⟨w, w1, w2⟩ := fGet_zip (P := fun x v => BwV g Hs Hb x v) (fs := fs) (xs := xs) hl (fun i x v a b => by
          obtain ⟨v', z1, z2⟩ := h3.at i x a
          rw [b] at z1
          cases z1
          exact z2) q1
        exact ⟨p, dx, _, w, rfl, h1.elim (e _ _) (b _ _), w1, w2.view⟩
      · rw [if_neg hcc] at q
        cases q
    | _ => cases q
  | .bw x, y, v, h, q => by
    simp only [BwV] at h
    simp only [Sl.fldB] at q
    exact BwV.fld hc b e (x := x) h q
theorem SlO.fld {H h : Hp} {c f : Str} {C : Addr} (hc : g.cl c = some C) (b : Same Hb H) (e : Same Hs H) {x y : Sl} {o : Option V} (hx : SlO g Hs Hb h x o) (q : x.fld c f = some y) : ∃ p dx fs w, o = some (.ref p) ∧ H p = some (.ins C dx fs) ∧ fs.lookup f = some w ∧ SlV g Hs Hb hemp y w := by
  rcases hx with rfl | ⟨v, rfl, hx⟩
  · cases q
  · cases x with
    | no => cases q
    | sh d =>
      simp only [SlV] at hx
      obtain ⟨p, dx, fs, w, rfl, z⟩ := BwV.fld (x := .sh d) hc b e (by simp only [BwV]; exact hx) q
      exact ⟨p, dx, fs, w, rfl, z⟩
    | ow d => cases q
    | nd k xs => cases q
    | bw x =>
      simp only [SlV] at hx
      obtain ⟨p, dx, fs, w, rfl, z⟩ := BwV.fld (x := x) hc b e hx q
      exact ⟨p, dx, fs, w, rfl, z⟩
end
section
variable {g : Gam} {B : Bs} {Hs : Hp} {r : Env} {s : St} {t t' : Env} {k k' : St} {H : Hp} {W : WX}
theorem RepT.slO (h : RepT g B Hs r s t k H) {i : Nat} {x : Sl} (hi : r[i]? = some x) : ∃ o hh, s[i]? = some o ∧ Same hh H ∧ SlO g Hs B.Hb hh x o := by
  have hil := (List.getElem?_eq_some_iff.mp hi).1
  obtain ⟨ho, q⟩ := h.rep
  obtain ⟨o, hs⟩ : ∃ o, s[i]? = some o := ⟨s[i]'(h.lt hi), List.getElem?_eq_getElem (h.lt hi)⟩
  exact ⟨o, ho i, hs, q.oh i, q.ok i _ o (by rw [List.getElem?_append_left hil]; exact hi) (by rw [List.getElem?_append_left (h.lt hi)]; exact hs)⟩
theorem RepT.tO {x : Sl} {o : Option V} (h : RepT g B Hs r s (t ++ [x]) (k ++ [o]) H) : ∃ hh, Same hh H ∧ SlO g Hs B.Hb hh x o := by
  have hl : t.length = k.length := by have := h.tk; simpa using this
  have h' : RepT g B Hs r s (t ++ [x] ++ []) (k ++ [o] ++ []) H := by simpa using h
  obtain ⟨e1, e2⟩ := h'.tix hl
  obtain ⟨ho, q⟩ := h'.rep
  exact ⟨_, q.oh _, q.ok _ _ _ e1 e2⟩
theorem ArgOk.slO {v : V} {a : Arg} (h : ArgOk g B Hs r s t k H v a) (ha : ∀ i, a = .r i → ∃ x, r[i]? = some x) : ∃ hh, Same hh H ∧ SlO g Hs B.Hb hh (a.sl r) (some v) := by
  cases a with
  | r i =>
    obtain ⟨x, hx⟩ := ha i rfl
    obtain ⟨h1, h2⟩ := h
    obtain ⟨o, hh, e1, e2, e3⟩ := h2.slO hx
    rw [h1] at e1
    cases e1
    refine ⟨hh, e2, ?_⟩
    show SlO _ _ _ _ ((r[i]?).getD .no) _
    rw [hx]
    exact e3
  | v x => exact RepT.tO h
theorem ArgOk.rep {v : V} {a : Arg} (h : ArgOk g B Hs r s t k H v a) : RepT g B Hs r s t k H := by
  cases a with
  | r i => exact h.2
  | v x => exact RepT.pop h
end
section
variable {X : Cx} {cl : Cs} {fx : Nat → Bool} {W : WX} {e o value : Expr} {pos p2 pos' : Pos} {x : Str}
/-- o.f -/
theorem pd_fld {c f : Str} {C : Addr} {a : A} (hcl : cl.c c = some C) (hC : Cls X.K C) (hf : NoAttr X.K C f) (ho : PO X cl W o a) (hb : attributeBase o f X.env (eval o X.env) = eval o X.env := by rfl) : PD X cl W (.Attribute o f pos) (eFld c f a) := by
  obtain ⟨ta, h1, h2⟩ := ho
  refine ⟨_, pe_fld h1 hb, fun B Hs r s t k H Q oo hr hm hp => ?_⟩
  rcases bind_cases hm with ⟨y, r1, q1, q2⟩ | ⟨ee, r1, q1, q2⟩
  · refine h2 B Hs r s t k H _ _ hr q1 fun v Hs1 H1 ha => ?_
    unfold M.get at q2
    dsimp only at q2
    cases q3 : (y.sl r1).fld c f with
    | none =>
      rw [q3] at q2
      cases q2
    | some z =>
      rw [q3] at q2
      cases q2
      have hr1 := ha.rep
      obtain ⟨hh, e1, e2⟩ := ha.slO fun i hi => by
        subst hi
        cases q4 : r1[i]? with
        | none =>
          rw [show (Arg.r i).sl r1 = (r1[i]?).getD .no from rfl, q4] at q3
          cases q3
        | some x => exact ⟨x, rfl⟩
      obtain ⟨p, dx, fs, w, z1, z2, z3, z4⟩ := e2.fld (c := c) (C := C) hcl hr1.rep.bh hr1.shH q3
      cases z1
      exact ⟨p, C, dx, fs, w, rfl, z2, hC, hf, z3, hp w _ _ (hr1.pushX (.inr ⟨w, rfl, z4⟩))⟩
  · subst q2
    exact h2 B Hs r s t k H _ _ hr q1 hp
/-- a new thing becomes shared -/
theorem pd_shr {m : E} (h : PD X cl W e m) : PD X cl W e (eShr m) := by
  obtain ⟨te, h1, h2⟩ := h
  refine ⟨te, h1, fun B Hs r s t k H Q oo hr hm hp => ?_⟩
  rcases bind_cases hm with ⟨y, r1, q1, q2⟩ | ⟨ee, r1, q1, q2⟩
  · refine h2 B Hs r s t k H _ _ hr q1 fun v Hs1 H1 hr1 => ?_
    unfold M.get at q2
    dsimp only at q2
    cases q3 : y.val with
    | none =>
      rw [q3] at q2
      cases q2
    | some d =>
      rw [q3] at q2
      cases q2
      obtain ⟨Hs2, m2, hr2, rd⟩ := RepT.tdem (t := t) (t' := []) (k := k) (k' := []) hr1 hr.tk q3
      exact hp v Hs2 H1 hr2
  · subst q2
    exact h2 B Hs r s t k H _ _ hr q1 hp
end
end Py

set_option Elab.async false
set_option linter.all false
set_option maxRecDepth 100000
/-! Sy: stores into fields and dicts; methods; making. -/
namespace Py
open PySem L2
open Classical
/-! ### dicts -/
theorem zip_dSet {κ : Type} [DecidableEq κ] {α : Type} (k : κ) (y : α) : ∀ (ks : List κ) (xs : List α), ks.zip (dSet ks xs k y) = (ks.zip xs).map fun kv => if kv.1 = k then (kv.1, y) else kv
  | [], _ => rfl
  | _ :: _, [] => rfl
  | k0 :: ks, x :: xs => by
    have ih := zip_dSet k y ks xs
    unfold dSet at ih ⊢
    simp only [List.zipWith_cons_cons, List.zip_cons_cons, List.map_cons]
    rw [ih]
    by_cases e : k0 = k
    · rw [if_pos e, if_pos e]
    · rw [if_neg e, if_neg e]
theorem any_key {κ : Type} [DecidableEq κ] {α : Type} (k : κ) : ∀ (ks : List κ) (xs : List α), ks.length = xs.length → ((ks.zip xs).any fun kv => decide (kv.1 = k)) = decide (k ∈ ks)
  | [], _, _ => rfl
  | _ :: _, [], h => by cases h
  | k0 :: ks, x :: xs, h => by
    have ih := any_key k ks xs (by simpa using h)
    rw [List.zip_cons_cons, List.any_cons, ih]
    by_cases e : k0 = k
    · subst e
      simp
    · have e2 : ¬ k = k0 := fun z => e z.symm
      simp [e, e2]
theorem zip_app {κ α : Type} {k : κ} {y : α} : ∀ {ks : List κ} {xs : List α}, ks.length = xs.length → (ks ++ [k]).zip (xs ++ [y]) = ks.zip xs ++ [(k, y)]
  | [], [], _ => rfl
  | [], _ :: _, h => by cases h
  | _ :: _, [], h => by cases h
  | k0 :: ks, x :: xs, h => by
    simp only [List.cons_append, List.zip_cons_cons]
    rw [zip_app (by simpa using h)]
theorem putK_zip {ks : List Key} {xs : List V} {k : Key} {v : V} (h : ks.length = xs.length) : putK (ks.zip xs) k v = (dPutK ks k).zip (dPutV ks xs k v) := by
  unfold putK dPutK dPutV
  rw [any_key k ks xs h]
  by_cases e : k ∈ ks
  · rw [if_pos (by simpa using e), if_pos e, if_pos e, zip_dSet]
  · rw [if_neg (by simpa using e), if_neg e, if_neg e, zip_app h]
theorem dPut_len {κ : Type} [DecidableEq κ] {α : Type} {ks : List κ} {xs : List α} {k : κ} {y : α} (h : ks.length = xs.length) : (dPutK ks k).length = (dPutV ks xs k y).length := by
  unfold dPutK dPutV
  split
  · unfold dSet
    simp [h]
  · simp [h]
theorem RA.dSet {g : Gm} {H : Hp} {v : V} {d : D} (hv : R g H v d) (k : Key) : ∀ {ks : List Key} {vs : List V} {ds : List D}, RA g H vs ds → RA g H (Py.dSet ks vs k v) (Py.dSet ks ds k d)
  | [], _, _, _ => by
    unfold Py.dSet
    exact .nil
  | _ :: _, _, _, .nil => by
    unfold Py.dSet
    exact .nil
  | k0 :: ks, _, _, .cons h t => by
    have ih := RA.dSet hv k (ks := ks) t
    unfold Py.dSet at ih ⊢
    simp only [List.zipWith_cons_cons]
    refine .cons ?_ ih
    by_cases e : k0 = k
    · rw [if_pos e, if_pos e]
      exact hv
    · rw [if_neg e, if_neg e]
      exact h
theorem RA.dPut {g : Gm} {H : Hp} {v : V} {d : D} (hv : R g H v d) (k : Key) {ks : List Key} {vs : List V} {ds : List D} (h : RA g H vs ds) : RA g H (dPutV ks vs k v) (dPutV ks ds k d) := by
  unfold dPutV
  split
  · exact h.dSet hv k
  · exact h.append (.cons hv .nil)
theorem keyOf_v {g : Gm} {Hs H : Hp} {v : V} {d : D} {k : Key} (h : RC g Hs H v d) (hk : keyOf d = some k) : v = kV k := keyOf_kV h hk
section
variable {X : Cx} {cl : Cs} {fx : Nat → Bool} {W : WX} {e o ei value : Expr} {pos p2 pos' : Pos} {x : Str}
/-- the end of d[k] = v -/
theorem po_key {g : Gam} {B : Bs} {Hs : Hp} {r : Env} {s : St} {t : Env} {k : St} {H : Hp} {v : V} {a : Arg} {kk : Key} (h : ArgOk g B Hs r s t k H v a) (hk : (a.dat r).bind keyOf = some kk) : v = kV kk ∧ RepT g B Hs r s t k H := by
  obtain ⟨d, h1, h2⟩ := Option.bind_eq_some_iff.mp hk
  obtain ⟨c1, c2⟩ := h.dat h1
  exact ⟨keyOf_kV c1 h2, c2⟩
/-- d[k] = e, d a name -/
theorem psd_putD {i : Nat} {mk : A} {m : E} (hu : X.A.units + 1 < cLine) (ho : PE X (.Name x p2) (tVar i)) (hi : PO X cl W ei mk) (hv : PD X cl W value m) (hs : swapsWith value (some (.Subscript (.Name x p2) ei pos')) pos.line X.env = pure false := by rfl) :
    PSd X cl fx W (.Assign [.Subscript (.Name x p2) ei pos'] value pos) (sPutD i mk m) := by
  obtain ⟨tv, h1, h2⟩ := hv
  obtain ⟨ti, h3, h4⟩ := hi
  refine ⟨_, ps_dput hu ho h3 h1 hs, fun B Hs r s t k H D fl hf hr hm hp => ?_⟩
  rcases sE_cases hm with ⟨y, r1, q1, q2⟩ | ⟨ee, r1, q1, q2⟩
  · refine h2 B Hs r s t k H _ _ hr q1 fun v Hs1 H1 hr1 => ?_
    split at q2
    · rename_i ks0 ds0 q3
      obtain ⟨y0, qa, qb⟩ := Option.bind_eq_some_iff.mp q3
      obtain ⟨v0, ea, _⟩ := hr1.rc qa qb
      refine ⟨v0, ea, ?_⟩
      rcases sE_cases q2 with ⟨a, r2, q4, q5⟩ | ⟨ee, r2, q4, q5⟩
      · refine h4 B Hs1 r1 s (t ++ [y]) (k ++ [some v]) H1 _ _ hr1 q4 fun iv Hs2 H2 ao => ?_
        split at q5
        · rename_i ks ds kk d q6 q7 q8
          split at q5
          · rename_i hlen
            cases q5
            obtain ⟨e1, c2⟩ := po_key ao q7
            subst e1
            obtain ⟨Hs3, _, c3, rv⟩ := AV.shared (as := [.v y]) (.v .nil) c2 hr.tk (by unfold shds; rw [show (Arg.v y).shd r2 = some d from q8]; rfl)
            obtain ⟨p, o1, f1, f2, xs, n1, n2, n3⟩ := c3.ow q6
            rw [ea] at f1
            cases f1
            subst n1
            cases rv with
            | cons rv _ =>
              refine ⟨p, _, rfl, DPut.k f2 (by rw [List.length_zip, n2, Nat.min_self, n3.length]; exact hlen), ?_⟩
              rw [putK_zip n2]
              exact hp _ _ _ (c3.write q6 ea ⟨_, rfl, dPut_len n2, n3.dPut rv kk⟩)
          · cases q5
        · cases q5
      · subst q5
        exact h4 B Hs1 r1 s (t ++ [y]) (k ++ [some v]) H1 _ _ hr1 q4 (PostX.drop hr.tk (hp s))
    · cases q2
  · subst q2
    exact h2 B Hs r s t k H _ _ hr q1 (hp s)
/-- an owned object -/
theorem RepT.ndo {g : Gam} {B : Bs} {Hs : Hp} {r : Env} {s : St} {t : Env} {k : St} {H : Hp} {i : Nat} {c : Str} {C : Addr} {fs : List Str} {xs : List Sl} (hc : g.m.cl c = some C) (h : RepT g B Hs r s t k H) (hi : r[i]? = some (.nd (.ob c fs) xs)) :
    ∃ p dx vs, ∃ ho hc : Nat → Hp, RepH g B Hs ho (r ++ t) (s ++ k) H ∧ s[i]? = some (some (.ref p)) ∧ ho i p = some (.ins C dx (fs.zip vs)) ∧ fs.length = vs.length ∧ (∀ j, Same (hc j) (ho i) ∧ hc j p = none) ∧ (∀ j l, j ≠ l → Dj (hc j) (hc l)) ∧ Sl.nbs xs = true ∧ SlVs g Hs B.Hb hc xs vs := by
  have hil := (List.getElem?_eq_some_iff.mp hi).1
  obtain ⟨ho, q⟩ := h.rep
  obtain ⟨o, hs⟩ : ∃ o, s[i]? = some o := ⟨s[i]'(h.lt hi), List.getElem?_eq_getElem (h.lt hi)⟩
  rcases q.ok i _ o (by rw [List.getElem?_append_left hil]; exact hi) (by rw [List.getElem?_append_left (h.lt hi)]; exact hs) with z | ⟨v, e, z⟩
  · cases z
  · subst e
    simp only [SlV] at z
    obtain ⟨p, o, vs, hcc, rfl, z1, z2, z3, z4, z5, z6⟩ := z
    obtain ⟨C', dx, w1, w2, rfl⟩ := z2
    rw [hc] at w1
    cases w1
    exact ⟨p, dx, vs, ho, hcc, q, hs, z1, w2, z3, z4, z5, z6⟩
theorem isV_nb {y : Sl} (h : y.isV = true) : y.nb = true := by
  cases y with
  | no => cases h
  | sh d => rfl
  | ow d => rfl
  | nd k xs => exact h
  | bw x => cases h
/-- self.f = e -/
theorem psd_fldW {c f : Str} {C : Addr} {i : Nat} {m : E} (hcl : cl.c c = some C) (hC : Cls X.K C) (hf : NoAttr X.K C f) (ho : PE X (.Name x p2) (tVar i)) (hv : PD X cl W value m) (hs : swapsWith value (some (.Attribute (.Name x p2) f pos')) pos.line X.env = pure false := by rfl) :
    PSd X cl fx W (.Assign [.Attribute (.Name x p2) f pos'] value pos) (sFldW c f i m) := by
  obtain ⟨tv, h1, h2⟩ := hv
  refine ⟨_, ps_fld ho h1 hs, fun B Hs r s t k H D fl hfx hr hm hp => ?_⟩
  rcases sE_cases hm with ⟨y, r1, q1, q2⟩ | ⟨ee, r1, q1, q2⟩
  · refine h2 B Hs r s t k H _ _ hr q1 fun v Hs1 H1 hr1 => ?_
    split at q2
    · rename_i c' fs xs q3
      split at q2
      · rename_i hcond
        obtain ⟨hcc, hyv, hlen⟩ := hcond
        subst hcc
        cases q2
        obtain ⟨p, dx, vs, ho1, hc, q, es, z1, z2, z3, z4, z5, z6⟩ := hr1.ndo (C := C) hcl q3
        have hil := (List.getElem?_eq_some_iff.mp q3).1
        refine ⟨_, es, p, C, dx, fs.zip vs, rfl, q.oh i _ _ z1, hC, hf, by rw [List.length_zip]; omega, ?_⟩
        rw [fPut_zip z2]
        refine hp s Hs1 _ ?_
        -- the new state
        have hl : t.length = k.length := hr.tk
        have el := hr1.el
        obtain ⟨n, en⟩ : ∃ n, n = r1.length + t.length := ⟨_, rfl⟩
        have ixn : (r1 ++ (t ++ [y]))[n]? = some y := by rw [en, List.getElem?_append_right (by omega), Nat.add_sub_cancel_left]; simp
        have ixs : (s ++ (k ++ [some v]))[n]? = some (some v) := by rw [en, List.getElem?_append_right (by omega), el, Nat.add_sub_cancel_left, hl]; simp
        have hin : i ≠ n := by omega
        have ok : SlO (gm X cl) Hs1 B.Hb (ho1 n) y (some v) := q.ok n y (some v) ixn ixs
        have okv : SlV (gm X cl) Hs1 B.Hb (ho1 n) y v := by
          rcases ok with z | ⟨v', e, z⟩
          · subst z
            cases hyv
          · cases e
            exact z
        have dd : Dj (upd (ho1 i) p (HO.ins C dx ((fPutF f fs).zip (fPutX f v fs vs)))) (ho1 n) := fun a u z => by
          rcases upd_some z with ⟨rfl, _⟩ | ⟨_, z⟩
          · exact q.oo i n hin _ _ z1
          · exact q.oo i n hin a u z
        have pn : ho1 n p = none := q.oo i n hin _ _ z1
        have lenX : xs.length = vs.length := z6.len
        have put := q.put2 (i := i) (n := n) (x' := .nd (.ob c' (fPutF f fs)) (fPutX f y fs xs)) (h' := hor (upd (ho1 i) p (HO.ins C dx ((fPutF f fs).zip (fPutX f v fs vs)))) (ho1 n)) (H' := upd H1 p (HO.ins C dx ((fPutF f fs).zip (fPutX f v fs vs)))) (by simp; omega) hin (fun o ho => ?_) (fun a o z w1 w2 => ?_) (hor_same (same_upd2 (q.oh i)) fun a o z => ?_) (fun a o z => ?_)
        · have e1 : ((r1 ++ (t ++ [y])).set n .no).set i (.nd (.ob c' (fPutF f fs)) (fPutX f y fs xs)) = r1.set i (.nd (.ob c' (fPutF f fs)) (fPutX f y fs xs)) ++ (t ++ [.no]) := by
            have e0 : (r1 ++ (t ++ [y])).set n .no = r1 ++ (t ++ [.no]) := by
              rw [en, List.set_append_right _ _ (by omega), Nat.add_sub_cancel_left]
              have : (t ++ [y]).set t.length .no = t ++ [.no] := by
                rw [List.set_append_right _ _ (Nat.le_refl _), Nat.sub_self]
                rfl
              rw [this]
            rw [e0, List.set_append_left _ _ hil]
          rw [e1] at put
          have rt : RepT (gm X cl) B Hs1 (r1.set i (.nd (.ob c' (fPutF f fs)) (fPutX f y fs xs))) s (t ++ [.no]) (k ++ [some v]) _ := ⟨by simp [hr1.rn], hr1.sn, by simp [hl], ⟨_, put⟩, hr1.sx⟩
          exact rt.pop
        · have ho2 : o = some (.ref p) := by
            rw [List.getElem?_append_left (by omega), es] at ho
            exact (Option.some.inj ho).symm
          subst ho2
          refine .inr ⟨_, rfl, ?_⟩
          simp only [SlV]
          refine ⟨p, _, fPutX f v fs vs, fun j => if j = fAt f fs then ho1 n else hc j, rfl, hor_l _ _ upd_same, ⟨C, dx, hcl, fPut_len z2, rfl⟩, fun j => ?_, fun j l n' => ?_, nbs_put (isV_nb hyv) z5, ?_⟩
          · dsimp only
            split
            · exact ⟨hor_r dd, pn⟩
            · exact ⟨fun a u z => hor_l _ _ (by rw [upd_ne (fun w => by rw [w, (z3 j).2] at z; cases z)]; exact (z3 j).1 a u z), (z3 j).2⟩
          · dsimp only
            split
            · split
              · omega
              · exact ((q.oo i n hin).mono (z3 l).1 same_rfl).symm
            · split
              · exact (q.oo i n hin).mono (z3 j).1 same_rfl
              · exact z4 j l n'
          · refine SlVs.of ?_ fun j x w e1 e2 => ?_
            · rw [← fPut_len (by omega : fs.length = xs.length), fPut_len z2]
            · rcases fPutX_get (by omega : fs.length = xs.length) j x e1 with ⟨a1, a2⟩ | ⟨a1, a2⟩
              · rcases fPutX_get z2 j w e2 with ⟨b1, b2⟩ | ⟨b1, b2⟩
                · rw [if_pos a1, a2, b2]
                  exact okv
                · exact absurd a1 b1
              · rcases fPutX_get z2 j w e2 with ⟨b1, b2⟩ | ⟨b1, b2⟩
                · exact absurd b1 a1
                · rw [if_neg a1]
                  exact z6.at j x w a2 b2
        · rw [upd_ne (fun e => by rw [e, z1] at w1; cases w1)]
          exact z
        · rw [upd_ne (fun e => by rw [e, pn] at z; cases z)]
          exact q.oh n a o z
        · rcases hor_cases z with z | z
          · rcases upd_some z with ⟨rfl, _⟩ | ⟨_, z⟩
            · exact .inl ⟨_, z1⟩
            · exact .inl ⟨_, z⟩
          · exact .inr (.inl ⟨_, z⟩)
      · cases q2
    · cases q2
  · subst q2
    exact h2 B Hs r s t k H _ _ hr q1 (hp s)
theorem fGet_zipAt {α β : Type} {f : Str} : ∀ {fs : List Str} {xs : List α} {vs : List β} {x : α}, fGet f fs xs = some x → xs.length = vs.length → ∃ w, vs[fAt f fs]? = some w ∧ (fs.zip vs).lookup f = some w ∧ xs[fAt f fs]? = some x
  | [], xs, vs, x, h, _ => by simp at h
  | _ :: _, [], vs, x, h, _ => by simp at h
  | g :: fs, y :: xs, [], x, _, hl => by simp at hl
  | g :: fs, y :: xs, w :: vs, x, h, hl => by
    unfold fGet at h
    unfold fAt
    by_cases e : g = f
    · rw [if_pos e] at h
      cases h
      rw [if_pos e]
      have : (f == g) = true := by simpa using e.symm
      exact ⟨w, rfl, by simp [List.zip_cons_cons, List.lookup, this], rfl⟩
    · rw [if_neg e] at h
      rw [if_neg e]
      obtain ⟨v, h1, h2, h3⟩ := fGet_zipAt (fs := fs) (xs := xs) (vs := vs) h (by simpa using hl)
      have : (f == g) = false := by simpa using fun z : f = g => e z.symm
      exact ⟨v, by simpa using h1, by simp [List.zip_cons_cons, List.lookup, this, h2], by simpa using h3⟩
theorem fPutF_len {α : Type} {f : Str} : ∀ {fs : List Str} {xs : List α} {x : α}, fGet f fs xs = some x → (fPutF f fs).length = fs.length
  | [], xs, x, h => by simp at h
  | _ :: _, [], x, h => by simp at h
  | g :: fs, y :: xs, x, h => by
    unfold fGet at h
    simp only [fPutF]
    by_cases e : g = f
    · rw [if_pos e]
    · rw [if_neg e] at h ⊢
      simp [fPutF_len h]
/-- a field's own list or dict is changed -/
theorem RepT.child {g : Gam} {B : Bs} {Hs : Hp} {r : Env} {s : St} {t : Env} {k : St} {H : Hp} {i : Nat} {c f : Str} {C : Addr} {fs : List Str} {xs : List Sl} {d : D} (hcl : g.m.cl c = some C) (h : RepT g B Hs r s t k H) (hi : r[i]? = some (.nd (.ob c fs) xs)) (hg : fGet f fs xs = some (.ow d)) :
    ∃ p dx vs b o, s[i]? = some (some (.ref p)) ∧ H p = some (.ins C dx (fs.zip vs)) ∧ (fs.zip vs).lookup f = some (.ref b) ∧ H b = some o ∧ NodeO g Hs o d ∧
      ∀ d' o', NodeO g Hs o' d' → RepT g B Hs (r.set i (.nd (.ob c fs) (fPutX f (.ow d') fs xs))) s t k (upd H b o') := by
  obtain ⟨p, dx, vs, ho, hc, q, es, z1, z2, z3, z4, z5, z6⟩ := h.ndo hcl hi
  have hil := (List.getElem?_eq_some_iff.mp hi).1
  have lenX : xs.length = vs.length := z6.len
  obtain ⟨w, w1, w2, w3⟩ := fGet_zipAt hg lenX
  have cv := z6.at _ _ _ w3 w1
  simp only [SlV] at cv
  obtain ⟨b, o, rfl, c1, c2⟩ := cv
  have hb : ho i b = some o := (z3 _).1 b o c1
  have hbp : b ≠ p := fun e => by
    rw [e, (z3 _).2] at c1
    cases c1
  refine ⟨p, dx, vs, b, o, es, q.oh i _ _ z1, w2, q.oh i _ _ hb, c2, fun d' o' hn => ?_⟩
  have put := q.put (i := i) (x' := .nd (.ob c fs) (fPutX f (.ow d') fs xs)) (h' := upd (ho i) b o') (H' := upd H b o') (by simp; omega) (fun oo hoo => ?_) (fun a u z1 z2 => ?_) (same_upd2 (q.oh i)) (fun a u z => ?_)
  · rw [List.set_append_left _ _ hil] at put
    exact ⟨by simp [h.rn], h.sn, h.tk, ⟨_, put⟩, h.sx⟩
  · have ho2 : oo = some (.ref p) := by
      rw [List.getElem?_append_left (by have := h.el; omega), es] at hoo
      exact (Option.some.inj hoo).symm
    subst ho2
    refine .inr ⟨_, rfl, ?_⟩
    simp only [SlV]
    refine ⟨p, _, vs, fun j => if j = fAt f fs then upd (hc j) b o' else hc j, rfl, (by rw [upd_ne (Ne.symm hbp)]; exact z1), ⟨C, dx, hcl, z2, rfl⟩, fun j => ?_, fun j l n' => ?_, nbs_put rfl z5, ?_⟩
    · dsimp only
      split
      · exact ⟨same_upd2 (z3 j).1, by rw [upd_ne (Ne.symm hbp)]; exact (z3 j).2⟩
      · rename_i hj
        refine ⟨fun a u z => ?_, (z3 j).2⟩
        have : a ≠ b := fun e => by
          subst e
          exact (z4 j _ hj).ne z c1
        rw [upd_ne this]
        exact (z3 j).1 a u z
    · have key : ∀ j l, j ≠ l → Dj (upd (hc (fAt f fs)) b o') (hc l) ∨ l = fAt f fs := fun j l n => by
        by_cases hl : l = fAt f fs
        · exact .inr hl
        · refine .inl fun a u z => ?_
          rcases upd_some z with ⟨rfl, _⟩ | ⟨_, z⟩
          · exact z4 _ l (Ne.symm hl) _ _ c1
          · exact z4 _ l (Ne.symm hl) a u z
      dsimp only
      split
      · rename_i hj
        split
        · omega
        · rename_i hl
          rw [hj]
          exact (key (l + 1) l (by omega)).elim id fun z => absurd z hl
      · rename_i hj
        split
        · rename_i hl
          rw [hl]
          exact ((key (j + 1) j (by omega)).elim id fun z => absurd z hj).symm
        · exact z4 j l n'
    · refine SlVs.of ?_ fun j x w' e1 e2 => ?_
      · rw [← fPut_len (f := f) (y := Sl.ow d') (by omega : fs.length = xs.length)]
        have := fPutF_len hg
        omega
      · rcases fPutX_get (by omega : fs.length = xs.length) j x e1 with ⟨a1, a2⟩ | ⟨a1, a2⟩
        · rw [if_pos a1, a2]
          rw [a1, w1] at e2
          cases e2
          simp only [SlV]
          exact ⟨b, o', rfl, upd_same, hn⟩
        · rw [if_neg a1]
          exact z6.at j x w' a2 e2
  · rw [upd_ne (fun e => by rw [e, hb] at z2; cases z2)]
    exact z1
  · rcases upd_some z with ⟨rfl, _⟩ | ⟨_, z⟩
    · exact .inl ⟨_, hb⟩
    · exact .inl ⟨_, z⟩
/-- self.f[k] = e, a dict -/
theorem psd_fldD {c f : Str} {C : Addr} {i : Nat} {mk : E} {m : E} {pa : Pos} (hu : X.A.units + 1 < cLine) (hcl : cl.c c = some C) (hC : Cls X.K C) (hf : NoAttr X.K C f) (ho : PE X (.Name x p2) (tVar i)) (hi : PD X cl W ei mk) (hv : PD X cl W value m)
    (hb : attributeBase (.Name x p2) f X.env (eval (.Name x p2) X.env) = eval (.Name x p2) X.env := by rfl) (hs : swapsWith value (some (.Subscript (.Attribute (.Name x p2) f pa) ei pos')) pos.line X.env = pure false := by rfl) :
    PSd X cl fx W (.Assign [.Subscript (.Attribute (.Name x p2) f pa) ei pos'] value pos) (sFldD c f i mk m) := by
  obtain ⟨tv, h1, h2⟩ := hv
  obtain ⟨ti, h3, h4⟩ := hi
  refine ⟨_, ps_dput hu (pe_fld ho hb) h3 h1 hs, fun B Hs r s t k H D fl hfx hr hm hp => ?_⟩
  rcases sE_cases hm with ⟨y, r1, q1, q2⟩ | ⟨ee, r1, q1, q2⟩
  · refine h2 B Hs r s t k H _ _ hr q1 fun v Hs1 H1 hr1 => ?_
    split at q2
    · rename_i c' fs xs q3
      split at q2
      · rename_i hcc
        subst hcc
        split at q2
        · rename_i ks ds q4
          obtain ⟨p, dx, vs, ho1, hc, q, es, z1, z2, z3, z4, z5, z6⟩ := hr1.ndo (C := C) hcl q3
          obtain ⟨w, w1, w2, w3⟩ := fGet_zipAt q4 z6.len
          refine ⟨_, es, p, C, dx, _, _, rfl, q.oh i _ _ z1, hC, hf, w2, ?_⟩
          rcases sE_cases q2 with ⟨a, r2, q5, q6⟩ | ⟨ee, r2, q5, q6⟩
          · refine held_run h4 hr1 q q3 rfl q5 fun hi2 iv Hs2 H2 sm hr2 => ?_
            split at q6
            · rename_i kk d q8 q9
              split at q6
              · rename_i hlen
                cases q6
                obtain ⟨dk, k1, k2⟩ := Option.bind_eq_some_iff.mp q8
                have e1 := keyOf_kV (RepT.topC hr2 k1) k2
                subst e1
                obtain ⟨Hs3, _, c3, rv⟩ := AV.shared (as := [.v y]) (.v .nil) hr2.pop hr.tk (by unfold shds; rw [show (Arg.v y).shd r2 = some d from q9]; rfl)
                obtain ⟨p', dx', vs', b', o', b1, b2, b3, b4, ⟨ws, n1, n2, n3⟩, b6⟩ := c3.child (C := C) hcl hi2 q4
                rw [es] at b1
                cases b1
                rw [sm _ _ z1] at b2
                injection b2 with b2
                injection b2 with _ _ b2
                rw [← b2, w2] at b3
                cases b3
                subst n1
                cases rv with
                | cons rv _ =>
                  refine ⟨b', _, rfl, DPut.k b4 (by rw [List.length_zip, n2, Nat.min_self, n3.length]; exact hlen), ?_⟩
                  rw [putK_zip n2]
                  exact hp _ _ _ (b6 _ _ ⟨_, rfl, dPut_len n2, n3.dPut rv kk⟩)
              · cases q6
            · cases q6
          · subst q6
            exact held_run h4 hr1 q q3 rfl q5 (PostX.drop hr.tk (hp s))
        · cases q2
      · cases q2
    · cases q2
  · subst q2
    exact h2 B Hs r s t k H _ _ hr q1 (hp s)
end
end Py

set_option Elab.async false
set_option linter.all false
set_option maxRecDepth 100000
/-! Sz: methods; making objects. -/
namespace Py
open PySem L2
open Classical
section
variable {X : Cx} {CX : CXT} {n : Nat} {fa C : Addr} {fd : FuncData} {qs : List Str} {sp : Sp} {E : L2.St → XK} {x m : Str} {p pos apos : Pos} {e o : Expr} {es : List Expr} {ta : TE} {t : TA}
def tMethA (C : Addr) (m : Str) (sp : Sp) (E : L2.St → XK) (ta : TE) (t : TA) : TE := fun σ H Q => ta σ H fun x H1 => ∃ a dx fs, x = .ref a ∧ H1 a = some (.ins C dx fs) ∧ fs.lookup m = none ∧ t σ H1 fun vs H2 => sp (x :: vs) H2 Q (E σ)
def tMakeA (C : Addr) (sp : Sp) (E : L2.St → XK) (t : TA) : TE := fun σ H Q => t σ H fun vs H1 => ∀ x dx, H1 x = none → H1 dx = none → dx ≠ x → sp (.ref x :: vs) (upd (upd H1 dx (.own x)) x (.ins C dx [])) (fun v H2 => v = .non ∧ Q (.ref x) H2) (E σ)
theorem pe_methA {pl : Sem Bool} (h0 : PE X o ta) (c : Cls X.K C) (hm : Meth X.K C m fa) (F : FnOk X.prog X.w X.K X.mg X.base CX n fa fd qs sp) (room : Room n X.A) (bd : Binds X.K fd qs []) (px : ∀ σ, PassesAt CX X σ (E σ)) (h1 : PA X (e :: es) t)
    (st : starEach (e :: es) X.env = (false, eval e X.env) :: starEach es X.env := by rfl) (pln : (backTo pos (starEach es X.env)).any (·.1) = false := by rfl)
    (ht : eval (.Call (.Attribute o m apos) (e :: es) [] pos) X.env = (do
      let w ← eval o X.env; standAt apos.atName; let (f, first) ← holding [w] (getMethod w m pl); callWith pos f first (backTo pos (starEach (e :: es) X.env)) (backToKw pos (keywordEach [] X.env))) := by rfl) :
    PE X (.Call (.Attribute o m apos) (e :: es) [] pos) (tMethA C m sp E ta t) :=
  ⟨fun pins s σ H Q I q => PySem.W.methodCall_KW (pl := pl) (thn (h0.run pins s σ H _ I q) fun u s1 ⟨y, H1, I1, ry, a, dx, fs, ey, ea, l, q1⟩ => by
    subst ey
    obtain rfl : u = Value.ref a := ry
    exact getmeth_ok I1 ea c hm l (PySem.W.callWith_K (first := [.ref a]) (h₀ := X.base) I.ok.mod.kin hm.kp (thn (h1.run pos pins s1 σ H1 _ I1 q1) fun us s2 ⟨vs, H2, I2, rv, q2⟩ => ⟨I2.kIn, run_fnS (us := .ref a :: us) (vs := .ref a :: vs) F room bd (px σ) I2 (.cons rfl rv) q2⟩) st pln)) ht⟩
theorem pe_methA0 {pl : Sem Bool} (h0 : PE X o ta) (c : Cls X.K C) (hm : Meth X.K C m fa) (F : FnOk X.prog X.w X.K X.mg X.base CX n fa fd qs sp) (room : Room n X.A) (bd : Binds X.K fd qs []) (px : ∀ σ, PassesAt CX X σ (E σ))
    (ht : eval (.Call (.Attribute o m apos) [] [] pos) X.env = (do
      let w ← eval o X.env; standAt apos.atName; let (f, first) ← holding [w] (getMethod w m pl); callWith pos f first (backTo pos (starEach [] X.env)) (backToKw pos (keywordEach [] X.env))) := by rfl) :
    PE X (.Call (.Attribute o m apos) [] [] pos) (tMethA C m sp E ta tNil) :=
  ⟨fun pins s σ H Q I q => PySem.W.methodCall_KW (pl := pl) (thn (h0.run pins s σ H _ I q) fun u s1 ⟨y, H1, I1, ry, a, dx, fs, ey, ea, l, q1⟩ => by
    subst ey
    obtain rfl : u = Value.ref a := ry
    exact getmeth_ok I1 ea c hm l (PySem.W.callWith_K0 (first := [.ref a]) I1.kIn hm.kp (run_fnS (us := [.ref a]) (vs := [.ref a]) F room bd (px σ) I1 (.cons rfl .nil) q1))) ht⟩
theorem run_makeA {pins : List (Addr × Obj)} {σ : L2.St} {H : Hp} {s : Shared} {Q : VK} {us : List Value} {vs : List V} (M : Mk X.K C fa) (F : FnOk X.prog X.w X.K X.mg X.base CX n fa fd qs sp) (room : Room (n + 1) X.A) (bd : Binds X.K fd qs [])
    (px : PassesAt CX X σ (E σ)) (I : Inv X pins σ H s) (rv : Vals vs us) (q : ∀ x dx, H x = none → H dx = none → dx ≠ x → sp (.ref x :: vs) (upd (upd H dx (.own x)) x (.ins C dx [])) (fun v H2 => v = .non ∧ Q (.ref x) H2) (E σ)) :
    wpAny (model X.prog X.w) X.A (call (.ref C) us) (EP X pins σ Q) X.xe s := by
  obtain ⟨z, ez⟩ : ∃ z, z = s.heap.objs.size := ⟨_, rfl⟩
  have q1 := q (s.heap.objs.size + 1) s.heap.objs.size (I.hok.fresh (Nat.le_succ _)) (I.hok.fresh (Nat.le_refl _)) (Nat.ne_of_lt (Nat.lt_succ_self _))
  have J := Inv.made (C := C) I
  have rw1 : Vals (V.ref (s.heap.objs.size + 1) :: vs) (Value.ref (s.heap.objs.size + 1) :: us) := .cons rfl rv
  have len : (Value.ref (s.heap.objs.size + 1) :: us ++ []).length = qs.length := by
    have e := rw1.length
    rw [F.len _ _ _ _ q1] at e
    rw [List.append_nil]
    exact e.symm
  have b1 := bd _ (Value.ref (s.heap.objs.size + 1) :: us) J.kIn len
  rw [List.append_nil] at b1
  refine wpAny_call (make_map (f := fa) I.kIn M.makes M.init (beq_iff_eq.mp M.fn) (codeAny_mono (F.run _ X.stack _ _ ⟨Value.ref (s.heap.objs.size + 1) :: us, []⟩ (Value.ref (s.heap.objs.size + 1) :: us) _ _ (E σ) (room.make C us []) (J.env0.make C us []) b1 rw1 q1) fun r s' z => ?_))
  match r, z with
  | .error e, z => exact px pins _ _ e s' J z
  | .ok (.ret u), z =>
    obtain ⟨v, H', K1, k2, ev, k3⟩ := J.after z
    subst ev
    exact ⟨k2, ⟨V.ref (s.heap.objs.size + 1), H', K1, rfl, k3⟩⟩
  | .ok .next, z => exact z.elim
  | .ok .brk, z => exact z.elim
  | .ok .cont, z => exact z.elim
theorem pe_makeA (M : Mk X.K C fa) (F : FnOk X.prog X.w X.K X.mg X.base CX n fa fd qs sp) (room : Room (n + 1) X.A) (hg : Gl X x) (hm : X.mg x = some (.ref C)) (bd : Binds X.K fd qs []) (px : ∀ σ, PassesAt CX X σ (E σ)) (h1 : PA X (e :: es) t)
    (hdb : (x == ("__debug__" : Str)) = false := by decide) (st : starEach (e :: es) X.env = (false, eval e X.env) :: starEach es X.env := by rfl) (pln : (backTo pos (starEach es X.env)).any (·.1) = false := by rfl) :
    PE X (.Call (.Name x p) (e :: es) [] pos) (tMakeA C sp E t) :=
  ⟨fun pins s σ H Q I q => wpAny_Call_Name_kw (ld_glob I hg hm (PySem.W.callWith_K (h₀ := X.base) I.ok.mod.kin M.kp (thn (h1.run pos pins s σ H _ I q) fun us s1 ⟨vs, H1, I1, r, q1⟩ => ⟨I1.kIn, run_makeA M F room bd (px σ) I1 r q1⟩) st pln) hdb)⟩
theorem pe_makeA0 (M : Mk X.K C fa) (F : FnOk X.prog X.w X.K X.mg X.base CX n fa fd qs sp) (room : Room (n + 1) X.A) (hg : Gl X x) (hm : X.mg x = some (.ref C)) (bd : Binds X.K fd qs []) (px : ∀ σ, PassesAt CX X σ (E σ)) (hdb : (x == ("__debug__" : Str)) = false := by decide) :
    PE X (.Call (.Name x p) [] [] pos) (tMakeA C sp E tNil) :=
  ⟨fun pins s σ H Q I q => wpAny_Call_Name_kw (ld_glob I hg hm (PySem.W.callWith_K0 I.kIn M.kp (run_makeA (us := []) (vs := []) M F room bd (px σ) I .nil q)) hdb)⟩
end
/-! ### an object's class -/
section
variable {g : Gm} {Hs Hb : Hp}
theorem zip_lookup_none {α : Type} {m : Str} : ∀ {fs : List Str} {vs : List α}, m ∉ fs → (fs.zip vs).lookup m = none
  | [], _, _ => rfl
  | _ :: _, [], _ => rfl
  | f :: fs, v :: vs, h => by
    have h1 : (m == f) = false := by simpa using fun z : m = f => h (z ▸ List.mem_cons_self ..)
    simp only [List.zip_cons_cons, List.lookup, h1]
    exact zip_lookup_none fun z => h (List.mem_cons_of_mem _ z)
theorem BwV.isOb {H : Hp} {c m : Str} {C : Addr} (hc : g.cl c = some C) (b : Same Hb H) (e : Same Hs H) : ∀ {x : Sl} {v : V}, BwV g Hs Hb x v → Sl.isOb c m x = some () → ∃ p dx fs, v = .ref p ∧ H p = some (.ins C dx fs) ∧ fs.lookup m = none
  | .no, v, _, q => by cases q
  | .sh d, v, h, q => by
    cases d with
    | obj c' fs ds =>
      simp only [Sl.isOb] at q
      split at q
      · rename_i hcc
        obtain ⟨hcc, hm⟩ := hcc
        subst hcc
        simp only [BwV] at h
        cases h with
        | obj h1 h2 h3 h4 =>
          rw [hc] at h1
          cases h1
          exact ⟨_, _, _, rfl, e _ _ h2, zip_lookup_none hm⟩
      · cases q
    | _ => cases q
  | .ow d, v, _, q => by cases q
  | .nd k xs, v, h, q => by
    cases k with
    | ob c' fs =>
      simp only [Sl.isOb] at q
      split at q
      · rename_i hcc
        obtain ⟨hcc, hm⟩ := hcc
        subst hcc
        simp only [BwV] at h
        obtain ⟨p, o, vs, rfl, h1, h2, h3⟩ := h
        obtain ⟨C', dx, z1, z2, rfl⟩ := h2
        rw [hc] at z1
        cases z1
        exact ⟨p, dx, _, rfl, h1.elim (e _ _) (b _ _), zip_lookup_none hm⟩
      · cases q
    | _ => cases q
  | .bw x, v, h, q => by
    simp only [BwV] at h
    simp only [Sl.isOb] at q
    exact BwV.isOb hc b e (x := x) h q
theorem SlO.isOb {H h : Hp} {c m : Str} {C : Addr} (hc : g.cl c = some C) (b : Same Hb H) (e : Same Hs H) (w : Same h H) {x : Sl} {o : Option V} (hx : SlO g Hs Hb h x o) (q : x.isOb c m = some ()) : ∃ p dx fs, o = some (.ref p) ∧ H p = some (.ins C dx fs) ∧ fs.lookup m = none := by
  rcases hx with rfl | ⟨v, rfl, hx⟩
  · cases q
  · cases x with
    | no => cases q
    | sh d =>
      simp only [SlV] at hx
      obtain ⟨p, dx, fs, rfl, z⟩ := BwV.isOb (x := .sh d) hc b e (by simp only [BwV]; exact hx) q
      exact ⟨p, dx, fs, rfl, z⟩
    | ow d => cases q
    | nd k xs =>
      simp only [SlV] at hx
      cases k with
      | ob c' fs =>
        simp only [Sl.isOb] at q
        split at q
        · rename_i hcc
          obtain ⟨hcc, hm⟩ := hcc
          subst hcc
          obtain ⟨p, o, vs, hcs, rfl, h1, h2, _⟩ := hx
          obtain ⟨C', dx, z1, z2, rfl⟩ := h2
          rw [hc] at z1
          cases z1
          exact ⟨p, dx, _, rfl, w _ _ h1, zip_lookup_none hm⟩
        · cases q
      | _ => cases q
    | bw x =>
      simp only [SlV] at hx
      obtain ⟨p, dx, fs, rfl, z⟩ := BwV.isOb (x := x) hc b e hx q
      exact ⟨p, dx, fs, rfl, z⟩
end
section
variable {X : Cx} {cl : Cs} {W : WX} {e o : Expr} {es : List Expr} {as : As} {a : A} {pos p apos : Pos} {x : Str} {f : Fn} {fa C : Addr} {fd : FuncData} {qs : List Str} {n : Nat} {c m : Str}
theorem das_ob {g : Gam} {to : TE} {ta : TA} (hc : g.m.cl c = some C) (h2 : DO g to a W) (h4 : DAs g ta as W) : DAs g (fun s H Q => to s H fun x H1 => ∃ a dx fs, x = .ref a ∧ H1 a = some (.ins C dx fs) ∧ fs.lookup m = none ∧ ta s H1 fun xs H2 => Q (x :: xs) H2) (asO c m a as) W := by
  intro B Hs r s t k H Q o hr hm hp
  rcases bind_cases hm with ⟨y, r1, q, qq⟩ | ⟨ee, r1, q, qq⟩
  · rcases bind_cases qq with ⟨u, r2, q3, q4⟩ | ⟨ee, r2, q3, q4⟩
    · unfold M.get at q3
      dsimp only at q3
      cases q5 : (y.sl r1).isOb c m with
      | none =>
        rw [q5] at q3
        cases q3
      | some u' =>
        rw [q5] at q3
        cases q3
        have at1 : ∀ (v : V) (Hs1 H1 : Hp), ArgOk g B Hs1 r1 s t k H1 v y → ∃ a dx fs, v = .ref a ∧ H1 a = some (.ins C dx fs) ∧ fs.lookup m = none := fun v Hs1 H1 ha => by
          obtain ⟨hh, e1, e2⟩ := ha.slO fun i hi => by
            subst hi
            cases q6 : r1[i]? with
            | none =>
              rw [show (Arg.r i).sl r1 = (r1[i]?).getD .no from rfl, q6] at q5
              cases q5
            | some x => exact ⟨x, rfl⟩
          obtain ⟨p, dx, fs, z1, z2⟩ := e2.isOb (m := m) hc ha.rep.rep.bh ha.rep.shH e1 q5
          cases z1
          exact ⟨p, dx, fs, rfl, z2⟩
        rcases bind_cases q4 with ⟨xs, r3, q6, q7⟩ | ⟨ee, r3, q6, q7⟩
        · cases q7
          refine h2 B Hs r s t k H _ _ hr q fun v Hs1 H1 ha => ?_
          obtain ⟨a, dx, fs, rfl, z1, z2⟩ := at1 v Hs1 H1 ha
          refine ⟨a, dx, fs, rfl, z1, z2, ?_⟩
          cases y with
          | r i =>
            obtain ⟨ha1, ha2⟩ := ha
            exact h4 B _ r1 s t k H1 _ _ ha2 q6 fun vs kv Hs2 H2 av hr2 => hp (_ :: vs) kv Hs2 H2 (.r ha1 av) hr2
          | v x =>
            refine h4 B _ r1 s (t ++ [x]) (k ++ [some (V.ref a)]) H1 _ _ ha q6 fun vs kv Hs2 H2 av hr2 => hp (_ :: vs) (some (V.ref a) :: kv) Hs2 H2 (.v av) ?_
            rw [List.append_assoc, List.append_assoc] at hr2
            exact hr2
        · subst q7
          refine h2 B Hs r s t k H _ _ hr q fun v Hs1 H1 ha => ?_
          obtain ⟨a, dx, fs, rfl, z1, z2⟩ := at1 v Hs1 H1 ha
          refine ⟨a, dx, fs, rfl, z1, z2, ?_⟩
          cases y with
          | r i => exact h4 B _ r1 s t k H1 _ _ ha.2 q6 hp
          | v x => exact h4 B _ r1 s (t ++ [x]) (k ++ [some (V.ref a)]) H1 _ _ ha q6 (PostX.drop hr.tk hp)
    · unfold M.get at q3
      dsimp only at q3
      split at q3 <;> cases q3
  · subst qq
    exact h2 B Hs r s t k H _ _ hr q hp
/-- a method that means f -/
structure MeansM (P : Program) (w : World) (K : PySem.W.Frag) (mg : Str → Option Value) (base : Heap) (cl : Str → Option Addr) (k : Nat) (c m : Str) (ps : List Str) (f : Fn) : Prop where
  ex : ∃ fa fd C, FnOk P w K mg base (L2.CX P w) k fa fd ps (spF ⟨K, cl⟩ ps.length f) ∧ cl c = some C ∧ Meth K C m fa ∧ Binds K fd ps []
  np : ∀ xs o, f xs = some o → xs.length = ps.length
  rl : ∀ xs x qs, f xs = some (.ret x qs) → qs.length = xs.length
  xl : ∀ xs x qs, f xs = some (.ex x qs) → qs.length = xs.length
theorem pd_methO (F : MeansM X.prog X.w X.K X.mg X.base cl.c n c m qs f) (hcl : cl.c c = some C) (hC : Cls X.K C) (hr : Room n X.A) (tk : Takes X W) (ho : PO X cl W o a) (ha : PAs X cl W (e :: es) as) {pl : Sem Bool}
    (st : starEach (e :: es) X.env = (false, eval e X.env) :: starEach es X.env := by rfl) (pln : (backTo pos (starEach es X.env)).any (·.1) = false := by rfl)
    (ht : eval (.Call (.Attribute o m apos) (e :: es) [] pos) X.env = (do
      let w ← eval o X.env; standAt apos.atName; let (f, first) ← holding [w] (getMethod w m pl); callWith pos f first (backTo pos (starEach (e :: es) X.env)) (backToKw pos (keywordEach [] X.env))) := by rfl) :
    PD X cl W (.Call (.Attribute o m apos) (e :: es) [] pos) (eCall f (asO c m a as)) := by
  obtain ⟨ta, h1, h2⟩ := ha
  obtain ⟨to, h3, h4⟩ := ho
  obtain ⟨fa, fd, C', G, hc, hM, hb⟩ := F.ex
  rw [hcl] at hc
  cases hc
  exact ⟨_, pe_methA (E := WE W) h3 hC hM G hr hb (fun σ => passAt tk σ) h1 st pln ht, call_den F.np F.rl F.xl (das_ob (m := m) hcl h4 h2)⟩
theorem pd_methO0 (F : MeansM X.prog X.w X.K X.mg X.base cl.c n c m qs f) (hcl : cl.c c = some C) (hC : Cls X.K C) (hr : Room n X.A) (tk : Takes X W) (ho : PO X cl W o a) {pl : Sem Bool}
    (ht : eval (.Call (.Attribute o m apos) [] [] pos) X.env = (do
      let w ← eval o X.env; standAt apos.atName; let (f, first) ← holding [w] (getMethod w m pl); callWith pos f first (backTo pos (starEach [] X.env)) (backToKw pos (keywordEach [] X.env))) := by rfl) :
    PD X cl W (.Call (.Attribute o m apos) [] [] pos) (eCall f (asO c m a asN)) := by
  obtain ⟨to, h3, h4⟩ := ho
  obtain ⟨fa, fd, C', G, hc, hM, hb⟩ := F.ex
  rw [hcl] at hc
  cases hc
  exact ⟨_, pe_methA0 (E := WE W) h3 hC hM G hr hb (fun σ => passAt tk σ) ht, call_den F.np F.rl F.xl (das_ob (m := m) hcl h4 das_nil)⟩
/-! ### making -/
theorem refs_app : ∀ (xs : List Arg) (y : Sl), refs (xs ++ [.v y]) = refs xs
  | [], _ => rfl
  | .r i :: xs, y => by simp [refs, refs_app xs y]
  | .v _ :: xs, y => by simp [refs, refs_app xs y]
theorem tms_app : ∀ (xs : List Arg) (y : Sl), tms (xs ++ [.v y]) = tms xs ++ [y]
  | [], _ => rfl
  | .r i :: xs, y => by simp [tms, tms_app xs y]
  | .v _ :: xs, y => by simp [tms, tms_app xs y]
theorem AV.app {s : L2.St} {y : Sl} {w : V} : ∀ {xs : List Arg} {vs : List V} {kv : L2.St}, AV s xs vs kv → AV s (xs ++ [.v y]) (vs ++ [w]) (kv ++ [some w])
  | _, _, _, .nil => .v .nil
  | _, _, _, .r e h => .r e (AV.app h)
  | _, _, _, .v h => .v (AV.app h)
theorem comeBack_app {r : Env} {y z : Sl} : ∀ {xs : List Arg} {ps : List Sl}, xs.length = ps.length → comeBack r (xs ++ [.v y]) (ps ++ [z]) = comeBack r xs ps
  | [], [], _ => rfl
  | [], _ :: _, h => by cases h
  | _ :: _, [], h => by cases h
  | .r i :: xs, p :: ps, h => by
    have ih := comeBack_app (r := r) (y := y) (z := z) (xs := xs) (ps := ps) (by simpa using h)
    simp only [List.cons_append, comeBack, ih]
  | .v _ :: xs, p :: ps, h => by
    have ih := comeBack_app (r := r) (y := y) (z := z) (xs := xs) (ps := ps) (by simpa using h)
    simp only [List.cons_append, comeBack, ih]
theorem make_den {g : Gam} {ta : TA} (hc : g.m.cl c = some C) (hnp : ∀ xs o, f xs = some o → xs.length = n) (hlen : ∀ xs x ps, (f xs = some (.ret x ps) → ps.length = xs.length)) (hlex : ∀ xs x ps, (f xs = some (.ex x ps) → ps.length = xs.length)) (h : DAs g ta as W) :
    DE g (tMakeA C (spF g n f) (WE W) ta) (eMake c f as) W := by
  intro B Hs r s t k H Q o hr hm hp
  rcases bind_cases hm with ⟨xs, r1, q1, q2⟩ | ⟨e, r1, q1, q2⟩
  · refine h B Hs r s t k H _ _ hr q1 fun vs kv Hs1 H1 av hr1 x dx hx hdx hne => ?_
    by_cases hn : (refs xs).Nodup
    · rw [if_pos hn] at q2
      -- the new object, owned
      have hr2 := hr1.grow (same_upd (o := .own x) hdx)
      have hx2 : upd H1 dx (.own x) x = none := by rw [upd_ne (Ne.symm hne)]; exact hx
      have hr3 := hr2.pushNew (x := .nd (.ob c []) []) (o := .ins C dx []) hx2 (by
        simp only [SlV]
        exact ⟨x, _, [], fun _ => hemp, rfl, upd_same, ⟨C, dx, hc, rfl, rfl⟩, fun _ => ⟨same_emp, rfl⟩, fun _ _ _ => dj_emp, rfl, by simp only [SlVs]⟩)
      have hr4 : RepT g B Hs1 r1 s (t ++ tms (xs ++ [.v (.nd (.ob c []) [])])) (k ++ (kv ++ [some (.ref x)])) (upd (upd H1 dx (.own x)) x (.ins C dx [])) := by
        rw [tms_app]
        simpa using hr3
      obtain ⟨F, rp, bk⟩ := lend_back (av.app (y := .nd (.ob c []) []) (w := .ref x)) hr4 hr.tk (by rw [refs_app]; exact hn)
      have al := av.len
      have e1 : (xs ++ [Arg.v (.nd (.ob c []) [])]).map (Arg.hand r1) = xs.map (Arg.hand r1) ++ [.nd (.ob c []) []] := by simp
      have e2 : (vs ++ [V.ref x]).map some = vs.map some ++ [some (V.ref x)] := by simp
      rw [e1, e2] at rp
      have rp2 : Rep g (B0 F B.Hb Hs1) Hs1 (.nd (.ob c []) [] :: xs.map (Arg.hand r1)) ((V.ref x :: vs).map some) (upd (upd H1 dx (.own x)) x (.ins C dx [])) := by
        refine rp.sub (fun i => if i = 0 then xs.length else i - 1) (by simp [al]) (Nat.zero_le _) (fun i z => Bool.noConfusion z) (fun i y u f1 f2 => .inr ?_) fun i j hi hj e => .inl ?_
        · cases i with
          | zero =>
            cases f1
            simp at f2
            subst f2
            simp [al]
          | succ i =>
            have f1' : (xs.map (Arg.hand r1))[i]? = some y := by simpa using f1
            have f2' : (vs.map some)[i]? = some u := by simpa using f2
            have hi := (List.getElem?_eq_some_iff.mp f1').1
            have hi2 := (List.getElem?_eq_some_iff.mp f2').1
            simp only [Nat.add_one_ne_zero, if_false, Nat.add_sub_cancel]
            rw [List.getElem?_append_left hi, List.getElem?_append_left hi2]
            exact ⟨f1', f2'⟩
        · simp at hi hj
          split at e <;> split at e <;> omega
      cases q3 : f (.nd (.ob c []) [] :: xs.map (Arg.hand r1)) with
      | none =>
        rw [q3] at q2
        cases q2
      | some u =>
        rw [q3] at q2
        have hl : (V.ref x :: vs).length = (Sl.nd (.ob c []) [] :: xs.map (Arg.hand r1)).length := by simp [al]
        refine ⟨hl.trans (hnp _ _ q3), F, B.Hb, Hs1, _, u, rp2, q3, ?_⟩
        have back : ∀ (p0 : Sl) (ps more : List Sl) (us : L2.St) (Hs' H' : Hp), more.length = us.length → ps.length = xs.length → Rep g (B0 F B.Hb Hs1) Hs' ((p0 :: ps) ++ more) ((V.ref x :: vs).map some ++ us) H' → RepT g B Hs' (comeBack r1 xs ps) s (t ++ [p0]) (k ++ [some (.ref x)]) H' := fun p0 ps more us Hs' H' hml hpl hC => by
          have := bk (ps ++ [.no]) [p0] [some (.ref x)] Hs' H' rfl (by simp [hpl]) (by
            rw [e2]
            refine hC.sub (fun i => if i = xs.length + 1 then 0 else i + 1) (by simp [hpl, al]) (Nat.zero_le _) (fun i z => Bool.noConfusion z) (fun i y u f1 f2 => ?_) fun i j hi hj e => ?_
            · by_cases hi : i < xs.length
              · right
                rw [if_neg (by omega)]
                rw [List.append_assoc, List.getElem?_append_left (by omega)] at f1
                rw [List.append_assoc, List.getElem?_append_left (by simp; omega)] at f2
                have g1 : ((p0 :: ps) ++ more)[i + 1]? = ps[i]? := by
                  rw [List.getElem?_append_left (by simp; omega)]
                  rfl
                have g2 : ((V.ref x :: vs).map some ++ us)[i + 1]? = (vs.map some)[i]? := by
                  rw [List.getElem?_append_left (by simp; omega)]
                  rfl
                rw [g1, g2]
                exact ⟨f1, f2⟩
              · by_cases hi2 : i = xs.length
                · left
                  subst hi2
                  rw [List.append_assoc, List.getElem?_append_right (by omega), hpl, Nat.sub_self] at f1
                  exact (Option.some.inj f1).symm
                · right
                  have hi3 : i = xs.length + 1 := by
                    have := (List.getElem?_eq_some_iff.mp f1).1
                    simp at this
                    omega
                  subst hi3
                  rw [if_pos rfl]
                  rw [List.getElem?_append_right (by simp; omega)] at f1 f2
                  simp [hpl] at f1
                  simp [al] at f2
                  subst f1
                  subst f2
                  exact ⟨rfl, rfl⟩
            · left
              simp at hi hj
              split at e <;> split at e <;> omega)
          rw [comeBack_app (by omega)] at this
          exact this
        cases u with
        | ret y ps =>
          cases y with
          | sh dd =>
            cases dd with
            | non =>
              cases ps with
              | nil => cases q2
              | cons p0 ps =>
                dsimp only at q2
                split at q2
                · cases q2
                  intro v Hs' H' hC
                  have pl := hlen _ _ _ q3
                  have hv : v = .non := by
                    obtain ⟨w, w1, w2⟩ := hC.shd (i := (p0 :: ps).length) (d := .non) (by rw [List.getElem?_append_right (Nat.le_refl _), Nat.sub_self]; rfl)
                    cases w2
                    rw [List.getElem?_append_right (by simp at pl ⊢; omega)] at w1
                    have : (p0 :: ps).length - ((V.ref x :: vs).map some).length = 0 := by simp at pl ⊢; omega
                    rw [this] at w1
                    simpa using w1
                  exact ⟨hv, hp _ Hs' H' (back p0 ps [.sh .non] [some v] Hs' H' rfl (by simpa using pl) hC)⟩
                · cases q2
            | _ => cases q2
          | _ => cases q2
        | ex e ps =>
          cases ps with
          | nil => cases q2
          | cons p0 ps =>
            cases q2
            intro C' d Hs' H' hc' hC hxx
            have pl := hlex _ _ _ q3
            exact hp C' d Hs' H' hc' (RepT.pop (back p0 ps [] [] Hs' H' rfl (by simpa using pl) (by simpa using hC))) hxx
    · rw [if_neg hn] at q2
      cases q2
  · subst q2
    exact h B Hs r s t k H _ _ hr q1 hp
/-- a class whose __init__ means f -/
structure MeansC (P : Program) (w : World) (K : PySem.W.Frag) (mg : Str → Option Value) (base : Heap) (cl : Str → Option Addr) (k : Nat) (c : Str) (ps : List Str) (f : Fn) : Prop where
  ex : ∃ fa fd C, FnOk P w K mg base (L2.CX P w) k fa fd ps (spF ⟨K, cl⟩ ps.length f) ∧ cl c = some C ∧ mg c = some (.ref C) ∧ Mk K C fa ∧ Binds K fd ps []
  np : ∀ xs o, f xs = some o → xs.length = ps.length
  rl : ∀ xs x qs, f xs = some (.ret x qs) → qs.length = xs.length
  xl : ∀ xs x qs, f xs = some (.ex x qs) → qs.length = xs.length
theorem pd_make (F : MeansC X.prog X.w X.K X.mg X.base cl.c n c qs f) (hr : Room (n + 1) X.A) (hg : Gl X c) (tk : Takes X W) (ha : PAs X cl W (e :: es) as)
    (hdb : (c == ("__debug__" : Str)) = false := by decide) (st : starEach (e :: es) X.env = (false, eval e X.env) :: starEach es X.env := by rfl) (pln : (backTo pos (starEach es X.env)).any (·.1) = false := by rfl) :
    PD X cl W (.Call (.Name c p) (e :: es) [] pos) (eMake c f as) := by
  obtain ⟨ta, h1, h2⟩ := ha
  obtain ⟨fa, fd, C', G, hc, hm, hM, hb⟩ := F.ex
  exact ⟨_, pe_makeA (E := WE W) hM G hr hg hm hb (fun σ => passAt tk σ) h1 hdb st pln, make_den hc F.np F.rl F.xl h2⟩
theorem pd_make0 (F : MeansC X.prog X.w X.K X.mg X.base cl.c n c qs f) (hr : Room (n + 1) X.A) (hg : Gl X c) (tk : Takes X W) (hdb : (c == ("__debug__" : Str)) = false := by decide) : PD X cl W (.Call (.Name c p) [] [] pos) (eMake c f asN) := by
  obtain ⟨fa, fd, C', G, hc, hm, hM, hb⟩ := F.ex
  exact ⟨_, pe_makeA0 (E := WE W) hM G hr hg hm hb (fun σ => passAt tk σ) hdb, make_den hc F.np F.rl F.xl das_nil⟩
end
open PySem.Spec PyProof.Rows in
/-- a method's def, a class's __init__ -/
theorem meansM_mk {P : Program} {w : World} {K : PySem.W.Frag} {mg : Str → Option Value} {base : Heap} {cl : Str → Option Addr} {x qual c m : Str} {st : Stmt} {f C : Addr} {fd : FuncData} {N ps : List Str} {k : Nat} {mask : List Bool} {body : S} (F : Fun K x qual st f fd) (S : FnScope N ps (defScope st)) (hml : mask.length = ps.length)
    (hc : cl c = some C) (hM : Meth K C m f) (bd : Binds K fd ps [])
    (hbody : ∀ (cdv : Value) (A : Around) (outer : List PySem.Env) (s : Shared) (H : Hp) (E : XK), Room k (A.deeper (envOfC qual (defScope st) s.heap.objs.size f cdv)) →
      PSsd (cxOf (L2.CX P w) P w K mg base N qual (defScope st) f cdv A outer s H E) ⟨cl, none⟩ (fun i => mask.getD i false) (fun c d _ H => E c d H) (defBody st) body) : MeansM P w K mg base cl (k + 1) c m ps (mkFn N.length mask body) :=
  ⟨⟨f, fd, C, fn_D F S hml hbody, hc, hM, bd⟩, mkFn_np hml, mkFn_rl, mkFn_xl⟩
open PySem.Spec PyProof.Rows in
theorem meansC_mk {P : Program} {w : World} {K : PySem.W.Frag} {mg : Str → Option Value} {base : Heap} {cl : Str → Option Addr} {x qual c : Str} {st : Stmt} {f C : Addr} {fd : FuncData} {N ps : List Str} {k : Nat} {mask : List Bool} {body : S} (F : Fun K x qual st f fd) (S : FnScope N ps (defScope st)) (hml : mask.length = ps.length)
    (hc : cl c = some C) (hg : mg c = some (.ref C)) (hM : Mk K C f) (bd : Binds K fd ps [])
    (hbody : ∀ (cdv : Value) (A : Around) (outer : List PySem.Env) (s : Shared) (H : Hp) (E : XK), Room k (A.deeper (envOfC qual (defScope st) s.heap.objs.size f cdv)) →
      PSsd (cxOf (L2.CX P w) P w K mg base N qual (defScope st) f cdv A outer s H E) ⟨cl, none⟩ (fun i => mask.getD i false) (fun c d _ H => E c d H) (defBody st) body) : MeansC P w K mg base cl (k + 1) c ps (mkFn N.length mask body) :=
  ⟨⟨f, fd, C, fn_D F S hml hbody, hc, hg, hM, bd⟩, mkFn_np hml, mkFn_rl, mkFn_xl⟩
end Py

/-! Plain lemmas: sizes, gcd, fractions. -/
namespace Py
open PySem
theorem log2_lt {n k : Nat} (h : n < 2 ^ k) (hk : 0 < k) : n.log2 < k := by
  by_cases hn : n = 0
  · subst hn
    simpa using hk
  · exact (Nat.log2_lt hn).mpr h
theorem mulOk_of {x y : Int} {a b : Nat} (hx : x.natAbs < 2 ^ a) (hy : y.natAbs < 2 ^ b) (ha : 0 < a) (hb : 0 < b) (h : a + b ≤ 1000000) : mulOk x y = true := by
  have h1 := log2_lt hx ha
  have h2 := log2_lt hy hb
  unfold mulOk
  exact decide_eq_true (by omega)
theorem divOk_of {y : Int} {b : Nat} (h0 : y ≠ 0) (hy : y.natAbs < 2 ^ b) (hb : 0 < b) (h : b ≤ 9000) : divOk y = true := by
  have h2 := log2_lt hy hb
  unfold divOk
  exact decide_eq_true ⟨h0, by omega⟩
theorem natAbs_mul_lt {x y : Int} {a b : Nat} (hx : x.natAbs < 2 ^ a) (hy : y.natAbs < 2 ^ b) : (x * y).natAbs < 2 ^ (a + b) := by
  rw [Int.natAbs_mul, Nat.pow_add]
  exact Nat.mul_lt_mul'' hx hy
theorem natAbs_add_lt {x y : Int} {a : Nat} (hx : x.natAbs < 2 ^ a) (hy : y.natAbs < 2 ^ a) : (x + y).natAbs < 2 ^ (a + 1) := by
  have := Int.natAbs_add_le x y
  rw [Nat.pow_succ]
  omega
/-! lowest terms -/
def byZ (a b : Int) : Int := if b < 0 then -(Int.gcd a b : Int) else (Int.gcd a b : Int)
abbrev dF (a b : Int) : D := .tup [.int a, .int b]
def lowT (a b : Int) : Int := a.fdiv (byZ a b)
def lowB (a b : Int) : Int := b.fdiv (byZ a b)
abbrev lowD (a b : Int) : D := dF (lowT a b) (lowB a b)
theorem gcd_pos {a b : Int} (h : b ≠ 0) : 0 < Int.gcd a b := by
  rcases Nat.eq_zero_or_pos (Int.gcd a b) with z | z
  · exact absurd (Int.gcd_eq_zero_iff.mp z).2 h
  · exact z
theorem gcd_le {a b : Int} (h : b ≠ 0) : Int.gcd a b ≤ b.natAbs := Nat.le_of_dvd (Int.natAbs_pos.mpr h) (Int.natAbs_dvd_natAbs.mpr (Int.gcd_dvd_right a b))
theorem byZ_ne {a b : Int} (h : b ≠ 0) : byZ a b ≠ 0 := by
  have := gcd_pos (a := a) h
  unfold byZ
  split <;> omega
theorem byZ_abs (a b : Int) : (byZ a b).natAbs = Int.gcd a b := by
  unfold byZ
  split <;> omega
theorem byZ_div {a b : Int} (h : b ≠ 0) {n : Nat} (hb : b.natAbs < 2 ^ n) (hn : 0 < n) (h9 : n ≤ 9000) : divOk (byZ a b) = true := divOk_of (byZ_ne h) (by rw [byZ_abs]; exact Nat.lt_of_le_of_lt (gcd_le h) hb) hn h9
theorem fdiv_exact {a c : Int} (hc : c ≠ 0) (h : c ∣ a) : a.fdiv c * c = a := by
  obtain ⟨k, rfl⟩ := h
  rw [Int.mul_comm c k, Int.mul_fdiv_cancel _ hc]
theorem byZ_dvd_left (a b : Int) : byZ a b ∣ a := by
  unfold byZ
  split
  · exact Int.neg_dvd.mpr (Int.gcd_dvd_left a b)
  · exact Int.gcd_dvd_left a b
theorem byZ_dvd_right (a b : Int) : byZ a b ∣ b := by
  unfold byZ
  split
  · exact Int.neg_dvd.mpr (Int.gcd_dvd_right a b)
  · exact Int.gcd_dvd_right a b
theorem lowT_mul {a b : Int} (h : b ≠ 0) : lowT a b * byZ a b = a := fdiv_exact (byZ_ne h) (byZ_dvd_left a b)
theorem lowB_mul {a b : Int} (h : b ≠ 0) : lowB a b * byZ a b = b := fdiv_exact (byZ_ne h) (byZ_dvd_right a b)
theorem lowB_pos {a b : Int} (h : b ≠ 0) : 0 < lowB a b := by
  have hm := lowB_mul (a := a) h
  have hg := gcd_pos (a := a) h
  by_cases hb : b < 0
  · have e : byZ a b = -(Int.gcd a b : Int) := if_pos hb
    rw [e] at hm
    by_cases hl : 0 < lowB a b
    · exact hl
    · have : 0 ≤ lowB a b * -(Int.gcd a b : Int) := Int.mul_nonneg_of_nonpos_of_nonpos (by omega) (by omega)
      omega
  · have e : byZ a b = (Int.gcd a b : Int) := if_neg hb
    rw [e] at hm
    by_cases hl : 0 < lowB a b
    · exact hl
    · have : lowB a b * (Int.gcd a b : Int) ≤ 0 := Int.mul_nonpos_of_nonpos_of_nonneg (by omega) (by omega)
      omega
theorem low_coprime {a b : Int} (h : b ≠ 0) : Int.gcd (lowT a b) (lowB a b) = 1 := by
  have h1 := lowT_mul (a := a) h
  have h2 := lowB_mul (a := a) h
  have hg := gcd_pos (a := a) h
  have e : Int.gcd (lowT a b * byZ a b) (lowB a b * byZ a b) = Int.gcd (lowT a b) (lowB a b) * (byZ a b).natAbs := Int.gcd_mul_right ..
  rw [h1, h2, byZ_abs] at e
  have e2 : 1 * Int.gcd a b = Int.gcd (lowT a b) (lowB a b) * Int.gcd a b := by omega
  exact (Nat.eq_of_mul_eq_mul_right hg e2).symm
theorem lowT_le {a b : Int} (h : b ≠ 0) : (lowT a b).natAbs ≤ a.natAbs := by
  have e := congrArg Int.natAbs (lowT_mul (a := a) h)
  rw [Int.natAbs_mul, byZ_abs] at e
  have hg := gcd_pos (a := a) h
  rw [← e]
  exact Nat.le_mul_of_pos_right _ hg
theorem lowB_le {a b : Int} (h : b ≠ 0) : (lowB a b).natAbs ≤ b.natAbs := by
  have e := congrArg Int.natAbs (lowB_mul (a := a) h)
  rw [Int.natAbs_mul, byZ_abs] at e
  have hg := gcd_pos (a := a) h
  have := Nat.le_mul_of_pos_right (lowB a b).natAbs hg
  omega
theorem low_neg (a b : Int) (h : 0 < b) : lowT a (-b) = lowT (-a) b ∧ lowB a (-b) = lowB (-a) b := by
  have e1 : byZ a (-b) = -(byZ (-a) b) := by
    unfold byZ
    rw [if_pos (by omega), if_neg (by omega), Int.gcd_neg, Int.neg_gcd]
  unfold lowT lowB
  rw [e1]
  refine ⟨?_, ?_⟩
  · rw [← Int.neg_fdiv_neg (-a)]
    rw [Int.neg_neg]
  · exact Int.neg_fdiv_neg b _
/-! texts -/
theorem cps_ok (s : String) : (Str.ofString s).cps.all (fun c => decide (c < 0x110000)) = true := by
  rw [Str.ofString_eq_toList, Array.all_eq_true']
  intro c hc
  simp only [List.mem_toArray, List.mem_map] at hc
  obtain ⟨ch, -, rfl⟩ := hc
  refine decide_eq_true ?_
  have h := ch.valid
  show ch.val.toNat < 1114112
  rcases h with h | h
  · have : ch.val.toNat < 55296 := h
    omega
  · exact h.2
theorem cps_app (x y : Str) : (x ++ y).cps = x.cps ++ y.cps := rfl
theorem len_app (x y : Str) : (x ++ y).length = x.length + y.length := by
  show (x.cps ++ y.cps).size = _
  exact Array.size_append
theorem len_of (s : String) : (Str.ofString s).length = s.toList.length := by
  rw [Str.ofString_eq_toList]
  show (List.map _ _).toArray.size = _
  simp
theorem len_int (i : Int) {k : Nat} (h : i.natAbs < 10 ^ k) (hk : 0 < k) : (Str.ofString (toString i)).length ≤ k + 1 := by
  rw [len_of]
  have e : ∀ m : Nat, m < 10 ^ k → (Nat.repr m).toList.length ≤ k := by
    intro m hm
    rw [Nat.toList_repr]
    exact (Nat.length_toDigits_le_iff (by decide) hk).mpr hm
  rw [Int.toString_eq_repr]
  cases i with
  | ofNat m => exact Nat.le_succ_of_le (e m h)
  | negSucc m =>
    have := e (m + 1) h
    rw [show (Int.negSucc m).repr = "-" ++ Nat.repr (m+1) from by simp [Int.repr], String.toList_append, List.length_append]
    have : ("-" : String).toList.length = 1 := by decide
    omega
end Py

set_option Elab.async false
set_option linter.all false
set_option maxRecDepth 100000
/-! Xa: exceptions with an __init__ of their own. -/
namespace Py
open PySem L2
open Classical
section
variable {X : Cx} {e : Expr} {es : List Expr} {ta : TA} {p1 p2 pos : Pos}
/-- what the written part says of the class b whose __init__ is ValueError's -/
structure BaseI (K : PySem.W.Frag) (mg : Str → Option Value) (b : Str) (S : Addr) : Prop where
  gl : mg b = some (.ref S)
  ga : PySem.W.specialIn K (.ref S) "__getattribute__" = some (some (.builtin "type.__getattribute__"))
  rd : PySem.W.readsIn K S (.type "type") = true
  fi : PySem.W.findCls K (.ref S) (.type "type") "__init__" = some (.val (.builtin "ValueError.__init__"))
theorem pe_oinit {pl : Sem Bool} {b : Str} {S : Addr} (T : BaseI X.K X.mg b S) (hg : Gl X b) (h1 : PA X (e :: es) ta)
    (hdb : (b == ("__debug__" : Str)) = false := by decide)
    (ht : eval (.Call (.Attribute (.Name b p1) "__init__" p2) (e :: es) [] pos) X.env = (do
      let w ← eval (.Name b p1) X.env; standAt p2.atName; let (f, first) ← holding [w] (getMethod w "__init__" pl); callWith pos f first (backTo pos (starEach (e :: es) X.env)) (backToKw pos (keywordEach [] X.env))) := by rfl)
    (st : starEach (e :: es) X.env = (false, eval e X.env) :: starEach es X.env := by rfl) (pln : (backTo pos (starEach es X.env)).any (·.1) = false := by rfl) :
    PE X (.Call (.Attribute (.Name b p1) "__init__" p2) (e :: es) [] pos) (tVeI X.K ta) := by
  refine ⟨fun pins s σ H Q I q => PySem.W.methodCall_KW (ld_glob I hg T.gl ?_ hdb) ht⟩
  refine PySem.W.method_cls I.kIn T.ga (PySem.W.cls_value I.kIn T.rd T.fi (by decide +kernel) ?_)
  refine PyProof.Rows.callWith_method1 (thn (h1.run pos pins _ σ H _ (I.tok _) q) fun us s1 ⟨vs, H1, I1, rv, a, C, ws, ev, hl, TC, ea, z⟩ => ?_) st pln
  subst ev
  cases rv with
  | @cons _ u0 _ ur ra rb =>
    obtain rfl : u0 = Value.ref a := ra
    exact oinit_ok TC I1 ea (by rw [← Paired.length rb, sizeLine_eq]; omega) fun s' J => ⟨.non, H1, J, rfl, z⟩
end
/-! ### the promise of such an __init__ -/
/-- it stores what it is handed under the names fs -/
def spI (C : Addr) (fs : List Str) (ok : List V → Prop) : Sp := fun vs H Q _ => vs.length = fs.length + 1 ∧ ∃ a ws, vs = .ref a :: ws ∧ H a = some (exo a C none) ∧ ok ws ∧ ∀ dx, H dx = none → dx ≠ a → Q .non (upd (upd H dx (exd dx (fs.zip ws).reverse)) a (exo a C (some dx)))
/-- a number small enough to be told; texts; anything -/
def okI : List V → Prop
  | [.int i] => i.natAbs.log2 < 1920
  | _ => False
def okT : List V → Prop
  | [.str x, .str y] => x.length + y.length ≤ 1000000
  | _ => False
def okA : List V → Prop
  | [_] => True
  | _ => False
/-- the readings of the three kinds -/
def rCat : R2 := fun x y H Q => ∃ i j, x = .str i ∧ y = .str j ∧ i.length + j.length ≤ sizeLine ∧ Q (.str (i ++ j)) H
def rTell : List V → Hp → VK → Prop := fun xs H Q => ∃ i : Int, xs = [.int i] ∧ i.natAbs.log2 < 1920 ∧ Q (.str (Str.ofString (toString i))) H
def tXN (K : PySem.W.Frag) (q msg : Str) : TS := tSeq (tDrop (tVeI K (tCons (tVar 0) (tCons (tOp rCat (tC (.str msg)) (tCB rTell (tCons (tVar 1) tNil))) tNil)))) (tOst K q (tVar 0) (tVar 1))
def tXA (K : PySem.W.Frag) (q msg : Str) : TS := tSeq (tDrop (tVeI K (tCons (tVar 0) (tCons (tC (.str msg)) tNil)))) (tOst K q (tVar 0) (tVar 1))
def tXT (K : PySem.W.Frag) (q1 q2 m1 m2 : Str) : TS := tSeq (tDrop (tVeI K (tCons (tVar 0) (tCons (tOp rCat (tOp rCat (tOp rCat (tC (.str m1)) (tVar 1)) (tC (.str m2))) (tVar 2)) tNil)))) (tSeq (tOst K q1 (tVar 0) (tVar 1)) (tOst K q2 (tVar 0) (tVar 2)))
theorem tell_len (i : Int) (h : i.natAbs.log2 < 1920) : (Str.ofString (toString i)).length ≤ 10000 := by
  have hb : i.natAbs < 10 ^ 1921 := Nat.lt_of_lt_of_le (Nat.lt_of_lt_of_le Nat.lt_log2_self (Nat.pow_le_pow_right (by decide) (by omega : i.natAbs.log2 + 1 ≤ 1921))) (Nat.pow_le_pow_left (by decide) 1921)
  exact Nat.le_trans (len_int i hb (by decide)) (by decide)
section
variable {P : Program} {w : World} {K : PySem.W.Frag} {mg : Str → Option Value} {base : Heap} {x qual q q1 q2 : Str} {st : Stmt} {f C : Addr} {fd : FuncData} {msg m1 m2 : Str}
open PySem.Spec PyProof.Rows in
/-- a number -/
theorem fn_xiN (F : Fun K x qual st f fd) (Sc : FnScope ["self", q] ["self", q] (defScope st)) (T : OexC K C) (hno : PySem.W.findIn K (.ref C) q = some none) (hl : msg.length ≤ 1000)
    (h : ∀ (cdv : Value) (A : PySem.Around) (outer : List PySem.Env) (s : Shared) (H : Hp) (E : XK), PSs (cxOf (L2.CX P w) P w K mg base ["self", q] qual (defScope st) f cdv A outer s H E) (defBody st) (tXN K q msg)) :
    FnOk P w K mg base (L2.CX P w) 1 f fd ["self", q] (spI C [q] okI) := by
  refine F.okX Sc (fun vs H Q E h => h.1) fun cdv A outer s H vs Q E hr hsp => ⟨_, h cdv A outer s H E, ?_⟩
  obtain ⟨_, a, ws, ev, ea, hok, hq⟩ := hsp
  match ws, hok with
  | [.int i], hok =>
    subst ev
    have hi : i.natAbs.log2 < 1920 := hok
    have := tell_len i hi
    refine ⟨_, rfl, _, rfl, i, rfl, hi, msg, _, rfl, rfl, by rw [sizeLine_eq]; omega, a, C, _, rfl, by simp, T, ea, ?_⟩
    exact ⟨_, rfl, _, rfl, a, C, rfl, T, hno, .inl ⟨ea, fun dx e1 e2 => hq dx e1 e2⟩⟩
open PySem.Spec PyProof.Rows in
/-- anything -/
theorem fn_xiA (F : Fun K x qual st f fd) (Sc : FnScope ["self", q] ["self", q] (defScope st)) (T : OexC K C) (hno : PySem.W.findIn K (.ref C) q = some none)
    (h : ∀ (cdv : Value) (A : PySem.Around) (outer : List PySem.Env) (s : Shared) (H : Hp) (E : XK), PSs (cxOf (L2.CX P w) P w K mg base ["self", q] qual (defScope st) f cdv A outer s H E) (defBody st) (tXA K q msg)) :
    FnOk P w K mg base (L2.CX P w) 1 f fd ["self", q] (spI C [q] okA) := by
  refine F.okX Sc (fun vs H Q E h => h.1) fun cdv A outer s H vs Q E hr hsp => ⟨_, h cdv A outer s H E, ?_⟩
  obtain ⟨_, a, ws, ev, ea, hok, hq⟩ := hsp
  match ws, hok with
  | [v], hok =>
    subst ev
    refine ⟨_, rfl, a, C, _, rfl, by simp, T, ea, ?_⟩
    exact ⟨_, rfl, _, rfl, a, C, rfl, T, hno, .inl ⟨ea, fun dx e1 e2 => hq dx e1 e2⟩⟩
open PySem.Spec PyProof.Rows in
/-- two texts -/
theorem fn_xiT (F : Fun K x qual st f fd) (Sc : FnScope ["self", q1, q2] ["self", q1, q2] (defScope st)) (T : OexC K C) (hn1 : PySem.W.findIn K (.ref C) q1 = some none) (hn2 : PySem.W.findIn K (.ref C) q2 = some none) (hl1 : m1.length ≤ 1000) (hl2 : m2.length ≤ 1000)
    (h : ∀ (cdv : Value) (A : PySem.Around) (outer : List PySem.Env) (s : Shared) (H : Hp) (E : XK), PSs (cxOf (L2.CX P w) P w K mg base ["self", q1, q2] qual (defScope st) f cdv A outer s H E) (defBody st) (tXT K q1 q2 m1 m2)) :
    FnOk P w K mg base (L2.CX P w) 1 f fd ["self", q1, q2] (spI C [q1, q2] okT) := by
  refine F.okX Sc (fun vs H Q E h => h.1) fun cdv A outer s H vs Q E hr hsp => ⟨_, h cdv A outer s H E, ?_⟩
  obtain ⟨_, a, ws, ev, ea, hok, hq⟩ := hsp
  match ws, hok with
  | [.str u, .str v], hok =>
    subst ev
    have hz : u.length + v.length ≤ 1000000 := hok
    have len : ∀ s t : Str, (s ++ t).length = s.length + t.length := fun s t => by
      show (s.cps ++ t.cps).size = _
      simp [Str.length]
    refine ⟨_, rfl, _, rfl, m1, u, rfl, rfl, by rw [sizeLine_eq]; omega, _, m2, rfl, rfl, by rw [len, sizeLine_eq]; omega, _, rfl, _, v, rfl, rfl, by rw [len, len, sizeLine_eq]; omega, a, C, _, rfl, by simp, T, ea, ?_⟩
    refine ⟨_, rfl, _, rfl, a, C, rfl, T, hn1, .inl ⟨ea, fun dx e1 e2 => ?_⟩⟩
    refine ⟨_, rfl, _, rfl, a, C, rfl, T, hn2, .inr ⟨dx, _, upd_same, by rw [upd_ne e2]; exact upd_same, by simp, ?_⟩⟩
    have := hq dx e1 e2
    have e3 : upd (upd (upd H dx (exd dx [(q1, V.str u)])) a (exo a C (some dx))) dx (exd dx [(q2, V.str v), (q1, V.str u)]) = upd (upd H dx (exd dx [(q2, V.str v), (q1, V.str u)])) a (exo a C (some dx)) := by
      funext z
      by_cases z1 : z = dx
      · subst z1
        rw [upd_same, upd_ne e2, upd_same]
      · rw [upd_ne z1]
        by_cases z2 : z = a
        · subst z2
          rw [upd_same, upd_same]
        · rw [upd_ne z2, upd_ne z2, upd_ne z1, upd_ne z1]
    show Q .non _
    rw [e3]
    exact this
end
/-! ### raise C(..) -/
def Xk.ok : Xk → List V → Prop
  | .n => okI
  | .a => okA
  | .t => okT
/-- a class whose exceptions have values -/
structure MeansX (P : Program) (w : World) (K : PySem.W.Frag) (mg : Str → Option Value) (base : Heap) (cl : Str → Option Addr) (c : Str) (fs : List Str) (kd : Xk) : Prop where
  ex : ∃ fI fd C, FnOk P w K mg base (L2.CX P w) 1 fI fd ("self" :: fs) (spI C fs kd.ok) ∧ cl c = some C ∧ mg c = some (.ref C) ∧ OexC K C ∧ PySem.W.findIn K (.ref C) "__init__" = some (some (.ref fI)) ∧ PySem.W.typeIn K (.ref fI) = some (.type "function") ∧ Binds K fd ("self" :: fs) []
theorem chk_ok {g : Gm} {H : Hp} {kd : Xk} {vs : List V} {ds : List D} (h : RA g H vs ds) (hc : kd.chk ds = true) : kd.ok vs := by
  cases kd with
  | n =>
    match ds, hc, h with
    | [.int i], hc, .cons (.int _) .nil =>
      show i.natAbs.log2 < 1920
      simpa [Xk.chk] using hc
  | a =>
    match ds, hc, h with
    | [_], hc, .cons _ .nil => trivial
  | t =>
    match ds, hc, h with
    | [.str x, .str y], hc, .cons (.str _) (.cons (.str _) .nil) =>
      show x.length + y.length ≤ 1000000
      simpa [Xk.chk] using hc
section
variable {X : Cx} {cl : Cs} {fx : Nat → Bool} {W : WX} {e : Expr} {es : List Expr} {as : As} {pos p p3 : Pos} {c : Str} {fs : List Str} {kd : Xk}
theorem psd_raiseX (M : MeansX X.prog X.w X.K X.mg X.base cl.c c fs kd) (room : Room 2 X.A) (hc : X.calm = true) (tk : Takes X W) (hg : Gl X c) (ha : PAs X cl W (e :: es) as)
    (hdb : (c == ("__debug__" : Str)) = false := by decide) (st : starEach (e :: es) X.env = (false, eval e X.env) :: starEach es X.env := by rfl) (pln : (backTo p3 (starEach es X.env)).any (·.1) = false := by rfl) :
    PSd X cl fx W (.Raise (some (.Call (.Name c p) (e :: es) [] p3)) none pos) (sRaiseX c fs kd as) := by
  obtain ⟨ta, h1, h2⟩ := ha
  obtain ⟨fI, fd, C, G, m1, m2, T, m4, m5, m6⟩ := M.ex
  refine ⟨_, ps_raise hc tk (pmk_oex T m4 m5 G room m6 .nil (fun pins σ H s e s' I c => passAt (takesF X) σ pins H s e s' I c) hg m2 h1 hdb st pln), fun B Hs r s t k H D fl hf hr hm hp => ?_⟩
  rcases sE_cases hm with ⟨xs, r1, q1, q2⟩ | ⟨ee, r1, q1, q2⟩
  · refine h2 B Hs r s t k H _ _ hr q1 fun vs kv Hs1 H1 av hr1 => ?_
    split at q2
    · rename_i ds q3
      split at q2
      · rename_i hcond
        cases q2
        obtain ⟨Hs2, sm, hr2, ra⟩ := av.shared hr1 hr.tk q3
        have hl := ra.length
        have lz : fs.length ≤ 2 := by
          rw [← hcond.2]
          cases kd with
          | n => match ds, hcond.1 with | [.int i], _ => simp
          | a => match ds, hcond.1 with | [_], _ => simp
          | t => match ds, hcond.1 with | [.str _, .str _], _ => simp
        refine ⟨by omega, fun a ha => ?_⟩
        rw [List.append_nil]
        refine ⟨by simp; omega, a, vs, rfl, upd_same, chk_ok ra hcond.1, fun dx e1 e2 => ⟨rfl, dx, _, upd_same, by rw [upd_ne e2]; exact upd_same, ?_, ?_⟩⟩
        · rw [upd_ne e2] at e1
          exact e1
        · rw [upd_ne e2] at e1
          have e3 : upd (del (upd (upd (upd H1 a (exo a C none)) dx (exd dx (fs.zip vs).reverse)) a (exo a C (some dx))) a) dx (.xd (fs.zip vs).reverse) = upd H1 dx (.xd (fs.zip vs).reverse) := by
            funext z
            by_cases z1 : z = dx
            · subst z1
              rw [upd_same, upd_same]
            · rw [upd_ne z1, upd_ne z1]
              by_cases z2 : z = a
              · subst z2
                rw [del_same, ha]
              · rw [del_ne z2, upd_ne z2, upd_ne z1, upd_ne z2]
          rw [e3]
          refine hp s C (some dx) (upd Hs2 dx (.xd (fs.zip vs).reverse)) _ m1 (hr2.share e1) ?_
          have hne : (fs.zip ds).reverse ≠ [] := by
            intro z
            have := congrArg List.length z
            rw [List.length_reverse, List.length_zip, hcond.2, Nat.min_self] at this
            have h0 : ds.length = 0 := by rw [hcond.2]; exact this
            cases kd with
            | n => match ds, hcond.1 with | [.int i], _ => simp at h0
            | a => match ds, hcond.1 with | [_], _ => simp at h0
            | t => match ds, hcond.1 with | [.str _, .str _], _ => simp at h0
          have rz : (((fs.zip ds).reverse).map (·.1)).zip vs.reverse = (fs.zip vs).reverse := by
            rw [List.map_reverse, List.map_fst_zip (by omega)]
            unfold List.zip
            rw [List.reverse_zipWith (by omega)]
          have rd : ((fs.zip ds).reverse).map (·.2) = ds.reverse := by
            rw [List.map_reverse, List.map_snd_zip (by omega)]
          unfold XOk
          dsimp only
          split
          · rename_i z
            exact absurd z hne
          · refine ⟨dx, vs.reverse, rfl, by rw [rz]; exact upd_same, by simp [List.length_zip]; omega, ?_⟩
            rw [rd]
            exact (ra.mono (same_upd (hr2.freeS e1))).reverse
      · cases q2
    · cases q2
  · subst q2
    exact h2 B Hs r s t k H _ _ hr q1 (hp s)
end
end Py

set_option Elab.async false
set_option linter.all false
set_option maxRecDepth 100000
/-! Xb: facts of the head. -/
namespace Py
open PySem L2
def oexB (K : PySem.W.Frag) (C : Addr) : Bool := (match K.lookup C with
    | some ⟨.type "type", _, .cls cd, sl⟩ => (match cd.mro, sl.toList with
      | .ref C' :: bm, [_, _, _, _, some (.builtin nn), _] => C' == C && (nn == "ValueError.__new__" && (!cd.hasDel && (cd.hasDict && PySem.HandSPX.refsVE bm)))
      | _, _ => false)
    | _ => false) && (He.eqO (PySem.W.findIn K (.ref C) "__setattr__") (some (some (.builtin "object.__setattr__"))) && (decide (PySem.W.subIn K (.ref C) (.type "BaseException") = some true) && (decide (PySem.W.typeIn K (.ref C) = some (.type "type")) && PySem.W.keepIn K (.ref C))))
theorem oexB_ok {K : PySem.W.Frag} {C : Addr} (h : oexB K C = true) : OexC K C := by
  unfold oexB at h
  obtain ⟨h1, h⟩ := Bool.and_eq_true_iff.mp h
  obtain ⟨h2, h⟩ := Bool.and_eq_true_iff.mp h
  obtain ⟨h3, h⟩ := Bool.and_eq_true_iff.mp h
  obtain ⟨h4, h5⟩ := Bool.and_eq_true_iff.mp h
  refine ⟨?_, He.eqO_ok h2, of_decide_eq_true h3, of_decide_eq_true h4, h5⟩
  split at h1
  · rename_i dd cd sl ho
    split at h1
    · rename_i C' bm a0 a1 a2 a3 nn a5 hm hs
      simp only [Bool.and_eq_true, beq_iff_eq, Bool.not_eq_true'] at h1
      obtain ⟨rfl, rfl, hdel, hdic, hbm⟩ := h1
      obtain ⟨nm, bs, mro, ns, qn, hd, sn, sub, ab, col, del⟩ := cd
      dsimp only at hm hdel hdic
      subst hm
      subst hdel
      subst hdic
      obtain ⟨l⟩ := sl
      simp only at hs
      subst hs
      exact ⟨nm, qn, ns, bs, bm, sn, sub, ab, col, dd, a0, a1, a2, a3, a5, ho, hbm⟩
    · cases h1
  · cases h1
def baseB (K : PySem.W.Frag) (S : Addr) : Bool := He.eqO (PySem.W.specialIn K (.ref S) "__getattribute__") (some (some (.builtin "type.__getattribute__"))) && (PySem.W.readsIn K S (.type "type") && (match PySem.W.findCls K (.ref S) (.type "type") "__init__" with
  | some (.val (.builtin nn)) => nn == "ValueError.__init__"
  | _ => false))
theorem baseB_ok {K : PySem.W.Frag} {mg : Str → Option Value} {b : Str} {S : Addr} (g : mg b = some (.ref S)) (h : baseB K S = true) : BaseI K mg b S := by
  unfold baseB at h
  obtain ⟨h1, h⟩ := Bool.and_eq_true_iff.mp h
  obtain ⟨h2, h3⟩ := Bool.and_eq_true_iff.mp h
  refine ⟨g, He.eqO_ok h1, h2, ?_⟩
  split at h3
  · rename_i nn e
    rw [e, eq_of_beq h3]
  · cases h3
end Py

set_option Elab.async false
set_option linter.all false
set_option maxRecDepth 100000
/-! Xc: subscripts of dicts, methods of new things, a choice. -/
namespace Py
open PySem L2
open Classical
section
variable {X : Cx} {cl : Cs} {fx : Nat → Bool} {W : WX}
def rIxDic : R2 := fun x y H Q => ∃ a v, x = .ref a ∧ DGet H a y (some v) ∧ Q v H
theorem dget_type {pins : List (Addr × Obj)} {σ : L2.St} {H : Hp} {s : Shared} {a : Addr} {y : V} {o : Option V} (I : Inv X pins σ H s) (g : DGet H a y o) : s.TypeIs (.ref a) "dict" := dict_typeIs I g
theorem ix_dic (hu : X.A.units + 1 < cLine) : IxR X rIxDic := by
  intro value slice pins s σ H x y v u Q I rx ry h hs
  obtain ⟨a, r, rfl, hd, q⟩ := h
  obtain rfl : v = Value.ref a := rx
  exact PyProof.Rows.tail_any (dget_type I hd) PySem.F.slot_dict_getitem.lookup (d_getItem hu I hd ry fun w' s' I' rw => ⟨r, H, I', rw, q⟩) hs
abbrev rIxY (K : PySem.W.Frag) : R2 := fun x y H Q => rIxX K x y H Q ∨ rIxDic x y H Q
theorem ix_Y (hu : X.A.units + 1 < cLine) : IxR X (rIxY X.K) := ixR_or ix_X (ix_dic hu)
theorem dGet_val {g : Gm} {H : Hp} {k : Key} : ∀ {ks : List Key} {vs : List V} {ds : List D} {d : D}, RA g H vs ds → dGet ks ds k = some d → ∃ v, valV (ks.zip vs) k = some v ∧ R g H v d
  | [], _, _, _, _, h => by simp [dGet] at h
  | k0 :: ks, [], [], _, _, h => by simp [dGet] at h
  | k0 :: ks, v :: vs, d0 :: ds, d, .cons r t, h => by
    unfold dGet at h
    by_cases e : k0 = k
    · rw [if_pos e] at h
      cases h
      exact ⟨v, by simp [valV, e], r⟩
    · rw [if_neg e] at h
      obtain ⟨w, w1, w2⟩ := dGet_val t h
      refine ⟨w, ?_, w2⟩
      unfold valV at w1 ⊢
      rw [List.zip_cons_cons, List.find?_cons_of_neg (by simpa using e)]
      exact w1
theorem od_ixX : OpD (gm X cl) (r2L (rIxY X.K)) oIxX := by
  intro Hs H vs ds x Q e hv hf c
  unfold oIxX at hf
  split at hf
  · obtain ⟨v, w, rfl, h1, h2⟩ := rca2 hv
    unfold oDGet at hf
    obtain ⟨k, hk, hf⟩ := Option.bind_eq_some_iff.mp hf
    obtain ⟨d, hd, hx⟩ := Option.map_eq_some_iff.mp hf
    obtain ⟨a, xs, rfl, a1, a2, a3⟩ := h1.dic e
    cases keyOf_kV h2 hk
    obtain ⟨v, b1, b2⟩ := dGet_val a3 hd
    refine .inr ⟨a, v, rfl, ?_, c.val _ _ hx.symm b2⟩
    rw [← b1]
    exact DGet.k a1
  · have := od_ix (X := X) (cl := cl) Hs H vs ds x Q e hv hf c
    match vs, this with
    | [v, w], this => exact .inl this
    | [], _ => trivial
    | [_], _ => trivial
    | _ :: _ :: _ :: _, _ => trivial
/-! ### methods of new lists -/
variable {e o : Expr} {pos apos cpos : Pos}
theorem RepT.topOw {g : Gam} {B : Bs} {Hs : Hp} {r : Env} {s : L2.St} {t : Env} {k : L2.St} {H : Hp} {ds : List D} {v : V} (h : RepT g B Hs r s (t ++ [.ow (.lst ds)]) (k ++ [some v]) H) : ∃ p xs, v = .ref p ∧ H p = some (.lst xs) ∧ RA g Hs xs ds ∧ ∀ o' d', NodeO g Hs o' d' → RepT g B Hs r s t k (upd H p o') := by
  have hl : t.length = k.length := by have := h.tk; simpa using this
  have e := h.el
  have i1 : (r ++ (t ++ [Sl.ow (.lst ds)]))[r.length + t.length]? = some (.ow (.lst ds)) := by
    rw [← List.append_assoc, List.getElem?_append_right (by simp)]
    simp
  have i2 : (s ++ (k ++ [some v]))[r.length + t.length]? = some (some v) := by
    rw [← List.append_assoc, List.getElem?_append_right (by simp; omega)]
    simp [e, hl]
  obtain ⟨p, o, z1, z2, xs, n1, n2⟩ := h.rep.ow i1
  rw [i2] at z1
  cases z1
  subst n1
  refine ⟨p, xs, rfl, z2, n2, fun o' d' hn => ?_⟩
  have q := h.rep.write (d' := d') (o' := o') i1 i2 hn
  have e1 : (r ++ (t ++ [Sl.ow (.lst ds)])).set (r.length + t.length) (.ow d') = r ++ (t ++ [.ow d']) := by
    rw [← List.append_assoc, List.set_append_right _ _ (by simp)]
    simp
  rw [e1] at q
  have rt : RepT g B Hs r s (t ++ [.ow d']) (k ++ [some (.ref p)]) (upd H p o') := ⟨h.rn, h.sn, by simp [hl], q, h.sx⟩
  exact rt.pop
theorem psd_tmp0 {m : E} (he : PD X cl W o m)
    (hs0 : swapsWith (.Call (.Attribute o "clear" apos) [] [] cpos) none pos.line X.env = pure false := by rfl)
    (hbase : attributeBase o "clear" X.env (eval o X.env) = eval o X.env := by rfl) (hline : (apos.endLine == cpos.line) = true := by rfl) :
    PSd X cl fx W (.Expr (.Call (.Attribute o "clear" apos) [] [] cpos) pos) (sTmp0 m) := by
  obtain ⟨te, h1, h2⟩ := he
  refine ⟨_, ps_expr (pe_bm0 PySem.F.plainAttrs_list PySem.F.slot_list_clear PySem.F.type_list_clear mt_clear h1 hbase hline) hs0, fun B Hs r s t k H D fl hf hr hm hp => ?_⟩
  rcases sE_cases hm with ⟨y, r1, q1, q2⟩ | ⟨ee, r1, q1, q2⟩
  · refine h2 B Hs r s t k H _ _ hr q1 fun v Hs1 H1 hr1 => ?_
    split at q2
    · cases q2
      obtain ⟨p, xs, rfl, z2, z3, z4⟩ := hr1.topOw
      refine ⟨.inl ⟨rfl, xs, SqL.of z2⟩, p, xs, rfl, rfl, z2, ?_⟩
      exact hp _ _ _ (z4 _ (.lst []) ⟨[], rfl, .nil⟩)
    · cases q2
  · subst q2
    exact h2 B Hs r s t k H _ _ hr q1 (hp s)
theorem psd_tmp1 {m n : E} (he : PD X cl W o m) (hn : PD X cl W e n)
    (hs0 : swapsWith (.Call (.Attribute o "append" apos) [e] [] cpos) none pos.line X.env = pure false := by rfl)
    (hbase : attributeBase o "append" X.env (eval o X.env) = eval o X.env := by rfl)
    (hfew : ((backTo cpos (starEach [e] X.env)).all (fun x => !x.1) && (backToKw cpos (keywordEach [] X.env)).all (fun x => x.1.isSome) && decide ([e].length + ([] : List Keyword).length + (if ([] : List Keyword).isEmpty then 0 else 1) < 30)) = true := by rfl)
    (hline : (apos.endLine == cpos.line) = true := by rfl) (hs : starEach [e] X.env = (false, eval e X.env) :: starEach [] X.env := by rfl) (hplain : (backTo cpos (starEach [] X.env)).any (·.1) = false := by rfl) :
    PSd X cl fx W (.Expr (.Call (.Attribute o "append" apos) [e] [] cpos) pos) (sTmp1 m n) := by
  obtain ⟨te, h1, h2⟩ := he
  obtain ⟨tn, h3, h4⟩ := hn
  refine ⟨_, ps_expr (pe_bm PySem.F.plainAttrs_list PySem.F.slot_list_append PySem.F.type_list_append mt_append h1 (pa_cons h3 pa_nil hs) hbase hfew hline hs hplain) hs0, fun B Hs r s t k H D fl hf hr hm hp => ?_⟩
  rcases sE_cases hm with ⟨y, r1, q1, q2⟩ | ⟨ee, r1, q1, q2⟩
  · refine h2 B Hs r s t k H _ _ hr q1 fun v Hs1 H1 hr1 => ?_
    split at q2
    · rename_i ds
      obtain ⟨p, xs, rfl, z2, z3, z4⟩ := hr1.topOw
      refine ⟨.inl ⟨rfl, xs, SqL.of z2⟩, ?_⟩
      rcases sE_cases q2 with ⟨y2, r2, q3, q4⟩ | ⟨ee, r2, q3, q4⟩
      · refine h4 B Hs1 r1 s _ _ H1 _ _ hr1 q3 fun w Hs2 H2 hr2 => ?_
        split at q4
        · rename_i hc
          cases q4
          obtain ⟨d, hd⟩ := Option.isSome_iff_exists.mp hc.1
          obtain ⟨Hs3, _, hr3, ra⟩ := AV.shared (as := [.v y2]) (.v .nil) hr2 hr1.tk (by unfold shds; rw [show (Arg.v y2).shd r2 = some d from hd]; rfl)
          obtain ⟨p', xs', e1, w2, w3, w4⟩ := hr3.topOw
          cases e1
          refine ⟨p, xs', w, rfl, rfl, w2, by rw [w3.length]; exact hc.2, ?_⟩
          exact hp _ _ _ (w4 _ (.lst (ds ++ [d])) ⟨_, rfl, w3.append ra⟩)
        · cases q4
      · subst q4
        exact h4 B Hs1 r1 s _ _ H1 _ _ hr1 q3 (PostX.drop hr.tk (hp s))
    · cases q2
  · subst q2
    exact h2 B Hs r s t k H _ _ hr q1 (hp s)
end
end Py

set_option Elab.async false
set_option linter.all false
set_option maxRecDepth 100000
/-! Xd: a choice among new things; stores into lists and dicts. -/
namespace Py
open PySem L2
open Classical
section
variable {g : Gam} {B : Bs} {Hs : Hp} {r : Env} {s : L2.St} {t : Env} {k : L2.St} {H : Hp}
def Bs.put (B : Bs) (p : Addr) (o : HO) : Bs := { B with F := upd B.F p o }
theorem RepT.framed {p : Addr} {o : HO} (h : RepT g B Hs r s t k H) (hp : H p = none) : RepT g (B.put p o) Hs r s t k (upd H p o) := by
  obtain ⟨ho, q⟩ := h.rep
  have e := same_upd (o := o) hp
  have ef := same_upd (o := o) (same_none q.fh hp)
  exact ⟨h.rn, h.sn, h.tk, ⟨ho, q.len, q.big, q.ok, q.oo, q.os, fun i => (upd_dj (q.of i).symm (same_none (q.oh i) hp)).symm, fun i => (q.oh i).tr e, q.sh.tr e, same_upd2 q.fh, (upd_dj q.sf.symm (same_none q.sh hp)).symm, q.bf.tr ef, q.h0, q.fix⟩, h.sx⟩
theorem RepT.unframed {p : Addr} {o : HO} {Hs' H' : Hp} {r' : Env} {t' : Env} {k' : L2.St} (h0 : RepT g B Hs r s t k H) (hp : H p = none) (h : RepT g (B.put p o) Hs' r' s t' k' H') : RepT g B Hs' r' s t' k' H' ∧ H' p = some o := by
  obtain ⟨_, q0⟩ := h0.rep
  obtain ⟨ho, q⟩ := h.rep
  have ef : Same B.F (B.put p o).F := same_upd (o := o) (same_none q0.fh hp)
  exact ⟨⟨h.rn, h.sn, h.tk, ⟨ho, q.len, q.big, q.ok, q.oo, q.os, fun i => (q.of i).mono same_rfl ef, q.oh, q.sh, ef.tr q.fh, q.sf.mono same_rfl ef, q0.bf, q.h0, q.fix⟩, h.sx⟩, q.fh _ _ upd_same⟩
theorem tms_vals : ∀ {xs : List Arg}, valsOnly xs = true → ∀ {vs : List V} {kv : L2.St}, AV s xs vs kv → tms xs = xs.map (fun a => match a with | .v y => y | .r _ => .no) ∧ kv = vs.map some
  | [], _, _, _, .nil => ⟨rfl, rfl⟩
  | .v y :: xs, h, _, _, .v av => by
    obtain ⟨a, b⟩ := tms_vals (xs := xs) h av
    exact ⟨by simp [tms, a], by simp [b]⟩
  | .r i :: xs, h, _, _, _ => by cases h
end
section
variable {X : Cx} {cl : Cs} {fx : Nat → Bool} {W : WX} {e : Expr} {es : List Expr} {as : As} {ai : A} {pos p2 : Pos} {x : Str}
theorem pd_sel (h : PAs X cl W es as) (hi : PO X cl W e ai) (hs : PlainIx e) : PD X cl W (.Subscript (.List es p2) e pos) (eSel as ai) := by
  obtain ⟨ta, h1, h2⟩ := h
  obtain ⟨ti, h3, h4⟩ := hi
  refine ⟨_, pe_ix ix_list (pe_lst h1) h3 hs, fun B Hs r s t k H Q o hr hm hp => ?_⟩
  rcases bind_cases hm with ⟨xs, r1, q1, q2⟩ | ⟨ee, r1, q1, q2⟩
  · refine h2 B Hs r s t k H _ _ hr q1 fun vs kv Hs1 H1 av hr1 => ?_
    have al := av.len
    split at q2
    case isFalse => cases q2
    rename_i hc
    rcases bind_cases q2 with ⟨a, r2, q3, q4⟩ | ⟨ee, r2, q3, q4⟩
    · unfold M.get at q4
      dsimp only at q4
      split at q4
      · cases q4
      · rename_i y q5
        cases q4
        split at q5
        · rename_i z qa
          · obtain ⟨j, j1, j2⟩ := Option.bind_eq_some_iff.mp q5
            obtain ⟨w, w1, w2⟩ := Option.bind_eq_some_iff.mp j2
            refine ⟨by rw [← al]; exact hc.2, fun p hn => ?_⟩
            refine h4 (B.put p (.lst vs)) Hs1 r1 s _ _ _ _ _ (hr1.framed hn) q3 fun iv Hs2 H2 ao => ?_
            obtain ⟨c1, c2⟩ := ao.dat qa
            have ri := c1.toR c2.shH
            cases ri
            obtain ⟨c3, hp2⟩ := hr1.unframed hn c2
            cases w with
            | r i => cases w2
            | v y' =>
              dsimp only at w2
              split at w2
              · cases w2
                obtain ⟨tm, km⟩ := tms_vals hc.1 av
                have hj : j < vs.length := by rw [← al]; exact (List.getElem?_eq_some_iff.mp w1).1
                refine ⟨p, vs, z, vs[j], rfl, rfl, SqL.of hp2, ?_, hp _ Hs2 H2 ?_⟩
                · show (ixN vs.length z).bind _ = _
                  rw [← al]
                  exact Option.bind_eq_some_iff.mpr ⟨j, j1, List.getElem?_eq_getElem hj⟩
                · -- the chosen one stays
                  have el := c3.el
                  have hl : t.length = k.length := hr.tk
                  refine ⟨c3.rn, c3.sn, by simp [hl], ?_, c3.sx⟩
                  refine c3.rep.sub (fun i => if i < r2.length + t.length then i else r2.length + t.length + j) (by simp [el, hl]) (by simp [c3.sn]) (fun i hi => ?_) (fun i y u f1 f2 => .inr ?_) fun a b ha hb e => .inl ?_
                  · have := (c3.rep.fix i hi).1
                    rw [List.getElem?_append_left (by rw [c3.sn]; exact this), List.getElem?_append_left (by rw [c3.sn]; exact this)]
                  · by_cases hi : i < r2.length + t.length
                    · rw [if_pos hi]
                      rw [← List.append_assoc, List.getElem?_append_left (by simpa using hi)] at f1
                      rw [← List.append_assoc, List.getElem?_append_left (by simp; omega)] at f2
                      have g1 : (r2 ++ (t ++ tms xs))[i]? = (r2 ++ t)[i]? := by
                        rw [← List.append_assoc, List.getElem?_append_left (by simpa using hi)]
                      have g2 : (s ++ (k ++ kv))[i]? = (s ++ k)[i]? := by
                        rw [← List.append_assoc, List.getElem?_append_left (by simp; omega)]
                      rw [g1, g2]
                      exact ⟨f1, f2⟩
                    · rw [if_neg hi]
                      have hi2 : i = r2.length + t.length := by
                        have := (List.getElem?_eq_some_iff.mp f1).1
                        simp at this
                        omega
                      subst hi2
                      rw [← List.append_assoc, List.getElem?_append_right (by simp)] at f1
                      rw [← List.append_assoc, List.getElem?_append_right (by simp; omega)] at f2
                      simp at f1
                      simp [el, hl] at f2
                      subst f1
                      subst f2
                      refine ⟨?_, ?_⟩
                      · rw [← List.append_assoc, List.getElem?_append_right (by simp), tm]
                        have : r2.length + t.length + j - (r2 ++ t).length = j := by simp
                        rw [this, List.getElem?_map, w1]
                        rfl
                      · rw [← List.append_assoc, List.getElem?_append_right (by simp; omega), km]
                        have : r2.length + t.length + j - (s ++ k).length = j := by simp; omega
                        rw [this, List.getElem?_map, List.getElem?_eq_getElem hj]
                        rfl
                  · simp at ha hb
                    split at e <;> split at e <;> omega
              · cases w2
        · cases q5
    · subst q4
      · refine ⟨by rw [← al]; exact hc.2, fun p hn => ?_⟩
        refine h4 (B.put p (.lst vs)) Hs1 r1 s _ _ _ _ _ (hr1.framed hn) q3 fun C d Hs2 H2 hc hr2 hx => ?_
        obtain ⟨c3, _⟩ := hr1.unframed hn hr2
        exact hp C d Hs2 H2 hc (c3.dropped hr.tk) hx
  · subst q2
    exact h2 B Hs r s t k H _ _ hr q1 hp
/-- xs[k] = v, a list or a dict -/
theorem pset_or {a b : TSet} (h1 : PSet X a) (h2 : PSet X b) : PSet X (fun o i v H Q => a o i v H Q ∨ b o i v H Q) := fun pins s σ H o i v ov iv u Q I ro ri rv h =>
  h.elim (fun z => h1 pins s σ H o i v ov iv u Q I ro ri rv z) fun z => h2 pins s σ H o i v ov iv u Q I ro ri rv z
theorem pgd_setX {i : Nat} {mi : A} (hu : X.A.units + 1 < cLine) (ho : PE X (.Name x p2) (tVar i)) (hi : PO X cl W e mi)
    (ha : ∀ v, assign (.Subscript (.Name x p2) e pos) X.env v = (do
      let w ← holding [v] (eval (.Name x p2) X.env); let iv ← holding [v, w] (eval e X.env); standAt pos; holding [v, w, iv] (setItem w iv v); release [v, w, iv] []) := by intro _; rfl) : PGd X cl fx W (.Subscript (.Name x p2) e pos) (gSetX i mi) := by
  obtain ⟨ti, h1, h2⟩ := hi
  refine ⟨_, pg_sub ho h1 (pset_or set_list (set_dict hu)) ha, fun B Hs r s t k H y v Q fl hfx hr hm hp => ?_⟩
  unfold gSetX at hm
  cases q0 : (r[i]?).bind Sl.get with
  | none =>
    rw [q0] at hm
    cases hm
  | some dz =>
  rw [q0] at hm
  dsimp only at hm
  obtain ⟨y0, qa, qb⟩ := Option.bind_eq_some_iff.mp q0
  obtain ⟨v0, ea, _⟩ := hr.rc qa qb
  refine ⟨v0, ea, ?_⟩
  cases q : mi r with
  | none =>
    rw [q] at hm
    cases hm
  | some u =>
    rw [q] at hm
    have hd : t.length = k.length := by have := hr.tk; simpa using this
    cases u with
    | ex e r1 => cases hm
    | ok a r1 =>
      dsimp only at hm
      obtain ⟨r', er, hq⟩ := hp
      split at hm
      · rename_i ds z d q1 q2 q3
        obtain ⟨j, q4, q5⟩ := Option.map_eq_some_iff.mp hm
        rw [er] at q5
        cases q5
        refine h2 B Hs r s (t ++ [y]) (k ++ [some v]) H _ _ hr q fun iv Hs2 H2 ao => ?_
        obtain ⟨c1, c2⟩ := ao.dat q2
        have ri := c1.toR c2.shH
        cases ri
        obtain ⟨Hs3, _, c3, rv⟩ := AV.shared (as := [.v y]) (.v .nil) c2 hd (by unfold shds; rw [show (Arg.v y).shd r1 = some d from q3]; rfl)
        obtain ⟨p, o1, e1, e2, xs, n1, n2⟩ := c3.ow q1
        rw [ea] at e1
        cases e1
        subst n1
        cases rv with
        | cons rv _ =>
          refine .inl ⟨p, xs, z, j, rfl, rfl, e2, by rw [n2.length]; exact q4, ?_⟩
          exact hq _ _ _ (c3.write q1 ea ⟨_, rfl, n2.set rv j⟩)
      · rename_i ks ds kd d q1 q2 q3
        obtain ⟨kk, k1, k2⟩ := Option.bind_eq_some_iff.mp hm
        split at k2
        · rename_i hlen
          rw [er] at k2
          cases k2
          refine h2 B Hs r s (t ++ [y]) (k ++ [some v]) H _ _ hr q fun iv Hs2 H2 ao => ?_
          obtain ⟨c1, c2⟩ := ao.dat q2
          cases keyOf_kV c1 k1
          obtain ⟨Hs3, _, c3, rv⟩ := AV.shared (as := [.v y]) (.v .nil) c2 hd (by unfold shds; rw [show (Arg.v y).shd r1 = some d from q3]; rfl)
          obtain ⟨p, o1, f1, f2, xs, n1, n2, n3⟩ := c3.ow q1
          rw [ea] at f1
          cases f1
          subst n1
          cases rv with
          | cons rv _ =>
            refine .inr ⟨p, _, rfl, DPut.k f2 (by rw [List.length_zip, n2, Nat.min_self, n3.length]; exact hlen), ?_⟩
            rw [putK_zip n2]
            exact hq _ _ _ (c3.write q1 ea ⟨_, rfl, dPut_len n2, n3.dPut rv kk⟩)
        · cases k2
      · cases hm
theorem gSetX_nx {i : Nat} {mi : A} : ∀ x r fl, gSetX i mi x r = some fl → ∃ r', fl = .nx r' := fun x r fl h => by
  unfold gSetX at h
  split at h
  · cases h
  · split at h
    · split at h
      · obtain ⟨j, _, e⟩ := Option.map_eq_some_iff.mp h
        exact ⟨_, e.symm⟩
      · obtain ⟨k, _, e⟩ := Option.bind_eq_some_iff.mp h
        split at e
        · cases e
          exact ⟨_, rfl⟩
        · cases e
      · cases h
    · cases h
end
end Py

set_option Elab.async false
set_option linter.all false
set_option maxRecDepth 100000
/-! Xe: enumerate of a tuple. -/
namespace PySem
open Sem (wp)
set_option maxHeartbeats 1000000 in
theorem meets_enumerate_one {v : Value} {o : Obj} {H : Heap → Prop} (B : Begins v o H) : Meets (Builtin.«enumerate.__new__» ⟨[.type "enumerate", v], []⟩) (fun _ R s => H s.heap ∧
      R (.ok (.ret (.ref (s.heap.push o).objs.size))) { s with heap := (s.heap.push o).push { cls := .type "enumerate", data := .fields #[.none, .bool false, .ref s.heap.objs.size, rawInt 0, .none, .none] } }) :=
  .of_wp fun prog w A R s h => by
    obtain ⟨hp, g, d, tk, os⟩ := s
    obtain ⟨h1, h⟩ := h
    have hsub := sub_enumerate
    have q1 : ∀ {A' : Around} {E : Value → Shared → Prop} {Q : Value → Shared → Prop}, Q (.ref hp.objs.size) ⟨hp.push o, g, d, tk, os⟩ → wpAny (model prog w) A' (pyIter v) Q E ⟨hp, g, d, tk, os⟩ := fun q => B.iter prog w _ _ ⟨hp, g, d, tk, os⟩ _ h1 q
    wp_walk using q1
    refine wpAny_stack_any fun st => wpAny_pure ?_
    split
    · rename_i c _ _ _ _ _
      cases (c == Value.type "enumerate") <;> (wp_walk using q1; exact ⟨_, rfl, h⟩)
    · wp_walk using q1
      exact ⟨_, rfl, h⟩
theorem enum_begins1 {prog : Program} {w : World} {A : Around} {E : Value → Shared → Prop} {s : Shared} {v : Value} {o : Obj} {H : Heap → Prop} {Q : Value → Shared → Prop} (B : Begins v o H) (h1 : H s.heap)
    (h : ∀ h', IsEnum h' (s.heap.objs.size + 1) s.heap.objs.size 0 .none → h'.get? s.heap.objs.size = some o → (∀ b o, s.heap.get? b = some o → h'.get? b = some o) → Q (.ref (s.heap.objs.size + 1)) { s with heap := h' }) : wpAny (model prog w) A (call (.type "enumerate") [v]) Q E s := by
  refine callType_new F.called_enumerate (by decide) (F.typeCall_enumerate_1 _) (F.newCall_enumerate_1 _) (fun obj => F.args_object_init_2 obj _) F.entry_enumerate_new (meets_enumerate_one B) ⟨h1, ?_⟩
  obtain ⟨en, een⟩ : ∃ en : Obj, en = { cls := .type "enumerate", data := .fields #[.none, .bool false, .ref s.heap.objs.size, rawInt 0, .none, .none] } := ⟨_, rfl⟩
  have sz : (s.heap.push o).objs.size = s.heap.objs.size + 1 := Heap.size_push ..
  rw [← een]
  show _ ∧ _
  rw [sz]
  have at1 : ((s.heap.push o).push en).get? (s.heap.objs.size + 1) = some en := by
    have := Heap.get?_push_size (s.heap.push o) (o := en) (by rw [een]; rfl)
    rw [sz] at this
    exact this
  rw [een] at at1 ⊢
  exact ⟨⟨_, at1, rfl⟩, h _ at1 (Heap.get?_push_of_some _ (Heap.get?_push_size _ B.free)) fun b u x => Heap.get?_push_of_some _ (Heap.get?_push_of_some _ x)⟩
theorem enum_end_tuple {prog : Program} {w : World} {A : Around} {E : Value → Shared → Prop} {s : Shared} {e it l : Addr} {i : Nat} {k : Int} {items : Array Value} {old : Value} {Q : Option Value → Shared → Prop} (hh : A.in1.handled = none) (he : IsEnum s.heap e it k old) (hit : s.heap.IsTupleIter it l i) (hl : s.heap.IsTuple l items) (hx : items[i]? = none) (hQ : ∀ h', Heap.ExtBut it s.heap h' → Q none { s with heap := h' }) : wpAny (model prog w) A (pyNext (.ref e)) Q E s := by
  have ty : s.TypeIs (.ref e) "enumerate" := ⟨_, he, rfl⟩
  unfold pyNext
  refine wpAny_bind (wpAny_attempt (wpAny_callSpecial?_slot (name := Str.ofString "__next__") ty F.slot_enumerate_next (wpAny_call_entry F.slot_enumerate_next ty F.entry_enumerate_next ?_ (F.args_enumerate_next_1 _))))
  refine (show wpAny _ _ (field (.ref e) 2 >>= _) _ _ _ from ?_)
  refine wpAny_bind (wpAny_field he rfl (x := .ref it) rfl (wpAny_bind (wpAny_nextOf_tuple_end hh hit hl hx fun h' x he' ⟨o, ho, hc⟩ => ?_)))
  exact wpAny_bind (wpAny_isInstance (T := "StopIteration") (b := true) ⟨o, ho, hc⟩ isSubtype_stop (wpAny_pure (hQ _ he')))
end PySem
namespace Py
open PySem L2
/-- the tuple at a, each item with its number -/
def Itu (K : PySem.W.Frag) (a : Addr) : It :=
  ⟨fun i H => ∃ (xs : List V) (x : V), SqT K H a xs ∧ xs[i]? = some x, fun i H v H' => ∃ T x, v = .ref T ∧ H T = none ∧ H' = upd H T (.tup [.int (i : Nat), x]) ∧ ∀ xs, SqT K H a xs → xs[i]? = some x, fun i H => ∃ xs : List V, SqT K H a xs ∧ xs.length ≤ i⟩
theorem turn_enumT {P : Program} {w : World} {K : PySem.W.Frag} {elts : List Expr} {kk : Nat} {tpos : Pos} (a e it : Addr) :
    Turn P w K (.Tuple elts kk tpos) (Itu K a) [e, it] e (fun i h => (∃ old, IsEnum h e it ((i : Nat) : Int) old) ∧ h.IsTupleIter it a i ∧ e ≠ it ∧ a ≠ it ∧ a ≠ e) where
  mem := by simp
  obj := fun i h st b hb => by
    obtain ⟨⟨old, he⟩, ⟨o, ho, hc, hd⟩, _⟩ := st
    rcases (show b = e ∨ b = it by simpa using hb) with rfl | rfl
    · exact ⟨_, he, fun v q => nomatch q⟩
    · exact ⟨o, ho, fun v q => by rw [hd] at q; cases q⟩
  keep := fun i h h' st k => let ⟨⟨old, he⟩, hi, n1, n2, n3⟩ := st; ⟨⟨old, k e (by simp) _ he⟩, hi.at fun o q => k it (by simp) o q, n1, n2, n3⟩
  item := by
    intro X hP hw hK hc i pins s σ H E I hf st hg
    subst hP hw hK
    obtain ⟨⟨old, he⟩, hit, n1, n2, n3⟩ := st
    obtain ⟨xs, x, hq, hx⟩ := hg
    obtain ⟨its, rv, p, hz⟩ := I.tuple hq
    obtain ⟨u, hu, ru⟩ := rv.get hx
    have hel : e < s.heap.objs.size := Heap.lt_size he
    have hil : it < s.heap.objs.size := by obtain ⟨_, q, _⟩ := hit; exact Heap.lt_size q
    have D := Draws.tuple (prog := X.prog) (w := X.w) (A := X.A.in1) (show X.A.in1.handled = none from I.ok.hd hc) it a n2 its.toArray
    have hlt : i < its.toArray.size := by
      have := (List.getElem?_eq_some_iff.mp hu).1
      simpa using this
    refine wpAny_pyNext_enum_itemD D he ⟨hit, p⟩ hlt n1 (by simp [n1, Ne.symm n3]) fun y h1 tk hy ho hst hT hsz hk => ?_
    have ey : y = u := by
      have : its[i]? = some y := by simpa using hy
      rw [hu] at this
      exact (Option.some.inj this).symm
    subst ey
    refine ⟨_, rfl, wpAny_letOwnedTupleGo_enum (s := { s with heap := h1, toks := tk + 1 }) ho fun h2 he2 sb => ?_⟩
    have hT2 : h2.get? s.heap.objs.size = some { cls := .type "tuple", data := .seq #[.int i tk, y] } := (sb.2 _ (Nat.ne_of_gt hel)).trans hT
    have new : ObjOk X.prog X.w (upd H s.heap.objs.size (.tup [.int (i : Nat), x])) h2 s.heap.objs.size (.tup [.int (i : Nat), x]) := ⟨by show 2 ≤ sizeLine; decide, [.int i tk, y], .cons ⟨_, rfl⟩ (.cons ru .nil), ⟨_, hT2, rfl, _, rfl⟩⟩
    have I1 : Inv X pins σ (upd H s.heap.objs.size (.tup [.int (i : Nat), x])) { s with heap := h2, toks := tk + 1 } :=
      I.turnedNew (ch := [e, it]) (fun b ob hb q => (sb.2 b (fun z => hb (by simp [z]))).trans (hk b ob (fun z => hb (by simp [z])) (fun z => hb (by simp [z])) q)) hf (Nat.le_refl _) new
    refine ⟨.ref s.heap.objs.size, _, I1, rfl, ⟨_, x, rfl, I.hok.fresh (Nat.le_refl _), rfl, fun ys hy => by rw [I.tuple_inj hy hq]; exact hx⟩, ⟨⟨y, ?_⟩, hst.1.at fun o q => (sb.2 it (Ne.symm n1)).trans q, n1, n2, n3⟩, fun b hb => ?_⟩
    · rw [show ((i + 1 : Nat) : Int) = (i : Int) + 1 by omega]
      exact he2
    · have hb2 : b < s.heap.objs.size := by
        rcases (show b = e ∨ b = it by simpa using hb) with rfl | rfl
        · exact hel
        · exact hil
      rw [upd_ne (Nat.ne_of_lt hb2)]
      exact (hf b hb).1
  done := by
    intro X hP hw hK hc i pins s σ H E I hf st hg
    subst hP hw hK
    obtain ⟨⟨old, he⟩, hit, n1, n2, n3⟩ := st
    obtain ⟨xs, hq, hx⟩ := hg
    obtain ⟨its, rv, p, hz⟩ := I.tuple hq
    obtain ⟨f0, f1, f2, f3, f4, f5⟩ := hf it (by simp)
    have hl := rv.length
    exact enum_end_tuple (show X.A.in1.handled = none from I.ok.hd hc) he hit p (by simp; omega) fun h' eb => ⟨rfl, I.turned (t' := s.toks) (fun b o hb q => eb b o hb q) f0 f1 f3 f4 f5⟩
  self := fun A i s Q E st h => let ⟨⟨_, he⟩, _⟩ := st; wpAny_pyIter_enum he h
def iEnumX (K : PySem.W.Frag) (ta : TA) : TI := fun σ H R => ta σ H fun vs H1 => (∃ a xs, vs = [.ref a] ∧ SqL K H1 a xs ∧ R (Ite K a) H1) ∨ ∃ a xs, vs = [.ref a] ∧ SqT K H1 a xs ∧ R (Itu K a) H1
theorem pi_enumX {X : Cx} {e : Expr} {ta : TA} {p pos tpos : Pos} {elts : List Expr} {kk : Nat} (hg : Gl X "enumerate") (hm : X.mg "enumerate" = none) (ha : PA X [e] ta) (hs : starEach [e] X.env = [(false, eval e X.env)] := by rfl) : PI X (.Tuple elts kk tpos) (.Call (.Name "enumerate" p) [e] [] pos) (iEnumX X.K ta) := by
  refine ⟨fun pins s σ H R I h => PyProof.Rows.Call_ (ld_blt I hg hm PyProof.Rows.boot_enumerate (PyProof.Rows.callWith_type1 (thn (ha.run pos pins s σ H _ I h) fun us s1 ⟨vs, H1, I1, r1, q1⟩ => ?_) hs rfl))⟩
  have new : ∀ b, b ∈ [s1.heap.objs.size + 1, s1.heap.objs.size] → s1.heap.objs.size ≤ b := fun b hb => by
    rcases (show b = s1.heap.objs.size + 1 ∨ b = s1.heap.objs.size by simpa using hb) with rfl | rfl <;> omega
  rcases q1 with ⟨a, xs, ex, hq, q⟩ | ⟨a, xs, ex, hq, q⟩
  · subst ex
    cases r1 with
    | cons r rr =>
      cases rr
      cases r
      obtain ⟨its, rv, p', hz⟩ := I1.list hq
      refine call_enumerate_list p'.isList fun h' he hit hsz hk => wpAny_pyIter_enum he ?_
      exact ⟨s1.heap.objs.size + 1, [s1.heap.objs.size + 1, s1.heap.objs.size], _, _, H1, rfl, I1.kept (t' := s1.toks) hk, turn_enum a (s1.heap.objs.size + 1) s1.heap.objs.size, ⟨⟨.none, he⟩, hit, Nat.succ_ne_self _⟩, fun b hb => I1.fpOk (new b hb) (I1.hok.fresh (new b hb)), q⟩
  · subst ex
    cases r1 with
    | cons r rr =>
      cases rr
      cases r
      obtain ⟨its, rv, p', hz⟩ := I1.tuple hq
      have al : a < s1.heap.objs.size := by obtain ⟨_, z, _⟩ := p'; exact Heap.lt_size z
      refine enum_begins1 (begins_tuple a its.toArray) p' fun h' he hit hk => wpAny_pyIter_enum he ?_
      exact ⟨s1.heap.objs.size + 1, [s1.heap.objs.size + 1, s1.heap.objs.size], _, _, H1, rfl, I1.kept (t' := s1.toks) hk, turn_enumT a (s1.heap.objs.size + 1) s1.heap.objs.size, ⟨⟨.none, he⟩, ⟨_, hit, rfl, rfl⟩, Nat.succ_ne_self _, Nat.ne_of_lt al, Nat.ne_of_lt (Nat.lt_succ_of_lt al)⟩, fun b hb => I1.fpOk (new b hb) (I1.hok.fresh (new b hb)), q⟩
theorem ItOk.enumT {g : Gam} {ds : List D} {y : Sl} {a : Addr} (hy : y.get = some (.tup ds)) : ItOk g (Itu g.m.K a) (enumD 0 ds) [y] [some (.ref a)] := by
  have rc : ∀ B Hs r s tA kA tB kB H, tA.length = kA.length → RepT g B Hs r s (tA ++ ([y] ++ tB)) (kA ++ ([some (V.ref a)] ++ kB)) H → ∃ xs, SqT g.m.K H a xs ∧ RA g Hs xs ds := fun B Hs r s tA kA tB kB H hl hr => by
    have e2 := RepT.trc (t' := tB) (k' := kB) hr hl (d := .tup ds) hy
    obtain ⟨a, xs, z1, z2, z3⟩ := e2.tup hr.shH
    cases z1
    exact ⟨xs, z2, z3⟩
  refine ⟨fun B Hs r s tA kA tB kB H i d hl hd hr => ?_, fun B Hs r s tA kA tB kB H hl hr => ?_⟩
  · obtain ⟨xs, z2, z3⟩ := rc B Hs r s tA kA tB kB H hl hr
    rw [enumD_get] at hd
    obtain ⟨d0, hd0, hd1⟩ := Option.map_eq_some_iff.mp hd
    subst hd1
    obtain ⟨w, w1, w2⟩ := z3.get hd0
    refine ⟨⟨xs, w, z2, w1⟩, fun x H2 hy => ?_⟩
    obtain ⟨T, x0, y1, y2, y3, y4⟩ := hy
    have := y4 xs z2
    rw [w1] at this
    cases this
    subst y1
    subst y3
    rw [Nat.zero_add]
    exact ⟨_, hr.pushTup y2 (.cons (.int _) (.cons w2 .nil))⟩
  · obtain ⟨xs, z2, z3⟩ := rc B Hs r s tA kA tB kB H hl hr
    exact ⟨xs, z2, by rw [enumD_length, z3.length]; exact Nat.le_refl _⟩
theorem pwk_enumX {X : Cx} {cl : Cs} {W : WX} {a : Expr} {pos q tpos : Pos} {elts : List Expr} {kk : Nat} {m : E} (hgl : Gl X "enumerate") (hmr : X.mg "enumerate" = none) (ha : PD X cl W a m) (hs : starEach [a] X.env = [(false, eval a X.env)] := by rfl) : PWk X cl W (.Tuple elts kk tpos) (.Call (.Name "enumerate" q) [a] [] pos) (wEnumX (aV m)) := by
  obtain ⟨ta, h1, h2⟩ := po_v ha
  refine ⟨_, pi_enumX hgl hmr (pa_cons h1 pa_nil hs) hs, fun B Hs r s t k H R o hr hm hp => ?_⟩
  have das := das_cons (W := W) (g := gm X cl) h2 das_nil
  unfold iEnumX
  have one : ∀ {r1 : Env} {y : Sl} {d : D}, dats r1 [.v y] = some [d] → y.get = some d := fun {r1 y d} q4 => by
    unfold dats at q4
    cases q5 : (Arg.v y).dat r1 with
    | none =>
      rw [q5] at q4
      cases q4
    | some d =>
      rw [q5] at q4
      unfold dats at q4
      cases q4
      exact q5
  rcases bind_cases hm with ⟨ys, r1, q1, q2⟩ | ⟨ee, r1, q1, q2⟩
  · refine das B Hs r s t k H _ _ hr q1 fun vs kv HsH1 H1 av hr1 => ?_
    unfold M.get at q2
    dsimp only at q2
    split at q2
    · cases q2
    · rename_i p q3
      cases q2
      split at q3
      · rename_i y ds q4
        cases q3
        match vs, kv, av with
        | _, _, @AV.v _ _ v1 _ _ _ .nil =>
          have hy := one q4
          have hr2 : RepT (gm X cl) B HsH1 r1 s (t ++ [y]) (k ++ [some v1]) H1 := hr1
          obtain ⟨a, xs, z1, z2, z3⟩ := (RepT.topC hr2 (d := .lst ds) hy).lst hr2.shH
          cases z1
          exact .inl ⟨a, xs, rfl, SqL.of z2, hp _ _ _ _ (ItOk.enum hy) hr2⟩
      · rename_i y ds q4
        cases q3
        match vs, kv, av with
        | _, _, @AV.v _ _ v1 _ _ _ .nil =>
          have hy := one q4
          have hr2 : RepT (gm X cl) B HsH1 r1 s (t ++ [y]) (k ++ [some v1]) H1 := hr1
          obtain ⟨a, xs, z1, z2, z3⟩ := (RepT.topC hr2 (d := .tup ds) hy).tup hr2.shH
          cases z1
          exact .inr ⟨a, xs, rfl, z2, hp _ _ _ _ (ItOk.enumT hy) hr2⟩
      · cases q3
  · subst q2
    exact das B Hs r s t k H _ _ hr q1 hp
theorem _root_.L2.Room.units2 {k : Nat} {A : Around} (r : Room k A) : A.units + 1 < cLine := by have := r.un; omega
end Py

set_option Elab.async false
set_option linter.all false
set_option maxRecDepth 100000
/-! Xf: further statements. -/
namespace Py
open PySem L2
section
variable {X : Cx} {cl : Cs} {fx : Nat → Bool} {W : WX} {pos : Pos}
/-- the last of the temps goes to slot i -/
theorem RepT.storeT {g : Gam} {B : Bs} {Hs : Hp} {r : Env} {s : L2.St} {t : Env} {k : L2.St} {H : Hp} {i : Nat} {x : Sl} {o : Option V} (h : RepT g B Hs r s (t ++ [x]) (k ++ [o]) H) (hi : i < r.length) (hf : B.fx i = false) : RepT g B Hs (r.set i x) (s.set i o) t k H := by
  have hl : t.length = k.length := by have := h.tk; simpa using this
  refine ⟨by simp [h.rn], by simp [h.sn], hl, ?_, h.sx⟩
  have q := h.rep
  rw [← List.append_assoc, ← List.append_assoc] at q
  exact q.store h.el hl (by rw [h.sn]; exact Nat.le_refl _) hi hf
theorem psd_par3 {i j l : Nat} {x y z : Str} {a b c : Expr} {as : As} {px py pz pt : Pos} {kt k2 pt2} (hc : X.calm = true) (hN : X.N.Nodup) (hi : X.N[i]? = some x) (hj : X.N[j]? = some y) (hl : X.N[l]? = some z) (hij : i ≠ j) (hil : i ≠ l) (hjl : j ≠ l)
    (hx : X.env.scope.names.lookup x = some .local) (hy : X.env.scope.names.lookup y = some .local) (hz : X.env.scope.names.lookup z = some .local) (ha : PAs X cl W [a, b, c] as) (hFi : fx i = false) (hFj : fx j = false) (hFl : fx l = false)
    (hw : swappedStores [.Tuple [.Name x px, .Name y py, .Name z pz] kt pt] (.Tuple [a, b, c] k2 pt2) X.env = pure (some [x, y, z])) (hs : swapsWithSole [.Tuple [.Name x px, .Name y py, .Name z pz] kt pt] (.Tuple [a, b, c] k2 pt2) pos.line X.env = pure false := by rfl) :
    PSd X cl fx W (.Assign [.Tuple [.Name x px, .Name y py, .Name z pz] kt pt] (.Tuple [a, b, c] k2 pt2) pos) (sPar3 i j l as) := by
  obtain ⟨ta, h1, h2⟩ := ha
  refine ⟨_, ps_par3 hc hN hi hj hl hij hil hjl hx hy hz h1 hw hs, fun B Hs r s t k H D fl hf hr hm hp => ?_⟩
  rcases sE_cases hm with ⟨xs, r1, q1, q2⟩ | ⟨ee, r1, q1, q2⟩
  · refine h2 B Hs r s t k H _ _ hr q1 fun vs kv Hs1 H1 av hr1 => ?_
    split at q2
    · rename_i u w v
      split at q2
      · rename_i hlt
        cases q2
        match vs, kv, av with
        | _, _, @AV.v _ _ v1 _ _ _ (@AV.v _ _ v2 _ _ _ (@AV.v _ _ v3 _ _ _ .nil)) =>
          refine ⟨v1, v2, v3, rfl, hp _ Hs1 H1 ?_⟩
          have g0 : RepT (gm X cl) B Hs1 r1 s (((t ++ [u]) ++ [w]) ++ [v]) (((k ++ [some v1]) ++ [some v2]) ++ [some v3]) H1 := by simpa [tms] using hr1
          have g1 := g0.storeT (i := l) hlt.2.2 (by rw [hf]; exact hFl)
          have g2 := g1.storeT (i := j) (by simpa using hlt.2.1) (by rw [hf]; exact hFj)
          have g3 := g2.storeT (i := i) (by simpa using hlt.1) (by rw [hf]; exact hFi)
          have e1 : ((r1.set l v).set j w).set i u = ((r1.set i u).set j w).set l v := by
            rw [List.set_comm _ _ (Ne.symm hjl), List.set_comm _ _ (Ne.symm hil), List.set_comm _ _ (Ne.symm hij)]
          have e2 : ((s.set l (some v3)).set j (some v2)).set i (some v1) = ((s.set i (some v1)).set j (some v2)).set l (some v3) := by
            rw [List.set_comm _ _ (Ne.symm hjl), List.set_comm _ _ (Ne.symm hil), List.set_comm _ _ (Ne.symm hij)]
          rw [e1, e2] at g3
          exact g3
      · cases q2
    · cases q2
  · subst q2
    exact h2 B Hs r s t k H _ _ hr q1 (hp s)
end
end Py

set_option Elab.async false
set_option linter.all false
set_option maxRecDepth 100000
/-! Xg: further operations. -/
namespace Py
open PySem L2
section
variable {X : Cx} {cl : Cs}
def rMulS : R2 := fun x y H Q => ∃ z n, x = .str z ∧ y = .int n ∧ 1 ≤ n ∧ n ≤ 1000 ∧ z.length ≤ 1000 ∧ Q (.str (repS z n.toNat)) H
theorem foldl_app (n : Nat) (a : Array Nat) : ∀ b : Array Nat, (List.replicate n a).foldl (· ++ ·) b = b ++ (List.replicate n a.toList).flatten.toArray := by
  induction n with
  | zero => intro b; simp
  | succ n ih =>
    intro b
    rw [List.replicate_succ, List.foldl_cons, ih, List.replicate_succ, List.flatten_cons]
    apply Array.ext'
    simp
theorem repS_eq (z : Str) (n : Nat) : (⟨(List.replicate n z.cps).foldl (· ++ ·) #[]⟩ : Str) = repS z n := by
  unfold repS
  rw [foldl_app]
  simp
theorem repS_len (z : Str) (n : Nat) : (repS z n).length = n * z.length := by
  show (repS z n).cps.size = _
  unfold repS
  simp [List.length_flatten, Str.length]
theorem op_mulS : OpR X (binaryOp .Mult) rMulS := by
  intro pins s σ H x y v u Q I rx ry h
  obtain ⟨z, n, rfl, rfl, h1, h2, h3, q⟩ := h
  obtain ⟨t, rfl⟩ := rx
  obtain ⟨t2, rfl⟩ := ry
  have hn1 : ¬ n < 1 := by omega
  have hlen : z.length * n.toNat ≤ 1000000 := by
    have : n.toNat ≤ 1000 := by omega
    exact Nat.le_trans (Nat.mul_le_mul h3 this) (by decide)
  refine P.mul_str ?_ (fun _ _ => ?_) (fun _ _ => ?_) ?_
  · rw [decide_eq_false (by omega), decide_eq_false (by omega)]
    rfl
  · intro hgt
    have : (2 ^ 63 - 1 : Int) / n ≥ (2 ^ 63 - 1) / 1000 := by
      refine Int.le_ediv_of_mul_le (by omega) ?_
      have e : ((2 ^ 63 - 1 : Int) / 1000) = 9223372036854775 := by decide
      rw [e]
      have : (9223372036854775 : Int) * n ≤ 9223372036854775 * 1000 := Int.mul_le_mul_of_nonneg_left h2 (by decide)
      omega
    have e : ((2 ^ 63 - 1 : Int) / 1000) = 9223372036854775 := by decide
    rw [e] at this
    omega
  · exact PyProof.Rows.short24 (by omega)
  · rw [if_neg hn1]
    by_cases hb : (n == 1 || z.length == 0) = true
    · rw [if_pos hb]
      have e : repS z n.toNat = z := by
        rcases Bool.or_eq_true_iff.mp hb with hb | hb
        · have : n = 1 := eq_of_beq hb
          subst this
          show (⟨(List.replicate 1 z.cps.toList).flatten.toArray⟩ : Str) = z
          simp
        · have hz : z.cps.size = 0 := eq_of_beq hb
          have hz2 : z.cps = #[] := Array.eq_empty_of_size_eq_zero hz
          obtain ⟨c⟩ := z
          subst hz2
          unfold repS
          simp
      rw [e] at q
      exact ⟨.str z, H, I, ⟨_, rfl⟩, q⟩
    · rw [if_neg hb, repS_eq]
      exact ⟨by rw [repS_len, Nat.mul_comm, sizeLine_eq]; omega, .str _, H, I.tok _, ⟨_, rfl⟩, q⟩
theorem ra_flat {g : Gm} {Hs : Hp} {xs : List V} {ds : List D} (h : RA g Hs xs ds) : ∀ n, RA g Hs (List.replicate n xs).flatten (List.replicate n ds).flatten
  | 0 => .nil
  | n + 1 => by
    rw [List.replicate_succ, List.replicate_succ, List.flatten_cons, List.flatten_cons]
    exact h.append (ra_flat h n)
abbrev rMulY : R2 := fun x y H Q => (L2.rI CMulW (fun i j => V.int (i * j)) x y H Q ∨ rMulS x y H Q) ∨ L2.rRep x y H Q
theorem op_mulY : OpR X (binaryOp .Mult) rMulY := opR_or (opR_or op_mulW op_mulS) op_rep
theorem od_mulX : OpD (gm X cl) (r2L rMulY) oMulX := by
  intro Hs H vs ds x Q e hv hf c
  unfold oMulX at hf
  split at hf
  · obtain ⟨v, w, rfl, h1, h2⟩ := rca2 hv
    cases h1.int
    cases h2.int
    split at hf
    · rename_i hl
      cases hf
      unfold mulOk at hl
      exact .inl (.inl ⟨_, _, rfl, rfl, by have z := of_decide_eq_true hl; exact z, c.val _ _ rfl (.int _)⟩)
    · cases hf
  · obtain ⟨v, w, rfl, h1, h2⟩ := rca2 hv
    cases h1.str
    cases h2.int
    split at hf
    · rename_i hl
      cases hf
      exact .inl (.inr ⟨_, _, rfl, rfl, hl.1, hl.2.1, hl.2.2, c.val _ _ rfl (.str _)⟩)
    · cases hf
  · obtain ⟨v, w, rfl, h1, h2⟩ := rca2 hv
    split at hf
    · rename_i hl
      cases hf
      obtain ⟨a, xs, rfl, a1, a2⟩ := h1.lst e
      cases h2.int
      refine .inr ⟨a, _, xs, rfl, rfl, a1, by omega, by omega, ?_, fun p hp => ?_⟩
      · rw [a2.length, sizeLine_eq]
        rename_i xs' n'
        have h5 := Nat.mul_le_mul hl.2.2 (show Int.toNat n' ≤ 1000 from by omega)
        exact Nat.le_trans h5 (by decide)
      · exact c.lst p _ _ rfl hp (ra_flat a2 _)
    · cases hf
  · cases hf
end
end Py

set_option Elab.async false
set_option linter.all false
/-! the head's facts over a fragment that also holds the cell of the statics -/
namespace Py
open PySem L2
def obsZG (n : Nat) (fs : List FactK) (fn : List He.DefD) (g : Addr → Option Obj) : He.AlD := obsX fs fn (He.frG g (cStatics :: He.asD g n))
def hookZ (n : Nat) (fs : List FactK) (fn : List He.DefD) : PySem.W.Hook where
  α := He.AlD
  obs := fun s => obsZG n fs fn s.heap.get?
  val := fun _ => He.valD fn
  says := fun _ h => ∃ K : PySem.W.Frag, K.In h ∧ SaysX fs fn K
  of := fun _ _ e => ⟨_, He.frG_in, e⟩
  keeps := fun _ _ _ ⟨K, hK, c⟩ k => ⟨K, PySem.W.Frag.In.keeps hK k, c⟩
theorem obsZG_eq {n : Nat} {fs : List FactK} {fn : List He.DefD} {g : Addr → Option Obj} {s : Shared} (h : ∀ a, g a = s.heap.get? a) : obsZG n fs fn g = (hookZ n fs fn).obs s := by
  have e : g = s.heap.get? := funext h
  subst e
  rfl
end Py

/-! Obm: further operations (pure). -/
namespace Py
open PySem
/-- isinstance(x, C), C a class of the program's own and x one of its objects -/
@[simp] def oIsO (c : Str) : List D → Option Sl
  | [.obj c' _ _] => if c' = c then rB true else none
  | _ => none
/-- an except clause: the slot of its name, which classes it takes, its suite -/
abbrev Clz := Option Nat × (Str → Bool) × (Exc → S)
@[simp] def clzRun : Option Nat → S → S
  | none, su, r => match su r with
    | some (.ex _ _) => none
    | x => x
  | some i, su, r => if i < r.length then
      match su (r.set i .no) with
      | some (.nx r2) => some (.nx (r2.set i .no))
      | some (.bk r2) => some (.bk (r2.set i .no))
      | some (.ct r2) => some (.ct (r2.set i .no))
      | some (.rt x r2) => some (.rt x (r2.set i .no))
      | _ => none
    else none
@[simp] def clzs : List Clz → Exc → S
  | [], e => fun r => some (.ex e r)
  | (o, sub, su) :: hs, e => fun r => if sub e.cls = true then clzRun o (su e) r else clzs hs e r
/-- try: b, except .. -/
@[simp] def sTryC (b : S) (hs : List Clz) : S := fun r => match b r with
  | some (.ex e r1) => clzs hs e r1
  | x => x
end Py

set_option Elab.async false
set_option linter.all false
set_option maxRecDepth 100000
/-! Xi: isinstance of objects of own classes. -/
namespace Py
open PySem PySem.Spec PyProof.Rows L2
/-- what isinstance asks of a class -/
structure IsoC (K : PySem.W.Frag) (C : Addr) : Prop where
  cl : Cls K C
  ha : PySem.W.findIn K (.ref C) "__class__" = some (some (.builtin "object.__class__"))
  hn : PySem.W.specialIn K (.builtin "object.__class__") "__get__" = some (some (.builtin "getset_descriptor.__get__"))
  ht : PySem.W.takesIn K (.builtin "object.__class__") = some true
  hm : PySem.W.mroIn K C (.type "object") = some true
  hk : PySem.W.kitOne K (.ref C) (.ref C) = some true
def isoB (K : PySem.W.Frag) (C : Addr) : Bool := He.eqO (PySem.W.findIn K (.ref C) "__class__") (some (some (.builtin "object.__class__"))) && (He.eqO (PySem.W.specialIn K (.builtin "object.__class__") "__get__") (some (some (.builtin "getset_descriptor.__get__"))) && (decide (PySem.W.takesIn K (.builtin "object.__class__") = some true) && (decide (PySem.W.mroIn K C (.type "object") = some true) && decide (PySem.W.kitOne K (.ref C) (.ref C) = some true))))
theorem isoB_ok {K : PySem.W.Frag} {C : Addr} (c : Cls K C) (h : isoB K C = true) : IsoC K C := by
  unfold isoB at h
  simp only [Bool.and_eq_true] at h
  obtain ⟨h1, h2, h3, h4, h5⟩ := h
  exact ⟨c, He.eqO_ok h1, He.eqO_ok h2, of_decide_eq_true h3, of_decide_eq_true h4, of_decide_eq_true h5⟩
section
variable {X : Cx} {cl : Cs} {C : Addr} {c : Str}
theorem od_isO (hc : cl.c c = some C) (I : IsoC X.K C) : OpD (gm X cl) (fun xs H Q => rIsi X.K (xs ++ [V.ref C]) H Q) (oIsO c) := by
  intro Hs H vs ds x Q e hv hf k
  unfold oIsO at hf
  split at hf
  · split at hf
    · rename_i hcc
      subst hcc
      cases hf
      obtain ⟨v, rfl, h1⟩ := rca1 hv
      obtain ⟨a, C', dx, xs, rfl, g1, g2, -, -⟩ := h1.obj e
      have : C' = C := Option.some.inj (g1.symm.trans hc)
      subst this
      exact ⟨_, .ref C', .ref C', .ref C', true, rfl, .own _, .base (.ins g2 I.cl I.ha I.hn I.ht I.hm), I.hk, k.val _ _ rfl (.bl _)⟩
    · cases hf
  · cases hf
variable {W : WX} {a : Expr} {ma : A} {x : Str} {q p2 pos : Pos}
theorem pd_isO (hc : cl.c c = some C) (I : IsoC X.K C) (hgI : Gl X "isinstance") (hmI : X.mg "isinstance" = none) (ha : PO X cl W a ma) (hgx : Gl X x) (hmx : X.mg x = some (.ref C)) (hd : (x == ("__debug__" : Str)) = false := by decide)
    (h1 : starEach [a, .Name x p2] X.env = (false, eval a X.env) :: starEach [.Name x p2] X.env := by rfl) (h2 : starEach [.Name x p2] X.env = (false, eval (.Name x p2) X.env) :: starEach [] X.env := by rfl) (h3 : (backTo pos (starEach [.Name x p2] X.env)).any (·.1) = false := by rfl) :
    PD X cl W (.Call (.Name "isinstance" q) [a, .Name x p2] [] pos) (eOp (asC ma asN) (oIsO c)) := by
  obtain ⟨ta, h4, h5⟩ := ha
  have hx : PE X (.Name x p2) (tC (.ref C)) := pe_glob hgx hmx rfl hd
  exact ⟨_, pe_callB call_isi hgI hmI (by decide +kernel) (pa_cons h4 (pa_cons hx pa_nil h2) h1) (by decide) (by decide) h1 h3, op_den (ta := tCons ta tNil) (das_cons h5 das_nil) (od_isO hc I)⟩
end
end Py

set_option Elab.async false
set_option linter.all false
set_option maxRecDepth 100000
/-! Xj: try with several except clauses, each with a name or without one. -/
namespace Py
open PySem PySem.Spec PyProof.Rows L2
/-- a clause: its class, the slot of its name, what its suite wishes -/
structure Cla where
  cv : Value
  nm : Option Nat
  ts : Addr → Value → Option Addr → TS
def claEnds : Option Nat → Ends → Ends
  | none, Z => Z
  | some i, Z => { nx := fun u G => Z.nx (u.set i none) G, rt := Z.rt, bk := fun u G => Z.bk (u.set i none) G, ct := fun u G => Z.ct (u.set i none) G }
def claSt : Option Nat → L2.St → Addr → L2.St
  | none, u, _ => u
  | some i, u, e => u.set i (some (.ref e))
def wCla (K : PySem.W.Frag) (Wo : WX) (Z : Ends) : List Cla → WX
  | [] => Wo
  | q :: qs => fun cl d u G => ∃ y, PySem.W.exmOne K cl q.cv = some y ∧ (y = true → ∀ e, G e = none → q.ts e cl d (claEnds q.nm Z) (claSt q.nm u e) G) ∧ (y = false → wCla K Wo Z qs cl d u G)
abbrev SuiteOk (X : Cx) (ss : List Stmt) (ts : Addr → Value → Option Addr → TS) : Prop := ∀ (e : Addr) (o : Obj) (cl : Value) (d : Option Addr) (pn : List (Addr × Obj)), Zc cl d o → (∃ xs, o.data = .fields xs) → PSs (X.suite e ((e, o) :: pn)) ss (ts e cl d)
inductive ClaOk (X : Cx) : List ExceptHandler → List Cla → Prop
  | nil : ClaOk X [] []
  | un {x : Str} {cv : Value} {ts : Addr → Value → Option Addr → TS} {b0 : Stmt} {ss : List Stmt} {np pp : Pos} {hl : List ExceptHandler} {ql : List Cla} (hc : Names X x cv) (su : SuiteOk X (b0 :: ss) ts) (rest : ClaOk X hl ql) :
      ClaOk X (.ExceptHandler (some (.Name x np)) none (b0 :: ss) pp :: hl) (⟨cv, none, ts⟩ :: ql)
  | nm {x n : Str} {i : Nat} {cv : Value} {ts : Addr → Value → Option Addr → TS} {b0 : Stmt} {ss : List Stmt} {np pp : Pos} {hl : List ExceptHandler} {ql : List Cla} (hN : X.N.Nodup) (hi : X.N[i]? = some n) (hln : X.env.kindOf n = some .local) (hc : Names X x cv) (su : SuiteOk X (b0 :: ss) ts) (rest : ClaOk X hl ql) :
      ClaOk X (.ExceptHandler (some (.Name x np)) (some n) (b0 :: ss) pp :: hl) (⟨cv, some i, ts⟩ :: ql)
section
variable {X : Cx} {body : List Stmt} {h0 : ExceptHandler} {hl : List ExceptHandler} {ql : List Cla} {pos : Pos} {tb : WX → TS} {Wo : WX}
theorem ps_tryC (hs : X.stack = X.env :: X.outer) (hf : X.env.frame = some X.env.locals) (tk : Takes X Wo)
    (hb : ∀ (W' : WX) (pn : List (Addr × Obj)) (xe : Value → Shared → Prop), Takes (X.tr pn xe) W' → PassesOwn (model X.prog X.w) X.A X.env xe → PSs (X.tr pn xe) body (tb W'))
    (hh : ClaOk X (h0 :: hl) ql) : PS X (.Try body (h0 :: hl) [] [] pos) (fun Z u G => tb (wCla X.K Wo Z ql) Z u G) := by
  refine ⟨fun pins s u G Z I q => ?_⟩
  have good := I.ok
  have frs_eq : X.A.frames = some (X.env :: X.outer) := good.frames.trans (congrArg some hs)
  apply wpAny_Try_except
  refine wpAny_mono ((hb (wCla X.K Wo Z ql) (X.pn ++ pins) (fun ev t1 => wpAny (model X.prog X.w) X.A (noteFrame ev X.env) (fun _ t2 => wpAny (model X.prog X.w) X.A (setFlight ev none) (fun _ t3 => wpAny (model X.prog X.w) X.A (handleBy ev X.env (h0 :: hl)) (SP X pins Z) X.xe t3) X.xe t2) X.xe t1)
    (fun _ t0 caught => ?_) PassesOwn.looking).run [] s u G Z (I.toTry _) q) (fun fl t1 done => ?_) fun _ _ z => z
  · obtain ⟨e, B, sI, pins', u', G', cl, d, rfl, J', nb, up, sky, na, os, ag, wish⟩ := caught
    have J : Inv X pins u' G' sI := J'.ofTry good
    have sky2 : Sky B (X.env :: X.outer) e (Zc cl d) X.env.locals t0.heap := hs ▸ sky
    show wpAny (model X.prog X.w) X.A (noteFrame (.ref e) X.env) _ _ _
    refine Sky.land Zc.steady frs_eq hf sky2 fun hp land grow => ?_
    have J3 : Inv X pins u' G' { t0 with heap := hp } := J.landed nb land.1 (up.trans grow) os ag
    obtain ⟨o, xs, at_, hz, hd⟩ := land.there
    have off : e ∉ frs (X.env :: X.outer) := fun hm => by
      obtain ⟨_, o', at2, hnf⟩ := land.2.2.1.mem hm
      rw [at_] at at2
      cases at2
      exact hnf _ hd
    have offL : e ≠ X.env.locals := fun z => off (List.mem_filterMap.mpr ⟨X.env, List.mem_cons_self, by rw [hf, z]⟩)
    have offF : e ∉ X.fs := fun hm => by
      obtain ⟨v, hv, z⟩ := List.mem_filterMap.mp hm
      exact off (List.mem_filterMap.mpr ⟨v, List.mem_cons_of_mem _ hv, z⟩)
    have S3 := J3.suite at_ hd na offL offF
    have look : PySem.W.Looks (model X.prog X.w) hp (typeOf (.ref e)) cl := fun A Q E s k z => wpAny_typeOf_ref (k _ _ at_) (by rw [hz.1]; exact z)
    have cls_ : ∀ {x : Str} {cv : Value} {np : Pos} {Q : Value → Shared → Prop} {E : Value → Shared → Prop}, Names X x cv → Q cv { t0 with heap := hp } → wpAny (model X.prog X.w) (X.A.mark (some (.ref e))) (eval (.Name x np) X.env) Q E { t0 with heap := hp } := fun {x cv np Q E} hc z => by
      obtain ⟨g1, g2, g3 | ⟨g3, g4, g5⟩⟩ := hc
      · exact ld_glob (X := X.suite e ((e, o) :: (X.pn ++ pins))) S3 g1 g3 z g2
      · exact ld_blt (X := X.suite e ((e, o) :: (X.pn ++ pins))) S3 g1 g3 g4 z g5 g2
    have walk : ∀ {hs' : List ExceptHandler} {qs : List Cla}, ClaOk X hs' qs → wCla X.K Wo Z qs cl d u' G' → wpAny (model X.prog X.w) X.A (handleBy (.ref e) X.env hs') (SP X pins Z) X.xe { t0 with heap := hp } := by
      intro hs' qs ck
      induction ck with
      | nil =>
        intro wi
        apply wpAny_handleBy_nil
        obtain ⟨_, _, _, o', xs', T, _, _, a1, _, a2, a3, _⟩ := id land
        unfold PySem.passOn
        refine wpAny_bind (wpAny_field a1 a2 a3 ?_)
        rw [if_neg (show ¬ (Value.ref T == Value.none) = true by simp)]
        have onward : wpAny (model X.prog X.w) X.A (setFlight (.ref e) X.env.frame) (fun _ t4 => wpAny (model X.prog X.w) X.A (throw (.ref e) : Sem PySem.Flow) (SP X pins Z) X.xe t4) X.xe { t0 with heap := hp } := by
          rw [hf]
          exact HandSPX.setFlight_upZ land fun h4 hh4 up4 => wpAny_throw (tk _ _ ⟨e, B, sI, pins, u', G', cl, d, rfl, J, nb, (up.trans grow).trans up4, .inr (.inr (by rw [hs]; exact hh4)), na, os, ag, wi⟩)
        first
          | exact wpAny_bind (wpAny_pure (wpAny_bind onward))
          | exact wpAny_bind onward
      | @un x cv ts b0 ss np pp hl2 ql2 hc su rest ih =>
        rintro ⟨y, y1, yes, no⟩
        refine wpAny_handleBy_cons (codeAny_handlers_test ?_) (fun z => nomatch z)
        have meets := PySem.W.exm_one (M := model X.prog X.w) J3.kIn look y1
        refine cls_ hc (meets.here ?_)
        cases y with
        | false => exact ih (no rfl)
        | true =>
          apply codeAny_handlers_suite
          refine HandSPX.lands_againZ land fun h4 land4 grow4 => ?_
          have J4 : Inv X pins u' G' { t0 with heap := h4 } := J.landed nb land4.1 ((up.trans grow).trans grow4) os ag
          obtain ⟨o4, xs4, at4, hz4, hd4⟩ := land4.there
          refine wpAny_mono ((su e o4 cl d (X.pn ++ pins) hz4 ⟨_, hd4⟩).run [] _ _ G' _ (J4.suite at4 hd4 na offL offF) (yes rfl e na)) (fun fl t6 done => ?_) fun _ _ z => z.elim
          cases fl with
          | ret v =>
            obtain ⟨v6, u6, G6, S6, r6, q6⟩ := done
            exact ⟨_, _, _, S6.unsuite good, r6, q6⟩
          | next => exact done.elim fun u6 ⟨G6, S6, q6⟩ => ⟨_, _, S6.unsuite good, q6⟩
          | brk => exact done.elim fun u6 ⟨G6, S6, q6⟩ => ⟨_, _, S6.unsuite good, q6⟩
          | cont => exact done.elim fun u6 ⟨G6, S6, q6⟩ => ⟨_, _, S6.unsuite good, q6⟩
      | @nm x n i cv ts b0 ss np pp hl2 ql2 hN hi hln hc su rest ih =>
        rintro ⟨y, y1, yes, no⟩
        refine wpAny_handleBy_cons (codeAny_handlers_test ?_) (fun z => nomatch z)
        have meets := PySem.W.exm_one (M := model X.prog X.w) J3.kIn look y1
        refine cls_ hc (meets.here ?_)
        cases y with
        | false => exact ih (no rfl)
        | true =>
          apply codeAny_handlers_suite_as
          refine HandSPX.lands_againZ land fun h4 land4 grow4 => ?_
          have J4 : Inv X pins u' G' { t0 with heap := h4 } := J.landed nb land4.1 ((up.trans grow).trans grow4) os ag
          obtain ⟨o4, xs4, at4, hz4, hd4⟩ := land4.there
          refine store_ok (X := X.suite e ((e, o4) :: (X.pn ++ pins))) (v := .ref e) (J4.suite at4 hd4 na offL offF) hN hi (.inl hln) rfl (fun t5 S5 => ?_) (.inr hln)
          refine wpAny_mono ((su e o4 cl d (X.pn ++ pins) hz4 ⟨_, hd4⟩).run [] t5 _ G' _ S5 (yes rfl e na)) (fun fl t6 done => ?_) fun _ _ z => z.elim
          have off_ : ∀ {u6 : L2.St} {G6 : Hp} {Q : Shared → Prop}, Inv (X.suite e ((e, o4) :: (X.pn ++ pins))) [] u6 G6 t6 → (∀ t7, Inv X pins (u6.set i none) G6 t7 → Q t7) → wpAny (model X.prog X.w) X.A (do bindName X.env n .none; unbindBehindTheSuite X.env n pp) (fun _ t7 => Q t7) X.xe t6 :=
            fun S6 z => gone_ok (S6.unsuite good) hN hi hln z
          cases fl with
          | ret v =>
            obtain ⟨v6, u6, G6, S6, r6, q6⟩ := done
            exact off_ S6 fun t7 J7 => ⟨_, _, _, J7, r6, q6⟩
          | next => exact done.elim fun u6 ⟨G6, S6, q6⟩ => off_ S6 fun t7 J7 => ⟨_, _, J7, q6⟩
          | brk => exact done.elim fun u6 ⟨G6, S6, q6⟩ => off_ S6 fun t7 J7 => ⟨_, _, J7, q6⟩
          | cont => exact done.elim fun u6 ⟨G6, S6, q6⟩ => off_ S6 fun t7 J7 => ⟨_, _, J7, q6⟩
    exact walk hh wish
  · cases fl with
    | ret v =>
      obtain ⟨v, u', G', J', r, q⟩ := done
      exact ⟨v, u', G', J'.ofTry good, r, q⟩
    | next => exact done.elim fun u' ⟨G', J', q⟩ => wpAny_execs_nil ⟨u', G', J'.ofTry good, q⟩
    | brk => exact done.elim fun u' ⟨G', J', q⟩ => ⟨u', G', J'.ofTry good, q⟩
    | cont => exact done.elim fun u' ⟨G', J', q⟩ => ⟨u', G', J'.ofTry good, q⟩
end

/-! ### as data -/
section
variable {X : Cx} {cl : Cs} {fx : Nat → Bool} {W : WX}
inductive ClzOk (X : Cx) (cl : Cs) (fx : Nat → Bool) : List ExceptHandler → List Clz → Prop
  | nil : ClzOk X cl fx [] []
  | un {x : Str} {cv : Value} {sub : Str → Bool} {su : Exc → S} {b0 : Stmt} {ss : List Stmt} {np pp : Pos} {hl : List ExceptHandler} {ql : List Clz} (hc : Names X x cv) (hsub : ∀ c C, cl.c c = some C → PySem.W.exmOne X.K (.ref C) cv = some (sub c))
      (hsu : ∀ (a : Addr) (oe : Obj) (C : Addr) (d : Option Addr) (pn : List (Addr × Obj)) (e : Exc), cl.c e.cls = some C → sub e.cls = true → (e.fs = [] → d = none) → Zc (.ref C) d oe → (∃ vs, oe.data = .fields vs) → PSsd (X.suite a ((a, oe) :: pn)) cl fx (fun _ _ _ _ => False) (b0 :: ss) (su e))
      (rest : ClzOk X cl fx hl ql) : ClzOk X cl fx (.ExceptHandler (some (.Name x np)) none (b0 :: ss) pp :: hl) ((none, sub, su) :: ql)
  | nm {x n : Str} {i : Nat} {cv : Value} {sub : Str → Bool} {su : Exc → S} {b0 : Stmt} {ss : List Stmt} {np pp : Pos} {hl : List ExceptHandler} {ql : List Clz} (hN : X.N.Nodup) (hi : X.N[i]? = some n) (hln : X.env.kindOf n = some .local) (hfi : fx i = false) (hc : Names X x cv) (hsub : ∀ c C, cl.c c = some C → PySem.W.exmOne X.K (.ref C) cv = some (sub c))
      (hsu : ∀ (a : Addr) (oe : Obj) (C : Addr) (d : Option Addr) (pn : List (Addr × Obj)) (e : Exc), cl.c e.cls = some C → sub e.cls = true → (e.fs = [] → d = none) → Zc (.ref C) d oe → (∃ vs, oe.data = .fields vs) → PSsd (X.suite a ((a, oe) :: pn)) ⟨cl.c, some (i, .ref a)⟩ (fxAnd fx i) (fun _ _ _ _ => False) (b0 :: ss) (su e))
      (rest : ClzOk X cl fx hl ql) : ClzOk X cl fx (.ExceptHandler (some (.Name x np)) (some n) (b0 :: ss) pp :: hl) ((some i, sub, su) :: ql)
/-- what the clauses wish follows from what they mean -/
theorem clz_cla (W : WX) {hl : List ExceptHandler} {hs : List Clz} (h : ClzOk X cl fx hl hs) : ∃ qs, ClaOk X hl qs ∧ ∀ (B : Bs) (Hs1 : Hp) (r1 : Py.Env) (s1 : L2.St) (t : Py.Env) (k : L2.St) (H1 : Hp) (Z : Ends) (fl : Flow) (e : Exc) (C : Addr) (d : Option Addr), B.fx = fx → cl.c e.cls = some C → RepT (gm X cl) B Hs1 r1 s1 t k H1 → XOk ⟨X.K, cl.c⟩ Hs1 e d →
    clzs hs e r1 = some fl → PostS (gm X cl) B t k W Z fl → wCla X.K W Z qs (.ref C) d s1 H1 := by
  induction h with
  | nil =>
    refine ⟨[], .nil, fun B Hs1 r1 s1 t k H1 Z fl e C d hfx hC hr1 hx hm hp => ?_⟩
    cases hm
    exact hp s1 C d _ H1 hC hr1 hx
  | @un x cv sub su b0 ss np pp hl2 ql2 hc hsub hsu rest ih =>
    obtain ⟨qs, q1, q2⟩ := ih
    refine ⟨⟨cv, none, fun a cls d Z s H => ∃ e C, cls = .ref C ∧ cl.c e.cls = some C ∧ sub e.cls = true ∧ (e.fs = [] → d = none) ∧ canS (gm X cl) fx (su e) (fun _ _ _ _ => False) Z s H⟩ :: qs, .un hc (fun a oe cls d pn hz hv => ⟨fun pins s σ H Z I q => ?_⟩) q1, fun B Hs1 r1 s1 t k H1 Z fl e C d hfx hC hr1 hx hm hp => ?_⟩
    · obtain ⟨e, C, e1, e2, e3, e4, e5⟩ := q
      subst e1
      exact (pss_can (hsu a oe C d pn e e2 e3 e4 hz hv)).run pins s σ H Z I e5
    · refine ⟨sub e.cls, hsub _ _ hC, fun hsb a na => ?_, fun hsb => ?_⟩
      · unfold clzs at hm
        rw [if_pos hsb] at hm
        refine ⟨e, C, rfl, hC, hsb, fun hz => ?_, ?_⟩
        · unfold XOk at hx
          rw [hz] at hx
          exact hx
        · simp only [clzRun] at hm
          cases q3 : su e r1 with
          | none =>
            rw [q3] at hm
            cases hm
          | some f2 =>
            rw [q3] at hm
            refine ⟨B, Hs1, r1, t, k, f2, hfx, hr1, q3, ?_⟩
            cases f2 with
            | ex ee r2 => cases hm
            | _ =>
              cases hm
              exact hp
      · unfold clzs at hm
        rw [hsb, if_neg Bool.false_ne_true] at hm
        exact q2 B Hs1 r1 s1 t k H1 Z fl e C d hfx hC hr1 hx hm hp
  | @nm x n i cv sub su b0 ss np pp hl2 ql2 hN hi hln hfi hc hsub hsu rest ih =>
    obtain ⟨qs, q1, q2⟩ := ih
    refine ⟨⟨cv, some i, fun a cls d Z s H => ∃ e C, cls = .ref C ∧ cl.c e.cls = some C ∧ sub e.cls = true ∧ (e.fs = [] → d = none) ∧ canS ⟨⟨X.K, cl.c⟩, some (i, .ref a)⟩ (fxAnd fx i) (su e) (fun _ _ _ _ => False) Z s H⟩ :: qs, .nm hN hi hln hc (fun a oe cls d pn hz hv => ⟨fun pins s σ H Z I q => ?_⟩) q1, fun B Hs1 r1 s1 t k H1 Z fl e C d hfx hC hr1 hx hm hp => ?_⟩
    · obtain ⟨e, C, e1, e2, e3, e4, e5⟩ := q
      subst e1
      exact (pss_can (hsu a oe C d pn e e2 e3 e4 hz hv)).run pins s σ H Z I e5
    · refine ⟨sub e.cls, hsub _ _ hC, fun hsb a na => ?_, fun hsb => ?_⟩
      · unfold clzs at hm
        rw [if_pos hsb] at hm
        simp only [clzRun] at hm
        split at hm
        case isFalse => cases hm
        rename_i hiR
        have hiN : i < B.n := hr1.rn ▸ hiR
        refine ⟨e, C, rfl, hC, hsb, fun hz => ?_, ?_⟩
        · unfold XOk at hx
          rw [hz] at hx
          exact hx
        have hrs : r1.length = s1.length := hr1.rn.trans hr1.sn.symm
        have rp := hr1.rep.forget (i := i) (o := some (V.ref a)) hrs (by rw [hfx]; exact hfi) (by rw [hr1.sn]; exact Nat.le_refl _)
        let B' : Bs := { B with fx := fxAnd fx i, s0 := s1.set i (some (.ref a)) }
        have rpB : Rep ⟨X.K, cl.c⟩ B' Hs1 (r1.set i .no ++ t) (s1.set i (some (.ref a)) ++ k) H1 := by
          refine rp.fxTo fun j hj => ?_
          have hj' : (fx j || j == i) = true := hj
          have hjn : j < B.n := by
            rcases Bool.or_eq_true_iff.mp hj' with z | z
            · exact (hr1.rep.fix j (by rw [hfx]; exact z)).1
            · rw [eq_of_beq z]
              exact hiN
          refine ⟨hjn, ?_⟩
          rw [List.getElem?_append_left (by simp [hr1.sn]; exact hjn)]
        have back : ∀ (Hs2 : Hp) (r2 : Py.Env) (s2 : L2.St) (t2 : Py.Env) (k2 : L2.St) (H2 : Hp), RepT ⟨⟨X.K, cl.c⟩, some (i, .ref a)⟩ B' Hs2 r2 s2 t2 k2 H2 → RepT (gm X cl) B Hs2 (r2.set i .no) (s2.set i none) t2 k2 H2 := by
          intro Hs2 r2 s2 t2 k2 H2 h2
          have h2s : s2.length = B.n := h2.sn
          have h2r : r2.length = B.n := h2.rn
          have q2 : Rep ⟨X.K, cl.c⟩ B Hs2 (r2 ++ t2) (s2 ++ k2) H2 := by
            refine h2.rep.fxTo (fx' := B.fx) (s0' := B.s0) fun j hj => ?_
            have hj0 : fx j = true := by rw [← hfx]; exact hj
            have ne : j ≠ i := fun z => by rw [z, hfi] at hj0; cases hj0
            obtain ⟨z1, z2⟩ := h2.rep.fix j (show (fx j || j == i) = true by rw [hj0]; rfl)
            refine ⟨z1, z2.trans ?_⟩
            show (s1.set i (some (V.ref a)))[j]? = B.s0[j]?
            rw [List.getElem?_set_ne (Ne.symm ne)]
            have z3 := (hr1.rep.fix j hj).2
            rw [List.getElem?_append_left (by rw [hr1.sn]; exact z1)] at z3
            exact z3
          exact ⟨by simpa using h2r, by simpa using h2s, h2.tk, q2.forget (h2r.trans h2s.symm) (by rw [hfx]; exact hfi) (by rw [h2s]; exact Nat.le_refl _), hr1.sx⟩
        cases q3 : su e (r1.set i .no) with
        | none =>
          rw [q3] at hm
          cases hm
        | some f2 =>
          rw [q3] at hm
          refine ⟨B', Hs1, r1.set i .no, t, k, f2, rfl, ⟨by simpa using hr1.rn, by simpa [claSt] using hr1.sn, hr1.tk, rpB, fun j v z => ?_⟩, q3, ?_⟩
          · cases z
            refine ⟨by show (fx i || i == i) = true; simp, ?_⟩
            show (s1.set i (some (V.ref a)))[i]? = some (some (.ref a))
            rw [List.getElem?_set_self (by rw [hr1.sn]; exact hiN)]
          · cases f2 with
            | ex ee r2 => cases hm
            | rt y r2 =>
              cases hm
              exact fun v s2 Hs2 H2 h2 => hp v _ _ H2 (back _ r2 s2 _ _ H2 h2)
            | nx r2 =>
              cases hm
              exact fun s2 Hs2 H2 h2 => hp _ _ H2 (back _ r2 s2 t k H2 h2)
            | bk r2 =>
              cases hm
              exact fun s2 Hs2 H2 h2 => hp _ _ H2 (back _ r2 s2 t k H2 h2)
            | ct r2 =>
              cases hm
              exact fun s2 Hs2 H2 h2 => hp _ _ H2 (back _ r2 s2 t k H2 h2)
      · unfold clzs at hm
        rw [hsb, if_neg Bool.false_ne_true] at hm
        exact q2 B Hs1 r1 s1 t k H1 Z fl e C d hfx hC hr1 hx hm hp
theorem psd_tryC {body : List Stmt} {h0 : ExceptHandler} {hl : List ExceptHandler} {pos : Pos} {b : S} {hz : List Clz} (hs : X.stack = X.env :: X.outer) (hf : X.env.frame = some X.env.locals) (tk : Takes X W)
    (hb : ∀ (W' : WX) (pn : List (Addr × Obj)) (xe : Value → Shared → Prop), Takes (X.tr pn xe) W' → PassesOwn (model X.prog X.w) X.A X.env xe → PSsd (X.tr pn xe) cl fx W' body b)
    (hh : ClzOk X cl fx (h0 :: hl) hz) : PSd X cl fx W (.Try body (h0 :: hl) [] [] pos) (sTryC b hz) := by
  obtain ⟨qs, q1, q2⟩ := clz_cla W hh
  have key := ps_tryC (X := X) (body := body) (pos := pos) (tb := fun W' => canS (gm X cl) fx b W') (Wo := W) hs hf tk (fun W' pn xe h1 h2 => pss_can (hb W' pn xe h1 h2)) q1
  refine ⟨_, key, fun B Hs r s t k H Z fl hfx hr hm hp => ?_⟩
  unfold sTryC at hm
  cases q : b r with
  | none =>
    rw [q] at hm
    cases hm
  | some f =>
    rw [q] at hm
    refine ⟨B, Hs, r, t, k, f, hfx, hr, q, ?_⟩
    cases f with
    | ex e r1 => exact fun s1 C d Hs1 H1 hC hr1 hx => q2 B Hs1 r1 s1 t k H1 Z fl e C d hfx hC hr1 hx hm hp
    | _ =>
      cases hm
      exact hp
end
end Py

set_option Elab.async false
set_option linter.all false
set_option maxRecDepth 100000
/-! Xk: isinstance of the exception that a suite holds. -/
namespace Py
open PySem PySem.Spec PyProof.Rows L2
section
variable {X : Cx} {cc : Str → Option Addr} {W : WX} {i : Nat} {n x : Str} {q q1 q2 pos : Pos} {b : Bool} {C a : Addr} {d : Option Addr} {oe : Obj} {pn : List (Addr × Obj)} {e : Exc} {cv : V} {u : Value}
theorem pd_nil0 {ex : Expr} {cl : Cs} : PD X cl W ex (fun _ => none) := ⟨fun _ _ _ => False, ⟨fun _ _ _ _ _ _ h => h.elim⟩, fun B Hs r s t k H Q o hr hm hq => nomatch hm⟩
theorem pd_isH (hd : e.fs = [] → d = none) (hz : Zc (.ref C) d oe) (hv : ∃ vs, oe.data = .fields vs) (c : ExcC X.K C) (hgI : Gl (X.suite a ((a, oe) :: pn)) "isinstance") (hmI : X.mg "isinstance" = none) (hn : PE (X.suite a ((a, oe) :: pn)) (.Name n q) (tVar i)) (hx : PE (X.suite a ((a, oe) :: pn)) (.Name x q1) (tC cv)) (hcv : ClsV cv u) (hk : PySem.W.kitOne X.K (.ref C) u = some b)
    (h1 : starEach [.Name n q, .Name x q1] X.env = (false, eval (.Name n q) X.env) :: starEach [.Name x q1] X.env := by rfl) (h2 : starEach [.Name x q1] X.env = (false, eval (.Name x q1) X.env) :: starEach [] X.env := by rfl) (h3 : (backTo pos (starEach [.Name x q1] X.env)).any (·.1) = false := by rfl) :
    PD (X.suite a ((a, oe) :: pn)) ⟨cc, some (i, .ref a)⟩ W (.Call (.Name "isinstance" q2) [.Name n q, .Name x q1] [] pos) (eFl e b) := by
  unfold eFl
  split
  · rename_i hz0
    have := hd hz0
    subst this
    exact pd_isP (X := X.suite a ((a, oe) :: pn)) (p := (a, oe)) List.mem_cons_self ⟨hz, hv⟩ c hgI hmI hn hx hcv hk h1 h2 h3
  · exact pd_nil0
end
end Py

/-! Obn: sorting (pure). -/
namespace Py
open PySem
mutual
/-- may be put in order -/
@[simp] def alikeD : D → D → Bool
  | .int _, .int _ => true
  | .str _, .str _ => true
  | .tup xs, .tup ys => alikeDs xs ys
  | _, _ => false
@[simp] def alikeDs : List D → List D → Bool
  | x :: xs, y :: ys => alikeD x y && alikeDs xs ys
  | [], _ => true
  | _ :: _, [] => true
end
mutual
/-- is less -/
@[simp] def ltD : D → D → Bool
  | .int i, .int j => decide (i < j)
  | .str x, .str y => decide (x.cps.toList < y.cps.toList)
  | .tup xs, .tup ys => ltDs xs ys
  | _, _ => false
@[simp] def ltDs : List D → List D → Bool
  | x :: xs, y :: ys => if eqv x y = true then ltDs xs ys else ltD x y
  | [], [] => false
  | [], _ :: _ => true
  | _ :: _, [] => false
end
def leD (x y : D) : Bool := !ltD y x
def tupC : D → Bool
  | .tup (_ :: _) => true
  | _ => false
def tupN : D → Bool
  | .tup _ => false
  | _ => true
/-- a list that may be sorted -/
def sortOk (ds : List D) : Bool := (ds.all fun x => ds.all (alikeD x)) && (ds.all tupC || ds.all tupN) && ds.all fun x => eqOk x
@[simp] def oSorted : List D → Option Sl
  | [.lst ds] => if sortOk ds = true then some (.ow (.lst (ds.mergeSort leD))) else none
  | _ => none
end Py

set_option Elab.async false
set_option linter.all false
set_option maxRecDepth 100000
/-! Xl: sorted. -/
namespace Py
open PySem L2 PyProof.Rows PySem.W
theorem _root_.L2.Room.units3 {k : Nat} {A : Around} (r : Room k A) : A.units + 100 < cLine := by have := r.un; omega
mutual
theorem alike_toPy : ∀ {d e : D}, alikeD d e = true → alike (toPy d) (toPy e) = true := by
  intro d e h
  cases d <;> cases e <;> first | (simp [alikeD] at h; done) | skip
  · rfl
  · rfl
  · simp only [toPy, alike]
    exact alikes_toPy (by simpa only [alikeD] using h)
theorem alikes_toPy : ∀ {ds es : List D}, alikeDs ds es = true → alikeAll (toPys ds) (toPys es) = true := by
  intro ds es h
  cases ds with
  | nil => simp [toPys, alikeAll]
  | cons d ds =>
    cases es with
    | nil => simp [toPys, alikeAll]
    | cons e es =>
      have h' : alikeD d e = true ∧ alikeDs ds es = true := by simpa only [alikeDs, Bool.and_eq_true] using h
      simp only [toPys, alikeAll, Bool.and_eq_true]
      exact ⟨alike_toPy h'.1, alikes_toPy h'.2⟩
end
mutual
theorem lt_toPy : ∀ {d e : D}, cmpOk d = true → cmpOk e = true → alikeD d e = true → dataLt (toPy d) (toPy e) = ltD d e := by
  intro d e hd he h
  cases d <;> cases e <;> first | (simp [alikeD] at h; done) | skip
  · simp only [toPy, ltD, dataLt_int]
  · simp only [toPy, ltD, dataLt_str]
  · simp only [toPy, ltD]
    exact lts_toPy (by simpa only [cmpOk] using hd) (by simpa only [cmpOk] using he) (by simpa only [alikeD] using h)
theorem lts_toPy : ∀ {ds es : List D}, cmpOks ds = true → cmpOks es = true → alikeDs ds es = true → PyProof.Rows.lexLt itemOrd (keyToksAll (toPys ds)) (keyToksAll (toPys es)) = ltDs ds es := by
  intro ds es hd he h
  cases ds with
  | nil =>
    cases es with
    | nil => simp [toPys, ltDs, lex_irrefl]
    | cons e es =>
      show PyProof.Rows.lexLt itemOrd (keyToksAll []) (keyToksAll (toPy e :: toPys es)) = true
      rw [toks_all_cons]
      simp only [keyToksAll]
      rw [lex_diff (O := itemOrd) (by simp)]
      simp [itemLt]
  | cons d ds =>
    cases es with
    | nil =>
      show PyProof.Rows.lexLt itemOrd (keyToksAll (toPy d :: toPys ds)) (keyToksAll []) = false
      rw [toks_all_cons]
      simp only [keyToksAll]
      rw [lex_diff (O := itemOrd) (by simp)]
      simp [itemLt]
    | cons e es =>
      have h1 : cmpOk d = true ∧ cmpOks ds = true := by simpa only [cmpOks, Bool.and_eq_true] using hd
      have h2 : cmpOk e = true ∧ cmpOks es = true := by simpa only [cmpOks, Bool.and_eq_true] using he
      have h' : alikeD d e = true ∧ alikeDs ds es = true := by simpa only [alikeDs, Bool.and_eq_true] using h
      simp only [toPys, ltDs]
      rw [dataLt_cons (alike_toPy h'.1), eqv_toPy h1.1 h2.1, lt_toPy h1.1 h2.1 h'.1, lts_toPy h1.2 h2.2 h'.2]
end
/-- sorted(xs), of data -/
def rSortD (g : Gm) : List V → Hp → VK → Prop := fun vs H Q => ∃ (Hs : Hp) (a : Addr) (xs : List V) (ds : List D), Same Hs H ∧ vs = [V.ref a] ∧ SqL g.K H a xs ∧ RA g Hs xs ds ∧ sortOk ds = true ∧
  ∀ p ys, H p = none → RA g Hs ys (ds.mergeSort leD) → Q (.ref p) (upd H p (.lst ys))
theorem each_of {g : Gm} {H : Hp} : ∀ {xs : List V} {ds : List D} {us : List Value}, RA g H xs ds → Vals xs us → EachIs (fun v d => ∃ x, RelV x v ∧ R g H x d) us ds
  | _, _, _, .nil, .nil => .nil
  | _, _, _, .cons r t, .cons q s => .cons ⟨_, q, r⟩ (each_of t s)
theorem of_each {g : Gm} {H : Hp} : ∀ {us : List Value} {ds : List D}, EachIs (fun v d => ∃ x, RelV x v ∧ R g H x d) us ds → ∃ xs, RA g H xs ds ∧ Vals xs us
  | _, _, .nil => ⟨[], .nil, .nil⟩
  | _, _, .cons ⟨x, q, r⟩ t => by
    obtain ⟨xs, h1, h2⟩ := of_each t
    exact ⟨x :: xs, .cons r h1, .cons q h2⟩
section
variable {X : Cx} {cl : Cs}
theorem cr_sortD (hu : X.A.units + 100 < cLine) : CallR X (.builtin "sorted") (rSortD (gm X cl)) := by
  intro pins s σ H vs us Q I r h
  obtain ⟨Hs, a, xs, ds, hs, rfl, hl, hra, ok, q⟩ := h
  obtain ⟨its, rv, hl, hz⟩ := I.list hl
  obtain ⟨u, rfl, ru⟩ := vals1 r
  obtain rfl : u = Value.ref a := ru
  have ok' : ((ds.all fun x => ds.all (alikeD x)) = true ∧ (ds.all tupC || ds.all tupN) = true) ∧ (ds.all fun x => eqOk x) = true := by
    have := ok
    unfold sortOk at this
    simpa only [Bool.and_eq_true] using this
  obtain ⟨⟨o1, o2⟩, o3⟩ := ok'
  have oc : ∀ d ∈ ds, cmpOk d = true ∧ dep d ≤ 64 := fun d hd => by
    have := List.all_eq_true.mp o3 d hd
    unfold eqOk at this
    simpa using this
  have oa : ∀ d ∈ ds, ∀ e ∈ ds, alikeD d e = true := fun d hd e he => List.all_eq_true.mp (List.all_eq_true.mp o1 d hd) e he
  have es := each_of hra rv
  have hal : AllAlike (ds.map toPy) := fun d hd e he => by
    obtain ⟨x, hx, rfl⟩ := List.mem_map.mp hd
    obtain ⟨y, hy, rfl⟩ := List.mem_map.mp he
    exact alike_toPy (oa x hx y hy)
  have hso : Sortable (ds.map toPy) := by
    rcases Bool.or_eq_true_iff.mp o2 with o2 | o2
    · refine .inl fun d hd => ?_
      obtain ⟨x, hx, rfl⟩ := List.mem_map.mp hd
      have := List.all_eq_true.mp o2 x hx
      cases x with
      | tup l =>
        cases l with
        | nil => cases this
        | cons y l => exact ⟨toPy y, toPys l, rfl⟩
      | _ => cases this
    · refine .inr fun d hd => ?_
      obtain ⟨x, hx, rfl⟩ := List.mem_map.mp hd
      have := List.all_eq_true.mp o2 x hx
      have h2 := oa x hx x hx
      cases x <;> first | (simp [alikeD] at h2; done) | skip
      · exact ⟨by simp [toPy], by simp [toPy]⟩
      · exact ⟨by simp [toPy], by simp [toPy]⟩
      · cases this
  have er : EachIs (fun v d => ∃ as, Reads s.heap v (toPy d) as) its ds := by
    have key : ∀ {us : List Value} {es : List D}, (∀ d ∈ es, cmpOk d = true) → EachIs (fun v d => ∃ x, RelV x v ∧ R (gm X cl) Hs x d) us es → EachIs (fun v d => ∃ as, Reads s.heap v (toPy d) as) us es := by
      intro us es hc h
      induction h with
      | nil => exact .nil
      | cons h1 _ ih =>
        obtain ⟨x, q1, q2⟩ := h1
        exact .cons (Dp.reads I _ _ _ (dp_of (hc _ (.head _)) (q2.mono hs)) q1) (ih fun d hd => hc d (.tail _ hd))
    exact key (fun d hd => (oc d hd).1) es
  have hlen : ds.length ≤ sizeLine := by
    rw [← hra.length]
    exact hz
  refine sorted_data (R := fun v d => ∃ x, RelV x v ∧ R (gm X cl) Hs x d) (enc := toPy) (bs := ds) hl.isList es er hal hso hlen (fun d hd => ?_) fun out ho he => ?_
  · obtain ⟨c1, c2⟩ := oc d hd
    rw [depth_toPy c1]
    omega
  · have hm : ds.mergeSort (dataLe false toPy) = ds.mergeSort leD := by
      have h1 := List.map_mergeSort (r := leD) (s := dataLe false toPy) (f := id) (l := ds) (fun x hx y hy => by
        rw [dataLe_eq]
        show (!ltD y x) = (!dataLt (toPy y) (toPy x))
        rw [lt_toPy (oc y hy).1 (oc x hx).1 (oa y hy x hx)])
      simpa using h1.symm
    rw [hm] at he
    obtain ⟨ys, y1, y2⟩ := of_each he
    have hn : s.heap.objs.size ≤ s.heap.objs.size + 1 := Nat.le_succ _
    obtain ⟨n, hat⟩ := sortedAll_at s.heap its out.toArray
    refine ⟨.ref (s.heap.objs.size + 1), upd H (s.heap.objs.size + 1) (.lst ys), I.laid (t' := s.toks) (fun b o e => sortedAll_old e) hn ⟨?_, out, n, y2, hat⟩, rfl, q _ ys (I.hok.fresh hn) y1⟩
    rw [y1.length, List.length_mergeSort]
    exact hlen
theorem od_sorted : OpD (gm X cl) (rSortD (gm X cl)) oSorted := by
  intro Hs H vs ds x Q e hv hf c
  unfold oSorted at hf
  split at hf
  · rename_i es
    split at hf
    · rename_i ok
      cases hf
      obtain ⟨v, rfl, h1⟩ := rca1 hv
      obtain ⟨a, xs, rfl, a1, a2⟩ := h1.lst e
      exact ⟨Hs, a, xs, es, e, rfl, SqL.of a1, a2, ok, fun p ys hp hy => c.lst p ys _ rfl hp hy⟩
    · cases hf
  · cases hf
end
end Py

set_option Elab.async false
set_option linter.all false
set_option maxRecDepth 100000
/-! Xm: defs that reach repr: nothing is being shown when they are called. -/
namespace Py
open PySem L2 PyProof.Rows
structure FnG (P : Program) (w : World) (K : PySem.W.Frag) (mg : Str → Option Value) (base : Heap) (k : Nat) (f : Addr) (fd : FuncData) (ps : List Str) (sp : Sp) : Prop where
  len : ∀ vs H Q E, sp vs H Q E → vs.length = ps.length
  go : ∀ (A : Around) (st : List PySem.Env) (s : Shared) (H : Hp) (ar : Args) (us : List Value) (vs : List V) (Q : VK) (E : XK), Room k A → A.guards = some [] →
    Env0 P w K mg base A st s H → BindsTo s fd ar (ps.zip us) → Vals vs us → sp vs H Q E → codeAny (model P w) A (.call (.ref f) ar) (CR (L2.CX P w) st P w H s Q E) s
theorem FnG.of {P : Program} {w : World} {K : PySem.W.Frag} {mg : Str → Option Value} {base : Heap} {k : Nat} {f : Addr} {fd : FuncData} {ps : List Str} {sp : Sp} (F : FnOk P w K mg base (L2.CX P w) k f fd ps sp) : FnG P w K mg base k f fd ps sp :=
  ⟨F.len, fun A st s H ar us vs Q E h1 _ h2 h3 h4 h5 => F.run A st s H ar us vs Q E h1 h2 h3 h4 h5⟩
section
variable {P : Program} {w : World} {K : PySem.W.Frag} {mg : Str → Option Value} {base : Heap}
theorem fnG_of {x qual : Str} {st : Stmt} {f : Addr} {fd : FuncData} {N ps : List Str} {k : Nat} {sp : Sp} (F : Fun K x qual st f fd) (S : FnScope N ps (defScope st))
    (len : ∀ vs H Q E, sp vs H Q E → vs.length = ps.length)
    (hb : ∀ (cv : Value) (A : Around) (o : List PySem.Env) (s : Shared) (H : Hp) (vs : List V) (Q : VK) (E : XK), Room k (A.deeper (envOfC qual (defScope st) s.heap.objs.size f cv)) → (A.deeper (envOfC qual (defScope st) s.heap.objs.size f cv)).guards = some [] → sp vs H Q E →
      ∃ t, PSs (cxOf (L2.CX P w) P w K mg base N qual (defScope st) f cv A o s H E) (defBody st) t ∧ t { nx := fun _ G => Q .non G, rt := Q } (L2.start N vs) H) :
    FnG P w K mg base (k + 1) f fd ps sp := by
  obtain ⟨oc, od, kV, doc, pm, an, cv, ct, osl, rfl, lk, hcd⟩ := F.ex
  constructor
  · exact len
  intro A o s H ar us vs Q E room gd en bd rel pre
  have hK : K.In s.heap := en.mod.kin.keeps fun b u z => (en.bs b u z).1
  have hL : s.heap.NoLimit := en.mod.nolimit.keeps fun b u z => (en.bs b u z).1
  refine codeAny_call_function room.depth (hK _ _ lk) rfl S.co S.gen rfl (PySem.W.codeRec_of hK hcd) (bd _ _ _ _ ?_)
  have kinds : ∀ y ∈ ps.zip us, (defScope st).names.lookup y.1 = some .local ∨ ((defScope st).names.lookup y.1 = some .cell ∧ ((cellsFrom (s.heap.objs.size + 1) (defScope st).names []).lookup y.1).isSome = true) := by
    rintro ⟨n, v⟩ hy
    have hn := (List.of_mem_zip hy).1
    cases S.par n hn with
    | inl z => exact Or.inl z
    | inr z => exact Or.inr ⟨z, PySem.W.cellsFrom_some _ _ _ (Or.inl z)⟩
  refine wpAny_newFunctionEnv_cells S.kind kinds fun en1 he s1 ic => ?_
  cases he
  refine ⟨hL.keeps ic.toInCall.keep, codeAny_func ?_⟩
  have inv : Inv (cxOf (L2.CX P w) P w K mg base N qual (defScope st) f cv A o s H E) [] (L2.start N vs) H s1 := inv_start S room.hd en (len _ _ _ _ pre) rel ic
  obtain ⟨t, t1, t2⟩ := hb cv A o s H vs Q E (room.deeper _) gd pre
  have back : ∀ {σ : L2.St} {G : Hp} {v : V} {u : Value} {s2 : Shared}, Inv (cxOf (L2.CX P w) P w K mg base N qual (defScope st) f cv A o s H E) [] σ G s2 → RelV v u → Q v G → CE o P w H s Q u s2 := by
    intro σ G v u s2 J j1 j2
    exact ⟨v, G, J.os, J.bare, J.base, J.hok, j1, j2⟩
  refine wpAny_mono (t1.run [] s1 (L2.start N vs) H _ inv t2) ?_ ?_
  · intro fl s2 z
    match fl, z with
    | .ret u, ⟨v, σ, G, J, j1, j2⟩ => exact back J j1 j2
    | .next, ⟨σ, G, J, j2⟩ => exact back (v := V.non) (u := Value.none) J rfl j2
    | .brk, ⟨_, _, _, z⟩ => exact z.elim
    | .cont, ⟨_, _, _, z⟩ => exact z.elim
  · intro e s2 z
    exact z
end
section
variable {X : Cx} {W : WX} {k : Nat} {f : Addr} {fd : FuncData} {ps : List Str} {sp : Sp} {x : Str} {p pos : Pos} {e : Expr} {es : List Expr} {t : TA}
theorem run_fnG {pins : List (Addr × Obj)} {σ : L2.St} {H : Hp} {s : Shared} {Q : VK} {us : List Value} {vs : List V} (F : FnG X.prog X.w X.K X.mg X.base k f fd ps sp) (hr : Room k X.A) (gd : X.A.guards = some []) (hb : Binds X.K fd ps []) (tk : Takes X W)
    (I : Inv X pins σ H s) (r : Vals vs us) (h : sp vs H Q (WE W σ)) : wpAny (model X.prog X.w) X.A (call (.ref f) us) (EP X pins σ Q) X.xe s := by
  have b := hb s us I.kIn (by rw [List.append_nil, ← r.length]; exact F.len _ _ _ _ h)
  rw [List.append_nil] at b
  refine wpAny_call (codeAny_mono (F.go X.A X.stack s H ⟨us, []⟩ us vs Q (WE W σ) hr gd I.env0 b r h) ?_)
  rintro (e | fl) s' hq
  · exact passAt tk σ pins H s e s' I hq
  · match fl, hq with
    | .ret u, hq => exact I.after hq
    | .next, hq => exact hq.elim
    | .brk, hq => exact hq.elim
    | .cont, hq => exact hq.elim
theorem pe_callG (F : FnG X.prog X.w X.K X.mg X.base k f fd ps sp) (hr : Room k X.A) (gd : X.A.guards = some []) (hg : Gl X x) (hm : X.mg x = some (.ref f)) (hk : PySem.W.keepIn X.K (.ref f) = true) (hb : Binds X.K fd ps []) (tk : Takes X W)
    (ha : PA X (e :: es) t) (hdb : (x == ("__debug__" : Str)) = false := by decide) (he : starEach (e :: es) X.env = (false, eval e X.env) :: starEach es X.env := by rfl) (hpl : (backTo pos (starEach es X.env)).any (·.1) = false := by rfl) :
    PE X (.Call (.Name x p) (e :: es) [] pos) (tCallS sp (WE W) t) :=
  ⟨fun pins s σ H Q I h => wpAny_Call_Name_kw (ld_glob I hg hm (PySem.W.callWith_K (h₀ := X.base) I.ok.mod.kin hk (thn (ha.run pos pins s σ H _ I h) fun us s1 ⟨vs, H1, I1, r, q⟩ =>
    ⟨I1.kIn, run_fnG F hr gd hb tk I1 r q⟩) he hpl) hdb)⟩
end
section
variable {P : Program} {w : World} {K : PySem.W.Frag} {mg : Str → Option Value} {base : Heap} {cl : Str → Option Addr}
theorem fnG_D {x qual : Str} {st : Stmt} {f : Addr} {fd : FuncData} {N ps : List Str} {k : Nat} {mask : List Bool} {body : S} (F : Fun K x qual st f fd) (S : FnScope N ps (defScope st)) (hml : mask.length = ps.length)
    (hbody : ∀ (cdv : Value) (A : PySem.Around) (outer : List PySem.Env) (s : Shared) (H : Hp) (E : XK), Room k (A.deeper (envOfC qual (defScope st) s.heap.objs.size f cdv)) → (A.deeper (envOfC qual (defScope st) s.heap.objs.size f cdv)).guards = some [] →
      PSsd (cxOf (L2.CX P w) P w K mg base N qual (defScope st) f cdv A outer s H E) ⟨cl, none⟩ (fun i => mask.getD i false) (fun c d _ H => E c d H) (defBody st) body) :
    FnG P w K mg base (k + 1) f fd ps (spF ⟨K, cl⟩ ps.length (mkFn N.length mask body)) :=
  fnG_of F S (fun vs H Q E h => h.1) fun cv A o s H vs Q E hr gd hsp => fn_core S hml (hbody cv A o s H E hr gd) hsp
end
section
variable {X : Cx} {cl : Cs} {W : WX} {e : Expr} {es : List Expr} {as : As} {pos p : Pos} {x : Str} {f : Fn} {ps : List Str} {k : Nat}
/-- a def that means f, where nothing is being shown -/
structure MeansG (P : Program) (w : World) (K : PySem.W.Frag) (mg : Str → Option Value) (base : Heap) (cl : Str → Option Addr) (k : Nat) (x : Str) (ps : List Str) (f : Fn) : Prop where
  ex : ∃ fa fd, FnG P w K mg base k fa fd ps (spF ⟨K, cl⟩ ps.length f) ∧ mg x = some (.ref fa) ∧ PySem.W.keepIn K (.ref fa) = true ∧ Binds K fd ps []
  np : ∀ xs o, f xs = some o → xs.length = ps.length
  rl : ∀ xs x qs, f xs = some (.ret x qs) → qs.length = xs.length
  xl : ∀ xs x qs, f xs = some (.ex x qs) → qs.length = xs.length
theorem pd_callG (F : MeansG X.prog X.w X.K X.mg X.base cl.c k x ps f) (hr : Room k X.A) (gd : X.A.guards = some []) (hg : Gl X x) (tk : Takes X W) (ha : PAs X cl W (e :: es) as)
    (hdb : (x == ("__debug__" : Str)) = false := by decide) (he : starEach (e :: es) X.env = (false, eval e X.env) :: starEach es X.env := by rfl) (hpl : (backTo pos (starEach es X.env)).any (·.1) = false := by rfl) :
    PD X cl W (.Call (.Name x p) (e :: es) [] pos) (eCall f as) := by
  obtain ⟨ta, h1, h2⟩ := ha
  obtain ⟨fa, fd, G, hm, kp, hb⟩ := F.ex
  exact ⟨_, pe_callG G hr gd hg hm kp hb tk h1 hdb he hpl, call_den F.np F.rl F.xl h2⟩
end
theorem meansG_mk {P : Program} {w : World} {K : PySem.W.Frag} {mg : Str → Option Value} {base : Heap} {cl : Str → Option Addr} {x : Str} {st : Stmt} {f : Addr} {fd : FuncData} {N ps : List Str} {k : Nat} {mask : List Bool} {body : S} (F : Fun K x x st f fd) (S : FnScope N ps (defScope st)) (hml : mask.length = ps.length)
    (gx : mg x = some (.ref f)) (bd : Binds K fd ps [])
    (hbody : ∀ (cdv : Value) (A : Around) (outer : List PySem.Env) (s : Shared) (H : Hp) (E : XK), Room k (A.deeper (envOfC x (defScope st) s.heap.objs.size f cdv)) → (A.deeper (envOfC x (defScope st) s.heap.objs.size f cdv)).guards = some [] →
      PSsd (cxOf (L2.CX P w) P w K mg base N x (defScope st) f cdv A outer s H E) ⟨cl, none⟩ (fun i => mask.getD i false) (fun c d _ H => E c d H) (defBody st) body) : MeansG P w K mg base cl (k + 1) x ps (mkFn N.length mask body) :=
  ⟨⟨f, fd, fnG_D F S hml hbody, gx, F.kp, bd⟩, mkFn_np hml, mkFn_rl, mkFn_xl⟩
end Py

/-! Obo: repr (pure). -/
namespace Py
open PySem
mutual
def pyD : D → PyData
  | .non => .none
  | .bl b => .bool b
  | .int i => .int i
  | .str x => .str x
  | .tup xs => .tuple (pyDs xs)
  | .lst xs => .list (pyDs xs)
  | _ => .none
def pyDs : List D → List PyData
  | [] => []
  | x :: xs => pyD x :: pyDs xs
end
/-- how it is shown -/
def reprD (d : D) : Str := (pyD d).shown
mutual
/-- is a bound of how long it is shown -/
def reprW : D → Nat
  | .non => 4
  | .bl _ => 5
  | .int i => (Str.ofString (toString i)).length
  | .str x => 10 * x.length + 2
  | .tup xs => reprWs xs + 3
  | .lst xs => reprWs xs + 3
  | _ => 0
def reprWs : List D → Nat
  | [] => 0
  | x :: xs => reprW x + 2 + reprWs xs
end
mutual
def reprI : D → Bool
  | .int i => decide (i.natAbs.log2 < 1920)
  | .tup xs => reprIs xs
  | .lst xs => reprIs xs
  | _ => true
def reprIs : List D → Bool
  | [] => true
  | x :: xs => reprI x && reprIs xs
end
def reprOk (d : D) : Bool := eqOk d && reprI d && decide (reprW d ≤ 16000000)
@[simp] def oRepr : List D → Option Sl
  | [.lst ds] => if reprOk (.lst ds) = true then some (.sh (.str (reprD (.lst ds)))) else none
  | [.tup ds] => if reprOk (.tup ds) = true then some (.sh (.str (reprD (.tup ds)))) else none
  | _ => none
end Py

set_option Elab.async false
set_option linter.all false
set_option maxRecDepth 100000
/-! Xn: repr. -/
namespace Py
open PySem L2 PyProof.Rows
mutual
theorem pyD_eq : ∀ d : D, pyD d = toPy d
  | .non => rfl
  | .bl _ => rfl
  | .int _ => rfl
  | .str _ => rfl
  | .tup ds => by rw [pyD, toPy, pyDs_eq ds]
  | .lst ds => by rw [pyD, toPy, pyDs_eq ds]
  | .scr _ => rfl
  | .dic _ _ => rfl
  | .obj _ _ _ => rfl
  | .exc _ _ _ => rfl
theorem pyDs_eq : ∀ ds : List D, pyDs ds = toPys ds
  | [] => rfl
  | d :: ds => by rw [pyDs, toPys, pyD_eq d, pyDs_eq ds]
end
mutual
theorem shown_le : ∀ {d : D}, cmpOk d = true → (toPy d).shown.length ≤ reprW d
  | .non, _ => by
    simp only [toPy, PyData.shown, reprW]
    decide
  | .bl b, _ => by
    simp only [toPy, PyData.shown, reprW]
    cases b <;> decide
  | .int i, _ => by
    simp only [toPy, PyData.shown, reprW]
    exact Nat.le_refl _
  | .str x, h => by
    simp only [toPy, PyData.shown, reprW]
    refine PySem.StrLaws.reprText_len x fun c hc => ?_
    have h' : x.cps.all (· < 0x110000) = true := by simpa only [cmpOk] using h
    have := Array.all_eq_true'.mp h' c (Array.mem_toList_iff.mp hc)
    have h2 : c < 0x110000 := by simpa using this
    exact Nat.lt_trans h2 (by decide)
  | .tup ds, h => by
    have h' : cmpOks ds = true := by simpa only [cmpOk] using h
    simp only [toPy, PyData.shown, reprW]
    have a := tupleText_len_le (PyData.shownAll (toPys ds))
    have b := showns_le h'
    omega
  | .lst ds, h => by
    have h' : cmpOks ds = true := by simpa only [cmpOk] using h
    simp only [toPy, PyData.shown, reprW]
    have a := listText_len_le (PyData.shownAll (toPys ds))
    have b := showns_le h'
    omega
  | .scr _, h => by simp [cmpOk] at h
  | .dic _ _, h => by simp [cmpOk] at h
  | .obj _ _ _, h => by simp [cmpOk] at h
  | .exc _ _ _, h => by simp [cmpOk] at h
theorem showns_le : ∀ {ds : List D}, cmpOks ds = true → ((PyData.shownAll (toPys ds)).map (·.length)).sum + 2 * (PyData.shownAll (toPys ds)).length ≤ reprWs ds
  | [], _ => by simp [toPys, PyData.shownAll, reprWs]
  | d :: ds, h => by
    have h' : cmpOk d = true ∧ cmpOks ds = true := by simpa only [cmpOks, Bool.and_eq_true] using h
    have a := shown_le h'.1
    have b := showns_le h'.2
    simp only [toPys, PyData.shownAll, reprWs, List.map_cons, List.sum_cons, List.length_cons]
    omega
end
mutual
theorem showable_of : ∀ {d : D}, cmpOk d = true → reprI d = true → (toPy d).showable = true
  | .non, _, _ => rfl
  | .bl _, _, _ => rfl
  | .int i, _, h => by simpa only [toPy, PyData.showable, reprI] using h
  | .str _, _, _ => rfl
  | .tup ds, h, h2 => by
    simp only [toPy, PyData.showable]
    exact showables_of (by simpa only [cmpOk] using h) (by simpa only [reprI] using h2)
  | .lst ds, h, h2 => by
    simp only [toPy, PyData.showable]
    exact showables_of (by simpa only [cmpOk] using h) (by simpa only [reprI] using h2)
  | .scr _, h, _ => by simp [cmpOk] at h
  | .dic _ _, h, _ => by simp [cmpOk] at h
  | .obj _ _ _, h, _ => by simp [cmpOk] at h
  | .exc _ _ _, h, _ => by simp [cmpOk] at h
theorem showables_of : ∀ {ds : List D}, cmpOks ds = true → reprIs ds = true → PyData.showableAll (toPys ds) = true
  | [], _, _ => rfl
  | d :: ds, h, h2 => by
    have h' : cmpOk d = true ∧ cmpOks ds = true := by simpa only [cmpOks, Bool.and_eq_true] using h
    have h3 : reprI d = true ∧ reprIs ds = true := by simpa only [reprIs, Bool.and_eq_true] using h2
    simp only [toPys, PyData.showableAll, Bool.and_eq_true]
    exact ⟨showable_of h'.1 h3.1, showables_of h'.2 h3.2⟩
end
mutual
theorem nodict_of : ∀ {d : D}, cmpOk d = true → (toPy d).hasDict = false
  | .non, _ => rfl
  | .bl _, _ => rfl
  | .int _, _ => rfl
  | .str _, _ => rfl
  | .tup ds, h => by
    simp only [toPy, PyData.hasDict]
    exact nodicts_of (by simpa only [cmpOk] using h)
  | .lst ds, h => by
    simp only [toPy, PyData.hasDict]
    exact nodicts_of (by simpa only [cmpOk] using h)
  | .scr _, h => by simp [cmpOk] at h
  | .dic _ _, h => by simp [cmpOk] at h
  | .obj _ _ _, h => by simp [cmpOk] at h
  | .exc _ _ _, h => by simp [cmpOk] at h
theorem nodicts_of : ∀ {ds : List D}, cmpOks ds = true → PyData.hasDictAll (toPys ds) = false
  | [], _ => rfl
  | d :: ds, h => by
    have h' : cmpOk d = true ∧ cmpOks ds = true := by simpa only [cmpOks, Bool.and_eq_true] using h
    simp only [toPys, PyData.hasDictAll, nodict_of h'.1, nodicts_of h'.2, Bool.or_false]
end
/-- repr(x), of data -/
def rReprD (K : PySem.W.Frag) : List V → Hp → VK → Prop := fun vs H Q => ∃ (a : Addr) (d : D), vs = [V.ref a] ∧ Dp K H (.ref a) (toPy d) ∧ reprOk d = true ∧ Q (.str (reprD d)) H
section
variable {X : Cx} {cl : Cs}
theorem cr_repr (hu : X.A.units + 100 < cLine) (gd : X.A.guards = some []) : CallR X (.builtin "repr") (rReprD X.K) := by
  intro pins s σ H vs us Q I r h
  obtain ⟨a, d, rfl, hd, ok, q⟩ := h
  obtain ⟨u, rfl, ru⟩ := vals1 r
  obtain rfl : u = Value.ref a := ru
  have ok' : (eqOk d = true ∧ reprI d = true) ∧ reprW d ≤ 16000000 := by
    have := ok
    unfold reprOk at this
    simpa only [Bool.and_eq_true, decide_eq_true_eq] using this
  have oe : cmpOk d = true ∧ dep d ≤ 64 := by
    have := ok'.1.1
    unfold eqOk at this
    simpa using this
  obtain ⟨as, rd⟩ := Dp.reads I (toPy d) (.ref a) (.ref a) hd rfl
  have hn := nodict_of oe.1
  refine repr_of_reads' rd (showable_of oe.1 ok'.1.2) (fun z => by rw [hn] at z; cases z) gd (by rw [depth_toPy oe.1]; omega) (fun _ _ z => z) (fun h' u tk k => ?_) ?_
  · have e : reprD d = (toPy d).shown := by
      unfold reprD
      rw [pyD_eq]
    rw [e] at q
    exact ⟨.str (toPy d).shown, H, I.kept k, ⟨u, rfl⟩, q⟩
  · exact Nat.le_trans (shown_le oe.1) (Nat.le_trans ok'.2 (by rw [sizeLine_eq]; decide))
theorem od_repr : OpD (gm X cl) (rReprD X.K) oRepr := by
  intro Hs H vs ds x Q e hv hf c
  unfold oRepr at hf
  split at hf
  · rename_i es
    split at hf
    · rename_i ok
      cases hf
      obtain ⟨v, rfl, h1⟩ := rca1 hv
      have hc : cmpOk (.lst es) = true := by
        have := ok
        unfold reprOk at this
        simp only [Bool.and_eq_true] at this
        have := this.1.1
        unfold eqOk at this
        simp only [Bool.and_eq_true] at this
        exact this.1
      have hR := h1.toR e
      obtain ⟨a, xs, rfl, a1, a2⟩ := h1.lst e
      exact ⟨a, .lst es, rfl, dp_of hc hR, ok, c.val _ _ rfl (.str _)⟩
    · cases hf
  · rename_i es
    split at hf
    · rename_i ok
      cases hf
      obtain ⟨v, rfl, h1⟩ := rca1 hv
      have hc : cmpOk (.tup es) = true := by
        have := ok
        unfold reprOk at this
        simp only [Bool.and_eq_true] at this
        have := this.1.1
        unfold eqOk at this
        simp only [Bool.and_eq_true] at this
        exact this.1
      have hR := h1.toR e
      cases hR with
      | tup h2 h3 => exact ⟨_, .tup es, rfl, dp_of hc (.tup h2 h3), ok, c.val _ _ rfl (.str _)⟩
    · cases hf
  · cases hf
end
end Py

set_option Elab.async false
set_option linter.all false
set_option maxRecDepth 100000
set_option maxHeartbeats 2000000
/-! Xo: the end of a law whose def reaches repr. -/
namespace Py
open PySem PySem.Spec PyProof.Rows L2
/-- what is wanted of the law's call -/
abbrev LawEnd (s1 : Shared) : Result → Shared → Prop := fun r s2 => r = .ok (.ret (.bool true)) ∧ OldK s1.heap s2.heap ∧ s2.os = s1.os ∧ AllBare s2.gens
section
variable {P : Program} {w : World} {K : PySem.W.Frag} {mg mb : Str → Option Value} {k : Nat} {fa a : Addr} {fd : FuncData} {x : Str} {sp : Sp} {s1 : Shared} {vs : List Value} {ns : List Int}
theorem start_hid {H : Hp} (hA : ∀ b, H b ≠ none → b = a) (ha : s1.heap.get? a = some { cls := .type "list", data := .seq vs.toArray }) {b : Addr} {m : Str → Option Value} (z : s1.heap.Ns b m) : (hidT s1.heap H).Ns b m := by
  obtain ⟨o, es, ep, e, d, r⟩ := z
  refine ⟨o, es, ep, hidT_get e ?_, d, r⟩
  by_cases q : H b = none
  · exact q
  · have e' := hA b q
    subst e'
    rw [ha] at e
    cases e
    cases d
theorem start_in {H : Hp} (hA : ∀ b, H b ≠ none → b = a) (hK : H a ≠ none → K.lookup a = none) (KX : K.In s1.heap) : K.In (hidT s1.heap H) := by
  intro b o e
  refine hidT_get (KX b o e) ?_
  by_cases q : H b = none
  · exact q
  · have e' := hA b q
    subst e'
    rw [hK q] at e
    cases e
theorem start_run {H : Hp} (KX : K.In s1.heap) (hns : s1.heap.Ns mainGlobals mg) (hb : s1.heap.Ns builtinsNs mb) (hbb : ∀ x : Str, x ≠ "__name__" → mb x = bootBuiltins x) (lim : s1.heap.NoLimit) (hg : s1.gens = #[])
    (ha : s1.heap.get? a = some { cls := .type "list", data := .seq vs.toArray }) (room : Room k callerA)
    (F : ∀ base : Heap, K.In base → base.Ns mainGlobals mg → FnG P w K mg base k fa fd [x] sp) (bd : ∀ (s : Shared) (u : Value), BindsTo s fd ⟨[u], []⟩ [(x, u)])
    (pre : sp [.ref a] H (fun v _ => v = .bl true) fun _ _ _ => False) (hO : Only H) (hok : HOk P w H s1.heap) (hA : ∀ b, H b ≠ none → b = a) (hK : H a ≠ none → K.lookup a = none) :
    codeAny (model P w) callerA (.call (.ref fa) ⟨[.ref a], []⟩) (LawEnd s1) s1 := by
  have kin := start_in hA hK KX
  have gns := start_hid hA ha hns
  obtain ⟨mc, l1, l2⟩ := lim
  have md : Mod K mg (hidT s1.heap H) := ⟨kin, gns, ⟨mb, start_hid hA ha hb, hbb⟩, ⟨mc, start_hid hA ha l1, l2⟩⟩
  have none_in : ∀ {b : Addr}, b ∉ ([] : List Addr) := fun z => by cases z
  have en : Env0 P w K mg (hidT s1.heap H) callerA [] s1 H :=
    { frames := rfl, mod := md, bs := fun _ _ z => of_hidT z, bsz := Nat.le_of_eq (hidT_size _ _), funs := trivial, frf := fun _ z => absurd z none_in, hok := hok, bare := .of_eq hg }
  have run := (F _ kin gns).go callerA [] s1 H ⟨[.ref a], []⟩ [.ref a] [.ref a] _ _ room rfl en (bd s1 (.ref a)) (.cons rfl .nil) pre
  refine codeAny_mono run ?_
  rintro (e | fl) s2 z
  · obtain ⟨_, _, _, _, _, _, _, _, _, _, _, _, z⟩ := z
    exact z.elim
  · match fl, z with
    | .next, z => exact z.elim
    | .brk, z => exact z.elim
    | .cont, z => exact z.elim
    | .ret u, ⟨v, G, h1, h2, un, ok2, rv, q⟩ =>
      have q' : v = .bl true := q
      subst q'
      have ru : u = Value.bool true := rv
      subst ru
      refine ⟨rfl, OldK.of_keep ?_, h1, h2⟩
      intro b o e
      rcases hO b with z | ⟨ob, xs, z⟩
      · exact un.keep b o e z none_in (by simp)
      · obtain ⟨e1, -⟩ := hok b _ z
        obtain ⟨e2, -⟩ := ok2 b _ (un.frzs b ob _ z)
        rw [e] at e1
        cases e1
        exact e2
theorem start_G (KX : K.In s1.heap) (hns : s1.heap.Ns mainGlobals mg) (hb : s1.heap.Ns builtinsNs mb) (hbb : ∀ x : Str, x ≠ "__name__" → mb x = bootBuiltins x) (lim : s1.heap.NoLimit) (hg : s1.gens = #[])
    (ha : s1.heap.get? a = some { cls := .type "list", data := .seq vs.toArray }) (hi : IntsAre vs ns) (hl : ns.length ≤ sizeLine) (room : Room k callerA)
    (F : ∀ base : Heap, K.In base → base.Ns mainGlobals mg → FnG P w K mg base k fa fd [x] sp) (bd : ∀ (s : Shared) (u : Value), BindsTo s fd ⟨[u], []⟩ [(x, u)])
    (pre : ∀ H : Hp, Only H → SqL K H a (ns.map V.int) → sp [.ref a] H (fun v _ => v = .bl true) fun _ _ _ => False) :
    codeAny (model P w) callerA (.call (.ref fa) ⟨[.ref a], []⟩) (LawEnd s1) s1 := by
  have rv := vals_ints hi
  by_cases hk : K.lookup a = none
  · let o1 : Obj := { cls := .type "list", data := .seq vs.toArray }
    let H1 : Hp := upd hemp a (.frz o1 (.lst (ns.map V.int)))
    have at1 : H1 a = some (.frz o1 (.lst (ns.map V.int))) := upd_same
    have off1 : ∀ b, b ≠ a → H1 b = none := fun b hb => upd_ne hb
    have only1 : Only H1 := fun b => by
      by_cases q : b = a
      · subst q
        exact .inr ⟨_, _, at1⟩
      · exact .inl (off1 b q)
    refine start_run KX hns hb hbb lim hg ha room F bd (pre H1 only1 (.inl (.inr ⟨o1, at1⟩))) only1 ?_ ?_ fun _ => hk
    · intro b u z
      by_cases q : b = a
      · subst q
        rw [at1] at z
        cases z
        exact ⟨ha, by rw [List.length_map]; exact hl, vs, _, rv, ha⟩
      · rw [off1 b q] at z
        cases z
    · intro b z
      by_cases q : b = a
      · exact q
      · exact absurd (off1 b q) z
  · obtain ⟨o, ho⟩ := Option.ne_none_iff_exists'.mp hk
    have e := KX a o ho
    rw [ha] at e
    cases e
    have only0 : Only hemp := fun b => .inl rfl
    refine start_run KX hns hb hbb lim hg ha room F bd (pre hemp only0 (.inr ⟨_, vs.toArray, _, ho, rfl, rfl, rfl, ?_, by simpa using rv⟩)) only0 ?_ ?_ ?_
    · rw [List.size_toArray, hi.length]
      exact hl
    · intro b u z
      cases z
    · intro b z
      exact absurd rfl z
    · intro z
      exact absurd rfl z
end
theorem walk_G {l : PySem.W.OpenLaw} {n k : Nat} {q : Program} {loose : List Str} {XP : (Str → Option Value) → Heap → Prop} {YP : World → Heap → Prop} {d : DefRec} {x : Str}
    (hn : l.most = some n) (hn2 : n ≤ sizeLine) (hdf : d.params.defaults = []) (room : Room k callerA)
    (F : ∀ (w : World) (mg : Str → Option Value) (fa : Addr) (h : Heap), YP w h → h.Ns mainGlobals mg → mg d.name = some (.ref fa) →
      ∃ (K : PySem.W.Frag) (fd : FuncData) (sp : Sp), K.In h ∧ (∀ (s : Shared) (u : Value), BindsTo s fd ⟨[u], []⟩ [(x, u)]) ∧
        (∀ (H : Hp) (a : Addr) (ns : List Int), ns.length ≤ n → Only H → SqL K H a (ns.map V.int) → sp [.ref a] H (fun v _ => v = .bl true) fun _ _ _ => False) ∧
        ∀ base : Heap, K.In base → base.Ns mainGlobals mg → FnG l.prog w K mg base k fa fd [x] sp) :
    PySem.W.WalkO q loose XP YP l.row.toRowW d [] (fun f vs => PySem.call f vs) :=
  Att.attach_call hn hdf fun w s0 s1 mg mb fa o pm cd doc a vs ns G Y ho hd hcd hmg hobj hints hlen hg => by
    obtain ⟨K, fd, sp, kx, bd, pre, hF⟩ := F w mg fa _ Y G.T.g hmg
    exact start_G kx G.T.g G.T.b G.T.builtins G.T.nolimit hg hobj hints (Nat.le_trans hlen hn2) room hF bd fun H o s => pre H a ns hlen o s
end Py

/-! Obp: lists: the last one taken, turned about (pure). -/
namespace Py
open PySem
/-- xs.pop() -/
@[simp] def ePop (i : Nat) : E := fun r => match r[i]? with
  | some (.ow (.lst ds)) => match ds.getLast? with
    | some d => some (.ok (.sh d) (r.set i (.ow (.lst ds.dropLast))))
    | none => none
  | _ => none
/-- xs.reverse() -/
@[simp] def sReverse (i : Nat) : S := fun r => match r[i]? with
  | some (.ow (.lst ds)) => some (.nx (r.set i (.ow (.lst ds.reverse))))
  | _ => none
/-- list(reversed(xs)) -/
@[simp] def oListRev : List D → Option Sl
  | [.lst ds] => some (.ow (.lst ds.reverse))
  | _ => none
end Py

set_option Elab.async false
set_option linter.all false
set_option maxRecDepth 100000
set_option maxHeartbeats 1000000
/-! Xp: pop, reverse, list(reversed(..)). -/
namespace Py
open PySem L2 PyProof.Rows
section
variable {X : Cx} {cl : Cs} {W : WX} {fx : Nat → Bool} {x : Str} {p2 apos cpos pos p : Pos} {e : Expr}
theorem RA.dropLast {g : Gm} {H : Hp} {vs : List V} {ds : List D} (h : RA g H vs ds) : RA g H vs.dropLast ds.dropLast := by
  rw [List.dropLast_eq_take, List.dropLast_eq_take, h.length]
  exact h.take _
theorem pd_pop {i : Nat} (ho : PE X (.Name x p2) (tVar i))
    (hbase : attributeBase (.Name x p2) "pop" X.env (eval (.Name x p2) X.env) = eval (.Name x p2) X.env := by rfl) (hline : (apos.endLine == cpos.line) = true := by rfl) :
    PD X cl W (.Call (.Attribute (.Name x p2) "pop" apos) [] [] cpos) (ePop i) := by
  refine ⟨_, pe_bm0 F.plainAttrs_list F.slot_list_pop F.type_list_pop mt_pop ho hbase hline, fun B Hs r s t k H Q o hr hm hp => ?_⟩
  unfold ePop at hm
  split at hm
  · rename_i ds q0
    split at hm
    · rename_i d q1
      cases hm
      obtain ⟨p, u, e1, e2, xs, n1, n2⟩ := hr.ow q0
      subst n1
      have hl := n2.length
      rw [List.getLast?_eq_getElem?] at q1
      obtain ⟨y, y1, y2⟩ := n2.get q1
      refine ⟨_, e1, .inl ⟨rfl, xs, SqL.of e2⟩, ?_⟩
      refine ⟨p, xs, y, rfl, rfl, e2, by rw [hl]; exact y1, ?_⟩
      exact hp _ _ _ ((hr.write (d' := .lst ds.dropLast) q0 e1 ⟨xs.dropLast, rfl, n2.dropLast⟩).push y2)
    · cases hm
  · cases hm
theorem psd_reverse {i : Nat} (ho : PE X (.Name x p2) (tVar i))
    (hs0 : swapsWith (.Call (.Attribute (.Name x p2) "reverse" apos) [] [] cpos) none pos.line X.env = pure false := by rfl)
    (hbase : attributeBase (.Name x p2) "reverse" X.env (eval (.Name x p2) X.env) = eval (.Name x p2) X.env := by rfl) (hline : (apos.endLine == cpos.line) = true := by rfl) :
    PSd X cl fx W (.Expr (.Call (.Attribute (.Name x p2) "reverse" apos) [] [] cpos) pos) (sReverse i) := by
  refine ⟨_, ps_expr (pe_bm0 F.plainAttrs_list F.slot_list_reverse F.type_list_reverse mt_reverse ho hbase hline) hs0, fun B Hs r s t k H D fl hf hr hm hp => ?_⟩
  unfold sReverse at hm
  split at hm
  · rename_i ds0 q0
    cases hm
    obtain ⟨p, o, e1, e2, xs, n1, n2⟩ := hr.ow q0
    subst n1
    refine ⟨_, e1, .inl ⟨rfl, xs, SqL.of e2⟩, ?_⟩
    refine ⟨p, xs, rfl, rfl, e2, ?_⟩
    exact hp _ _ _ (hr.write q0 e1 ⟨xs.reverse, rfl, n2.reverse⟩)
  · cases hm
end
end Py
/-! list(reversed(xs)) -/
namespace PyRv
open PySem PySem.Spec PyProof.Rows L2 RT
section
variable {prog : Program} {w : World} {A : Around} {E : Value → Shared → Prop} {s : Shared}
theorem extend_rev {R : Result → Shared → Prop} {it l : Addr} {items : Array Value} (hh : A.handled = none) (hit : s.heap.IsRevIter it l ((items.size : Int) - 1)) (hl : s.heap.IsList l items) (hne : l ≠ it) (hn : items.size ≤ sizeLine) (S : Addr) (res : Value) (c0 : Nat)
    (hS : s.heap.get? S = some { cls := .type "list", data := .seq #[] c0 }) (hSi : S ≠ it) (hSl : S ≠ l)
    (fin : ∀ h' tk acc c', (∀ b o, b ≠ S → b ≠ it → s.heap.get? b = some o → h'.get? b = some o) → h'.get? S = some { cls := .type "list", dict := none, data := .seq acc c', slots := #[] } →
      ItemsOf (fun i v => items[items.size - 1 - i]? = some v) acc items.size → R (.ok (.ret res)) { s with heap := h', toks := tk }) :
    wpAny (model prog w) A.in1 (Builtin.List.listExtendWith (.ref S) (.ref it) res)
      (fun fn s' => match fn with | .done f => R (.ok f) s' | .again c' => c'.quiet = true ∧ codeAny (model prog w) A c' R s') (fun e s' => R (.error e) s') s := by
  have wk := (Walks.listRev (prog := prog) (w := w) (A := A.in1) hh it l hne items).toS
  have hSf : S ∉ [it, l] := by simp [hSi, hSl]
  have hT : s.TypeIs (.ref it) "list_reverseiterator" := Heap.IsRevIter.typeIs hit
  have sm : Builtin.List.listSameRef (.ref S) (.ref it) = false := by simp [Builtin.List.listSameRef, hSi]
  have e0 : ((items.size : Nat) : Int) - 1 - ((0 : Nat) : Int) = (items.size : Int) - 1 := by omega
  have start : (0 : Nat) ≤ items.size ∧ s.heap.IsRevIter it l ((items.size : Int) - 1 - ((0 : Nat) : Int)) ∧ s.heap.IsList l items := ⟨Nat.zero_le _, by rw [e0]; exact hit, hl⟩
  delta Builtin.List.listExtendWith
  refine wpAny_bind (wpAny_typeOf hT ?_)
  rw [if_neg (by rw [sm]; decide)]
  refine wpAny_bind (wpAny_pyIter_revIter hit (wpAny_bind (wpAny_holding ?_)))
  delta Builtin.List.listLengthHint
  refine wpAny_bind (wpAny_specialOf hT nolen_lri ?_)
  show wpAny _ A.in1 (specialOf (.ref it) ("__length_hint__" : Str) >>= _) _ _ _
  refine wpAny_bind (wpAny_specialOf hT hint_lri ?_)
  generalize nm : ("list_reverseiterator.__length_hint__" : String) = mm
  wp_delta
  rw [show splitId mm = some ("list_reverseiterator", "__length_hint__") by subst nm; decide +kernel]
  subst nm
  refine wpAny_bind (wpAny_isInstance (b := true) hT (by rw [isSubtype_type]; kernel_rfl) (wpAny_pure ?_))
  rw [if_neg (by decide)]
  refine wpAny_pure ⟨plainId_quiet F.plain_extend_loop _, codeAny_extend_loopS wk hn _ hSf _ items.size 0 _ _ _ rfl (Nat.zero_le _) start hS (ItemsOf.nil _) fun s2 acc c2 mv at2 got => ?_⟩
  rw [Moved.eq_with mv]
  refine fin s2.heap s2.toks acc c2 (fun b o n1 n2 e => mv.heap b o (fun z => ?_) e) at2 got
  rcases List.mem_cons.mp z with z | z
  · exact n1 z
  · exact n2 (List.mem_singleton.mp z)
theorem init_rev {R : Result → Shared → Prop} {it l : Addr} {items : Array Value} (hh : A.handled = none) (hit : s.heap.IsRevIter it l ((items.size : Int) - 1)) (hl : s.heap.IsList l items) (hne : l ≠ it) (hn : items.size ≤ sizeLine) (S : Addr)
    (hS : s.heap.get? S = some { cls := .type "list", data := .seq #[] }) (hSi : S ≠ it) (hSl : S ≠ l)
    (fin : ∀ h' tk acc c', (∀ b o, b ≠ S → b ≠ it → s.heap.get? b = some o → h'.get? b = some o) → h'.get? S = some { cls := .type "list", dict := none, data := .seq acc c', slots := #[] } →
      ItemsOf (fun i v => items[items.size - 1 - i]? = some v) acc items.size → R (.ok (.ret .none)) { s with heap := h', toks := tk }) :
    wpAny (model prog w) A.in1 (Builtin.«list.__init__» ⟨[.ref S, .ref it], []⟩)
      (fun fn s' => match fn with | .done f => R (.ok f) s' | .again c' => c'.quiet = true ∧ codeAny (model prog w) A c' R s') (fun e s' => R (.error e) s') s := by
  show wpAny _ _ (do let old ← Builtin.List.listItems (.ref S); Builtin.List.listUpdate (.ref S) (fun _ => #[]); letGo old.toList.reverse; Builtin.List.listExtendWith (.ref S) (.ref it) .none) _ _ s
  have up := Heap.get?_update_self (Obj.mapSeq (fun _ => (#[] : Array Value))) hS rfl
  have other : ∀ b o, b ≠ S → s.heap.get? b = some o → (s.heap.update S (Obj.mapSeq (fun _ => (#[] : Array Value)))).get? b = some o := by
    intro b o n e
    rw [Heap.get?_update_other _ _ (Ne.symm n)]
    exact e
  refine wpAny_bind ?_
  delta Builtin.List.listItems
  refine wpAny_bind (wpAny_seqItems hS rfl (wpAny_pure ?_))
  show wpAny _ _ (updateSeq S (fun _ => #[]) >>= fun _ => letGo (#[] : Array Value).toList.reverse >>= fun _ => Builtin.List.listExtendWith (.ref S) (.ref it) .none) _ _ s
  refine wpAny_bind (wpAny_updateSeq hS rfl (wpAny_bind (wpAny_letGo ?_)))
  have hit2 : (s.heap.update S (Obj.mapSeq (fun _ => (#[] : Array Value)))).IsRevIter it l ((items.size : Int) - 1) := hit.at fun o e => other it o (Ne.symm hSi) e
  have hl2 : (s.heap.update S (Obj.mapSeq (fun _ => (#[] : Array Value)))).IsList l items := by
    obtain ⟨o, e, q⟩ := hl
    exact ⟨o, other l o (Ne.symm hSl) e, q⟩
  refine extend_rev (s := { s with heap := s.heap.update S (Obj.mapSeq (fun _ => (#[] : Array Value))) }) hh hit2 hl2 hne hn S .none _ up hSi hSl fun h' tk acc c' k1 k2 k3 => ?_
  exact fin h' tk acc c' (fun b o n1 n2 e => k1 b o n1 n2 (other b o n1 e)) k2 k3
theorem call_list_rev {Q : Value → Shared → Prop} {it l : Addr} {items : Array Value} (hh : A.handled = none) (hit : s.heap.IsRevIter it l ((items.size : Int) - 1)) (hl : s.heap.IsList l items) (hne : l ≠ it) (hn : items.size ≤ sizeLine)
    (fin : ∀ h' tk acc c', (∀ b o, b ≠ it → s.heap.get? b = some o → h'.get? b = some o) → h'.get? s.heap.objs.size = some { cls := .type "list", dict := none, data := .seq acc c', slots := #[] } →
      ItemsOf (fun i v => items[items.size - 1 - i]? = some v) acc items.size → Q (.ref s.heap.objs.size) { s with heap := h', toks := tk }) :
    wpAny (model prog w) A (call (.type "list") [.ref it]) Q E s := by
  have lt1 : it < s.heap.objs.size := by
    obtain ⟨o, e, _⟩ := hit
    exact Heap.lt_size e
  have lt2 : l < s.heap.objs.size := by
    obtain ⟨o, e, _⟩ := hl
    exact Heap.lt_size e
  refine callType_codes (Q₁ := fun v t => v = .ref s.heap.objs.size ∧ t = { s with heap := s.heap.push { cls := .type "list", data := .seq #[] } }) F.called_list (F.typeCall_list_1 _) F.entry_list_init (code_list_new _ ⟨rfl, rfl⟩) ?_
  rintro v t ⟨rfl, rfl⟩
  have at0 : (s.heap.push { cls := .type "list", data := .seq #[] }).get? s.heap.objs.size = some { cls := .type "list", data := .seq #[] } := Heap.get?_push_size _ rfl
  refine ⟨⟨_, at0, rfl⟩, F.args_list_init_2 _ _, init_rev (A := A.in1) (s := { s with heap := s.heap.push { cls := .type "list", data := .seq #[] } }) hh (hit.at fun o e => Heap.get?_push_of_some _ e) (hl.push _) hne hn _ at0 (Nat.ne_of_gt lt1) (Nat.ne_of_gt lt2) fun h' tk acc c' k1 k2 k3 => ?_⟩
  exact ⟨rfl, fin h' tk acc c' (fun b o n e => k1 b o (Nat.ne_of_lt (Heap.lt_size e)) n (Heap.get?_push_of_some _ e)) k2 k3⟩
end
section
variable {X : Cx}
/-- list(reversed(x)), x a list -/
def rListRev (K : PySem.W.Frag) : List V → Hp → VK → Prop := fun vs H Q => ∃ (a : Addr) (xs : List V), vs = [V.ref a] ∧ SqL K H a xs ∧ ∀ q, H q = none → Q (.ref q) (upd H q (.lst xs.reverse))
theorem pe_listRev {e : Expr} {ta : TA} {p p2 pos pos2 : Pos} (hc : X.calm = true) (hg : Gl X "list") (hm : X.mg "list" = none) (hg2 : Gl X "reversed") (hm2 : X.mg "reversed" = none) (he : PA X [e] ta)
    (hs : starEach [e] X.env = (false, eval e X.env) :: starEach [] X.env := by rfl)
    (hs2 : starEach [.Call (.Name "reversed" p2) [e] [] pos2] X.env = (false, eval (.Call (.Name "reversed" p2) [e] [] pos2) X.env) :: starEach [] X.env := by rfl) :
    PE X (.Call (.Name "list" p) [.Call (.Name "reversed" p2) [e] [] pos2] [] pos) (fun σ H Q => ta σ H fun vs H1 => rListRev X.K vs H1 Q) := by
  refine ⟨fun pins s σ H Q I h => ?_⟩
  refine Call_ (ld_blt I hg hm boot_list (PyProof.Rows.callWith_type1 (args_cons (Call_ (ld_blt I hg2 hm2 PyProof.Rows.boot_reversed (PyProof.Rows.callWith_type1 (thn (he.run pos2 pins s σ H _ I h) fun us s1 ⟨vs, H1, I1, r1, q1⟩ => ?_) hs rfl))) hs2) hs2 rfl))
  obtain ⟨a, xs, rfl, hq, q⟩ := q1
  obtain ⟨u, rfl, ru⟩ := vals1 r1
  obtain rfl : u = Value.ref a := ru
  obtain ⟨its, rv, pl, hz⟩ := I1.list hq
  have il := pl.isList
  have hn : its.toArray.size ≤ sizeLine := by
    rw [List.size_toArray, ← rv.length]
    exact hz
  have ne : a ≠ s1.heap.objs.size := by
    obtain ⟨ol, hol, _⟩ := il
    exact Nat.ne_of_lt (Heap.lt_size hol)
  refine call_reversed_list il (args_nil ?_)
  refine call_list_rev (s := { s1 with heap := s1.heap.push (revObj a ((its.toArray.size : Int) - 1)) }) (I1.ok.hd hc) ⟨_, Heap.get?_push_size _ rfl, rfl, rfl⟩ (il.push _) ne hn fun h' tk acc c' k1 k2 k3 => ?_
  have le : s1.heap.objs.size ≤ (s1.heap.push (revObj a ((its.toArray.size : Int) - 1))).objs.size := by
    rw [size_push']
    exact Nat.le_succ _
  refine ⟨.ref (s1.heap.push (revObj a ((its.toArray.size : Int) - 1))).objs.size, upd H1 (s1.heap.push (revObj a ((its.toArray.size : Int) - 1))).objs.size (.lst xs.reverse), I1.laid (t' := tk) (fun b o e => k1 b o (Nat.ne_of_lt (Heap.lt_size e)) (Heap.get?_push_of_some _ e)) le ⟨?_, acc.toList, c', vals_rev rv k3, ?_⟩, rfl, q _ (I1.hok.fresh le)⟩
  · rw [List.length_reverse]
    exact hz
  · rw [Array.toArray_toList]
    exact k2
end
end PyRv
namespace Py
open PySem L2 PyProof.Rows
section
variable {X : Cx} {cl : Cs} {W : WX} {p p2 pos pos2 : Pos} {e : Expr} {as : As}
theorem od_listRev : OpD (gm X cl) (PyRv.rListRev X.K) oListRev := by
  intro Hs H vs ds x Q e hv hf c
  unfold oListRev at hf
  split at hf
  · rename_i es
    cases hf
    obtain ⟨v, rfl, h1⟩ := rca1 hv
    obtain ⟨a, xs, rfl, a1, a2⟩ := h1.lst e
    exact ⟨a, xs, rfl, SqL.of a1, fun q hq => c.lst q _ _ rfl hq a2.reverse⟩
  · cases hf
theorem pd_listRev (hc : X.calm = true) (hg : Gl X "list") (hm : X.mg "list" = none) (hg2 : Gl X "reversed") (hm2 : X.mg "reversed" = none) (he : PAs X cl W [e] as)
    (hs : starEach [e] X.env = (false, eval e X.env) :: starEach [] X.env := by rfl)
    (hs2 : starEach [.Call (.Name "reversed" p2) [e] [] pos2] X.env = (false, eval (.Call (.Name "reversed" p2) [e] [] pos2) X.env) :: starEach [] X.env := by rfl) :
    PD X cl W (.Call (.Name "list" p) [.Call (.Name "reversed" p2) [e] [] pos2] [] pos) (eOp as oListRev) := by
  obtain ⟨ta, h1, h2⟩ := he
  exact ⟨_, PyRv.pe_listRev hc hg hm hg2 hm2 h1 hs hs2, op_den h2 od_listRev⟩
end
end Py

set_option linter.all false
/-! Sc: the meanings of the defs that many laws have (printed by gen.py). -/
namespace Sc
open PySem Py
noncomputable def dn_is_whole : Fn := mkFn 1 [false]
  (sRet (eAnd (eOp (asC (aR 0) asN) (oIsi .int)) (eNot (eOp (asC (aR 0) asN) (oIsi .bool)))))
noncomputable def dn_common_part : Fn := mkFn 4 [false, false]
  (sSeq (sPar 2 3 (asC (aV (eOp (asC (aR 0) asN) oAbs)) (asC (aV (eOp (asC (aR 1) asN) oAbs)) asN)))
    (sSeq (sWhile (tV (eOp (asC (aR 3) (asC (aV (eC (.int 0))) asN)) oGt))
    (sPar 2 3 (asC (aV (eVar 3)) (asC (aV (eOp (asC (aR 2) (asC (aR 3) asN)) oMod)) asN))))
    (sRet (eMov 2))))
noncomputable def dn_is_fraction : Fn := mkFn 1 [false]
  (sSeq (sIf (tOr (tNot (tV (eOp (asC (aR 0) asN) (oIsi .tuple)))) (tOr (tV (eOp (asC (aV (eOp (asC (aR 0) asN) oLen)) (asC (aV (eC (.int 2))) asN)) oNeX)) (tOr (tNot (tV (eCall dn_is_whole (asC (aV (eOp (asC (aR 0) (asC (aV (eC (.int 0))) asN)) oIx)) asN)))) (tNot (tV (eCall dn_is_whole (asC (aV (eOp (asC (aR 0) (asC (aV (eC (.int 1))) asN)) oIx)) asN)))))))
    (sRet (eC (.bl false)))
    sPass)
    (sRet (eAnd (eOp (asC (aV (eOp (asC (aR 0) (asC (aV (eC (.int 1))) asN)) oIx)) (asC (aV (eC (.int 0))) asN)) oGt) (eOp (asC (aV (eCall dn_common_part (asC (aV (eOp (asC (aR 0) (asC (aV (eC (.int 0))) asN)) oIx)) (asC (aV (eOp (asC (aR 0) (asC (aV (eC (.int 1))) asN)) oIx)) asN)))) (asC (aV (eC (.int 1))) asN)) oEqX))))
noncomputable def dn_fraction : Fn := mkFn 3 [false, false]
  (sSeq (sIf (tV (eOp (asC (aR 1) (asC (aV (eC (.int 0))) asN)) oEqX))
    (sRaise "NoFraction")
    sPass)
    (sSeq (sAsg (eCall dn_common_part (asC (aV (eVar 0)) (asC (aV (eVar 1)) asN))) (gN 2))
    (sSeq (sIf (tV (eOp (asC (aR 1) (asC (aV (eC (.int 0))) asN)) oLt))
    (sAsg (eOp (asC (aR 2) asN) oNeg) (gN 2))
    sPass)
    (sRet (eTup (asC (aV (eOp (asC (aR 0) (asC (aR 2) asN)) oFdiv)) (asC (aV (eOp (asC (aR 1) (asC (aR 2) asN)) oFdiv)) asN)))))))
noncomputable def dn_plus : Fn := mkFn 2 [false, false]
  (sRet (eCall dn_fraction (asC (aV (eOp (asC (aV (eOp (asC (aV (eOp (asC (aR 0) (asC (aV (eC (.int 0))) asN)) oIx)) (asC (aV (eOp (asC (aR 1) (asC (aV (eC (.int 1))) asN)) oIx)) asN)) oMulX)) (asC (aV (eOp (asC (aV (eOp (asC (aR 1) (asC (aV (eC (.int 0))) asN)) oIx)) (asC (aV (eOp (asC (aR 0) (asC (aV (eC (.int 1))) asN)) oIx)) asN)) oMulX)) asN)) oAdd)) (asC (aV (eOp (asC (aV (eOp (asC (aR 0) (asC (aV (eC (.int 1))) asN)) oIx)) (asC (aV (eOp (asC (aR 1) (asC (aV (eC (.int 1))) asN)) oIx)) asN)) oMulX)) asN))))
noncomputable def dn_minus : Fn := mkFn 2 [false, false]
  (sRet (eCall dn_fraction (asC (aV (eOp (asC (aV (eOp (asC (aV (eOp (asC (aR 0) (asC (aV (eC (.int 0))) asN)) oIx)) (asC (aV (eOp (asC (aR 1) (asC (aV (eC (.int 1))) asN)) oIx)) asN)) oMulX)) (asC (aV (eOp (asC (aV (eOp (asC (aR 1) (asC (aV (eC (.int 0))) asN)) oIx)) (asC (aV (eOp (asC (aR 0) (asC (aV (eC (.int 1))) asN)) oIx)) asN)) oMulX)) asN)) oSub)) (asC (aV (eOp (asC (aV (eOp (asC (aR 0) (asC (aV (eC (.int 1))) asN)) oIx)) (asC (aV (eOp (asC (aR 1) (asC (aV (eC (.int 1))) asN)) oIx)) asN)) oMulX)) asN))))
noncomputable def dn_times : Fn := mkFn 2 [false, false]
  (sRet (eCall dn_fraction (asC (aV (eOp (asC (aV (eOp (asC (aR 0) (asC (aV (eC (.int 0))) asN)) oIx)) (asC (aV (eOp (asC (aR 1) (asC (aV (eC (.int 0))) asN)) oIx)) asN)) oMulX)) (asC (aV (eOp (asC (aV (eOp (asC (aR 0) (asC (aV (eC (.int 1))) asN)) oIx)) (asC (aV (eOp (asC (aR 1) (asC (aV (eC (.int 1))) asN)) oIx)) asN)) oMulX)) asN))))
noncomputable def dn_over : Fn := mkFn 2 [false, false]
  (sRet (eCall dn_fraction (asC (aV (eOp (asC (aV (eOp (asC (aR 0) (asC (aV (eC (.int 0))) asN)) oIx)) (asC (aV (eOp (asC (aR 1) (asC (aV (eC (.int 1))) asN)) oIx)) asN)) oMulX)) (asC (aV (eOp (asC (aV (eOp (asC (aR 0) (asC (aV (eC (.int 1))) asN)) oIx)) (asC (aV (eOp (asC (aR 1) (asC (aV (eC (.int 0))) asN)) oIx)) asN)) oMulX)) asN))))
noncomputable def dn_is_less : Fn := mkFn 2 [false, false]
  (sRet (eOp (asC (aV (eOp (asC (aV (eOp (asC (aR 0) (asC (aV (eC (.int 0))) asN)) oIx)) (asC (aV (eOp (asC (aR 1) (asC (aV (eC (.int 1))) asN)) oIx)) asN)) oMulX)) (asC (aV (eOp (asC (aV (eOp (asC (aR 1) (asC (aV (eC (.int 0))) asN)) oIx)) (asC (aV (eOp (asC (aR 0) (asC (aV (eC (.int 1))) asN)) oIx)) asN)) oMulX)) asN)) oLt))
noncomputable def dn_fraction_text : Fn := mkFn 1 [false]
  (sSeq (sIf (tV (eOp (asC (aV (eOp (asC (aR 0) (asC (aV (eC (.int 1))) asN)) oIx)) (asC (aV (eC (.int 1))) asN)) oEqX))
    (sRet (eOp (asC (aV (eOp (asC (aR 0) (asC (aV (eC (.int 0))) asN)) oIx)) asN) oStr))
    sPass)
    (sRet (eOp (asC (aV (eOp (asC (aV (eOp (asC (aV (eOp (asC (aR 0) (asC (aV (eC (.int 0))) asN)) oIx)) asN) oStr)) (asC (aV (eC (.str "/"))) asN)) oAdd)) (asC (aV (eOp (asC (aV (eOp (asC (aR 0) (asC (aV (eC (.int 1))) asN)) oIx)) asN) oStr)) asN)) oAdd)))
noncomputable def dn__law_pot : Fn := mkFn 1 [false]
  (sRet (eLst (asC (aV (eOp (asC (aV (eC (.int 0))) (asC (aV (eOp (asC (aV (eOp (asC (aR 0) asN) oAbs)) (asC (aV (eOp (asC (aV (eC (.int 10))) (asC (aV (eC (.int 18))) asN)) oPow)) asN)) oSub)) asN)) oMax2)) (asC (aV (eOp (asC (aV (eOp (asC (aV (eOp (asC (aR 0) asN) oAbs)) (asC (aV (eC (.int 2147483629))) asN)) oMod)) (asC (aV (eC (.int 1))) asN)) oAdd)) asN))))
noncomputable def dn__law_draw : Fn := mkFn 3 [true, false]
  (sSeq (sIf (tV (eOp (asC (aV (eOp (asC (aR 0) (asC (aV (eC (.int 0))) asN)) oIx)) (asC (aV (eC (.int 0))) asN)) oGt))
    (sSeq (sAsg (eOp (asC (aV (eOp (asC (aR 0) (asC (aV (eC (.int 0))) asN)) oIx)) (asC (aR 1) asN)) oDivmod) (gTup [(gSet 0 (aV (eC (.int 0)))), (gN 2)]))
    (sRet (eMov 2)))
    sPass)
    (sSeq (sAsg (eOp (asC (aV (eOp (asC (aV (eOp (asC (aV (eOp (asC (aR 0) (asC (aV (eC (.int 1))) asN)) oIx)) (asC (aV (eC (.int 48271))) asN)) oMulX)) (asC (aV (eC (.int 11))) asN)) oAdd)) (asC (aV (eC (.int 2147483647))) asN)) oMod) (gSet 0 (aV (eC (.int 1)))))
    (sRet (eOp (asC (aV (eOp (asC (aV (eOp (asC (aV (eOp (asC (aV (eOp (asC (aR 0) (asC (aV (eC (.int 1))) asN)) oIx)) (asC (aV (eOp (asC (aR 0) (asC (aV (eC (.int 1))) asN)) oIx)) asN)) oMulX)) (asC (aV (eC (.int 2147483629))) asN)) oMod)) (asC (aV (eC (.int 3))) asN)) oFdiv)) (asC (aR 1) asN)) oMod))))
noncomputable def dn__law_low : Fn := mkFn 4 [false, false]
  (sSeq (sPar 2 3 (asC (aV (eOp (asC (aR 0) asN) oAbs)) (asC (aV (eOp (asC (aR 1) asN) oAbs)) asN)))
    (sSeq (sWhile (tV (eOp (asC (aR 3) (asC (aV (eC (.int 0))) asN)) oGt))
    (sPar 2 3 (asC (aV (eVar 3)) (asC (aV (eOp (asC (aR 2) (asC (aR 3) asN)) oMod)) asN))))
    (sSeq (sIf (tV (eOp (asC (aR 1) (asC (aV (eC (.int 0))) asN)) oLt))
    (sAsg (eOp (asC (aR 2) asN) oNeg) (gN 2))
    sPass)
    (sRet (eTup (asC (aV (eOp (asC (aR 0) (asC (aR 2) asN)) oFdiv)) (asC (aV (eOp (asC (aR 1) (asC (aR 2) asN)) oFdiv)) asN)))))))
noncomputable def dn__law_sum : Fn := mkFn 2 [false, false]
  (sRet (eCall dn__law_low (asC (aV (eOp (asC (aV (eOp (asC (aV (eOp (asC (aR 0) (asC (aV (eC (.int 0))) asN)) oIx)) (asC (aV (eOp (asC (aR 1) (asC (aV (eC (.int 1))) asN)) oIx)) asN)) oMulX)) (asC (aV (eOp (asC (aV (eOp (asC (aR 1) (asC (aV (eC (.int 0))) asN)) oIx)) (asC (aV (eOp (asC (aR 0) (asC (aV (eC (.int 1))) asN)) oIx)) asN)) oMulX)) asN)) oAdd)) (asC (aV (eOp (asC (aV (eOp (asC (aR 0) (asC (aV (eC (.int 1))) asN)) oIx)) (asC (aV (eOp (asC (aR 1) (asC (aV (eC (.int 1))) asN)) oIx)) asN)) oMulX)) asN))))
noncomputable def dn__law_product : Fn := mkFn 2 [false, false]
  (sRet (eCall dn__law_low (asC (aV (eOp (asC (aV (eOp (asC (aR 0) (asC (aV (eC (.int 0))) asN)) oIx)) (asC (aV (eOp (asC (aR 1) (asC (aV (eC (.int 0))) asN)) oIx)) asN)) oMulX)) (asC (aV (eOp (asC (aV (eOp (asC (aR 0) (asC (aV (eC (.int 1))) asN)) oIx)) (asC (aV (eOp (asC (aR 1) (asC (aV (eC (.int 1))) asN)) oIx)) asN)) oMulX)) asN))))
noncomputable def dn__law_bottom : Fn := mkFn 1 [false]
  (sRet (eIf (tV (eOp (asC (aV (eOp (asC (aR 0) (asC (aV (eC (.int 0))) asN)) oIx)) (asC (aV (eC (.str "board"))) asN)) oEqX)) (eOp (asC (aR 0) (asC (aV (eC (.int 6))) asN)) oIx) (eOp (asC (aR 0) (asC (aV (eC (.int 4))) asN)) oIx)))
noncomputable def dn__law_bottom_v1 : Fn := mkFn 1 [false]
  (sRet (eIf (tV (eOp (asC (aV (eOp (asC (aR 0) (asC (aV (eC (.int 0))) asN)) oIx)) (asC (aV (eC (.str "pole"))) asN)) oEqX)) (eOp (asC (aR 0) (asC (aV (eC (.int 4))) asN)) oIx) (eOp (asC (aR 0) (asC (aV (eC (.int 6))) asN)) oIx)))
noncomputable def dn_is_name : Fn := mkFn 2 [false]
  (sSeq (sIf (tOr (tNot (tV (eOp (asC (aR 0) asN) (oIsi .str)))) (tNot (tV (eChain (aV (eC (.int 1))) (aV (eOp (asC (aR 0) asN) oLen)) (aV (eC (.int 8))) (fun i j => decide (i ≤ j)) (fun i j => decide (i ≤ j))))))
    (sRet (eC (.bl false)))
    sPass)
    (sRet (eOp (asC (aV (eLc (wSeq (eVar 0)) (gN 1) tYesE (eOp (asC (aR 1) (asC (aV (eC (.str "abcdefghijklmnopqrstuvwxyz"))) asN)) oIn) [1])) asN) oAll)))
noncomputable def dn_is_within : Fn := mkFn 2 [false, false]
  (sRet (eAnd (eCall dn_is_whole (asC (aV (eVar 0)) asN)) (eChain (aR 1) (aR 0) (aV (eC (.int 20))) (fun i j => decide (i ≤ j)) (fun i j => decide (i ≤ j)))))
noncomputable def dn_are_weights : Fn := mkFn 2 [false, false]
  (sSeq (sIf (tOr (tNot (tV (eCall dn_is_fraction (asC (aV (eVar 0)) asN)))) (tNot (tV (eCall dn_is_fraction (asC (aV (eVar 1)) asN)))))
    (sRet (eC (.bl false)))
    sPass)
    (sRet (eAnd (eCall dn_is_less (asC (aV (eC (.tup [(.int 0), (.int 1)]))) (asC (aV (eVar 0)) asN))) (eNot (eCall dn_is_less (asC (aV (eVar 1)) (asC (aV (eC (.tup [(.int 0), (.int 1)]))) asN)))))))
noncomputable def dn_is_pole : Fn := mkFn 10 [false]
  (sSeq (sAsg (eVar 0) (gTup [(gN 1), (gN 2), (gN 3), (gN 4), (gN 5), (gN 6), (gN 7), (gN 8)]))
    (sSeq (sIf (tOr (tV (eOp (asC (aR 1) (asC (aV (eC (.str "pole"))) asN)) oNeX)) (tOr (tNot (tV (eCall dn_is_name (asC (aV (eVar 2)) asN)))) (tNot (tV (eCall dn_are_weights (asC (aV (eVar 7)) (asC (aV (eVar 8)) asN)))))))
    (sRet (eC (.bl false)))
    sPass)
    (sRet (eAnd (eOp (asC (aV (eLc (wSeq (eTup (asC (aV (eVar 3)) (asC (aV (eVar 4)) (asC (aV (eVar 5)) (asC (aV (eVar 6)) asN)))))) (gN 9) tYesE (eCall dn_is_within (asC (aV (eVar 9)) (asC (aV (eC (.int 0))) asN))) [9])) asN) oAll) (eOp (asC (aR 5) (asC (aR 6) asN)) oLt)))))
noncomputable def dn_ends_within : Fn := mkFn 4 [false, false, false, false]
  (sSeq (sIf (tV (eOp (asC (aR 2) (asC (aV (eOp (asC (aV (eC (.tup [(.str "x"), (.str "y")]))) (asC (aV (eC (.int 0))) asN)) oIx)) asN)) oEqX))
    (sRet (eOp (asC (aV (eOp (asC (aR 0) (asC (aR 3) asN)) oAdd)) (asC (aV (eC (.int 20))) asN)) oLe))
    sPass)
    (sRet (eOp (asC (aV (eOp (asC (aR 1) (asC (aR 3) asN)) oAdd)) (asC (aV (eC (.int 20))) asN)) oLe)))
noncomputable def dn_is_plank : Fn := mkFn 11 [false]
  (sSeq (sAsg (eVar 0) (gTup [(gN 1), (gN 2), (gN 3), (gN 4), (gN 5), (gN 6), (gN 7), (gN 8), (gN 9)]))
    (sSeq (sIf (tOr (tV (eOp (asC (aR 1) (asC (aV (eC (.str "board"))) asN)) oNeX)) (tOr (tNot (tV (eCall dn_is_name (asC (aV (eVar 2)) asN)))) (tNot (tV (eCall dn_are_weights (asC (aV (eVar 8)) (asC (aV (eVar 9)) asN)))))))
    (sRet (eC (.bl false)))
    sPass)
    (sSeq (sIf (tOr (tNot (tV (eOp (asC (aR 5) asN) (oIsi .str)))) (tOr (tV (eOp (asC (aR 5) (asC (aV (eC (.tup [(.str "x"), (.str "y")]))) asN)) oNotIn)) (tNot (tV (eOp (asC (aV (eLc (wSeq (eTup (asC (aV (eVar 3)) (asC (aV (eVar 4)) (asC (aV (eVar 7)) asN))))) (gN 10) tYesE (eCall dn_is_within (asC (aV (eVar 10)) (asC (aV (eC (.int 0))) asN))) [10])) asN) oAll)))))
    (sRet (eC (.bl false)))
    sPass)
    (sRet (eAnd (eCall dn_is_within (asC (aV (eVar 6)) (asC (aV (eC (.int 1))) asN))) (eCall dn_ends_within (asC (aV (eVar 3)) (asC (aV (eVar 4)) (asC (aV (eVar 5)) (asC (aV (eVar 6)) asN))))))))))
noncomputable def dn_is_part : Fn := mkFn 1 [false]
  (sSeq (sIf (tNot (tV (eOp (asC (aR 0) asN) (oIsi .tuple))))
    (sRet (eC (.bl false)))
    sPass)
    (sRet (eOr (eAnd (eOp (asC (aV (eOp (asC (aR 0) asN) oLen)) (asC (aV (eC (.int 8))) asN)) oEqX) (eCall dn_is_pole (asC (aV (eVar 0)) asN))) (eAnd (eOp (asC (aV (eOp (asC (aR 0) asN) oLen)) (asC (aV (eC (.int 9))) asN)) oEqX) (eCall dn_is_plank (asC (aV (eVar 0)) asN))))))
noncomputable def dn_is_board : Fn := mkFn 1 [false]
  (sRet (eOp (asC (aV (eOp (asC (aR 0) (asC (aV (eC (.int 0))) asN)) oIx)) (asC (aV (eC (.str "board"))) asN)) oEqX))
noncomputable def dn_bottom_of : Fn := mkFn 1 [false]
  (sSeq (sIf (tV (eCall dn_is_board (asC (aV (eVar 0)) asN)))
    (sRet (eOp (asC (aR 0) (asC (aV (eC (.int 6))) asN)) oIx))
    sPass)
    (sRet (eOp (asC (aR 0) (asC (aV (eC (.int 4))) asN)) oIx)))
noncomputable def dn_top_of : Fn := mkFn 1 [false]
  (sSeq (sIf (tV (eCall dn_is_board (asC (aV (eVar 0)) asN)))
    (sRet (eOp (asC (aV (eOp (asC (aR 0) (asC (aV (eC (.int 6))) asN)) oIx)) (asC (aV (eC (.int 1))) asN)) oAdd))
    sPass)
    (sRet (eOp (asC (aR 0) (asC (aV (eC (.int 5))) asN)) oIx)))
noncomputable def dn_places_of : Fn := mkFn 4 [false]
  (sSeq (sAsg (eTup (asC (aV (eOp (asC (aR 0) (asC (aV (eC (.int 2))) asN)) oIx)) (asC (aV (eOp (asC (aR 0) (asC (aV (eC (.int 3))) asN)) oIx)) asN))) (gTup [(gN 1), (gN 2)]))
    (sSeq (sIf (tNot (tV (eCall dn_is_board (asC (aV (eVar 0)) asN))))
    (sRet (eLst (asC (aV (eTup (asC (aV (eVar 1)) (asC (aV (eVar 2)) asN)))) asN)))
    sPass)
    (sSeq (sIf (tV (eOp (asC (aV (eOp (asC (aR 0) (asC (aV (eC (.int 4))) asN)) oIx)) (asC (aV (eOp (asC (aV (eC (.tup [(.str "x"), (.str "y")]))) (asC (aV (eC (.int 0))) asN)) oIx)) asN)) oEqX))
    (sRet (eLc (wR1 (aV (eOp (asC (aV (eOp (asC (aR 0) (asC (aV (eC (.int 5))) asN)) oIx)) (asC (aV (eC (.int 1))) asN)) oAdd))) (gN 3) tYesE (eTup (asC (aV (eOp (asC (aR 1) (asC (aR 3) asN)) oAdd)) (asC (aV (eVar 2)) asN))) [3]))
    sPass)
    (sRet (eLc (wR1 (aV (eOp (asC (aV (eOp (asC (aR 0) (asC (aV (eC (.int 5))) asN)) oIx)) (asC (aV (eC (.int 1))) asN)) oAdd))) (gN 3) tYesE (eTup (asC (aV (eVar 1)) (asC (aV (eOp (asC (aR 2) (asC (aR 3) asN)) oAdd)) asN))) [3])))))
noncomputable def dn__law_top_v1 : Fn := mkFn 1 [false]
  (sRet (eIf (tV (eOp (asC (aV (eOp (asC (aR 0) (asC (aV (eC (.int 0))) asN)) oIx)) (asC (aV (eC (.str "pole"))) asN)) oEqX)) (eOp (asC (aR 0) (asC (aV (eC (.int 5))) asN)) oIx) (eOp (asC (aV (eOp (asC (aR 0) (asC (aV (eC (.int 6))) asN)) oIx)) (asC (aV (eC (.int 1))) asN)) oAdd)))
noncomputable def dn__law_top : Fn := mkFn 1 [false]
  (sRet (eIf (tV (eOp (asC (aV (eOp (asC (aR 0) (asC (aV (eC (.int 0))) asN)) oIx)) (asC (aV (eC (.str "board"))) asN)) oEqX)) (eOp (asC (aV (eOp (asC (aR 0) (asC (aV (eC (.int 6))) asN)) oIx)) (asC (aV (eC (.int 1))) asN)) oAdd) (eOp (asC (aR 0) (asC (aV (eC (.int 5))) asN)) oIx)))
noncomputable def dn__law_places_v1 : Fn := mkFn 4 [false]
  (sSeq (sAsg (eTup (asC (aV (eOp (asC (aR 0) (asC (aV (eC (.int 2))) asN)) oIx)) (asC (aV (eOp (asC (aR 0) (asC (aV (eC (.int 3))) asN)) oIx)) asN))) (gTup [(gN 1), (gN 2)]))
    (sSeq (sIf (tV (eOp (asC (aV (eOp (asC (aR 0) (asC (aV (eC (.int 0))) asN)) oIx)) (asC (aV (eC (.str "pole"))) asN)) oEqX))
    (sRet (eLst (asC (aV (eTup (asC (aV (eVar 1)) (asC (aV (eVar 2)) asN)))) asN)))
    sPass)
    (sSeq (sIf (tV (eOp (asC (aV (eOp (asC (aR 0) (asC (aV (eC (.int 4))) asN)) oIx)) (asC (aV (eC (.str "x"))) asN)) oEqX))
    (sRet (eLc (wR1 (aV (eOp (asC (aV (eOp (asC (aR 0) (asC (aV (eC (.int 5))) asN)) oIx)) (asC (aV (eC (.int 1))) asN)) oAdd))) (gN 3) tYesE (eTup (asC (aV (eOp (asC (aR 1) (asC (aR 3) asN)) oAdd)) (asC (aV (eVar 2)) asN))) [3]))
    sPass)
    (sRet (eLc (wR1 (aV (eOp (asC (aV (eOp (asC (aR 0) (asC (aV (eC (.int 5))) asN)) oIx)) (asC (aV (eC (.int 1))) asN)) oAdd))) (gN 3) tYesE (eTup (asC (aV (eVar 1)) (asC (aV (eOp (asC (aR 2) (asC (aR 3) asN)) oAdd)) asN))) [3])))))
noncomputable def dn__law_places : Fn := mkFn 2 [false]
  (sSeq (sIf (tV (eOp (asC (aV (eOp (asC (aR 0) (asC (aV (eC (.int 0))) asN)) oIx)) (asC (aV (eC (.str "pole"))) asN)) oEqX))
    (sRet (eLst (asC (aV (eTup (asC (aV (eOp (asC (aR 0) (asC (aV (eC (.int 2))) asN)) oIx)) (asC (aV (eOp (asC (aR 0) (asC (aV (eC (.int 3))) asN)) oIx)) asN)))) asN)))
    sPass)
    (sSeq (sIf (tV (eOp (asC (aV (eOp (asC (aR 0) (asC (aV (eC (.int 4))) asN)) oIx)) (asC (aV (eC (.str "x"))) asN)) oEqX))
    (sRet (eLc (wR1 (aV (eOp (asC (aV (eOp (asC (aR 0) (asC (aV (eC (.int 5))) asN)) oIx)) (asC (aV (eC (.int 1))) asN)) oAdd))) (gN 1) tYesE (eTup (asC (aV (eOp (asC (aV (eOp (asC (aR 0) (asC (aV (eC (.int 2))) asN)) oIx)) (asC (aR 1) asN)) oAdd)) (asC (aV (eOp (asC (aR 0) (asC (aV (eC (.int 3))) asN)) oIx)) asN))) [1]))
    sPass)
    (sRet (eLc (wR1 (aV (eOp (asC (aV (eOp (asC (aR 0) (asC (aV (eC (.int 5))) asN)) oIx)) (asC (aV (eC (.int 1))) asN)) oAdd))) (gN 1) tYesE (eTup (asC (aV (eOp (asC (aR 0) (asC (aV (eC (.int 2))) asN)) oIx)) (asC (aV (eOp (asC (aV (eOp (asC (aR 0) (asC (aV (eC (.int 3))) asN)) oIx)) (asC (aR 1) asN)) oAdd)) asN))) [1]))))
noncomputable def dn__law_clash : Fn := mkFn 3 [false, false]
  (sSeq (sIf (tOr (tV (eOp (asC (aV (eCall dn__law_bottom (asC (aV (eVar 0)) asN))) (asC (aV (eCall dn__law_top (asC (aV (eVar 1)) asN))) asN)) oGe)) (tV (eOp (asC (aV (eCall dn__law_bottom (asC (aV (eVar 1)) asN))) (asC (aV (eCall dn__law_top (asC (aV (eVar 0)) asN))) asN)) oGe)))
    (sRet (eC (.bl false)))
    sPass)
    (sRet (eOp (asC (aV (eLc (wSeq (eCall dn__law_places (asC (aV (eVar 0)) asN))) (gN 2) (tV (eOp (asC (aR 2) (asC (aV (eCall dn__law_places (asC (aV (eVar 1)) asN))) asN)) oIn)) (eVar 2) [2])) (asC (aV (eLst asN)) asN)) oNeX)))
noncomputable def dn__law_take : Fn := mkFn 3 [true, false]
  (sSeq (sIf (tV (eOp (asC (aV (eOp (asC (aR 0) (asC (aV (eC (.int 0))) asN)) oIx)) (asC (aV (eC (.int 0))) asN)) oGt))
    (sSeq (sAsg (eOp (asC (aR 0) (asC (aV (eC (.int 0))) asN)) oIx) (gN 2))
    (sSeq (sAsg (eOp (asC (aR 2) (asC (aR 1) asN)) oFdiv) (gSet 0 (aV (eC (.int 0)))))
    (sRet (eOp (asC (aR 2) (asC (aR 1) asN)) oMod))))
    sPass)
    (sSeq (sAsg (eOp (asC (aV (eOp (asC (aV (eOp (asC (aV (eOp (asC (aR 0) (asC (aV (eC (.int 1))) asN)) oIx)) (asC (aV (eC (.int 48271))) asN)) oMulX)) (asC (aV (eC (.int 9973))) asN)) oAdd)) (asC (aV (eC (.int 2147483629))) asN)) oMod) (gSet 0 (aV (eC (.int 1)))))
    (sSeq (sAsg (eOp (asC (aV (eOp (asC (aV (eOp (asC (aR 0) (asC (aV (eC (.int 1))) asN)) oIx)) (asC (aV (eOp (asC (aR 0) (asC (aV (eC (.int 1))) asN)) oIx)) asN)) oMulX)) (asC (aV (eC (.int 2147483587))) asN)) oMod) (gN 2))
    (sRet (eOp (asC (aV (eOp (asC (aR 2) (asC (aV (eC (.int 7))) asN)) oFdiv)) (asC (aR 1) asN)) oMod)))))
noncomputable def dn__law_start : Fn := mkFn 5 [true, false]
  (sSeq (sIf (tAnd (tV (eOp (asC (aR 1) (asC (aV (eLst asN)) asN)) oNeX)) (tV (eOp (asC (aV (eCall dn__law_take (asC (aR 0) (asC (aV (eC (.int 8))) asN)))) (asC (aV (eC (.int 0))) asN)) oGt)))
    (sSeq (sAsg (eOp (asC (aR 1) (asC (aV (eSel (asC (aV (eCall dn__law_take (asC (aR 0) (asC (aV (eOp (asC (aR 1) asN) oLen)) asN)))) (asC (aV (eOp (asC (aV (eOp (asC (aR 1) asN) oLen)) (asC (aV (eC (.int 1))) asN)) oSub)) asN)) (aV (eOp (asC (aV (eCall dn__law_take (asC (aR 0) (asC (aV (eC (.int 4))) asN)))) (asC (aV (eC (.int 3))) asN)) oFdiv)))) asN)) oIx) (gN 3))
    (sSeq (sAsg (eCall dn__law_places_v1 (asC (aV (eVar 3)) asN)) (gN 4))
    (sRet (eTup (asC (aV (eOp (asC (aR 4) (asC (aV (eCall dn__law_take (asC (aR 0) (asC (aV (eOp (asC (aR 4) asN) oLen)) asN)))) asN)) oIx)) (asC (aV (eOp (asC (aV (eC (.int 20))) (asC (aV (eCall dn__law_top_v1 (asC (aV (eVar 3)) asN))) asN)) oMin2)) asN))))))
    sPass)
    (sSeq (sAsg (eTup (asC (aV (eCall dn__law_take (asC (aR 0) (asC (aV (eOp (asC (aV (eLst (asC (aV (eC (.int 4))) (asC (aV (eC (.int 21))) asN)))) (asC (aV (eCall dn__law_take (asC (aR 0) (asC (aV (eC (.int 2))) asN)))) asN)) oIx)) asN)))) (asC (aV (eCall dn__law_take (asC (aR 0) (asC (aV (eOp (asC (aV (eLst (asC (aV (eC (.int 4))) (asC (aV (eC (.int 21))) asN)))) (asC (aV (eCall dn__law_take (asC (aR 0) (asC (aV (eC (.int 2))) asN)))) asN)) oIx)) asN)))) asN))) (gN 2))
    (sRet (eTup (asC (aV (eVar 2)) (asC (aV (eSel (asC (aV (eC (.int 0))) (asC (aV (eC (.int 0))) (asC (aV (eCall dn__law_take (asC (aR 0) (asC (aV (eC (.int 21))) asN)))) asN))) (aV (eCall dn__law_take (asC (aR 0) (asC (aV (eC (.int 3))) asN)))))) asN))))))
noncomputable def dn__law_fraction : Fn := mkFn 7 [true, false]
  (sSeq (sAsg (eCall dn__law_take (asC (aR 0) (asC (aV (eC (.int 6))) asN))) (gN 2))
    (sSeq (sAsg (eOp (asC (aR 1) (asC (aV (eCall dn__law_take (asC (aR 0) (asC (aV (eOp (asC (aV (eLst (asC (aV (eC (.int 3))) (asC (aV (eC (.int 30))) (asC (aV (eC (.int 1000))) (asC (aV (eOp (asC (aV (eOp (asC (aV (eC (.int 10))) (asC (aV (eC (.int 12))) asN)) oPow)) (asC (aV (eC (.int 1))) asN)) oSub)) (asC (aV (eC (.int 3))) (asC (aV (eC (.int 60))) asN)))))))) (asC (aR 2) asN)) oIx)) asN)))) asN)) oAdd) (gN 3))
    (sSeq (sAsg (eOp (asC (aV (eC (.int 1))) (asC (aV (eCall dn__law_take (asC (aR 0) (asC (aV (eOp (asC (aV (eLst (asC (aV (eC (.int 1))) (asC (aV (eC (.int 1))) (asC (aV (eC (.int 12))) (asC (aV (eOp (asC (aV (eOp (asC (aV (eC (.int 10))) (asC (aV (eC (.int 12))) asN)) oPow)) (asC (aV (eC (.int 1))) asN)) oSub)) (asC (aV (eC (.int 4))) (asC (aV (eC (.int 1))) asN)))))))) (asC (aR 2) asN)) oIx)) asN)))) asN)) oAdd) (gN 4))
    (sSeq (sPar 5 6 (asC (aV (eVar 3)) (asC (aV (eVar 4)) asN)))
    (sSeq (sWhile (tV (eOp (asC (aR 6) (asC (aV (eC (.int 0))) asN)) oGt))
    (sPar 5 6 (asC (aV (eVar 6)) (asC (aV (eOp (asC (aR 5) (asC (aR 6) asN)) oMod)) asN))))
    (sRet (eTup (asC (aV (eOp (asC (aR 3) (asC (aR 5) asN)) oFdiv)) (asC (aV (eOp (asC (aR 4) (asC (aR 5) asN)) oFdiv)) asN)))))))))
noncomputable def dn__law_part : Fn := mkFn 11 [true, false, false]
  (sSeq (sAsg (eCall dn__law_start (asC (aR 0) (asC (aV (eVar 1)) asN))) (gTup [(gN 8), (gN 9)]))
    (sSeq (sAsg (eLst (asC (aV (eVar 2)) (asC (aV (eCall dn__law_fraction (asC (aR 0) (asC (aV (eC (.int 1))) asN)))) (asC (aV (eCall dn__law_fraction (asC (aR 0) (asC (aV (eC (.int 0))) asN)))) asN)))) (gN 3))
    (sSeq (sIf (tAnd (tV (eOp (asC (aV (eCall dn__law_take (asC (aR 0) (asC (aV (eC (.int 5))) asN)))) (asC (aV (eC (.int 2))) asN)) oLt)) (tV (eOp (asC (aR 9) (asC (aV (eC (.int 20))) asN)) oLt)))
    (sSeq (sAsg (eOp (asC (aV (eOp (asC (aR 9) (asC (aV (eC (.int 1))) asN)) oAdd)) (asC (aV (eCall dn__law_take (asC (aR 0) (asC (aV (eOp (asC (aV (eOp (asC (aV (eC (.int 20))) (asC (aR 9) asN)) oSub)) (asC (aV (eOp (asC (aV (eLst (asC (aV (eC (.int 2))) (asC (aV (eC (.int 20))) asN)))) (asC (aV (eOp (asC (aV (eCall dn__law_take (asC (aR 0) (asC (aV (eC (.int 6))) asN)))) (asC (aV (eC (.int 5))) asN)) oFdiv)) asN)) oIx)) asN)) oMin2)) asN)))) asN)) oAdd) (gN 10))
    (sRet (eTup (asC (aV (eC (.str "pole"))) (asC (aV (eVar 2)) (asC (aV (eOp (asC (aR 8) (asC (aV (eC (.int 0))) asN)) oIx)) (asC (aV (eOp (asC (aR 8) (asC (aV (eC (.int 1))) asN)) oIx)) (asC (aV (eVar 9)) (asC (aV (eVar 10)) (asC (aV (eOp (asC (aR 3) (asC (aV (eC (.int 1))) asN)) oIx)) (asC (aV (eOp (asC (aR 3) (asC (aV (eC (.int 2))) asN)) oIx)) asN)))))))))))
    sPass)
    (sSeq (sAsg (eOp (asC (aV (eC (.int 1))) (asC (aV (eCall dn__law_take (asC (aR 0) (asC (aV (eOp (asC (aV (eLst (asC (aV (eC (.int 3))) (asC (aV (eC (.int 6))) (asC (aV (eC (.int 20))) asN))))) (asC (aV (eOp (asC (aV (eCall dn__law_take (asC (aR 0) (asC (aV (eC (.int 8))) asN)))) (asC (aV (eC (.int 3))) asN)) oFdiv)) asN)) oIx)) asN)))) asN)) oAdd) (gN 4))
    (sSeq (sAsg (eOp (asC (aV (eLst (asC (aV (eC (.str "x"))) (asC (aV (eC (.str "y"))) asN)))) (asC (aV (eCall dn__law_take (asC (aR 0) (asC (aV (eC (.int 2))) asN)))) asN)) oIx) (gN 5))
    (sSeq (sAsg (eOp (asC (aV (eOp (asC (aR 5) (asC (aV (eC (.str "y"))) asN)) oEqX)) asN) oInt) (gN 6))
    (sSeq (sAsg (eLst (asC (aV (eOp (asC (aR 8) (asC (aV (eC (.int 0))) asN)) oIx)) (asC (aV (eOp (asC (aR 8) (asC (aV (eC (.int 1))) asN)) oIx)) asN))) (gN 7))
    (sSeq (sAsg (eOp (asC (aV (eOp (asC (aV (eC (.int 20))) (asC (aR 4) asN)) oSub)) (asC (aV (eOp (asC (aV (eC (.int 0))) (asC (aV (eOp (asC (aV (eOp (asC (aR 7) (asC (aR 6) asN)) oIx)) (asC (aV (eCall dn__law_take (asC (aR 0) (asC (aV (eOp (asC (aR 4) (asC (aV (eC (.int 1))) asN)) oAdd)) asN)))) asN)) oSub)) asN)) oMax2)) asN)) oMin2) (gSet 7 (aR 6)))
    (sRet (eTup (asC (aV (eC (.str "board"))) (asC (aV (eVar 2)) (asC (aV (eOp (asC (aR 7) (asC (aV (eC (.int 0))) asN)) oIx)) (asC (aV (eOp (asC (aR 7) (asC (aV (eC (.int 1))) asN)) oIx)) (asC (aV (eVar 5)) (asC (aV (eVar 4)) (asC (aV (eVar 9)) (asC (aV (eOp (asC (aR 3) (asC (aV (eC (.int 1))) asN)) oIx)) (asC (aV (eOp (asC (aR 3) (asC (aV (eC (.int 2))) asN)) oIx)) asN)))))))))))))))))))
noncomputable def dn_name_of : Fn := mkFn 1 [false]
  (sRet (eOp (asC (aR 0) (asC (aV (eC (.int 1))) asN)) oIx))
noncomputable def dn_is_floor : Fn := mkFn 1 [false]
  (sRet (eAnd (eCall dn_is_fraction (asC (aV (eVar 0)) asN)) (eNot (eCall dn_is_less (asC (aV (eVar 0)) (asC (aV (eC (.tup [(.int 0), (.int 1)]))) asN))))))
noncomputable def dn_want_parts : Fn := mkFn 4 [false]
  (sSeq (sAsg eNewK (gN 1))
    (sForI (wEnumX (aV (eVar 0))) (gTup [(gN 2), (gN 3)])
    (sSeq (sIf (tOr (tNot (tV (eCall dn_is_part (asC (aV (eVar 3)) asN)))) (tV (eOp (asC (aV (eCall dn_name_of (asC (aV (eVar 3)) asN))) (asC (aR 1) asN)) oIn)))
    (sRaiseX "NoPart" ["number"] .n (asC (aV (eVar 2)) asN))
    sPass)
    (sAsg (eC (.bl true)) (gSetX 1 (aV (eCall dn_name_of (asC (aV (eVar 3)) asN))))))))
noncomputable def dn_do_clash : Fn := mkFn 4 [false, false]
  (sSeq (sIf (tOr (tV (eOp (asC (aV (eCall dn_bottom_of (asC (aV (eVar 0)) asN))) (asC (aV (eCall dn_top_of (asC (aV (eVar 1)) asN))) asN)) oGe)) (tV (eOp (asC (aV (eCall dn_bottom_of (asC (aV (eVar 1)) asN))) (asC (aV (eCall dn_top_of (asC (aV (eVar 0)) asN))) asN)) oGe)))
    (sRet (eC (.bl false)))
    sPass)
    (sSeq (sAsg (eCall dn_places_of (asC (aV (eVar 1)) asN)) (gN 2))
    (sRet (eOp (asC (aV (eLc (wSeq (eCall dn_places_of (asC (aV (eVar 0)) asN))) (gN 3) tYesE (eOp (asC (aR 3) (asC (aR 2) asN)) oIn) [3])) asN) oAny))))
noncomputable def dn_want_room : Fn := mkFn 4 [false]
  (sForI (wEnumX (aV (eVar 0))) (gTup [(gN 1), (gN 2)])
    (sForI (wSeq (eSl (aR 0) (oaS (aV (eOp (asC (aR 1) (asC (aV (eC (.int 1))) asN)) oAdd))) oaN oSlice)) (gN 3)
    (sIf (tV (eCall dn_do_clash (asC (aV (eVar 2)) (asC (aV (eVar 3)) asN))))
    (sRaiseX "Clash" ["one", "other"] .t (asC (aV (eCall dn_name_of (asC (aV (eVar 2)) asN))) (asC (aV (eCall dn_name_of (asC (aV (eVar 3)) asN))) asN)))
    sPass)))
noncomputable def dn_Plan___init__ : Fn := mkFn 4 [true, false, false]
  (sSeq (sIf (tNot (tV (eCall dn_is_floor (asC (aV (eVar 2)) asN))))
    (sRaiseX "NoPart" ["number"] .n (asC (aV (eOp (asC (aV (eC (.int 1))) asN) oNeg)) asN))
    sPass)
    (sSeq (sDrop (eCall dn_want_parts (asC (aV (eVar 1)) asN)))
    (sSeq (sDrop (eCall dn_want_room (asC (aV (eVar 1)) asN)))
    (sSeq (sFldW "Plan" "own_parts" 0 (eOp (asC (aR 1) asN) oList))
    (sSeq (sFldW "Plan" "own_floor" 0 (eVar 2))
    (sSeq (sFldW "Plan" "by_name" 0 eNewK)
    (sForI (wSeq (eVar 1)) (gN 3)
    (sFldD "Plan" "by_name" 0 (eCall dn_name_of (asC (aV (eVar 3)) asN)) (eVar 3)))))))))
noncomputable def dn_Plan_parts : Fn := mkFn 1 [false]
  (sRet (eOp (asC (aV (eFld "Plan" "own_parts" (aR 0))) asN) oList))
noncomputable def dn_Plan_floor : Fn := mkFn 1 [false]
  (sRet (eFld "Plan" "own_floor" (aR 0)))
noncomputable def dn_Plan_names : Fn := mkFn 2 [false]
  (sRet (eLc (wSeq (eFld "Plan" "own_parts" (aR 0))) (gN 1) tYesE (eCall dn_name_of (asC (aV (eVar 1)) asN)) [1]))
noncomputable def dn_Plan_part : Fn := mkFn 2 [false, false]
  (sSeq (sIf (tOr (tNot (tV (eOp (asC (aR 1) asN) (oIsi .str)))) (tV (eOp (asC (aR 1) (asC (aV (eFld "Plan" "by_name" (aR 0))) asN)) oNotIn)))
    (sRaise "NoName")
    sPass)
    (sRet (eOp (asC (aV (eFld "Plan" "by_name" (aR 0))) (asC (aR 1) asN)) oIxX)))
noncomputable def dn__law_name_v1 : Fn := mkFn 5 [true, true]
  (sSeq (sAsg (eC (.str "")) (gN 2))
    (sSeq (sForI (wR1 (aV (eOp (asC (aV (eC (.int 1))) (asC (aV (eCall dn__law_take (asC (aR 0) (asC (aV (eC (.int 8))) asN)))) asN)) oAdd))) (gN 3)
    (sAsg (eOp (asC (aR 2) (asC (aV (eOp (asC (aV (eC (.str "abcdefghijklmnopqrstuvwxyz"))) (asC (aV (eCall dn__law_take (asC (aR 0) (asC (aV (eC (.int 26))) asN)))) asN)) oIx)) asN)) oAdd) (gN 2)))
    (sSeq (sIf (tV (eOp (asC (aV (eCall dn__law_take (asC (aR 0) (asC (aV (eC (.int 7))) asN)))) (asC (aV (eC (.int 4))) asN)) oEqX))
    (sAsg (eOp (asC (aV (eLst (asC (aV (eC (.str "floor"))) (asC (aV (eC (.str "pole"))) (asC (aV (eC (.str "board"))) (asC (aV (eC (.str "x"))) (asC (aV (eC (.str "y"))) (asC (aV (eC (.str "sum"))) (asC (aV (eC (.str "turn"))) asN))))))))) (asC (aV (eCall dn__law_take (asC (aR 0) (asC (aV (eC (.int 7))) asN)))) asN)) oIx) (gN 2))
    sPass)
    (sSeq (sIf (tV (eOp (asC (aR 2) (asC (aR 1) asN)) oIn))
    (sAsg (eOp (asC (aV (eLc (wSeq (eC (.str "abcdefghijklmnopqrstuvwxyz"))) (gN 4) (tV (eOp (asC (aV (eOp (asC (aV (eSl (aR 2) oaN (oaS (aV (eC (.int 7)))) oSlice)) (asC (aR 4) asN)) oAdd)) (asC (aR 1) asN)) oNotIn)) (eOp (asC (aV (eSl (aR 2) oaN (oaS (aV (eC (.int 7)))) oSlice)) (asC (aR 4) asN)) oAdd) [4])) (asC (aV (eC (.int 0))) asN)) oIx) (gN 2))
    sPass)
    (sSeq (sAppend 1 (eVar 2))
    (sRet (eMov 2)))))))
noncomputable def dn__law_name : Fn := mkFn 3 [true, false]
  (sSeq (sAsg (eLst (asC (aV (eC (.str "floor"))) (asC (aV (eC (.str "pole"))) (asC (aV (eC (.str "board"))) (asC (aV (eC (.str "new"))) (asC (aV (eC (.str "take"))) (asC (aV (eC (.str "load"))) (asC (aV (eC (.str "show"))) (asC (aV (eC (.str "joints"))) (asC (aV (eC (.str "stands"))) (asC (aV (eC (.str "most"))) (asC (aV (eC (.str "order"))) (asC (aV (eC (.str "fewest"))) asN))))))))))))) (gN 2))
    (sRet (eOp (asC (aV (eLst (asC (aV (eOp (asC (aR 2) (asC (aR 1) asN)) oIx)) (asC (aV (eOp (asC (aV (eOp (asC (aV (eC (.str "abcdefghijkl"))) (asC (aR 1) asN)) oIx)) (asC (aV (eOp (asC (aV (eC (.int 1))) (asC (aV (eCall dn__law_draw (asC (aR 0) (asC (aV (eC (.int 8))) asN)))) asN)) oAdd)) asN)) oMulX)) asN)))) (asC (aV (eOp (asC (aV (eOp (asC (aV (eCall dn__law_draw (asC (aR 0) (asC (aV (eC (.int 5))) asN)))) (asC (aV (eC (.int 0))) asN)) oGt)) asN) oInt)) asN)) oIx)))
noncomputable def dn__law_ends : Fn := mkFn 3 [true]
  (sSeq (sAsg (eCall dn__law_low (asC (aV (eOp (asC (aV (eC (.int 1))) (asC (aV (eCall dn__law_draw (asC (aR 0) (asC (aV (eC (.int 12))) asN)))) asN)) oAdd)) (asC (aV (eOp (asC (aV (eC (.int 1))) (asC (aV (eCall dn__law_draw (asC (aR 0) (asC (aV (eC (.int 3))) asN)))) asN)) oAdd)) asN))) (gN 1))
    (sSeq (sAsg (eCall dn__law_low (asC (aV (eOp (asC (aV (eLst (asC (aV (eC (.int 0))) (asC (aV (eC (.int 1))) (asC (aV (eC (.int 3))) (asC (aV (eC (.int 8))) (asC (aV (eC (.int 8))) (asC (aV (eC (.int 30))) (asC (aV (eC (.int 30))) (asC (aV (eC (.int 100))) asN)))))))))) (asC (aV (eCall dn__law_draw (asC (aR 0) (asC (aV (eC (.int 8))) asN)))) asN)) oIx)) (asC (aV (eOp (asC (aV (eC (.int 1))) (asC (aV (eCall dn__law_draw (asC (aR 0) (asC (aV (eC (.int 2))) asN)))) asN)) oAdd)) asN))) (gN 2))
    (sRet (eTup (asC (aV (eVar 1)) (asC (aV (eVar 2)) asN))))))
noncomputable def dn__law_pole : Fn := mkFn 5 [true, false, false, false, false]
  (sRet (eOp (asC (aV (eTup (asC (aV (eC (.str "pole"))) (asC (aV (eVar 1)) (asC (aV (eVar 2)) (asC (aV (eVar 3)) (asC (aV (eVar 4)) (asC (aV (eOp (asC (aV (eC (.int 20))) (asC (aV (eOp (asC (aV (eOp (asC (aR 4) (asC (aV (eC (.int 1))) asN)) oAdd)) (asC (aV (eCall dn__law_draw (asC (aR 0) (asC (aV (eC (.int 3))) asN)))) asN)) oAdd)) asN)) oMin2)) asN)))))))) (asC (aV (eCall dn__law_ends (asC (aR 0) asN))) asN)) oAdd))
noncomputable def dn__law_board : Fn := mkFn 8 [true, false, false, false, false]
  (sSeq (sAsg (eOp (asC (aV (eC (.str "xy"))) (asC (aV (eCall dn__law_draw (asC (aR 0) (asC (aV (eC (.int 2))) asN)))) asN)) oIx) (gN 5))
    (sSeq (sAsg (eOp (asC (aV (eC (.int 1))) (asC (aV (eCall dn__law_draw (asC (aR 0) (asC (aV (eC (.int 4))) asN)))) asN)) oAdd) (gN 6))
    (sSeq (sAsg (eCall dn__law_draw (asC (aR 0) (asC (aV (eOp (asC (aR 6) (asC (aV (eC (.int 1))) asN)) oAdd)) asN))) (gN 7))
    (sSeq (sIf (tV (eOp (asC (aR 5) (asC (aV (eC (.str "x"))) asN)) oEqX))
    (sAsg (eOp (asC (aV (eC (.int 0))) (asC (aV (eOp (asC (aV (eOp (asC (aV (eC (.int 20))) (asC (aR 6) asN)) oSub)) (asC (aV (eOp (asC (aR 2) (asC (aR 7) asN)) oSub)) asN)) oMin2)) asN)) oMax2) (gN 2))
    (sAsg (eOp (asC (aV (eC (.int 0))) (asC (aV (eOp (asC (aV (eOp (asC (aV (eC (.int 20))) (asC (aR 6) asN)) oSub)) (asC (aV (eOp (asC (aR 3) (asC (aR 7) asN)) oSub)) asN)) oMin2)) asN)) oMax2) (gN 3)))
    (sRet (eOp (asC (aV (eTup (asC (aV (eC (.str "board"))) (asC (aV (eVar 1)) (asC (aV (eVar 2)) (asC (aV (eVar 3)) (asC (aV (eVar 5)) (asC (aV (eVar 6)) (asC (aV (eVar 4)) asN))))))))) (asC (aV (eCall dn__law_ends (asC (aR 0) asN))) asN)) oAdd))))))
noncomputable def dn__law_more : Fn := mkFn 9 [true, false, false]
  (sSeq (sPar3 4 5 6 (asC (aV (eCall dn__law_draw (asC (aR 0) (asC (aV (eC (.int 6))) asN)))) (asC (aV (eCall dn__law_draw (asC (aR 0) (asC (aV (eC (.int 3))) asN)))) (asC (aV (eOp (asC (aV (eLst (asC (aV (eC (.int 0))) (asC (aV (eC (.int 0))) (asC (aV (eC (.int 0))) (asC (aV (eC (.int 0))) (asC (aV (eC (.int 0))) (asC (aV (eC (.int 2))) asN)))))))) (asC (aV (eCall dn__law_draw (asC (aR 0) (asC (aV (eC (.int 6))) asN)))) asN)) oIx)) asN))))
    (sSeq (sIf (tAnd (tV (eOp (asC (aR 1) (asC (aV (eLst asN)) asN)) oNeX)) (tV (eOp (asC (aV (eCall dn__law_draw (asC (aR 0) (asC (aV (eC (.int 3))) asN)))) (asC (aV (eC (.int 0))) asN)) oGt)))
    (sSeq (sAsg (eOp (asC (aR 1) (asC (aV (eCall dn__law_draw (asC (aR 0) (asC (aV (eOp (asC (aR 1) asN) oLen)) asN)))) asN)) oIx) (gN 7))
    (sSeq (sAsg (eCall dn__law_places (asC (aV (eVar 7)) asN)) (gN 8))
    (sSeq (sAsg (eOp (asC (aR 8) (asC (aV (eCall dn__law_draw (asC (aR 0) (asC (aV (eOp (asC (aR 8) asN) oLen)) asN)))) asN)) oIx) (gTup [(gN 4), (gN 5)]))
    (sAsg (eCall dn__law_top (asC (aV (eVar 7)) asN)) (gN 6)))))
    sPass)
    (sSeq (sAsg (eCall dn__law_name (asC (aR 0) (asC (aV (eVar 2)) asN))) (gN 3))
    (sSeq (sIf (tAnd (tV (eOp (asC (aR 6) (asC (aV (eC (.int 20))) asN)) oLt)) (tV (eOp (asC (aV (eCall dn__law_draw (asC (aR 0) (asC (aV (eC (.int 2))) asN)))) (asC (aV (eC (.int 0))) asN)) oEqX)))
    (sRet (eCall dn__law_pole (asC (aR 0) (asC (aV (eVar 3)) (asC (aV (eVar 4)) (asC (aV (eVar 5)) (asC (aV (eVar 6)) asN)))))))
    sPass)
    (sRet (eCall dn__law_board (asC (aR 0) (asC (aV (eVar 3)) (asC (aV (eVar 4)) (asC (aV (eVar 5)) (asC (aV (eOp (asC (aV (eC (.int 20))) (asC (aR 6) asN)) oMin2)) asN)))))))))))
noncomputable def dn__law_pile : Fn := mkFn 6 [true, false]
  (sSeq (sAsg (eLst asN) (gN 2))
    (sSeq (sForI (wR1 (aV (eCall dn__law_draw (asC (aR 0) (asC (aV (eOp (asC (aR 1) (asC (aV (eC (.int 1))) asN)) oAdd)) asN))))) (gN 3)
    (sSeq (sAsg (heldE 2 (eCall dn__law_more (asC (aR 0) (asC (aR 2) (asC (aV (eVar 3)) asN))))) (gN 4))
    (sIf (tV (eOp (asC (aV (heldE 2 (eLc (wSeq (eVar 2)) (gN 5) (tV (eCall dn__law_clash (asC (aV (eVar 4)) (asC (aV (eVar 5)) asN)))) (eVar 5) [5]))) (asC (aV (eLst asN)) asN)) oEqX))
    (sAppend 2 (eVar 4))
    sPass)))
    (sRet (eMov 2))))
noncomputable def dn__law_floor : Fn := mkFn 1 [true]
  (sRet (eCall dn__law_low (asC (aV (eOp (asC (aV (eLst (asC (aV (eC (.int 1000))) (asC (aV (eC (.int 1000))) (asC (aV (eC (.int 1000))) (asC (aV (eC (.int 40))) (asC (aV (eC (.int 9))) (asC (aV (eC (.int 0))) asN)))))))) (asC (aV (eCall dn__law_draw (asC (aR 0) (asC (aV (eC (.int 6))) asN)))) asN)) oIx)) (asC (aV (eOp (asC (aV (eC (.int 1))) (asC (aV (eCall dn__law_draw (asC (aR 0) (asC (aV (eC (.int 2))) asN)))) asN)) oAdd)) asN))))
noncomputable def dn_joints_between : Fn := mkFn 4 [false, false]
  (sSeq (sIf (tV (eOp (asC (aV (eCall dn_top_of (asC (aV (eVar 0)) asN))) (asC (aV (eCall dn_bottom_of (asC (aV (eVar 1)) asN))) asN)) oNeX))
    (sRet (eLst asN))
    sPass)
    (sSeq (sAsg (eCall dn_places_of (asC (aV (eVar 0)) asN)) (gN 2))
    (sRet (eLc (wSeq (eCall dn_places_of (asC (aV (eVar 1)) asN))) (gN 3) (tV (eOp (asC (aR 3) (asC (aR 2) asN)) oIn)) (eTup (asC (aV (eCall dn_name_of (asC (aV (eVar 0)) asN))) (asC (aV (eCall dn_name_of (asC (aV (eVar 1)) asN))) (asC (aV (eVar 3)) asN)))) [3]))))
noncomputable def dn_joints_with_floor : Fn := mkFn 2 [false]
  (sSeq (sIf (tV (eOp (asC (aV (eCall dn_bottom_of (asC (aV (eVar 0)) asN))) (asC (aV (eC (.int 0))) asN)) oNeX))
    (sRet (eLst asN))
    sPass)
    (sRet (eLc (wSeq (eCall dn_places_of (asC (aV (eVar 0)) asN))) (gN 1) tYesE (eTup (asC (aV (eC (.str ""))) (asC (aV (eCall dn_name_of (asC (aV (eVar 0)) asN))) (asC (aV (eVar 1)) asN)))) [1])))
noncomputable def dn_joints : Fn := mkFn 4 [false]
  (sSeq (sAsg (eLst asN) (gN 1))
    (sSeq (sForI (wSeq (eCall dn_Plan_parts (asO "Plan" "parts" (aR 0) asN))) (gN 2)
    (sSeq (sExtend 1 (eCall dn_joints_with_floor (asC (aV (eVar 2)) asN)))
    (sForI (wSeq (eCall dn_Plan_parts (asO "Plan" "parts" (aR 0) asN))) (gN 3)
    (sExtend 1 (eCall dn_joints_between (asC (aV (eVar 3)) (asC (aV (eVar 2)) asN)))))))
    (sRet (eOp (asC (aR 1) asN) oSorted))))
noncomputable def dn__law_at : Fn := mkFn 2 [false, false]
  (sRet (eIf (tV (eOp (asC (aR 1) (asC (aV (eOp (asC (aR 0) asN) oLen)) asN)) oLt)) (eOp (asC (aR 0) (asC (aR 1) asN)) oIx) (eC (.int 0))))
noncomputable def dn__law_purse : Fn := mkFn 1 [false]
  (sRet (eLst (asC (aV (eOp (asC (aV (eC (.int 0))) (asC (aV (eOp (asC (aV (eOp (asC (aR 0) asN) oAbs)) (asC (aV (eOp (asC (aV (eC (.int 10))) (asC (aV (eC (.int 18))) asN)) oPow)) asN)) oSub)) asN)) oMax2)) (asC (aV (eOp (asC (aV (eOp (asC (aV (eOp (asC (aR 0) asN) oAbs)) (asC (aV (eC (.int 2147483563))) asN)) oMod)) (asC (aV (eC (.int 1))) asN)) oAdd)) asN))))
noncomputable def dn__law_joints_v1 : Fn := mkFn 7 [false]
  (sSeq (sAsg (eLst asN) (gN 1))
    (sSeq (sForI (wSeq (eVar 0)) (gN 2)
    (sSeq (sAsg (eCall dn__law_places_v1 (asC (aV (eVar 2)) asN)) (gN 3))
    (sSeq (sIf (tV (eOp (asC (aV (eCall dn__law_bottom_v1 (asC (aV (eVar 2)) asN))) (asC (aV (eC (.int 0))) asN)) oEqX))
    (sAsg (eOp (asC (aR 1) (asC (aV (eLc (wSeq (eVar 3)) (gN 6) tYesE (eTup (asC (aV (eC (.str ""))) (asC (aV (eOp (asC (aR 2) (asC (aV (eC (.int 1))) asN)) oIx)) (asC (aV (eVar 6)) asN)))) [6])) asN)) oAdd) (gN 1))
    sPass)
    (sForI (wSeq (eVar 0)) (gN 4)
    (sIf (tV (eOp (asC (aV (eCall dn__law_top_v1 (asC (aV (eVar 4)) asN))) (asC (aV (eCall dn__law_bottom_v1 (asC (aV (eVar 2)) asN))) asN)) oEqX))
    (sSeq (sAsg (eCall dn__law_places_v1 (asC (aV (eVar 4)) asN)) (gN 5))
    (sAsg (eOp (asC (aR 1) (asC (aV (eLc (wSeq (eVar 3)) (gN 6) (tV (eOp (asC (aR 6) (asC (aR 5) asN)) oIn)) (eTup (asC (aV (eOp (asC (aR 4) (asC (aV (eC (.int 1))) asN)) oIx)) (asC (aV (eOp (asC (aR 2) (asC (aV (eC (.int 1))) asN)) oIx)) (asC (aV (eVar 6)) asN)))) [6])) asN)) oAdd) (gN 1)))
    sPass)))))
    (sRet (eOp (asC (aR 1) asN) oSorted))))
noncomputable def dn__law_has_room : Fn := mkFn 5 [false, false]
  (sSeq (sAsg (eCall dn__law_places_v1 (asC (aV (eVar 1)) asN)) (gN 2))
    (sSeq (sForI (wSeq (eVar 0)) (gN 3)
    (sIf (tAnd (tV (eOp (asC (aV (eCall dn__law_bottom_v1 (asC (aV (eVar 3)) asN))) (asC (aV (eCall dn__law_top_v1 (asC (aV (eVar 1)) asN))) asN)) oLt)) (tV (eOp (asC (aV (eCall dn__law_bottom_v1 (asC (aV (eVar 1)) asN))) (asC (aV (eCall dn__law_top_v1 (asC (aV (eVar 3)) asN))) asN)) oLt)))
    (sIf (tV (eOp (asC (aV (eLc (wSeq (eCall dn__law_places_v1 (asC (aV (eVar 3)) asN))) (gN 4) tYesE (eOp (asC (aR 4) (asC (aR 2) asN)) oIn) [4])) asN) oAny))
    (sRet (eC (.bl false)))
    sPass)
    sPass))
    (sRet (eOp (asC (aV (eOp (asC (aV (eCall dn__law_joints_v1 (asC (aV (eOp (asC (aR 0) (asC (aV (eLst (asC (aV (eVar 1)) asN))) asN)) oAdd)) asN))) asN) oLen)) (asC (aV (eC (.int 100))) asN)) oLe))))
noncomputable def dn__law_parts : Fn := mkFn 6 [true, false]
  (sSeq (sAsg (eLst asN) (gN 2))
    (sSeq (sAsg (eLst asN) (gN 3))
    (sSeq (sForI (wR1 (aV (eCall dn__law_take (asC (aR 0) (asC (aV (eOp (asC (aR 1) (asC (aV (eC (.int 1))) asN)) oAdd)) asN))))) (gN 4)
    (sSeq (sAsg (heldE 2 (eCall dn__law_part (asC (aR 0) (asC (aR 2) (asC (aV (eCall dn__law_name_v1 (asC (aR 0) (asC (aR 3) asN)))) asN))))) (gN 5))
    (sIf (tV (heldE 2 (eCall dn__law_has_room (asC (aR 2) (asC (aV (eVar 5)) asN)))))
    (sAppend 2 (eVar 5))
    sPass)))
    (sRet (eMov 2)))))
noncomputable def dn_loose : Fn := mkFn 4 [false]
  (sSeq (sAsg (eLc (wSeq (eCall dn_joints (asC (aV (eVar 0)) asN))) (gN 2) tYesE (eOp (asC (aR 2) (asC (aV (eC (.int 1))) asN)) oIx) [2]) (gN 1))
    (sRet (eOp (asC (aV (eLc (wSeq (eCall dn_Plan_names (asO "Plan" "names" (aR 0) asN))) (gN 3) (tV (eOp (asC (aR 3) (asC (aR 1) asN)) oNotIn)) (eVar 3) [3])) asN) oSorted)))
noncomputable def dn_rests_on : Fn := mkFn 7 [false, false]
  (sSeq (sDrop (eCall dn_Plan_part (asO "Plan" "part" (aR 0) (asC (aV (eVar 1)) asN))))
    (sSeq (sAsg (eCall dn_joints (asC (aV (eVar 0)) asN)) (gN 2))
    (sSeq (sAsg (eLst asN) (gN 3))
    (sSeq (sAsg (eLst (asC (aV (eVar 1)) asN)) (gN 4))
    (sSeq (sWhile (tV (eOp (asC (aR 4) (asC (aV (eLst asN)) asN)) oNeX))
    (sSeq (sAsg (ePop 4) (gN 5))
    (sForI (wSeq (eVar 2)) (gN 6)
    (sIf (tAnd (tV (eOp (asC (aV (eOp (asC (aR 6) (asC (aV (eC (.int 1))) asN)) oIx)) (asC (aR 5) asN)) oEqX)) (tAnd (tV (eOp (asC (aV (eOp (asC (aR 6) (asC (aV (eC (.int 0))) asN)) oIx)) (asC (aV (eC (.str ""))) asN)) oNeX)) (tV (eOp (asC (aV (eOp (asC (aR 6) (asC (aV (eC (.int 0))) asN)) oIx)) (asC (aR 3) asN)) oNotIn))))
    (sSeq (sAppend 3 (eOp (asC (aR 6) (asC (aV (eC (.int 0))) asN)) oIx))
    (sAppend 4 (eOp (asC (aR 6) (asC (aV (eC (.int 0))) asN)) oIx)))
    sPass))))
    (sRet (eOp (asC (aR 3) asN) oSorted)))))))
noncomputable def dn__law_rests : Fn := mkFn 7 [false, false]
  (sSeq (sAsg (eLst (asC (aV (eVar 1)) asN)) (gN 2))
    (sSeq (sForI (wR1 (aV (eOp (asC (aV (eOp (asC (aR 0) asN) oLen)) (asC (aV (eC (.int 1))) asN)) oAdd))) (gN 3)
    (sForI (wSeq (eVar 0)) (gTup [(gN 4), (gN 5), (gN 6)])
    (sIf (tAnd (tV (eOp (asC (aR 5) (asC (aR 2) asN)) oIn)) (tAnd (tV (eOp (asC (aR 4) (asC (aV (eC (.str ""))) asN)) oNeX)) (tV (eOp (asC (aR 4) (asC (aR 2) asN)) oNotIn))))
    (sAppend 2 (eVar 4))
    sPass)))
    (sRet (eOp (asC (aV (eSl (aR 2) (oaS (aV (eC (.int 1)))) oaN oSlice)) asN) oSorted))))
noncomputable def dn_cut : Fn := mkFn 5 [false, false]
  (sSeq (sForI (wEnumX (aV (eVar 1))) (gTup [(gN 2), (gN 3)])
    (sSeq (sDrop (eCall dn_Plan_part (asO "Plan" "part" (aR 0) (asC (aV (eVar 3)) asN))))
    (sIf (tV (eOp (asC (aR 3) (asC (aV (eSl (aR 1) oaN (oaS (aR 2)) oSlice)) asN)) oIn))
    (sRaise "NoName")
    sPass)))
    (sRet (eShr (eMake "Plan" dn_Plan___init__ (asC (aV (eLc (wSeq (eCall dn_Plan_parts (asO "Plan" "parts" (aR 0) asN))) (gN 4) (tV (eOp (asC (aV (eCall dn_name_of (asC (aV (eVar 4)) asN))) (asC (aR 1) asN)) oIn)) (eVar 4) [4])) (asC (aV (eCall dn_Plan_floor (asO "Plan" "floor" (aR 0) asN))) asN))))))
noncomputable def dn_reaches : Fn := mkFn 6 [false, false]
  (sSeq (sAsg (eVar 1) (gTup [(gN 2), (gN 3), (gN 4)]))
    (sRet (eOp (asC (aV (eLc (wSeq (eCall dn_Plan_parts (asO "Plan" "parts" (aR 0) asN))) (gN 5) (tAnd (tV (eCall dn_is_board (asC (aV (eVar 5)) asN))) (tV (eOp (asC (aV (eCall dn_top_of (asC (aV (eVar 5)) asN))) (asC (aR 4) asN)) oEqX))) (eOp (asC (aV (eTup (asC (aV (eVar 2)) (asC (aV (eVar 3)) asN)))) (asC (aV (eCall dn_places_of (asC (aV (eVar 5)) asN))) asN)) oIn) [5])) asN) oAny)))
noncomputable def dn__law_reached : Fn := mkFn 4 [false, false]
  (sSeq (sAsg (eLc (wSeq (eVar 0)) (gN 3) (tAnd (tV (eOp (asC (aV (eOp (asC (aR 3) (asC (aV (eC (.int 0))) asN)) oIx)) (asC (aV (eC (.str "board"))) asN)) oEqX)) (tV (eOp (asC (aV (eCall dn__law_top (asC (aV (eVar 3)) asN))) (asC (aV (eOp (asC (aR 1) (asC (aV (eC (.int 2))) asN)) oIx)) asN)) oEqX))) (eVar 3) [3]) (gN 2))
    (sRet (eOp (asC (aV (eLc (wSeq (eVar 2)) (gN 3) (tV (eOp (asC (aV (eSl (aR 1) oaN (oaS (aV (eC (.int 2)))) oSlice)) (asC (aV (eCall dn__law_places (asC (aV (eVar 3)) asN))) asN)) oIn)) (eVar 3) [3])) (asC (aV (eLst asN)) asN)) oNeX)))
noncomputable def dn__law_point : Fn := mkFn 11 [true, false]
  (sSeq (sAsg (eCall dn__law_draw (asC (aR 0) (asC (aV (eC (.int 6))) asN))) (gN 2))
    (sSeq (sAsg (eLc (wSeq (eVar 1)) (gN 10) (tV (eOp (asC (aV (eOp (asC (aR 10) (asC (aV (eC (.int 0))) asN)) oIx)) (asC (aV (eOp (asC (aV (eLst (asC (aV (eC (.str "board"))) (asC (aV (eC (.str "pole"))) asN)))) (asC (aV (eOp (asC (aV (eOp (asC (aR 2) (asC (aV (eC (.int 1))) asN)) oEqX)) asN) oInt)) asN)) oIx)) asN)) oEqX)) (eVar 10) [10]) (gN 3))
    (sSeq (sIf (tOr (tV (eOp (asC (aR 3) (asC (aV (eLst asN)) asN)) oEqX)) (tV (eOp (asC (aR 2) (asC (aV (eC (.int 0))) asN)) oEqX)))
    (sRet (eTup (asC (aV (eCall dn__law_draw (asC (aR 0) (asC (aV (eC (.int 6))) asN)))) (asC (aV (eCall dn__law_draw (asC (aR 0) (asC (aV (eC (.int 3))) asN)))) (asC (aV (eCall dn__law_draw (asC (aR 0) (asC (aV (eC (.int 4))) asN)))) asN)))))
    sPass)
    (sSeq (sAsg (eOp (asC (aR 3) (asC (aV (eCall dn__law_draw (asC (aR 0) (asC (aV (eOp (asC (aR 3) asN) oLen)) asN)))) asN)) oIx) (gN 4))
    (sSeq (sAsg (eCall dn__law_places (asC (aV (eVar 4)) asN)) (gN 5))
    (sSeq (sAsg (eOp (asC (aR 5) (asC (aV (eCall dn__law_draw (asC (aR 0) (asC (aV (eOp (asC (aR 5) asN) oLen)) asN)))) asN)) oIx) (gTup [(gN 8), (gN 9)]))
    (sSeq (sAsg (eOp (asC (aV (eLst (asC (aV (eC (.int 0))) (asC (aV (eC (.int 0))) (asC (aV (eC (.int 0))) (asC (aV (eC (.int 0))) (asC (aV (eC (.int 1))) (asC (aV (eOp (asC (aV (eC (.int 1))) asN) oNeg)) asN)))))))) (asC (aV (eCall dn__law_draw (asC (aR 0) (asC (aV (eC (.int 6))) asN)))) asN)) oIx) (gN 6))
    (sSeq (sAsg (eCall dn__law_top (asC (aV (eVar 4)) asN)) (gN 7))
    (sRet (eOp (asC (aV (eLst (asC (aV (eTup (asC (aV (eVar 8)) (asC (aV (eVar 9)) (asC (aV (eVar 7)) asN))))) (asC (aV (eTup (asC (aV (eOp (asC (aR 8) (asC (aR 6) asN)) oAdd)) (asC (aV (eVar 9)) (asC (aV (eVar 7)) asN))))) (asC (aV (eTup (asC (aV (eVar 8)) (asC (aV (eVar 9)) (asC (aV (eOp (asC (aR 7) (asC (aR 6) asN)) oAdd)) asN))))) asN))))) (asC (aV (eCall dn__law_draw (asC (aR 0) (asC (aV (eC (.int 3))) asN)))) asN)) oIx))))))))))
end Sc

set_option linter.all false
namespace L_k23
open PySem Py

noncomputable def dn__law_is_list : Fn := mkFn 2 [false, false]
  (sRet (eAnd (eOp (asC (aR 0) asN) (oIsi .list)) (eOp (asC (aR 0) (asC (aR 1) asN)) oEqX)))
noncomputable def dn_law : Fn := mkFn 14 [false]
  (sSeq (sAsg (eCall Sc.dn__law_parts (asC (aV (eCall Sc.dn__law_purse (asC (aV (eCall Sc.dn__law_at (asC (aV (eVar 0)) (asC (aV (eC (.int 0))) asN)))) asN))) (asC (aV (eC (.int 16))) asN))) (gN 1))
    (sSeq (sAsg (eCall Sc.dn__law_purse (asC (aV (eCall Sc.dn__law_at (asC (aV (eVar 0)) (asC (aV (eC (.int 1))) asN)))) asN)) (gN 2))
    (sSeq (sAsg (eShr (eMake "Plan" Sc.dn_Plan___init__ (asC (aV (eVar 1)) (asC (aV (eCall Sc.dn__law_fraction (asC (aR 2) (asC (aV (eC (.int 0))) asN)))) asN)))) (gN 3))
    (sSeq (sAsg (eCall Sc.dn__law_joints_v1 (asC (aV (eVar 1)) asN)) (gN 4))
    (sSeq (sAsg (eLc (wSeq (eVar 1)) (gN 12) tYesE (eOp (asC (aR 12) (asC (aV (eC (.int 1))) asN)) oIx) [12]) (gN 5))
    (sSeq (sAsg (eLc (wSeq (eVar 4)) (gN 13) tYesE (eOp (asC (aR 13) (asC (aV (eC (.int 1))) asN)) oIx) [13]) (gN 6))
    (sSeq (sAsg (eOp (asC (aV (eLc (wSeq (eVar 5)) (gN 10) (tV (eOp (asC (aR 10) (asC (aR 6) asN)) oNotIn)) (eVar 10) [10])) asN) oSorted) (gN 7))
    (sSeq (sAsg (eCall Sc.dn_loose (asC (aV (eVar 3)) asN)) (gN 8))
    (sSeq (sIf (tNot (tV (heldE 8 (eCall dn__law_is_list (asC (aR 8) (asC (aV (eVar 7)) asN))))))
    (sRet (eC (.bl false)))
    sPass)
    (sSeq (sAppend 8 (eC (.str "more")))
    (sSeq (sAsg (eCall Sc.dn__law_take (asC (aR 2) (asC (aV (eOp (asC (aV (eC (.int 1))) (asC (aV (eOp (asC (aR 5) asN) oLen)) asN)) oAdd)) asN))) (gN 9))
    (sSeq (sForI (wSeq (eOp (asC (aV (eSl (aR 5) (oaS (aR 9)) oaN oSlice)) (asC (aV (eSl (aR 5) oaN (oaS (aR 9)) oSlice)) asN)) oAdd)) (gN 10)
    (sSeq (sAsg (eCall Sc.dn_rests_on (asC (aV (eVar 3)) (asC (aV (eVar 10)) asN))) (gN 11))
    (sSeq (sIf (tNot (tV (heldE 11 (eCall dn__law_is_list (asC (aR 11) (asC (aV (eCall Sc.dn__law_rests (asC (aV (eVar 4)) (asC (aV (eVar 10)) asN)))) asN))))))
    (sRet (eC (.bl false)))
    sPass)
    (sSeq (sAppend 11 (eC (.str "more")))
    (sIf (tNot (tV (eCall dn__law_is_list (asC (aV (eCall Sc.dn_rests_on (asC (aV (eVar 3)) (asC (aV (eVar 10)) asN)))) (asC (aV (eCall Sc.dn__law_rests (asC (aV (eVar 4)) (asC (aV (eVar 10)) asN)))) asN)))))
    (sRet (eC (.bl false)))
    sPass)))))
    (sRet (eCall dn__law_is_list (asC (aV (eCall Sc.dn_loose (asC (aV (eVar 3)) asN))) (asC (aV (eVar 7)) asN))))))))))))))))
end L_k23

set_option Elab.async false
set_option linter.all false
set_option maxRecDepth 100000
set_option maxHeartbeats 4000000
namespace L_k23
open PySem PySem.Spec PyProof.Rows L2 Py
def top (i : Nat) : Stmt := PySem.Challenge.pw_scaffold_k23_loose_rests_on.main.body.getD i (.Pass ⟨0, 0, 0, 0⟩)
def mt (i j : Nat) : Stmt := match top i with | .ClassDef _ _ _ b _ _ _ _ _ _ _ => b.getD j (.Pass ⟨0, 0, 0, 0⟩) | st => st
/-- what the top has written -/
structure Tx (K : PySem.W.Frag) (mg : Str → Option Value) (cl : Str → Option Addr) : Prop where
  n_abs : mg "abs" = none
  n_all : mg "all" = none
  n_any : mg "any" = none
  n_bool : mg "bool" = none
  n_enumerate : mg "enumerate" = none
  n_int : mg "int" = none
  n_isinstance : mg "isinstance" = none
  n_len : mg "len" = none
  n_list : mg "list" = none
  n_max : mg "max" = none
  n_min : mg "min" = none
  n_range : mg "range" = none
  n_sorted : mg "sorted" = none
  n_str : mg "str" = none
  n_tuple : mg "tuple" = none
  g_ScaffoldError : mg "ScaffoldError" = some (.ref (He.ga K "ScaffoldError"))
  g_NoPart : mg "NoPart" = some (.ref (He.ga K "NoPart"))
  g_Clash : mg "Clash" = some (.ref (He.ga K "Clash"))
  g_NoName : mg "NoName" = some (.ref (He.ga K "NoName"))
  g_Plan : mg "Plan" = some (.ref (He.ga K "Plan"))
  k_BOARD : Con K mg "BOARD" (.str "board")
  k_FLOOR : Con K mg "FLOOR" (.str "")
  k_LETTERS : Con K mg "LETTERS" (.str "abcdefghijklmnopqrstuvwxyz")
  k_MOST : Con K mg "MOST" (.int 20)
  k_MOST_LETTERS : Con K mg "MOST_LETTERS" (.int 8)
  k_NOUGHT : Con K mg "NOUGHT" (.tup [(.int 0), (.int 1)])
  k_POLE : Con K mg "POLE" (.str "pole")
  k_WAYS : Con K mg "WAYS" (.tup [(.str "x"), (.str "y")])
  c_Clash : cl "Clash" = some (He.ga K "Clash")
  c_NoName : cl "NoName" = some (He.ga K "NoName")
  e_NoName : PySem.W.excIn K (He.ga K "NoName") He.veBase "ValueError.__new__" = true ∧ PySem.W.keepIn K (.ref (He.ga K "NoName")) = true ∧ PySem.W.subIn K (.ref (He.ga K "NoName")) (.type "BaseException") = some true ∧ PySem.W.typeIn K (.ref (He.ga K "NoName")) = some (.type "type")
  c_NoPart : cl "NoPart" = some (He.ga K "NoPart")
  c_Plan : cl "Plan" = some (He.ga K "Plan")
  o_Plan : Cls K (He.ga K "Plan")
  a_Plan_by_name : NoAttr K (He.ga K "Plan") "by_name"
  a_Plan_own_floor : NoAttr K (He.ga K "Plan") "own_floor"
  a_Plan_own_parts : NoAttr K (He.ga K "Plan") "own_parts"
section
variable {P : Program} {w : World} {K : PySem.W.Frag} {mg : Str → Option Value} {base : Heap} {cl : Str → Option Addr}
theorem sc_is_whole : FnScope ["thing"] ["thing"] (defScope (top 7)) := ⟨rfl, rfl, rfl, by decide +kernel, rfl, by decide +kernel, by decide +kernel⟩
theorem ok_is_whole {f : Addr} {fd : FuncData} (T : Tx K mg cl) (F : Fun K "is_whole" "is_whole" (top 7) f fd) (gx : mg "is_whole" = some (.ref f)) (bd : Binds K fd ["thing"] []) : Means P w K mg base cl 1 "is_whole" ["thing"] Sc.dn_is_whole :=
  means_mk (k := 0) (N := ["thing"]) (mask := [false]) F sc_is_whole rfl gx bd fun cdv A outer s H E hr =>
    have tk : Takes (cxOf (L2.CX P w) P w K mg base ["thing"] "is_whole" (defScope (top 7)) f cdv A outer s H E) (fun c d _ H => E c d H) := takes_of rfl rfl rfl rfl
    have po := passes_of (X := cxOf (L2.CX P w) P w K mg base ["thing"] "is_whole" (defScope (top 7)) f cdv A outer s H E) rfl
    (pssd_one (psd_ret (pd_and (pd_isi .int rfl T.n_isinstance (po_r 0 (pv 0)) (pe_bltn rfl T.n_int (by decide +kernel) rfl)) (pd_one (pd_not (pd_isi .bool rfl T.n_isinstance (po_r 0 (pv 0)) (pe_bltn rfl T.n_bool (by decide +kernel) rfl)))))))
theorem sc_common_part : FnScope ["one", "other", "left", "right"] ["one", "other"] (defScope (top 8)) := ⟨rfl, rfl, rfl, by decide +kernel, rfl, by decide +kernel, by decide +kernel⟩
theorem ok_common_part {f : Addr} {fd : FuncData} (T : Tx K mg cl) (F : Fun K "common_part" "common_part" (top 8) f fd) (gx : mg "common_part" = some (.ref f)) (bd : Binds K fd ["one", "other"] []) : Means P w K mg base cl 1 "common_part" ["one", "other"] Sc.dn_common_part :=
  means_mk (k := 0) (N := ["one", "other", "left", "right"]) (mask := [false, false]) F sc_common_part rfl gx bd fun cdv A outer s H E hr =>
    have tk : Takes (cxOf (L2.CX P w) P w K mg base ["one", "other", "left", "right"] "common_part" (defScope (top 8)) f cdv A outer s H E) (fun c d _ H => E c d H) := takes_of rfl rfl rfl rfl
    have po := passes_of (X := cxOf (L2.CX P w) P w K mg base ["one", "other", "left", "right"] "common_part" (defScope (top 8)) f cdv A outer s H E) rfl
    (pssd_cons (psd_par (i := 2) (j := 3) rfl sc_common_part.nd rfl rfl (by decide) rfl rfl (pas_cons (po_v (pd_callB call_abs od_abs rfl T.n_abs (by decide +kernel) (pas_cons (po_r 0 (pv 0)) pas_nil))) (pas_cons (po_v (pd_callB call_abs od_abs rfl T.n_abs (by decide +kernel) (pas_cons (po_r 1 (pv 1)) pas_nil))) pas_nil)) rfl rfl (by rfl))
    (pssd_cons (psd_while po (ptd_cmp op_gt od_gt (po_r 3 (pv 3)) (po_v pd_int) (nomark _))
    (pssd_one (psd_par (i := 2) (j := 3) rfl sc_common_part.nd rfl rfl (by decide) rfl rfl (pas_cons (po_v (pd_var 3 (pv 3))) (pas_cons (po_v (pd_bin op_modN od_mod (po_r 2 (pv 2)) (po_r 3 (pv 3)))) pas_nil)) rfl rfl (by rfl))))
    (pssd_one (psd_ret (pd_mov 2 (pv 2))))))
theorem sc_is_fraction : FnScope ["thing"] ["thing"] (defScope (top 9)) := ⟨rfl, rfl, rfl, by decide +kernel, rfl, by decide +kernel, by decide +kernel⟩
theorem ok_is_fraction {f : Addr} {fd : FuncData} (T : Tx K mg cl) (F : Fun K "is_fraction" "is_fraction" (top 9) f fd) (gx : mg "is_fraction" = some (.ref f)) (bd : Binds K fd ["thing"] []) (G_is_whole : Means P w K mg base cl 1 "is_whole" ["thing"] Sc.dn_is_whole) (G_common_part : Means P w K mg base cl 1 "common_part" ["one", "other"] Sc.dn_common_part) : Means P w K mg base cl 2 "is_fraction" ["thing"] Sc.dn_is_fraction :=
  means_mk (k := 1) (N := ["thing"]) (mask := [false]) F sc_is_fraction rfl gx bd fun cdv A outer s H E hr =>
    have tk : Takes (cxOf (L2.CX P w) P w K mg base ["thing"] "is_fraction" (defScope (top 9)) f cdv A outer s H E) (fun c d _ H => E c d H) := takes_of rfl rfl rfl rfl
    have po := passes_of (X := cxOf (L2.CX P w) P w K mg base ["thing"] "is_fraction" (defScope (top 9)) f cdv A outer s H E) rfl
    (pssd_cons (psd_if (ptd_of (pwd_or (ptd_not (ptd_val (pd_isi .tuple rfl T.n_isinstance (po_r 0 (pv 0)) (pe_bltn rfl T.n_tuple (by decide +kernel) rfl)))) (pwd_or (ptd_cmp (op_neX hr.units) od_neX (po_v (pd_callB call_len od_len rfl T.n_len (by decide +kernel) (pas_cons (po_r 0 (pv 0)) pas_nil))) (po_v pd_int) (nomark _)) (pwd_or (ptd_not (ptd_val (pd_call G_is_whole (hr.mono (by decide)) rfl tk (pas_cons (po_v (pd_ix ix_X od_ix (po_r 0 (pv 0)) (po_v pd_int) (fun _ _ => rfl))) pas_nil)))) (pwd_or1 (ptd_not (ptd_val (pd_call G_is_whole (hr.mono (by decide)) rfl tk (pas_cons (po_v (pd_ix ix_X od_ix (po_r 0 (pv 0)) (po_v pd_int) (fun _ _ => rfl))) pas_nil)))))))))
    (pssd_one (psd_ret pd_bl))
    pssd_nil)
    (pssd_one (psd_ret (pd_and (pd_cmp op_gt od_gt (po_v (pd_ix ix_X od_ix (po_r 0 (pv 0)) (po_v pd_int) (fun _ _ => rfl))) (po_v pd_int) (nomark _)) (pd_one (pd_cmp (op_eqX hr.units) od_eqX (po_v (pd_call G_common_part (hr.mono (by decide)) rfl tk (pas_cons (po_v (pd_ix ix_X od_ix (po_r 0 (pv 0)) (po_v pd_int) (fun _ _ => rfl))) (pas_cons (po_v (pd_ix ix_X od_ix (po_r 0 (pv 0)) (po_v pd_int) (fun _ _ => rfl))) pas_nil)))) (po_v pd_int) (nomark _)))))))
theorem sc_is_less : FnScope ["one", "other"] ["one", "other"] (defScope (top 10)) := ⟨rfl, rfl, rfl, by decide +kernel, rfl, by decide +kernel, by decide +kernel⟩
theorem ok_is_less {f : Addr} {fd : FuncData} (T : Tx K mg cl) (F : Fun K "is_less" "is_less" (top 10) f fd) (gx : mg "is_less" = some (.ref f)) (bd : Binds K fd ["one", "other"] []) : Means P w K mg base cl 1 "is_less" ["one", "other"] Sc.dn_is_less :=
  means_mk (k := 0) (N := ["one", "other"]) (mask := [false, false]) F sc_is_less rfl gx bd fun cdv A outer s H E hr =>
    have tk : Takes (cxOf (L2.CX P w) P w K mg base ["one", "other"] "is_less" (defScope (top 10)) f cdv A outer s H E) (fun c d _ H => E c d H) := takes_of rfl rfl rfl rfl
    have po := passes_of (X := cxOf (L2.CX P w) P w K mg base ["one", "other"] "is_less" (defScope (top 10)) f cdv A outer s H E) rfl
    (pssd_one (psd_ret (pd_cmp op_lt od_lt (po_v (pd_bin op_mulY od_mulX (po_v (pd_ix ix_X od_ix (po_r 0 (pv 0)) (po_v pd_int) (fun _ _ => rfl))) (po_v (pd_ix ix_X od_ix (po_r 1 (pv 1)) (po_v pd_int) (fun _ _ => rfl))))) (po_v (pd_bin op_mulY od_mulX (po_v (pd_ix ix_X od_ix (po_r 1 (pv 1)) (po_v pd_int) (fun _ _ => rfl))) (po_v (pd_ix ix_X od_ix (po_r 0 (pv 0)) (po_v pd_int) (fun _ _ => rfl))))) (nomark _))))
theorem sc_is_name : FnScope ["thing", "sign"] ["thing"] (defScope (top 18)) := ⟨rfl, rfl, rfl, by decide +kernel, rfl, by decide +kernel, by decide +kernel⟩
theorem ok_is_name {f : Addr} {fd : FuncData} (T : Tx K mg cl) (F : Fun K "is_name" "is_name" (top 18) f fd) (gx : mg "is_name" = some (.ref f)) (bd : Binds K fd ["thing"] []) : Means P w K mg base cl 1 "is_name" ["thing"] Sc.dn_is_name :=
  means_mk (k := 0) (N := ["thing", "sign"]) (mask := [false]) F sc_is_name rfl gx bd fun cdv A outer s H E hr =>
    have tk : Takes (cxOf (L2.CX P w) P w K mg base ["thing", "sign"] "is_name" (defScope (top 18)) f cdv A outer s H E) (fun c d _ H => E c d H) := takes_of rfl rfl rfl rfl
    have po := passes_of (X := cxOf (L2.CX P w) P w K mg base ["thing", "sign"] "is_name" (defScope (top 18)) f cdv A outer s H E) rfl
    (pssd_cons (psd_if (ptd_of (pwd_or (ptd_not (ptd_val (pd_isi .str rfl T.n_isinstance (po_r 0 (pv 0)) (pe_bltn rfl T.n_str (by decide +kernel) rfl)))) (pwd_or1 (ptd_not (ptd_chain op_le op_le (po_v pd_int) (po_v (pd_callB call_len od_len rfl T.n_len (by decide +kernel) (pas_cons (po_r 0 (pv 0)) pas_nil))) (po_v (pd_con rfl T.k_MOST_LETTERS)))))))
    (pssd_one (psd_ret pd_bl))
    pssd_nil)
    (pssd_one (psd_ret (pd_callB (cr_all rfl) od_all rfl T.n_all (by decide +kernel) (pas_cons (po_v (pd_lc (own := [("sign", 1)]) rfl sc_is_name.nd (pwk_seq (pd_var 0 (pv 0))) (blkOk_by (by kernel_rfl)) (fun _ _ _ _ _ => (pgv_name (i := 1) sc_is_name.nd rfl (by first | exact Or.inl rfl | exact Or.inr rfl) (by decide) (by first | exact Or.inl rfl | exact Or.inr rfl))) (fun _ _ _ _ _ => ptsd_nil) (fun _ _ _ _ _ => (pd_cmp (op_inX hr.units1) od_in (po_r 1 (pv 1)) (po_v (pd_con rfl T.k_LETTERS)) (by with_unfolding_all rfl))) (by intro _ _ h; first | (cases h; done) | (cases h; decide)))) pas_nil)))))
theorem sc_is_within : FnScope ["thing", "least"] ["thing", "least"] (defScope (top 19)) := ⟨rfl, rfl, rfl, by decide +kernel, rfl, by decide +kernel, by decide +kernel⟩
theorem ok_is_within {f : Addr} {fd : FuncData} (T : Tx K mg cl) (F : Fun K "is_within" "is_within" (top 19) f fd) (gx : mg "is_within" = some (.ref f)) (bd : Binds K fd ["thing", "least"] []) (G_is_whole : Means P w K mg base cl 1 "is_whole" ["thing"] Sc.dn_is_whole) : Means P w K mg base cl 2 "is_within" ["thing", "least"] Sc.dn_is_within :=
  means_mk (k := 1) (N := ["thing", "least"]) (mask := [false, false]) F sc_is_within rfl gx bd fun cdv A outer s H E hr =>
    have tk : Takes (cxOf (L2.CX P w) P w K mg base ["thing", "least"] "is_within" (defScope (top 19)) f cdv A outer s H E) (fun c d _ H => E c d H) := takes_of rfl rfl rfl rfl
    have po := passes_of (X := cxOf (L2.CX P w) P w K mg base ["thing", "least"] "is_within" (defScope (top 19)) f cdv A outer s H E) rfl
    (pssd_one (psd_ret (pd_and (pd_call G_is_whole (hr.mono (by decide)) rfl tk (pas_cons (po_v (pd_var 0 (pv 0))) pas_nil)) (pd_one (pd_chain op_le op_le (po_r 1 (pv 1)) (po_r 0 (pv 0)) (po_v (pd_con rfl T.k_MOST)))))))
theorem sc_are_weights : FnScope ["weight", "hold"] ["weight", "hold"] (defScope (top 20)) := ⟨rfl, rfl, rfl, by decide +kernel, rfl, by decide +kernel, by decide +kernel⟩
theorem ok_are_weights {f : Addr} {fd : FuncData} (T : Tx K mg cl) (F : Fun K "are_weights" "are_weights" (top 20) f fd) (gx : mg "are_weights" = some (.ref f)) (bd : Binds K fd ["weight", "hold"] []) (G_is_fraction : Means P w K mg base cl 2 "is_fraction" ["thing"] Sc.dn_is_fraction) (G_is_less : Means P w K mg base cl 1 "is_less" ["one", "other"] Sc.dn_is_less) : Means P w K mg base cl 3 "are_weights" ["weight", "hold"] Sc.dn_are_weights :=
  means_mk (k := 2) (N := ["weight", "hold"]) (mask := [false, false]) F sc_are_weights rfl gx bd fun cdv A outer s H E hr =>
    have tk : Takes (cxOf (L2.CX P w) P w K mg base ["weight", "hold"] "are_weights" (defScope (top 20)) f cdv A outer s H E) (fun c d _ H => E c d H) := takes_of rfl rfl rfl rfl
    have po := passes_of (X := cxOf (L2.CX P w) P w K mg base ["weight", "hold"] "are_weights" (defScope (top 20)) f cdv A outer s H E) rfl
    (pssd_cons (psd_if (ptd_of (pwd_or (ptd_not (ptd_val (pd_call G_is_fraction (hr.mono (by decide)) rfl tk (pas_cons (po_v (pd_var 0 (pv 0))) pas_nil)))) (pwd_or1 (ptd_not (ptd_val (pd_call G_is_fraction (hr.mono (by decide)) rfl tk (pas_cons (po_v (pd_var 1 (pv 1))) pas_nil)))))))
    (pssd_one (psd_ret pd_bl))
    pssd_nil)
    (pssd_one (psd_ret (pd_and (pd_call G_is_less (hr.mono (by decide)) rfl tk (pas_cons (po_v (pd_con rfl T.k_NOUGHT)) (pas_cons (po_v (pd_var 0 (pv 0))) pas_nil))) (pd_one (pd_not (pd_call G_is_less (hr.mono (by decide)) rfl tk (pas_cons (po_v (pd_var 1 (pv 1))) (pas_cons (po_v (pd_con rfl T.k_NOUGHT)) pas_nil)))))))))
theorem sc_is_pole : FnScope ["thing", "sort", "name", "x", "y", "low", "high", "weight", "hold", "one"] ["thing"] (defScope (top 21)) := ⟨rfl, rfl, rfl, by decide +kernel, rfl, by decide +kernel, by decide +kernel⟩
theorem ok_is_pole {f : Addr} {fd : FuncData} (T : Tx K mg cl) (F : Fun K "is_pole" "is_pole" (top 21) f fd) (gx : mg "is_pole" = some (.ref f)) (bd : Binds K fd ["thing"] []) (G_is_name : Means P w K mg base cl 1 "is_name" ["thing"] Sc.dn_is_name) (G_are_weights : Means P w K mg base cl 3 "are_weights" ["weight", "hold"] Sc.dn_are_weights) (G_is_within : Means P w K mg base cl 2 "is_within" ["thing", "least"] Sc.dn_is_within) : Means P w K mg base cl 4 "is_pole" ["thing"] Sc.dn_is_pole :=
  means_mk (k := 3) (N := ["thing", "sort", "name", "x", "y", "low", "high", "weight", "hold", "one"]) (mask := [false]) F sc_is_pole rfl gx bd fun cdv A outer s H E hr =>
    have tk : Takes (cxOf (L2.CX P w) P w K mg base ["thing", "sort", "name", "x", "y", "low", "high", "weight", "hold", "one"] "is_pole" (defScope (top 21)) f cdv A outer s H E) (fun c d _ H => E c d H) := takes_of rfl rfl rfl rfl
    have po := passes_of (X := cxOf (L2.CX P w) P w K mg base ["thing", "sort", "name", "x", "y", "low", "high", "weight", "hold", "one"] "is_pole" (defScope (top 21)) f cdv A outer s H E) rfl
    (pssd_cons (psd_asg (pd_var 0 (pv 0)) (pgd_tup rfl (pgsd_cons (W := fun _ _ _ _ => False) (pgd_name (i := 1) sc_is_pole.nd rfl (Or.inl rfl)) (pgsd_cons (W := fun _ _ _ _ => False) (pgd_name (i := 2) sc_is_pole.nd rfl (Or.inl rfl)) (pgsd_cons (W := fun _ _ _ _ => False) (pgd_name (i := 3) sc_is_pole.nd rfl (Or.inl rfl)) (pgsd_cons (W := fun _ _ _ _ => False) (pgd_name (i := 4) sc_is_pole.nd rfl (Or.inl rfl)) (pgsd_cons (W := fun _ _ _ _ => False) (pgd_name (i := 5) sc_is_pole.nd rfl (Or.inl rfl)) (pgsd_cons (W := fun _ _ _ _ => False) (pgd_name (i := 6) sc_is_pole.nd rfl (Or.inl rfl)) (pgsd_cons (W := fun _ _ _ _ => False) (pgd_name (i := 7) sc_is_pole.nd rfl (Or.inl rfl)) (pgsd_cons (W := fun _ _ _ _ => False) (pgd_name (i := 8) sc_is_pole.nd rfl (Or.inl rfl)) pgsd_nil))))))))) gTup_nx)
    (pssd_cons (psd_if (ptd_of (pwd_or (ptd_cmp (op_neX hr.units) od_neX (po_r 1 (pv 1)) (po_v (pd_con rfl T.k_POLE)) (nomark _)) (pwd_or (ptd_not (ptd_val (pd_call G_is_name (hr.mono (by decide)) rfl tk (pas_cons (po_v (pd_var 2 (pv 2))) pas_nil)))) (pwd_or1 (ptd_not (ptd_val (pd_call G_are_weights (hr.mono (by decide)) rfl tk (pas_cons (po_v (pd_var 7 (pv 7))) (pas_cons (po_v (pd_var 8 (pv 8))) pas_nil)))))))))
    (pssd_one (psd_ret pd_bl))
    pssd_nil)
    (pssd_one (psd_ret (pd_and (pd_callB (cr_all rfl) od_all rfl T.n_all (by decide +kernel) (pas_cons (po_v (pd_lc (own := [("one", 9)]) rfl sc_is_pole.nd (pwk_seq (pd_tup (pas_cons (po_v (pd_var 3 (pv 3))) (pas_cons (po_v (pd_var 4 (pv 4))) (pas_cons (po_v (pd_var 5 (pv 5))) (pas_cons (po_v (pd_var 6 (pv 6))) pas_nil)))))) (blkOk_by (by kernel_rfl)) (fun _ _ _ _ _ => (pgv_name (i := 9) sc_is_pole.nd rfl (by first | exact Or.inl rfl | exact Or.inr rfl) (by decide) (by first | exact Or.inl rfl | exact Or.inr rfl))) (fun _ _ _ _ _ => ptsd_nil) (fun _ _ _ _ _ => (pd_call G_is_within (hr.mono (by decide)) rfl (takesF _) (pas_cons (po_v (pd_var 9 (pv 9))) (pas_cons (po_v pd_int) pas_nil)))) (by intro _ _ h; first | (cases h; done) | (cases h; decide)))) pas_nil)) (pd_one (pd_cmp op_lt od_lt (po_r 5 (pv 5)) (po_r 6 (pv 6)) (nomark _))))))))
theorem sc_ends_within : FnScope ["x", "y", "way", "length"] ["x", "y", "way", "length"] (defScope (top 22)) := ⟨rfl, rfl, rfl, by decide +kernel, rfl, by decide +kernel, by decide +kernel⟩
theorem ok_ends_within {f : Addr} {fd : FuncData} (T : Tx K mg cl) (F : Fun K "ends_within" "ends_within" (top 22) f fd) (gx : mg "ends_within" = some (.ref f)) (bd : Binds K fd ["x", "y", "way", "length"] []) : Means P w K mg base cl 1 "ends_within" ["x", "y", "way", "length"] Sc.dn_ends_within :=
  means_mk (k := 0) (N := ["x", "y", "way", "length"]) (mask := [false, false, false, false]) F sc_ends_within rfl gx bd fun cdv A outer s H E hr =>
    have tk : Takes (cxOf (L2.CX P w) P w K mg base ["x", "y", "way", "length"] "ends_within" (defScope (top 22)) f cdv A outer s H E) (fun c d _ H => E c d H) := takes_of rfl rfl rfl rfl
    have po := passes_of (X := cxOf (L2.CX P w) P w K mg base ["x", "y", "way", "length"] "ends_within" (defScope (top 22)) f cdv A outer s H E) rfl
    (pssd_cons (psd_if (ptd_cmp (op_eqX hr.units) od_eqX (po_r 2 (pv 2)) (po_v (pd_ix ix_X od_ix (po_v (pd_con rfl T.k_WAYS)) (po_v pd_int) (fun _ _ => rfl))) (nomark _))
    (pssd_one (psd_ret (pd_cmp op_le od_le (po_v (pd_bin op_addX od_add (po_r 0 (pv 0)) (po_r 3 (pv 3)))) (po_v (pd_con rfl T.k_MOST)) (nomark _))))
    pssd_nil)
    (pssd_one (psd_ret (pd_cmp op_le od_le (po_v (pd_bin op_addX od_add (po_r 1 (pv 1)) (po_r 3 (pv 3)))) (po_v (pd_con rfl T.k_MOST)) (nomark _)))))
theorem sc_is_plank : FnScope ["thing", "sort", "name", "x", "y", "way", "length", "height", "weight", "hold", "one"] ["thing"] (defScope (top 23)) := ⟨rfl, rfl, rfl, by decide +kernel, rfl, by decide +kernel, by decide +kernel⟩
theorem ok_is_plank {f : Addr} {fd : FuncData} (T : Tx K mg cl) (F : Fun K "is_plank" "is_plank" (top 23) f fd) (gx : mg "is_plank" = some (.ref f)) (bd : Binds K fd ["thing"] []) (G_is_name : Means P w K mg base cl 1 "is_name" ["thing"] Sc.dn_is_name) (G_are_weights : Means P w K mg base cl 3 "are_weights" ["weight", "hold"] Sc.dn_are_weights) (G_is_within : Means P w K mg base cl 2 "is_within" ["thing", "least"] Sc.dn_is_within) (G_ends_within : Means P w K mg base cl 1 "ends_within" ["x", "y", "way", "length"] Sc.dn_ends_within) : Means P w K mg base cl 4 "is_plank" ["thing"] Sc.dn_is_plank :=
  means_mk (k := 3) (N := ["thing", "sort", "name", "x", "y", "way", "length", "height", "weight", "hold", "one"]) (mask := [false]) F sc_is_plank rfl gx bd fun cdv A outer s H E hr =>
    have tk : Takes (cxOf (L2.CX P w) P w K mg base ["thing", "sort", "name", "x", "y", "way", "length", "height", "weight", "hold", "one"] "is_plank" (defScope (top 23)) f cdv A outer s H E) (fun c d _ H => E c d H) := takes_of rfl rfl rfl rfl
    have po := passes_of (X := cxOf (L2.CX P w) P w K mg base ["thing", "sort", "name", "x", "y", "way", "length", "height", "weight", "hold", "one"] "is_plank" (defScope (top 23)) f cdv A outer s H E) rfl
    (pssd_cons (psd_asg (pd_var 0 (pv 0)) (pgd_tup rfl (pgsd_cons (W := fun _ _ _ _ => False) (pgd_name (i := 1) sc_is_plank.nd rfl (Or.inl rfl)) (pgsd_cons (W := fun _ _ _ _ => False) (pgd_name (i := 2) sc_is_plank.nd rfl (Or.inl rfl)) (pgsd_cons (W := fun _ _ _ _ => False) (pgd_name (i := 3) sc_is_plank.nd rfl (Or.inl rfl)) (pgsd_cons (W := fun _ _ _ _ => False) (pgd_name (i := 4) sc_is_plank.nd rfl (Or.inl rfl)) (pgsd_cons (W := fun _ _ _ _ => False) (pgd_name (i := 5) sc_is_plank.nd rfl (Or.inl rfl)) (pgsd_cons (W := fun _ _ _ _ => False) (pgd_name (i := 6) sc_is_plank.nd rfl (Or.inl rfl)) (pgsd_cons (W := fun _ _ _ _ => False) (pgd_name (i := 7) sc_is_plank.nd rfl (Or.inl rfl)) (pgsd_cons (W := fun _ _ _ _ => False) (pgd_name (i := 8) sc_is_plank.nd rfl (Or.inl rfl)) (pgsd_cons (W := fun _ _ _ _ => False) (pgd_name (i := 9) sc_is_plank.nd rfl (Or.inl rfl)) pgsd_nil)))))))))) gTup_nx)
    (pssd_cons (psd_if (ptd_of (pwd_or (ptd_cmp (op_neX hr.units) od_neX (po_r 1 (pv 1)) (po_v (pd_con rfl T.k_BOARD)) (nomark _)) (pwd_or (ptd_not (ptd_val (pd_call G_is_name (hr.mono (by decide)) rfl tk (pas_cons (po_v (pd_var 2 (pv 2))) pas_nil)))) (pwd_or1 (ptd_not (ptd_val (pd_call G_are_weights (hr.mono (by decide)) rfl tk (pas_cons (po_v (pd_var 8 (pv 8))) (pas_cons (po_v (pd_var 9 (pv 9))) pas_nil)))))))))
    (pssd_one (psd_ret pd_bl))
    pssd_nil)
    (pssd_cons (psd_if (ptd_of (pwd_or (ptd_not (ptd_val (pd_isi .str rfl T.n_isinstance (po_r 5 (pv 5)) (pe_bltn rfl T.n_str (by decide +kernel) rfl)))) (pwd_or (ptd_cmp (op_notInX hr.units1) od_notIn (po_r 5 (pv 5)) (po_v (pd_con rfl T.k_WAYS)) (by with_unfolding_all rfl)) (pwd_or1 (ptd_not (ptd_val (pd_callB (cr_all rfl) od_all rfl T.n_all (by decide +kernel) (pas_cons (po_v (pd_lc (own := [("one", 10)]) rfl sc_is_plank.nd (pwk_seq (pd_tup (pas_cons (po_v (pd_var 3 (pv 3))) (pas_cons (po_v (pd_var 4 (pv 4))) (pas_cons (po_v (pd_var 7 (pv 7))) pas_nil))))) (blkOk_by (by kernel_rfl)) (fun _ _ _ _ _ => (pgv_name (i := 10) sc_is_plank.nd rfl (by first | exact Or.inl rfl | exact Or.inr rfl) (by decide) (by first | exact Or.inl rfl | exact Or.inr rfl))) (fun _ _ _ _ _ => ptsd_nil) (fun _ _ _ _ _ => (pd_call G_is_within (hr.mono (by decide)) rfl (takesF _) (pas_cons (po_v (pd_var 10 (pv 10))) (pas_cons (po_v pd_int) pas_nil)))) (by intro _ _ h; first | (cases h; done) | (cases h; decide)))) pas_nil))))))))
    (pssd_one (psd_ret pd_bl))
    pssd_nil)
    (pssd_one (psd_ret (pd_and (pd_call G_is_within (hr.mono (by decide)) rfl tk (pas_cons (po_v (pd_var 6 (pv 6))) (pas_cons (po_v pd_int) pas_nil))) (pd_one (pd_call G_ends_within (hr.mono (by decide)) rfl tk (pas_cons (po_v (pd_var 3 (pv 3))) (pas_cons (po_v (pd_var 4 (pv 4))) (pas_cons (po_v (pd_var 5 (pv 5))) (pas_cons (po_v (pd_var 6 (pv 6))) pas_nil))))))))))))
theorem sc_is_part : FnScope ["thing"] ["thing"] (defScope (top 24)) := ⟨rfl, rfl, rfl, by decide +kernel, rfl, by decide +kernel, by decide +kernel⟩
theorem ok_is_part {f : Addr} {fd : FuncData} (T : Tx K mg cl) (F : Fun K "is_part" "is_part" (top 24) f fd) (gx : mg "is_part" = some (.ref f)) (bd : Binds K fd ["thing"] []) (G_is_pole : Means P w K mg base cl 4 "is_pole" ["thing"] Sc.dn_is_pole) (G_is_plank : Means P w K mg base cl 4 "is_plank" ["thing"] Sc.dn_is_plank) : Means P w K mg base cl 5 "is_part" ["thing"] Sc.dn_is_part :=
  means_mk (k := 4) (N := ["thing"]) (mask := [false]) F sc_is_part rfl gx bd fun cdv A outer s H E hr =>
    have tk : Takes (cxOf (L2.CX P w) P w K mg base ["thing"] "is_part" (defScope (top 24)) f cdv A outer s H E) (fun c d _ H => E c d H) := takes_of rfl rfl rfl rfl
    have po := passes_of (X := cxOf (L2.CX P w) P w K mg base ["thing"] "is_part" (defScope (top 24)) f cdv A outer s H E) rfl
    (pssd_cons (psd_if (ptd_not (ptd_val (pd_isi .tuple rfl T.n_isinstance (po_r 0 (pv 0)) (pe_bltn rfl T.n_tuple (by decide +kernel) rfl))))
    (pssd_one (psd_ret pd_bl))
    pssd_nil)
    (pssd_one (psd_ret (pd_or (pd_and (pd_cmp (op_eqX hr.units) od_eqX (po_v (pd_callB call_len od_len rfl T.n_len (by decide +kernel) (pas_cons (po_r 0 (pv 0)) pas_nil))) (po_v pd_int) (nomark _)) (pd_one (pd_call G_is_pole (hr.mono (by decide)) rfl tk (pas_cons (po_v (pd_var 0 (pv 0))) pas_nil)))) (pd_one (pd_and (pd_cmp (op_eqX hr.units) od_eqX (po_v (pd_callB call_len od_len rfl T.n_len (by decide +kernel) (pas_cons (po_r 0 (pv 0)) pas_nil))) (po_v pd_int) (nomark _)) (pd_one (pd_call G_is_plank (hr.mono (by decide)) rfl tk (pas_cons (po_v (pd_var 0 (pv 0))) pas_nil)))))))))
theorem sc_is_board : FnScope ["part"] ["part"] (defScope (top 25)) := ⟨rfl, rfl, rfl, by decide +kernel, rfl, by decide +kernel, by decide +kernel⟩
theorem ok_is_board {f : Addr} {fd : FuncData} (T : Tx K mg cl) (F : Fun K "is_board" "is_board" (top 25) f fd) (gx : mg "is_board" = some (.ref f)) (bd : Binds K fd ["part"] []) : Means P w K mg base cl 1 "is_board" ["part"] Sc.dn_is_board :=
  means_mk (k := 0) (N := ["part"]) (mask := [false]) F sc_is_board rfl gx bd fun cdv A outer s H E hr =>
    have tk : Takes (cxOf (L2.CX P w) P w K mg base ["part"] "is_board" (defScope (top 25)) f cdv A outer s H E) (fun c d _ H => E c d H) := takes_of rfl rfl rfl rfl
    have po := passes_of (X := cxOf (L2.CX P w) P w K mg base ["part"] "is_board" (defScope (top 25)) f cdv A outer s H E) rfl
    (pssd_one (psd_ret (pd_cmp (op_eqX hr.units) od_eqX (po_v (pd_ix ix_X od_ix (po_r 0 (pv 0)) (po_v pd_int) (fun _ _ => rfl))) (po_v (pd_con rfl T.k_BOARD)) (nomark _))))
theorem sc_name_of : FnScope ["part"] ["part"] (defScope (top 26)) := ⟨rfl, rfl, rfl, by decide +kernel, rfl, by decide +kernel, by decide +kernel⟩
theorem ok_name_of {f : Addr} {fd : FuncData} (T : Tx K mg cl) (F : Fun K "name_of" "name_of" (top 26) f fd) (gx : mg "name_of" = some (.ref f)) (bd : Binds K fd ["part"] []) : Means P w K mg base cl 1 "name_of" ["part"] Sc.dn_name_of :=
  means_mk (k := 0) (N := ["part"]) (mask := [false]) F sc_name_of rfl gx bd fun cdv A outer s H E hr =>
    have tk : Takes (cxOf (L2.CX P w) P w K mg base ["part"] "name_of" (defScope (top 26)) f cdv A outer s H E) (fun c d _ H => E c d H) := takes_of rfl rfl rfl rfl
    have po := passes_of (X := cxOf (L2.CX P w) P w K mg base ["part"] "name_of" (defScope (top 26)) f cdv A outer s H E) rfl
    (pssd_one (psd_ret (pd_ix ix_X od_ix (po_r 0 (pv 0)) (po_v pd_int) (fun _ _ => rfl))))
theorem sc_bottom_of : FnScope ["part"] ["part"] (defScope (top 27)) := ⟨rfl, rfl, rfl, by decide +kernel, rfl, by decide +kernel, by decide +kernel⟩
theorem ok_bottom_of {f : Addr} {fd : FuncData} (T : Tx K mg cl) (F : Fun K "bottom_of" "bottom_of" (top 27) f fd) (gx : mg "bottom_of" = some (.ref f)) (bd : Binds K fd ["part"] []) (G_is_board : Means P w K mg base cl 1 "is_board" ["part"] Sc.dn_is_board) : Means P w K mg base cl 2 "bottom_of" ["part"] Sc.dn_bottom_of :=
  means_mk (k := 1) (N := ["part"]) (mask := [false]) F sc_bottom_of rfl gx bd fun cdv A outer s H E hr =>
    have tk : Takes (cxOf (L2.CX P w) P w K mg base ["part"] "bottom_of" (defScope (top 27)) f cdv A outer s H E) (fun c d _ H => E c d H) := takes_of rfl rfl rfl rfl
    have po := passes_of (X := cxOf (L2.CX P w) P w K mg base ["part"] "bottom_of" (defScope (top 27)) f cdv A outer s H E) rfl
    (pssd_cons (psd_if (ptd_val (pd_call G_is_board (hr.mono (by decide)) rfl tk (pas_cons (po_v (pd_var 0 (pv 0))) pas_nil)))
    (pssd_one (psd_ret (pd_ix ix_X od_ix (po_r 0 (pv 0)) (po_v pd_int) (fun _ _ => rfl))))
    pssd_nil)
    (pssd_one (psd_ret (pd_ix ix_X od_ix (po_r 0 (pv 0)) (po_v pd_int) (fun _ _ => rfl)))))
theorem sc_top_of : FnScope ["part"] ["part"] (defScope (top 28)) := ⟨rfl, rfl, rfl, by decide +kernel, rfl, by decide +kernel, by decide +kernel⟩
theorem ok_top_of {f : Addr} {fd : FuncData} (T : Tx K mg cl) (F : Fun K "top_of" "top_of" (top 28) f fd) (gx : mg "top_of" = some (.ref f)) (bd : Binds K fd ["part"] []) (G_is_board : Means P w K mg base cl 1 "is_board" ["part"] Sc.dn_is_board) : Means P w K mg base cl 2 "top_of" ["part"] Sc.dn_top_of :=
  means_mk (k := 1) (N := ["part"]) (mask := [false]) F sc_top_of rfl gx bd fun cdv A outer s H E hr =>
    have tk : Takes (cxOf (L2.CX P w) P w K mg base ["part"] "top_of" (defScope (top 28)) f cdv A outer s H E) (fun c d _ H => E c d H) := takes_of rfl rfl rfl rfl
    have po := passes_of (X := cxOf (L2.CX P w) P w K mg base ["part"] "top_of" (defScope (top 28)) f cdv A outer s H E) rfl
    (pssd_cons (psd_if (ptd_val (pd_call G_is_board (hr.mono (by decide)) rfl tk (pas_cons (po_v (pd_var 0 (pv 0))) pas_nil)))
    (pssd_one (psd_ret (pd_bin op_addX od_add (po_v (pd_ix ix_X od_ix (po_r 0 (pv 0)) (po_v pd_int) (fun _ _ => rfl))) (po_v pd_int))))
    pssd_nil)
    (pssd_one (psd_ret (pd_ix ix_X od_ix (po_r 0 (pv 0)) (po_v pd_int) (fun _ _ => rfl)))))
theorem sc_places_of : FnScope ["part", "x", "y", "k"] ["part"] (defScope (top 29)) := ⟨rfl, rfl, rfl, by decide +kernel, rfl, by decide +kernel, by decide +kernel⟩
theorem ok_places_of {f : Addr} {fd : FuncData} (T : Tx K mg cl) (F : Fun K "places_of" "places_of" (top 29) f fd) (gx : mg "places_of" = some (.ref f)) (bd : Binds K fd ["part"] []) (G_is_board : Means P w K mg base cl 1 "is_board" ["part"] Sc.dn_is_board) : Means P w K mg base cl 2 "places_of" ["part"] Sc.dn_places_of :=
  means_mk (k := 1) (N := ["part", "x", "y", "k"]) (mask := [false]) F sc_places_of rfl gx bd fun cdv A outer s H E hr =>
    have tk : Takes (cxOf (L2.CX P w) P w K mg base ["part", "x", "y", "k"] "places_of" (defScope (top 29)) f cdv A outer s H E) (fun c d _ H => E c d H) := takes_of rfl rfl rfl rfl
    have po := passes_of (X := cxOf (L2.CX P w) P w K mg base ["part", "x", "y", "k"] "places_of" (defScope (top 29)) f cdv A outer s H E) rfl
    (pssd_cons (psd_asg (pd_tup (pas_cons (po_v (pd_ix ix_X od_ix (po_r 0 (pv 0)) (po_v pd_int) (fun _ _ => rfl))) (pas_cons (po_v (pd_ix ix_X od_ix (po_r 0 (pv 0)) (po_v pd_int) (fun _ _ => rfl))) pas_nil))) (pgd_tup rfl (pgsd_cons (W := fun _ _ _ _ => False) (pgd_name (i := 1) sc_places_of.nd rfl (Or.inr rfl)) (pgsd_cons (W := fun _ _ _ _ => False) (pgd_name (i := 2) sc_places_of.nd rfl (Or.inr rfl)) pgsd_nil))) gTup_nx)
    (pssd_cons (psd_if (ptd_not (ptd_val (pd_call G_is_board (hr.mono (by decide)) rfl tk (pas_cons (po_v (pd_var 0 (pv 0))) pas_nil))))
    (pssd_one (psd_ret (pd_lst (pas_cons (po_v (pd_tup (pas_cons (po_v (pd_var 1 (pv 1))) (pas_cons (po_v (pd_var 2 (pv 2))) pas_nil)))) pas_nil))))
    pssd_nil)
    (pssd_cons (psd_if (ptd_cmp (op_eqX hr.units) od_eqX (po_v (pd_ix ix_X od_ix (po_r 0 (pv 0)) (po_v pd_int) (fun _ _ => rfl))) (po_v (pd_ix ix_X od_ix (po_v (pd_con rfl T.k_WAYS)) (po_v pd_int) (fun _ _ => rfl))) (nomark _))
    (pssd_one (psd_ret (pd_lc (own := [("k", 3)]) rfl sc_places_of.nd (pwk_r1 rfl T.n_range (po_v (pd_bin op_addX od_add (po_v (pd_ix ix_X od_ix (po_r 0 (pv 0)) (po_v pd_int) (fun _ _ => rfl))) (po_v pd_int)))) (blkOk_by (by kernel_rfl)) (fun _ _ _ _ _ => (pgv_name (i := 3) sc_places_of.nd rfl (by first | exact Or.inl rfl | exact Or.inr rfl) (by decide) (by first | exact Or.inl rfl | exact Or.inr rfl))) (fun _ _ _ _ _ => ptsd_nil) (fun _ _ _ _ _ => (pd_tup (pas_cons (po_v (pd_bin op_addX od_add (po_r 1 (pv 1)) (po_r 3 (pv 3)))) (pas_cons (po_v (pd_var 2 (pv 2))) pas_nil)))) (by intro _ _ h; first | (cases h; done) | (cases h; decide)))))
    pssd_nil)
    (pssd_one (psd_ret (pd_lc (own := [("k", 3)]) rfl sc_places_of.nd (pwk_r1 rfl T.n_range (po_v (pd_bin op_addX od_add (po_v (pd_ix ix_X od_ix (po_r 0 (pv 0)) (po_v pd_int) (fun _ _ => rfl))) (po_v pd_int)))) (blkOk_by (by kernel_rfl)) (fun _ _ _ _ _ => (pgv_name (i := 3) sc_places_of.nd rfl (by first | exact Or.inl rfl | exact Or.inr rfl) (by decide) (by first | exact Or.inl rfl | exact Or.inr rfl))) (fun _ _ _ _ _ => ptsd_nil) (fun _ _ _ _ _ => (pd_tup (pas_cons (po_v (pd_var 1 (pv 1))) (pas_cons (po_v (pd_bin op_addX od_add (po_r 2 (pv 2)) (po_r 3 (pv 3)))) pas_nil)))) (by intro _ _ h; first | (cases h; done) | (cases h; decide))))))))
theorem sc_joints_between : FnScope ["lower", "upper", "there", "place"] ["lower", "upper"] (defScope (top 32)) := ⟨rfl, rfl, rfl, by decide +kernel, rfl, by decide +kernel, by decide +kernel⟩
theorem ok_joints_between {f : Addr} {fd : FuncData} (T : Tx K mg cl) (F : Fun K "joints_between" "joints_between" (top 32) f fd) (gx : mg "joints_between" = some (.ref f)) (bd : Binds K fd ["lower", "upper"] []) (G_top_of : Means P w K mg base cl 2 "top_of" ["part"] Sc.dn_top_of) (G_bottom_of : Means P w K mg base cl 2 "bottom_of" ["part"] Sc.dn_bottom_of) (G_places_of : Means P w K mg base cl 2 "places_of" ["part"] Sc.dn_places_of) (G_name_of : Means P w K mg base cl 1 "name_of" ["part"] Sc.dn_name_of) : Means P w K mg base cl 3 "joints_between" ["lower", "upper"] Sc.dn_joints_between :=
  means_mk (k := 2) (N := ["lower", "upper", "there", "place"]) (mask := [false, false]) F sc_joints_between rfl gx bd fun cdv A outer s H E hr =>
    have tk : Takes (cxOf (L2.CX P w) P w K mg base ["lower", "upper", "there", "place"] "joints_between" (defScope (top 32)) f cdv A outer s H E) (fun c d _ H => E c d H) := takes_of rfl rfl rfl rfl
    have po := passes_of (X := cxOf (L2.CX P w) P w K mg base ["lower", "upper", "there", "place"] "joints_between" (defScope (top 32)) f cdv A outer s H E) rfl
    (pssd_cons (psd_if (ptd_cmp (op_neX hr.units) od_neX (po_v (pd_call G_top_of (hr.mono (by decide)) rfl tk (pas_cons (po_v (pd_var 0 (pv 0))) pas_nil))) (po_v (pd_call G_bottom_of (hr.mono (by decide)) rfl tk (pas_cons (po_v (pd_var 1 (pv 1))) pas_nil))) (nomark _))
    (pssd_one (psd_ret (pd_lst pas_nil)))
    pssd_nil)
    (pssd_cons (psd_asg (pd_call G_places_of (hr.mono (by decide)) rfl tk (pas_cons (po_v (pd_var 0 (pv 0))) pas_nil)) (pgd_name (i := 2) sc_joints_between.nd rfl (Or.inr rfl)) gN_nx)
    (pssd_one (psd_ret (pd_lc (own := [("place", 3)]) rfl sc_joints_between.nd (pwk_seq (pd_call G_places_of (hr.mono (by decide)) rfl tk (pas_cons (po_v (pd_var 1 (pv 1))) pas_nil))) (blkOk_by (by kernel_rfl)) (fun _ _ _ _ _ => (pgv_name (i := 3) sc_joints_between.nd rfl (by first | exact Or.inl rfl | exact Or.inr rfl) (by decide) (by first | exact Or.inl rfl | exact Or.inr rfl))) (fun _ _ _ _ _ => (ptsd_one (ptd_cmp (op_inX hr.units1) od_in (po_r 3 (pv 3)) (po_r 2 (pv 2)) (by with_unfolding_all rfl)))) (fun _ _ _ _ _ => (pd_tup (pas_cons (po_v (pd_call G_name_of (hr.mono (by decide)) rfl (takesF _) (pas_cons (po_v (pd_var 0 (pv 0))) pas_nil))) (pas_cons (po_v (pd_call G_name_of (hr.mono (by decide)) rfl (takesF _) (pas_cons (po_v (pd_var 1 (pv 1))) pas_nil))) (pas_cons (po_v (pd_var 3 (pv 3))) pas_nil))))) (by intro _ _ h; first | (cases h; done) | (cases h; decide)))))))
theorem sc_joints_with_floor : FnScope ["part", "place"] ["part"] (defScope (top 33)) := ⟨rfl, rfl, rfl, by decide +kernel, rfl, by decide +kernel, by decide +kernel⟩
theorem ok_joints_with_floor {f : Addr} {fd : FuncData} (T : Tx K mg cl) (F : Fun K "joints_with_floor" "joints_with_floor" (top 33) f fd) (gx : mg "joints_with_floor" = some (.ref f)) (bd : Binds K fd ["part"] []) (G_bottom_of : Means P w K mg base cl 2 "bottom_of" ["part"] Sc.dn_bottom_of) (G_places_of : Means P w K mg base cl 2 "places_of" ["part"] Sc.dn_places_of) (G_name_of : Means P w K mg base cl 1 "name_of" ["part"] Sc.dn_name_of) : Means P w K mg base cl 3 "joints_with_floor" ["part"] Sc.dn_joints_with_floor :=
  means_mk (k := 2) (N := ["part", "place"]) (mask := [false]) F sc_joints_with_floor rfl gx bd fun cdv A outer s H E hr =>
    have tk : Takes (cxOf (L2.CX P w) P w K mg base ["part", "place"] "joints_with_floor" (defScope (top 33)) f cdv A outer s H E) (fun c d _ H => E c d H) := takes_of rfl rfl rfl rfl
    have po := passes_of (X := cxOf (L2.CX P w) P w K mg base ["part", "place"] "joints_with_floor" (defScope (top 33)) f cdv A outer s H E) rfl
    (pssd_cons (psd_if (ptd_cmp (op_neX hr.units) od_neX (po_v (pd_call G_bottom_of (hr.mono (by decide)) rfl tk (pas_cons (po_v (pd_var 0 (pv 0))) pas_nil))) (po_v pd_int) (nomark _))
    (pssd_one (psd_ret (pd_lst pas_nil)))
    pssd_nil)
    (pssd_one (psd_ret (pd_lc (own := [("place", 1)]) rfl sc_joints_with_floor.nd (pwk_seq (pd_call G_places_of (hr.mono (by decide)) rfl tk (pas_cons (po_v (pd_var 0 (pv 0))) pas_nil))) (blkOk_by (by kernel_rfl)) (fun _ _ _ _ _ => (pgv_name (i := 1) sc_joints_with_floor.nd rfl (by first | exact Or.inl rfl | exact Or.inr rfl) (by decide) (by first | exact Or.inl rfl | exact Or.inr rfl))) (fun _ _ _ _ _ => ptsd_nil) (fun _ _ _ _ _ => (pd_tup (pas_cons (po_v (pd_con rfl T.k_FLOOR)) (pas_cons (po_v (pd_call G_name_of (hr.mono (by decide)) rfl (takesF _) (pas_cons (po_v (pd_var 0 (pv 0))) pas_nil))) (pas_cons (po_v (pd_var 1 (pv 1))) pas_nil))))) (by intro _ _ h; first | (cases h; done) | (cases h; decide))))))
theorem sc_Plan_parts : FnScope ["self"] ["self"] (defScope (mt 42 1)) := ⟨rfl, rfl, rfl, by decide +kernel, rfl, by decide +kernel, by decide +kernel⟩
theorem ok_Plan_parts {f : Addr} {fd : FuncData} (T : Tx K mg cl) (F : Fun K "parts" "Plan.parts" (mt 42 1) f fd) (hM : Meth K (He.ga K "Plan") "parts" f) (bd : Binds K fd ["self"] []) : MeansM P w K mg base cl 1 "Plan" "parts" ["self"] Sc.dn_Plan_parts :=
  meansM_mk (k := 0) (N := ["self"]) (mask := [false]) F sc_Plan_parts rfl T.c_Plan hM bd fun cdv A outer s H E hr =>
    have tk : Takes (cxOf (L2.CX P w) P w K mg base ["self"] "Plan.parts" (defScope (mt 42 1)) f cdv A outer s H E) (fun c d _ H => E c d H) := takes_of rfl rfl rfl rfl
    have po := passes_of (X := cxOf (L2.CX P w) P w K mg base ["self"] "Plan.parts" (defScope (mt 42 1)) f cdv A outer s H E) rfl
    (pssd_one (psd_ret (pd_callTy call_list_of od_list rfl T.n_list (by decide +kernel) (pas_cons (po_v (pd_fld T.c_Plan T.o_Plan T.a_Plan_own_parts (po_r 0 (pv 0)))) pas_nil))))
theorem sc_joints : FnScope ["plan", "found", "upper", "lower"] ["plan"] (defScope (top 34)) := ⟨rfl, rfl, rfl, by decide +kernel, rfl, by decide +kernel, by decide +kernel⟩
theorem ok_joints {f : Addr} {fd : FuncData} (T : Tx K mg cl) (F : Fun K "joints" "joints" (top 34) f fd) (gx : mg "joints" = some (.ref f)) (bd : Binds K fd ["plan"] []) (G_joints_with_floor : Means P w K mg base cl 3 "joints_with_floor" ["part"] Sc.dn_joints_with_floor) (G_joints_between : Means P w K mg base cl 3 "joints_between" ["lower", "upper"] Sc.dn_joints_between) (G_Plan_parts : MeansM P w K mg base cl 1 "Plan" "parts" ["self"] Sc.dn_Plan_parts) : Means P w K mg base cl 4 "joints" ["plan"] Sc.dn_joints :=
  means_mk (k := 3) (N := ["plan", "found", "upper", "lower"]) (mask := [false]) F sc_joints rfl gx bd fun cdv A outer s H E hr =>
    have tk : Takes (cxOf (L2.CX P w) P w K mg base ["plan", "found", "upper", "lower"] "joints" (defScope (top 34)) f cdv A outer s H E) (fun c d _ H => E c d H) := takes_of rfl rfl rfl rfl
    have po := passes_of (X := cxOf (L2.CX P w) P w K mg base ["plan", "found", "upper", "lower"] "joints" (defScope (top 34)) f cdv A outer s H E) rfl
    (pssd_cons (psd_asg (pd_lst pas_nil) (pgd_name (i := 1) sc_joints.nd rfl (Or.inl rfl)) gN_nx)
    (pssd_cons (psd_forI po rfl (pwk_seq (pd_methO0 G_Plan_parts T.c_Plan T.o_Plan (hr.mono (by decide)) tk (po_r 0 (pv 0)))) (pgd_name (i := 2) sc_joints.nd rfl (Or.inl rfl))
    (pssd_cons (psd_extend (pv 1) (pd_call G_joints_with_floor (hr.mono (by decide)) rfl tk (pas_cons (po_v (pd_var 2 (pv 2))) pas_nil)))
    (pssd_one (psd_forI po rfl (pwk_seq (pd_methO0 G_Plan_parts T.c_Plan T.o_Plan (hr.mono (by decide)) tk (po_r 0 (pv 0)))) (pgd_name (i := 3) sc_joints.nd rfl (Or.inl rfl))
    (pssd_one (psd_extend (pv 1) (pd_call G_joints_between (hr.mono (by decide)) rfl tk (pas_cons (po_v (pd_var 3 (pv 3))) (pas_cons (po_v (pd_var 2 (pv 2))) pas_nil))))) gN_nx))) gN_nx)
    (pssd_one (psd_ret (pd_callB (cr_sortD hr.units3) od_sorted rfl T.n_sorted (by decide +kernel) (pas_cons (po_r 1 (pv 1)) pas_nil))))))
theorem sc_Plan_names : FnScope ["self", "part"] ["self"] (defScope (mt 42 3)) := ⟨rfl, rfl, rfl, by decide +kernel, rfl, by decide +kernel, by decide +kernel⟩
theorem ok_Plan_names {f : Addr} {fd : FuncData} (T : Tx K mg cl) (F : Fun K "names" "Plan.names" (mt 42 3) f fd) (hM : Meth K (He.ga K "Plan") "names" f) (bd : Binds K fd ["self"] []) (G_name_of : Means P w K mg base cl 1 "name_of" ["part"] Sc.dn_name_of) : MeansM P w K mg base cl 2 "Plan" "names" ["self"] Sc.dn_Plan_names :=
  meansM_mk (k := 1) (N := ["self", "part"]) (mask := [false]) F sc_Plan_names rfl T.c_Plan hM bd fun cdv A outer s H E hr =>
    have tk : Takes (cxOf (L2.CX P w) P w K mg base ["self", "part"] "Plan.names" (defScope (mt 42 3)) f cdv A outer s H E) (fun c d _ H => E c d H) := takes_of rfl rfl rfl rfl
    have po := passes_of (X := cxOf (L2.CX P w) P w K mg base ["self", "part"] "Plan.names" (defScope (mt 42 3)) f cdv A outer s H E) rfl
    (pssd_one (psd_ret (pd_lc (own := [("part", 1)]) rfl sc_Plan_names.nd (pwk_seq (pd_fld T.c_Plan T.o_Plan T.a_Plan_own_parts (po_r 0 (pv 0)))) (blkOk_by (by kernel_rfl)) (fun _ _ _ _ _ => (pgv_name (i := 1) sc_Plan_names.nd rfl (by first | exact Or.inl rfl | exact Or.inr rfl) (by decide) (by first | exact Or.inl rfl | exact Or.inr rfl))) (fun _ _ _ _ _ => ptsd_nil) (fun _ _ _ _ _ => (pd_call G_name_of (hr.mono (by decide)) rfl (takesF _) (pas_cons (po_v (pd_var 1 (pv 1))) pas_nil))) (by intro _ _ h; first | (cases h; done) | (cases h; decide)))))
theorem sc_loose : FnScope ["plan", "borne", "joint", "name"] ["plan"] (defScope (top 35)) := ⟨rfl, rfl, rfl, by decide +kernel, rfl, by decide +kernel, by decide +kernel⟩
theorem ok_loose {f : Addr} {fd : FuncData} (T : Tx K mg cl) (F : Fun K "loose" "loose" (top 35) f fd) (gx : mg "loose" = some (.ref f)) (bd : Binds K fd ["plan"] []) (G_joints : Means P w K mg base cl 4 "joints" ["plan"] Sc.dn_joints) (G_Plan_names : MeansM P w K mg base cl 2 "Plan" "names" ["self"] Sc.dn_Plan_names) : Means P w K mg base cl 5 "loose" ["plan"] Sc.dn_loose :=
  means_mk (k := 4) (N := ["plan", "borne", "joint", "name"]) (mask := [false]) F sc_loose rfl gx bd fun cdv A outer s H E hr =>
    have tk : Takes (cxOf (L2.CX P w) P w K mg base ["plan", "borne", "joint", "name"] "loose" (defScope (top 35)) f cdv A outer s H E) (fun c d _ H => E c d H) := takes_of rfl rfl rfl rfl
    have po := passes_of (X := cxOf (L2.CX P w) P w K mg base ["plan", "borne", "joint", "name"] "loose" (defScope (top 35)) f cdv A outer s H E) rfl
    (pssd_cons (psd_asg (pd_lc (own := [("joint", 2)]) rfl sc_loose.nd (pwk_seq (pd_call G_joints (hr.mono (by decide)) rfl tk (pas_cons (po_v (pd_var 0 (pv 0))) pas_nil))) (blkOk_by (by kernel_rfl)) (fun _ _ _ _ _ => (pgv_name (i := 2) sc_loose.nd rfl (by first | exact Or.inl rfl | exact Or.inr rfl) (by decide) (by first | exact Or.inl rfl | exact Or.inr rfl))) (fun _ _ _ _ _ => ptsd_nil) (fun _ _ _ _ _ => (pd_ix ix_X od_ix (po_r 2 (pv 2)) (po_v pd_int) (fun _ _ => rfl))) (by intro _ _ h; first | (cases h; done) | (cases h; decide))) (pgd_name (i := 1) sc_loose.nd rfl (Or.inr rfl)) gN_nx)
    (pssd_one (psd_ret (pd_callB (cr_sortD hr.units3) od_sorted rfl T.n_sorted (by decide +kernel) (pas_cons (po_v (pd_lc (own := [("name", 3)]) rfl sc_loose.nd (pwk_seq (pd_methO0 G_Plan_names T.c_Plan T.o_Plan (hr.mono (by decide)) tk (po_r 0 (pv 0)))) (blkOk_by (by kernel_rfl)) (fun _ _ _ _ _ => (pgv_name (i := 3) sc_loose.nd rfl (by first | exact Or.inl rfl | exact Or.inr rfl) (by decide) (by first | exact Or.inl rfl | exact Or.inr rfl))) (fun _ _ _ _ _ => (ptsd_one (ptd_cmp (op_notInX hr.units1) od_notIn (po_r 3 (pv 3)) (po_r 1 (pv 1)) (by with_unfolding_all rfl)))) (fun _ _ _ _ _ => (pd_var 3 (pv 3))) (by intro _ _ h; first | (cases h; done) | (cases h; decide)))) pas_nil)))))
theorem sc_Plan_part : FnScope ["self", "name"] ["self", "name"] (defScope (mt 42 4)) := ⟨rfl, rfl, rfl, by decide +kernel, rfl, by decide +kernel, by decide +kernel⟩
theorem ok_Plan_part {f : Addr} {fd : FuncData} (T : Tx K mg cl) (F : Fun K "part" "Plan.part" (mt 42 4) f fd) (hM : Meth K (He.ga K "Plan") "part" f) (bd : Binds K fd ["self", "name"] []) : MeansM P w K mg base cl 1 "Plan" "part" ["self", "name"] Sc.dn_Plan_part :=
  meansM_mk (k := 0) (N := ["self", "name"]) (mask := [false, false]) F sc_Plan_part rfl T.c_Plan hM bd fun cdv A outer s H E hr =>
    have tk : Takes (cxOf (L2.CX P w) P w K mg base ["self", "name"] "Plan.part" (defScope (mt 42 4)) f cdv A outer s H E) (fun c d _ H => E c d H) := takes_of rfl rfl rfl rfl
    have po := passes_of (X := cxOf (L2.CX P w) P w K mg base ["self", "name"] "Plan.part" (defScope (mt 42 4)) f cdv A outer s H E) rfl
    (pssd_cons (psd_if (ptd_of (pwd_or (ptd_not (ptd_val (pd_isi .str rfl T.n_isinstance (po_r 1 (pv 1)) (pe_bltn rfl T.n_str (by decide +kernel) rfl)))) (pwd_or1 (ptd_cmp (op_notInX hr.units1) od_notIn (po_r 1 (pv 1)) (po_v (pd_fld T.c_Plan T.o_Plan T.a_Plan_by_name (po_r 0 (pv 0)))) (by with_unfolding_all rfl)))))
    (pssd_one (psd_raise rfl tk T.c_NoName T.g_NoName T.e_NoName rfl))
    pssd_nil)
    (pssd_one (psd_ret (pd_ix (ix_Y hr.units2) od_ixX (po_v (pd_fld T.c_Plan T.o_Plan T.a_Plan_by_name (po_r 0 (pv 0)))) (po_r 1 (pv 1)) (fun _ _ => rfl)))))
theorem sc_rests_on : FnScope ["plan", "name", "told", "found", "left", "upper", "joint"] ["plan", "name"] (defScope (top 36)) := ⟨rfl, rfl, rfl, by decide +kernel, rfl, by decide +kernel, by decide +kernel⟩
theorem ok_rests_on {f : Addr} {fd : FuncData} (T : Tx K mg cl) (F : Fun K "rests_on" "rests_on" (top 36) f fd) (gx : mg "rests_on" = some (.ref f)) (bd : Binds K fd ["plan", "name"] []) (G_Plan_part : MeansM P w K mg base cl 1 "Plan" "part" ["self", "name"] Sc.dn_Plan_part) (G_joints : Means P w K mg base cl 4 "joints" ["plan"] Sc.dn_joints) : Means P w K mg base cl 5 "rests_on" ["plan", "name"] Sc.dn_rests_on :=
  means_mk (k := 4) (N := ["plan", "name", "told", "found", "left", "upper", "joint"]) (mask := [false, false]) F sc_rests_on rfl gx bd fun cdv A outer s H E hr =>
    have tk : Takes (cxOf (L2.CX P w) P w K mg base ["plan", "name", "told", "found", "left", "upper", "joint"] "rests_on" (defScope (top 36)) f cdv A outer s H E) (fun c d _ H => E c d H) := takes_of rfl rfl rfl rfl
    have po := passes_of (X := cxOf (L2.CX P w) P w K mg base ["plan", "name", "told", "found", "left", "upper", "joint"] "rests_on" (defScope (top 36)) f cdv A outer s H E) rfl
    (pssd_cons (psd_expr (pd_methO G_Plan_part T.c_Plan T.o_Plan (hr.mono (by decide)) tk (po_r 0 (pv 0)) (pas_cons (po_v (pd_var 1 (pv 1))) pas_nil)))
    (pssd_cons (psd_asg (pd_call G_joints (hr.mono (by decide)) rfl tk (pas_cons (po_v (pd_var 0 (pv 0))) pas_nil)) (pgd_name (i := 2) sc_rests_on.nd rfl (Or.inl rfl)) gN_nx)
    (pssd_cons (psd_asg (pd_lst pas_nil) (pgd_name (i := 3) sc_rests_on.nd rfl (Or.inl rfl)) gN_nx)
    (pssd_cons (psd_asg (pd_lst (pas_cons (po_v (pd_var 1 (pv 1))) pas_nil)) (pgd_name (i := 4) sc_rests_on.nd rfl (Or.inl rfl)) gN_nx)
    (pssd_cons (psd_while po (ptd_cmp (op_neX hr.units) od_neX (po_r 4 (pv 4)) (po_v (pd_lst pas_nil)) (nomark _))
    (pssd_cons (psd_asg (pd_pop (pv 4)) (pgd_name (i := 5) sc_rests_on.nd rfl (Or.inl rfl)) gN_nx)
    (pssd_one (psd_forI po rfl (pwk_seq (pd_var 2 (pv 2))) (pgd_name (i := 6) sc_rests_on.nd rfl (Or.inl rfl))
    (pssd_one (psd_if (ptd_of (pwd_and (ptd_cmp (op_eqX hr.units) od_eqX (po_v (pd_ix ix_X od_ix (po_r 6 (pv 6)) (po_v pd_int) (fun _ _ => rfl))) (po_r 5 (pv 5)) (nomark _)) (pwd_and (ptd_cmp (op_neX hr.units) od_neX (po_v (pd_ix ix_X od_ix (po_r 6 (pv 6)) (po_v pd_int) (fun _ _ => rfl))) (po_v (pd_con rfl T.k_FLOOR)) (nomark _)) (pwd_and1 (ptd_cmp (op_notInX hr.units1) od_notIn (po_v (pd_ix ix_X od_ix (po_r 6 (pv 6)) (po_v pd_int) (fun _ _ => rfl))) (po_r 3 (pv 3)) (by with_unfolding_all rfl))))))
    (pssd_cons (psd_append (pv 3) (pd_ix ix_X od_ix (po_r 6 (pv 6)) (po_v pd_int) (fun _ _ => rfl)))
    (pssd_one (psd_append (pv 4) (pd_ix ix_X od_ix (po_r 6 (pv 6)) (po_v pd_int) (fun _ _ => rfl)))))
    pssd_nil)) gN_nx))))
    (pssd_one (psd_ret (pd_callB (cr_sortD hr.units3) od_sorted rfl T.n_sorted (by decide +kernel) (pas_cons (po_r 3 (pv 3)) pas_nil)))))))))
theorem sc_is_floor : FnScope ["thing"] ["thing"] (defScope (top 38)) := ⟨rfl, rfl, rfl, by decide +kernel, rfl, by decide +kernel, by decide +kernel⟩
theorem ok_is_floor {f : Addr} {fd : FuncData} (T : Tx K mg cl) (F : Fun K "is_floor" "is_floor" (top 38) f fd) (gx : mg "is_floor" = some (.ref f)) (bd : Binds K fd ["thing"] []) (G_is_fraction : Means P w K mg base cl 2 "is_fraction" ["thing"] Sc.dn_is_fraction) (G_is_less : Means P w K mg base cl 1 "is_less" ["one", "other"] Sc.dn_is_less) : Means P w K mg base cl 3 "is_floor" ["thing"] Sc.dn_is_floor :=
  means_mk (k := 2) (N := ["thing"]) (mask := [false]) F sc_is_floor rfl gx bd fun cdv A outer s H E hr =>
    have tk : Takes (cxOf (L2.CX P w) P w K mg base ["thing"] "is_floor" (defScope (top 38)) f cdv A outer s H E) (fun c d _ H => E c d H) := takes_of rfl rfl rfl rfl
    have po := passes_of (X := cxOf (L2.CX P w) P w K mg base ["thing"] "is_floor" (defScope (top 38)) f cdv A outer s H E) rfl
    (pssd_one (psd_ret (pd_and (pd_call G_is_fraction (hr.mono (by decide)) rfl tk (pas_cons (po_v (pd_var 0 (pv 0))) pas_nil)) (pd_one (pd_not (pd_call G_is_less (hr.mono (by decide)) rfl tk (pas_cons (po_v (pd_var 0 (pv 0))) (pas_cons (po_v (pd_con rfl T.k_NOUGHT)) pas_nil))))))))
theorem sc_want_parts : FnScope ["parts", "names", "k", "part"] ["parts"] (defScope (top 39)) := ⟨rfl, rfl, rfl, by decide +kernel, rfl, by decide +kernel, by decide +kernel⟩
theorem ok_want_parts {f : Addr} {fd : FuncData} (T : Tx K mg cl) (F : Fun K "want_parts" "want_parts" (top 39) f fd) (gx : mg "want_parts" = some (.ref f)) (bd : Binds K fd ["parts"] []) (G_is_part : Means P w K mg base cl 5 "is_part" ["thing"] Sc.dn_is_part) (G_name_of : Means P w K mg base cl 1 "name_of" ["part"] Sc.dn_name_of) (G_NoPart : MeansX P w K mg base cl "NoPart" ["number"] .n) : Means P w K mg base cl 6 "want_parts" ["parts"] Sc.dn_want_parts :=
  means_mk (k := 5) (N := ["parts", "names", "k", "part"]) (mask := [false]) F sc_want_parts rfl gx bd fun cdv A outer s H E hr =>
    have tk : Takes (cxOf (L2.CX P w) P w K mg base ["parts", "names", "k", "part"] "want_parts" (defScope (top 39)) f cdv A outer s H E) (fun c d _ H => E c d H) := takes_of rfl rfl rfl rfl
    have po := passes_of (X := cxOf (L2.CX P w) P w K mg base ["parts", "names", "k", "part"] "want_parts" (defScope (top 39)) f cdv A outer s H E) rfl
    (pssd_cons (psd_asg pd_newK (pgd_name (i := 1) sc_want_parts.nd rfl (Or.inl rfl)) gN_nx)
    (pssd_one (psd_forI po rfl (pwk_enumX rfl T.n_enumerate (pd_var 0 (pv 0))) (pgd_tup rfl (pgsd_cons (W := fun _ _ _ _ => False) (pgd_name (i := 2) sc_want_parts.nd rfl (Or.inl rfl)) (pgsd_cons (W := fun _ _ _ _ => False) (pgd_name (i := 3) sc_want_parts.nd rfl (Or.inl rfl)) pgsd_nil)))
    (pssd_cons (psd_if (ptd_of (pwd_or (ptd_not (ptd_val (pd_call G_is_part (hr.mono (by decide)) rfl tk (pas_cons (po_v (pd_var 3 (pv 3))) pas_nil)))) (pwd_or1 (ptd_cmp (op_inX hr.units1) od_in (po_v (pd_call G_name_of (hr.mono (by decide)) rfl tk (pas_cons (po_v (pd_var 3 (pv 3))) pas_nil))) (po_r 1 (pv 1)) (by with_unfolding_all rfl)))))
    (pssd_one (psd_raiseX G_NoPart (hr.mono (by decide)) rfl tk rfl (pas_cons (po_v (pd_var 2 (pv 2))) pas_nil)))
    pssd_nil)
    (pssd_one (psd_asg pd_bl (pgd_setX hr.units2 (pv 1) (po_v (pd_call G_name_of (hr.mono (by decide)) rfl tk (pas_cons (po_v (pd_var 3 (pv 3))) pas_nil)))) gSetX_nx))) gTup_nx)))
theorem sc_do_clash : FnScope ["one", "other", "some", "place"] ["one", "other"] (defScope (top 40)) := ⟨rfl, rfl, rfl, by decide +kernel, rfl, by decide +kernel, by decide +kernel⟩
theorem ok_do_clash {f : Addr} {fd : FuncData} (T : Tx K mg cl) (F : Fun K "do_clash" "do_clash" (top 40) f fd) (gx : mg "do_clash" = some (.ref f)) (bd : Binds K fd ["one", "other"] []) (G_bottom_of : Means P w K mg base cl 2 "bottom_of" ["part"] Sc.dn_bottom_of) (G_top_of : Means P w K mg base cl 2 "top_of" ["part"] Sc.dn_top_of) (G_places_of : Means P w K mg base cl 2 "places_of" ["part"] Sc.dn_places_of) : Means P w K mg base cl 3 "do_clash" ["one", "other"] Sc.dn_do_clash :=
  means_mk (k := 2) (N := ["one", "other", "some", "place"]) (mask := [false, false]) F sc_do_clash rfl gx bd fun cdv A outer s H E hr =>
    have tk : Takes (cxOf (L2.CX P w) P w K mg base ["one", "other", "some", "place"] "do_clash" (defScope (top 40)) f cdv A outer s H E) (fun c d _ H => E c d H) := takes_of rfl rfl rfl rfl
    have po := passes_of (X := cxOf (L2.CX P w) P w K mg base ["one", "other", "some", "place"] "do_clash" (defScope (top 40)) f cdv A outer s H E) rfl
    (pssd_cons (psd_if (ptd_of (pwd_or (ptd_cmp op_ge od_ge (po_v (pd_call G_bottom_of (hr.mono (by decide)) rfl tk (pas_cons (po_v (pd_var 0 (pv 0))) pas_nil))) (po_v (pd_call G_top_of (hr.mono (by decide)) rfl tk (pas_cons (po_v (pd_var 1 (pv 1))) pas_nil))) (nomark _)) (pwd_or1 (ptd_cmp op_ge od_ge (po_v (pd_call G_bottom_of (hr.mono (by decide)) rfl tk (pas_cons (po_v (pd_var 1 (pv 1))) pas_nil))) (po_v (pd_call G_top_of (hr.mono (by decide)) rfl tk (pas_cons (po_v (pd_var 0 (pv 0))) pas_nil))) (nomark _)))))
    (pssd_one (psd_ret pd_bl))
    pssd_nil)
    (pssd_cons (psd_asg (pd_call G_places_of (hr.mono (by decide)) rfl tk (pas_cons (po_v (pd_var 1 (pv 1))) pas_nil)) (pgd_name (i := 2) sc_do_clash.nd rfl (Or.inr rfl)) gN_nx)
    (pssd_one (psd_ret (pd_callB (cr_any rfl) od_any rfl T.n_any (by decide +kernel) (pas_cons (po_v (pd_lc (own := [("place", 3)]) rfl sc_do_clash.nd (pwk_seq (pd_call G_places_of (hr.mono (by decide)) rfl tk (pas_cons (po_v (pd_var 0 (pv 0))) pas_nil))) (blkOk_by (by kernel_rfl)) (fun _ _ _ _ _ => (pgv_name (i := 3) sc_do_clash.nd rfl (by first | exact Or.inl rfl | exact Or.inr rfl) (by decide) (by first | exact Or.inl rfl | exact Or.inr rfl))) (fun _ _ _ _ _ => ptsd_nil) (fun _ _ _ _ _ => (pd_cmp (op_inX hr.units1) od_in (po_r 3 (pv 3)) (po_r 2 (pv 2)) (by with_unfolding_all rfl))) (by intro _ _ h; first | (cases h; done) | (cases h; decide)))) pas_nil))))))
theorem sc_want_room : FnScope ["parts", "i", "one", "other"] ["parts"] (defScope (top 41)) := ⟨rfl, rfl, rfl, by decide +kernel, rfl, by decide +kernel, by decide +kernel⟩
theorem ok_want_room {f : Addr} {fd : FuncData} (T : Tx K mg cl) (F : Fun K "want_room" "want_room" (top 41) f fd) (gx : mg "want_room" = some (.ref f)) (bd : Binds K fd ["parts"] []) (G_do_clash : Means P w K mg base cl 3 "do_clash" ["one", "other"] Sc.dn_do_clash) (G_name_of : Means P w K mg base cl 1 "name_of" ["part"] Sc.dn_name_of) (G_Clash : MeansX P w K mg base cl "Clash" ["one", "other"] .t) : Means P w K mg base cl 4 "want_room" ["parts"] Sc.dn_want_room :=
  means_mk (k := 3) (N := ["parts", "i", "one", "other"]) (mask := [false]) F sc_want_room rfl gx bd fun cdv A outer s H E hr =>
    have tk : Takes (cxOf (L2.CX P w) P w K mg base ["parts", "i", "one", "other"] "want_room" (defScope (top 41)) f cdv A outer s H E) (fun c d _ H => E c d H) := takes_of rfl rfl rfl rfl
    have po := passes_of (X := cxOf (L2.CX P w) P w K mg base ["parts", "i", "one", "other"] "want_room" (defScope (top 41)) f cdv A outer s H E) rfl
    (pssd_one (psd_forI po rfl (pwk_enumX rfl T.n_enumerate (pd_var 0 (pv 0))) (pgd_tup rfl (pgsd_cons (W := fun _ _ _ _ => False) (pgd_name (i := 1) sc_want_room.nd rfl (Or.inl rfl)) (pgsd_cons (W := fun _ _ _ _ => False) (pgd_name (i := 2) sc_want_room.nd rfl (Or.inl rfl)) pgsd_nil)))
    (pssd_one (psd_forI po rfl (pwk_seq (pd_slice sl_X sd_X (po_r 0 (pv 0)) (pid_some (po_v (pd_bin op_addX od_add (po_r 1 (pv 1)) (po_v pd_int)))) pid_none)) (pgd_name (i := 3) sc_want_room.nd rfl (Or.inl rfl))
    (pssd_one (psd_if (ptd_val (pd_call G_do_clash (hr.mono (by decide)) rfl tk (pas_cons (po_v (pd_var 2 (pv 2))) (pas_cons (po_v (pd_var 3 (pv 3))) pas_nil))))
    (pssd_one (psd_raiseX G_Clash (hr.mono (by decide)) rfl tk rfl (pas_cons (po_v (pd_call G_name_of (hr.mono (by decide)) rfl tk (pas_cons (po_v (pd_var 2 (pv 2))) pas_nil))) (pas_cons (po_v (pd_call G_name_of (hr.mono (by decide)) rfl tk (pas_cons (po_v (pd_var 3 (pv 3))) pas_nil))) pas_nil))))
    pssd_nil)) gN_nx)) gTup_nx))
theorem sc_Plan___init__ : FnScope ["self", "parts", "floor", "part"] ["self", "parts", "floor"] (defScope (mt 42 0)) := ⟨rfl, rfl, rfl, by decide +kernel, rfl, by decide +kernel, by decide +kernel⟩
theorem ok_Plan___init__ {f : Addr} {fd : FuncData} (T : Tx K mg cl) (F : Fun K "__init__" "Plan.__init__" (mt 42 0) f fd) (hM : Mk K (He.ga K "Plan") f) (bd : Binds K fd ["self", "parts", "floor"] []) (G_is_floor : Means P w K mg base cl 3 "is_floor" ["thing"] Sc.dn_is_floor) (G_want_parts : Means P w K mg base cl 6 "want_parts" ["parts"] Sc.dn_want_parts) (G_want_room : Means P w K mg base cl 4 "want_room" ["parts"] Sc.dn_want_room) (G_name_of : Means P w K mg base cl 1 "name_of" ["part"] Sc.dn_name_of) (G_NoPart : MeansX P w K mg base cl "NoPart" ["number"] .n) : MeansC P w K mg base cl 7 "Plan" ["self", "parts", "floor"] Sc.dn_Plan___init__ :=
  meansC_mk (k := 6) (N := ["self", "parts", "floor", "part"]) (mask := [true, false, false]) F sc_Plan___init__ rfl T.c_Plan T.g_Plan hM bd fun cdv A outer s H E hr =>
    have tk : Takes (cxOf (L2.CX P w) P w K mg base ["self", "parts", "floor", "part"] "Plan.__init__" (defScope (mt 42 0)) f cdv A outer s H E) (fun c d _ H => E c d H) := takes_of rfl rfl rfl rfl
    have po := passes_of (X := cxOf (L2.CX P w) P w K mg base ["self", "parts", "floor", "part"] "Plan.__init__" (defScope (mt 42 0)) f cdv A outer s H E) rfl
    (pssd_cons (psd_if (ptd_not (ptd_val (pd_call G_is_floor (hr.mono (by decide)) rfl tk (pas_cons (po_v (pd_var 2 (pv 2))) pas_nil))))
    (pssd_one (psd_raiseX G_NoPart (hr.mono (by decide)) rfl tk rfl (pas_cons (po_v (pd_un un_neg od_neg (po_v pd_int))) pas_nil)))
    pssd_nil)
    (pssd_cons (psd_expr (pd_call G_want_parts (hr.mono (by decide)) rfl tk (pas_cons (po_v (pd_var 1 (pv 1))) pas_nil)))
    (pssd_cons (psd_expr (pd_call G_want_room (hr.mono (by decide)) rfl tk (pas_cons (po_v (pd_var 1 (pv 1))) pas_nil)))
    (pssd_cons (psd_fldW T.c_Plan T.o_Plan T.a_Plan_own_parts (pv 0) (pd_callTy call_list_of od_list rfl T.n_list (by decide +kernel) (pas_cons (po_r 1 (pv 1)) pas_nil)))
    (pssd_cons (psd_fldW T.c_Plan T.o_Plan T.a_Plan_own_floor (pv 0) (pd_var 2 (pv 2)))
    (pssd_cons (psd_fldW T.c_Plan T.o_Plan T.a_Plan_by_name (pv 0) pd_newK)
    (pssd_one (psd_forI po rfl (pwk_seq (pd_var 1 (pv 1))) (pgd_name (i := 3) sc_Plan___init__.nd rfl (Or.inl rfl))
    (pssd_one (psd_fldD hr.units2 T.c_Plan T.o_Plan T.a_Plan_by_name (pv 0) (pd_call G_name_of (hr.mono (by decide)) rfl tk (pas_cons (po_v (pd_var 3 (pv 3))) pas_nil)) (pd_var 3 (pv 3)))) gN_nx))))))))
theorem sc_Plan_floor : FnScope ["self"] ["self"] (defScope (mt 42 2)) := ⟨rfl, rfl, rfl, by decide +kernel, rfl, by decide +kernel, by decide +kernel⟩
theorem ok_Plan_floor {f : Addr} {fd : FuncData} (T : Tx K mg cl) (F : Fun K "floor" "Plan.floor" (mt 42 2) f fd) (hM : Meth K (He.ga K "Plan") "floor" f) (bd : Binds K fd ["self"] []) : MeansM P w K mg base cl 1 "Plan" "floor" ["self"] Sc.dn_Plan_floor :=
  meansM_mk (k := 0) (N := ["self"]) (mask := [false]) F sc_Plan_floor rfl T.c_Plan hM bd fun cdv A outer s H E hr =>
    have tk : Takes (cxOf (L2.CX P w) P w K mg base ["self"] "Plan.floor" (defScope (mt 42 2)) f cdv A outer s H E) (fun c d _ H => E c d H) := takes_of rfl rfl rfl rfl
    have po := passes_of (X := cxOf (L2.CX P w) P w K mg base ["self"] "Plan.floor" (defScope (mt 42 2)) f cdv A outer s H E) rfl
    (pssd_one (psd_ret (pd_fld T.c_Plan T.o_Plan T.a_Plan_own_floor (po_r 0 (pv 0)))))
theorem sc__law_at : FnScope ["_law_script", "_law_k"] ["_law_script", "_law_k"] (defScope (top 44)) := ⟨rfl, rfl, rfl, by decide +kernel, rfl, by decide +kernel, by decide +kernel⟩
theorem ok__law_at {f : Addr} {fd : FuncData} (T : Tx K mg cl) (F : Fun K "_law_at" "_law_at" (top 44) f fd) (gx : mg "_law_at" = some (.ref f)) (bd : Binds K fd ["_law_script", "_law_k"] []) : Means P w K mg base cl 1 "_law_at" ["_law_script", "_law_k"] Sc.dn__law_at :=
  means_mk (k := 0) (N := ["_law_script", "_law_k"]) (mask := [false, false]) F sc__law_at rfl gx bd fun cdv A outer s H E hr =>
    have tk : Takes (cxOf (L2.CX P w) P w K mg base ["_law_script", "_law_k"] "_law_at" (defScope (top 44)) f cdv A outer s H E) (fun c d _ H => E c d H) := takes_of rfl rfl rfl rfl
    have po := passes_of (X := cxOf (L2.CX P w) P w K mg base ["_law_script", "_law_k"] "_law_at" (defScope (top 44)) f cdv A outer s H E) rfl
    (pssd_one (psd_ret (pd_ife (ptd_cmp op_lt od_lt (po_r 1 (pv 1)) (po_v (pd_callB call_len od_len rfl T.n_len (by decide +kernel) (pas_cons (po_r 0 (pv 0)) pas_nil))) (nomark _)) (pd_ix ix_X od_ix (po_r 0 (pv 0)) (po_r 1 (pv 1)) (fun _ _ => rfl)) pd_int)))
theorem sc__law_purse : FnScope ["_law_cell"] ["_law_cell"] (defScope (top 45)) := ⟨rfl, rfl, rfl, by decide +kernel, rfl, by decide +kernel, by decide +kernel⟩
theorem ok__law_purse {f : Addr} {fd : FuncData} (T : Tx K mg cl) (F : Fun K "_law_purse" "_law_purse" (top 45) f fd) (gx : mg "_law_purse" = some (.ref f)) (bd : Binds K fd ["_law_cell"] []) : Means P w K mg base cl 1 "_law_purse" ["_law_cell"] Sc.dn__law_purse :=
  means_mk (k := 0) (N := ["_law_cell"]) (mask := [false]) F sc__law_purse rfl gx bd fun cdv A outer s H E hr =>
    have tk : Takes (cxOf (L2.CX P w) P w K mg base ["_law_cell"] "_law_purse" (defScope (top 45)) f cdv A outer s H E) (fun c d _ H => E c d H) := takes_of rfl rfl rfl rfl
    have po := passes_of (X := cxOf (L2.CX P w) P w K mg base ["_law_cell"] "_law_purse" (defScope (top 45)) f cdv A outer s H E) rfl
    (pssd_one (psd_ret (pd_lst (pas_cons (po_v (pd_callB (call_max2 rfl) od_max2 rfl T.n_max (by decide +kernel) (pas_cons (po_v pd_int) (pas_cons (po_v (pd_bin op_sub od_sub (po_v (pd_callB call_abs od_abs rfl T.n_abs (by decide +kernel) (pas_cons (po_r 0 (pv 0)) pas_nil))) (po_v (pd_bin op_pow od_pow (po_v pd_int) (po_v pd_int))))) pas_nil)))) (pas_cons (po_v (pd_bin op_addX od_add (po_v (pd_bin op_modN od_mod (po_v (pd_callB call_abs od_abs rfl T.n_abs (by decide +kernel) (pas_cons (po_r 0 (pv 0)) pas_nil))) (po_v pd_int))) (po_v pd_int))) pas_nil)))))
theorem sc__law_take : FnScope ["_law_purse_here", "_law_many", "_law_number"] ["_law_purse_here", "_law_many"] (defScope (top 46)) := ⟨rfl, rfl, rfl, by decide +kernel, rfl, by decide +kernel, by decide +kernel⟩
theorem ok__law_take {f : Addr} {fd : FuncData} (T : Tx K mg cl) (F : Fun K "_law_take" "_law_take" (top 46) f fd) (gx : mg "_law_take" = some (.ref f)) (bd : Binds K fd ["_law_purse_here", "_law_many"] []) : Means P w K mg base cl 1 "_law_take" ["_law_purse_here", "_law_many"] Sc.dn__law_take :=
  means_mk (k := 0) (N := ["_law_purse_here", "_law_many", "_law_number"]) (mask := [true, false]) F sc__law_take rfl gx bd fun cdv A outer s H E hr =>
    have tk : Takes (cxOf (L2.CX P w) P w K mg base ["_law_purse_here", "_law_many", "_law_number"] "_law_take" (defScope (top 46)) f cdv A outer s H E) (fun c d _ H => E c d H) := takes_of rfl rfl rfl rfl
    have po := passes_of (X := cxOf (L2.CX P w) P w K mg base ["_law_purse_here", "_law_many", "_law_number"] "_law_take" (defScope (top 46)) f cdv A outer s H E) rfl
    (pssd_cons (psd_if (ptd_cmp op_gt od_gt (po_v (pd_ix ix_X od_ix (po_r 0 (pv 0)) (po_v pd_int) (fun _ _ => rfl))) (po_v pd_int) (nomark _))
    (pssd_cons (psd_asg (pd_ix ix_X od_ix (po_r 0 (pv 0)) (po_v pd_int) (fun _ _ => rfl)) (pgd_name (i := 2) sc__law_take.nd rfl (Or.inl rfl)) gN_nx)
    (pssd_cons (psd_asg (pd_bin op_fdivX od_fdiv (po_r 2 (pv 2)) (po_r 1 (pv 1))) (pgd_set (pv 0) (po_v pd_int)) gSet_nx)
    (pssd_one (psd_ret (pd_bin op_modN od_mod (po_r 2 (pv 2)) (po_r 1 (pv 1)))))))
    pssd_nil)
    (pssd_cons (psd_asg (pd_bin op_modN od_mod (po_v (pd_bin op_addX od_add (po_v (pd_bin op_mulY od_mulX (po_v (pd_ix ix_X od_ix (po_r 0 (pv 0)) (po_v pd_int) (fun _ _ => rfl))) (po_v pd_int))) (po_v pd_int))) (po_v pd_int)) (pgd_set (pv 0) (po_v pd_int)) gSet_nx)
    (pssd_cons (psd_asg (pd_bin op_modN od_mod (po_v (pd_bin op_mulY od_mulX (po_v (pd_ix ix_X od_ix (po_r 0 (pv 0)) (po_v pd_int) (fun _ _ => rfl))) (po_v (pd_ix ix_X od_ix (po_r 0 (pv 0)) (po_v pd_int) (fun _ _ => rfl))))) (po_v pd_int)) (pgd_name (i := 2) sc__law_take.nd rfl (Or.inl rfl)) gN_nx)
    (pssd_one (psd_ret (pd_bin op_modN od_mod (po_v (pd_bin op_fdivX od_fdiv (po_r 2 (pv 2)) (po_v pd_int))) (po_r 1 (pv 1))))))))
theorem sc__law_fraction : FnScope ["_law_purse_here", "_law_least", "_law_way", "_law_top_here", "_law_bottom_here", "_law_one", "_law_other"] ["_law_purse_here", "_law_least"] (defScope (top 47)) := ⟨rfl, rfl, rfl, by decide +kernel, rfl, by decide +kernel, by decide +kernel⟩
theorem ok__law_fraction {f : Addr} {fd : FuncData} (T : Tx K mg cl) (F : Fun K "_law_fraction" "_law_fraction" (top 47) f fd) (gx : mg "_law_fraction" = some (.ref f)) (bd : Binds K fd ["_law_purse_here", "_law_least"] []) (G__law_take : Means P w K mg base cl 1 "_law_take" ["_law_purse_here", "_law_many"] Sc.dn__law_take) : Means P w K mg base cl 2 "_law_fraction" ["_law_purse_here", "_law_least"] Sc.dn__law_fraction :=
  means_mk (k := 1) (N := ["_law_purse_here", "_law_least", "_law_way", "_law_top_here", "_law_bottom_here", "_law_one", "_law_other"]) (mask := [true, false]) F sc__law_fraction rfl gx bd fun cdv A outer s H E hr =>
    have tk : Takes (cxOf (L2.CX P w) P w K mg base ["_law_purse_here", "_law_least", "_law_way", "_law_top_here", "_law_bottom_here", "_law_one", "_law_other"] "_law_fraction" (defScope (top 47)) f cdv A outer s H E) (fun c d _ H => E c d H) := takes_of rfl rfl rfl rfl
    have po := passes_of (X := cxOf (L2.CX P w) P w K mg base ["_law_purse_here", "_law_least", "_law_way", "_law_top_here", "_law_bottom_here", "_law_one", "_law_other"] "_law_fraction" (defScope (top 47)) f cdv A outer s H E) rfl
    (pssd_cons (psd_asg (pd_call G__law_take (hr.mono (by decide)) rfl tk (pas_cons (po_r 0 (pv 0)) (pas_cons (po_v pd_int) pas_nil))) (pgd_name (i := 2) sc__law_fraction.nd rfl (Or.inl rfl)) gN_nx)
    (pssd_cons (psd_asg (pd_bin op_addX od_add (po_r 1 (pv 1)) (po_v (pd_call G__law_take (hr.mono (by decide)) rfl tk (pas_cons (po_r 0 (pv 0)) (pas_cons (po_v (pd_ix ix_X od_ix (po_v (pd_lst (pas_cons (po_v pd_int) (pas_cons (po_v pd_int) (pas_cons (po_v pd_int) (pas_cons (po_v (pd_bin op_sub od_sub (po_v (pd_bin op_pow od_pow (po_v pd_int) (po_v pd_int))) (po_v pd_int))) (pas_cons (po_v pd_int) (pas_cons (po_v pd_int) pas_nil)))))))) (po_r 2 (pv 2)) (fun _ _ => rfl))) pas_nil))))) (pgd_name (i := 3) sc__law_fraction.nd rfl (Or.inl rfl)) gN_nx)
    (pssd_cons (psd_asg (pd_bin op_addX od_add (po_v pd_int) (po_v (pd_call G__law_take (hr.mono (by decide)) rfl tk (pas_cons (po_r 0 (pv 0)) (pas_cons (po_v (pd_ix ix_X od_ix (po_v (pd_lst (pas_cons (po_v pd_int) (pas_cons (po_v pd_int) (pas_cons (po_v pd_int) (pas_cons (po_v (pd_bin op_sub od_sub (po_v (pd_bin op_pow od_pow (po_v pd_int) (po_v pd_int))) (po_v pd_int))) (pas_cons (po_v pd_int) (pas_cons (po_v pd_int) pas_nil)))))))) (po_r 2 (pv 2)) (fun _ _ => rfl))) pas_nil))))) (pgd_name (i := 4) sc__law_fraction.nd rfl (Or.inl rfl)) gN_nx)
    (pssd_cons (psd_par (i := 5) (j := 6) rfl sc__law_fraction.nd rfl rfl (by decide) rfl rfl (pas_cons (po_v (pd_var 3 (pv 3))) (pas_cons (po_v (pd_var 4 (pv 4))) pas_nil)) rfl rfl (by rfl))
    (pssd_cons (psd_while po (ptd_cmp op_gt od_gt (po_r 6 (pv 6)) (po_v pd_int) (nomark _))
    (pssd_one (psd_par (i := 5) (j := 6) rfl sc__law_fraction.nd rfl rfl (by decide) rfl rfl (pas_cons (po_v (pd_var 6 (pv 6))) (pas_cons (po_v (pd_bin op_modN od_mod (po_r 5 (pv 5)) (po_r 6 (pv 6)))) pas_nil)) rfl rfl (by rfl))))
    (pssd_one (psd_ret (pd_tup (pas_cons (po_v (pd_bin op_fdivX od_fdiv (po_r 3 (pv 3)) (po_r 5 (pv 5)))) (pas_cons (po_v (pd_bin op_fdivX od_fdiv (po_r 4 (pv 4)) (po_r 5 (pv 5)))) pas_nil))))))))))
theorem sc__law_name : FnScope ["_law_purse_here", "_law_used", "_law_name_here", "_law_k", "_law_letter"] ["_law_purse_here", "_law_used"] (defScope (top 48)) := ⟨rfl, rfl, rfl, by decide +kernel, rfl, by decide +kernel, by decide +kernel⟩
theorem ok__law_name {f : Addr} {fd : FuncData} (T : Tx K mg cl) (F : Fun K "_law_name" "_law_name" (top 48) f fd) (gx : mg "_law_name" = some (.ref f)) (bd : Binds K fd ["_law_purse_here", "_law_used"] []) (G__law_take : Means P w K mg base cl 1 "_law_take" ["_law_purse_here", "_law_many"] Sc.dn__law_take) : Means P w K mg base cl 2 "_law_name" ["_law_purse_here", "_law_used"] Sc.dn__law_name_v1 :=
  means_mk (k := 1) (N := ["_law_purse_here", "_law_used", "_law_name_here", "_law_k", "_law_letter"]) (mask := [true, true]) F sc__law_name rfl gx bd fun cdv A outer s H E hr =>
    have tk : Takes (cxOf (L2.CX P w) P w K mg base ["_law_purse_here", "_law_used", "_law_name_here", "_law_k", "_law_letter"] "_law_name" (defScope (top 48)) f cdv A outer s H E) (fun c d _ H => E c d H) := takes_of rfl rfl rfl rfl
    have po := passes_of (X := cxOf (L2.CX P w) P w K mg base ["_law_purse_here", "_law_used", "_law_name_here", "_law_k", "_law_letter"] "_law_name" (defScope (top 48)) f cdv A outer s H E) rfl
    (pssd_cons (psd_asg pd_str (pgd_name (i := 2) sc__law_name.nd rfl (Or.inr rfl)) gN_nx)
    (pssd_cons (psd_forI po rfl (pwk_r1 rfl T.n_range (po_v (pd_bin op_addX od_add (po_v pd_int) (po_v (pd_call G__law_take (hr.mono (by decide)) rfl tk (pas_cons (po_r 0 (pv 0)) (pas_cons (po_v pd_int) pas_nil))))))) (pgd_name (i := 3) sc__law_name.nd rfl (Or.inl rfl))
    (pssd_one (psd_asg (pd_bin op_addX od_add (po_r 2 (pv 2)) (po_v (pd_ix ix_X od_ix (po_v pd_str) (po_v (pd_call G__law_take (hr.mono (by decide)) rfl tk (pas_cons (po_r 0 (pv 0)) (pas_cons (po_v pd_int) pas_nil)))) (fun _ _ => rfl)))) (pgd_name (i := 2) sc__law_name.nd rfl (Or.inr rfl)) gN_nx)) gN_nx)
    (pssd_cons (psd_if (ptd_cmp (op_eqX hr.units) od_eqX (po_v (pd_call G__law_take (hr.mono (by decide)) rfl tk (pas_cons (po_r 0 (pv 0)) (pas_cons (po_v pd_int) pas_nil)))) (po_v pd_int) (nomark _))
    (pssd_one (psd_asg (pd_ix ix_X od_ix (po_v (pd_lst (pas_cons (po_v pd_str) (pas_cons (po_v pd_str) (pas_cons (po_v pd_str) (pas_cons (po_v pd_str) (pas_cons (po_v pd_str) (pas_cons (po_v pd_str) (pas_cons (po_v pd_str) pas_nil))))))))) (po_v (pd_call G__law_take (hr.mono (by decide)) rfl tk (pas_cons (po_r 0 (pv 0)) (pas_cons (po_v pd_int) pas_nil)))) (fun _ _ => rfl)) (pgd_name (i := 2) sc__law_name.nd rfl (Or.inr rfl)) gN_nx))
    pssd_nil)
    (pssd_cons (psd_if (ptd_cmp (op_inX hr.units1) od_in (po_r 2 (pv 2)) (po_r 1 (pv 1)) (by with_unfolding_all rfl))
    (pssd_one (psd_asg (pd_ix ix_X od_ix (po_v (pd_lc (own := [("_law_letter", 4)]) rfl sc__law_name.nd (pwk_seq pd_str) (blkOk_by (by kernel_rfl)) (fun _ _ _ _ _ => (pgv_name (i := 4) sc__law_name.nd rfl (by first | exact Or.inl rfl | exact Or.inr rfl) (by decide) (by first | exact Or.inl rfl | exact Or.inr rfl))) (fun _ _ _ _ _ => (ptsd_one (ptd_cmp (op_notInX hr.units1) od_notIn (po_v (pd_bin op_addX od_add (po_v (pd_slice sl_X sd_X (po_r 2 (pv 2)) pid_none (pid_some (po_v pd_int)))) (po_r 4 (pv 4)))) (po_r 1 (pv 1)) (by with_unfolding_all rfl)))) (fun _ _ _ _ _ => (pd_bin op_addX od_add (po_v (pd_slice sl_X sd_X (po_r 2 (pv 2)) pid_none (pid_some (po_v pd_int)))) (po_r 4 (pv 4)))) (by intro _ _ h; first | (cases h; done) | (cases h; decide)))) (po_v pd_int) (fun _ _ => rfl)) (pgd_name (i := 2) sc__law_name.nd rfl (Or.inr rfl)) gN_nx))
    pssd_nil)
    (pssd_cons (psd_append (pv 1) (pd_var 2 (pv 2)))
    (pssd_one (psd_ret (pd_mov 2 (pv 2)))))))))
theorem sc__law_places : FnScope ["_law_part_here", "_law_x", "_law_y", "_law_k"] ["_law_part_here"] (defScope (top 49)) := ⟨rfl, rfl, rfl, by decide +kernel, rfl, by decide +kernel, by decide +kernel⟩
theorem ok__law_places {f : Addr} {fd : FuncData} (T : Tx K mg cl) (F : Fun K "_law_places" "_law_places" (top 49) f fd) (gx : mg "_law_places" = some (.ref f)) (bd : Binds K fd ["_law_part_here"] []) : Means P w K mg base cl 1 "_law_places" ["_law_part_here"] Sc.dn__law_places_v1 :=
  means_mk (k := 0) (N := ["_law_part_here", "_law_x", "_law_y", "_law_k"]) (mask := [false]) F sc__law_places rfl gx bd fun cdv A outer s H E hr =>
    have tk : Takes (cxOf (L2.CX P w) P w K mg base ["_law_part_here", "_law_x", "_law_y", "_law_k"] "_law_places" (defScope (top 49)) f cdv A outer s H E) (fun c d _ H => E c d H) := takes_of rfl rfl rfl rfl
    have po := passes_of (X := cxOf (L2.CX P w) P w K mg base ["_law_part_here", "_law_x", "_law_y", "_law_k"] "_law_places" (defScope (top 49)) f cdv A outer s H E) rfl
    (pssd_cons (psd_asg (pd_tup (pas_cons (po_v (pd_ix ix_X od_ix (po_r 0 (pv 0)) (po_v pd_int) (fun _ _ => rfl))) (pas_cons (po_v (pd_ix ix_X od_ix (po_r 0 (pv 0)) (po_v pd_int) (fun _ _ => rfl))) pas_nil))) (pgd_tup rfl (pgsd_cons (W := fun _ _ _ _ => False) (pgd_name (i := 1) sc__law_places.nd rfl (Or.inr rfl)) (pgsd_cons (W := fun _ _ _ _ => False) (pgd_name (i := 2) sc__law_places.nd rfl (Or.inr rfl)) pgsd_nil))) gTup_nx)
    (pssd_cons (psd_if (ptd_cmp (op_eqX hr.units) od_eqX (po_v (pd_ix ix_X od_ix (po_r 0 (pv 0)) (po_v pd_int) (fun _ _ => rfl))) (po_v pd_str) (nomark _))
    (pssd_one (psd_ret (pd_lst (pas_cons (po_v (pd_tup (pas_cons (po_v (pd_var 1 (pv 1))) (pas_cons (po_v (pd_var 2 (pv 2))) pas_nil)))) pas_nil))))
    pssd_nil)
    (pssd_cons (psd_if (ptd_cmp (op_eqX hr.units) od_eqX (po_v (pd_ix ix_X od_ix (po_r 0 (pv 0)) (po_v pd_int) (fun _ _ => rfl))) (po_v pd_str) (nomark _))
    (pssd_one (psd_ret (pd_lc (own := [("_law_k", 3)]) rfl sc__law_places.nd (pwk_r1 rfl T.n_range (po_v (pd_bin op_addX od_add (po_v (pd_ix ix_X od_ix (po_r 0 (pv 0)) (po_v pd_int) (fun _ _ => rfl))) (po_v pd_int)))) (blkOk_by (by kernel_rfl)) (fun _ _ _ _ _ => (pgv_name (i := 3) sc__law_places.nd rfl (by first | exact Or.inl rfl | exact Or.inr rfl) (by decide) (by first | exact Or.inl rfl | exact Or.inr rfl))) (fun _ _ _ _ _ => ptsd_nil) (fun _ _ _ _ _ => (pd_tup (pas_cons (po_v (pd_bin op_addX od_add (po_r 1 (pv 1)) (po_r 3 (pv 3)))) (pas_cons (po_v (pd_var 2 (pv 2))) pas_nil)))) (by intro _ _ h; first | (cases h; done) | (cases h; decide)))))
    pssd_nil)
    (pssd_one (psd_ret (pd_lc (own := [("_law_k", 3)]) rfl sc__law_places.nd (pwk_r1 rfl T.n_range (po_v (pd_bin op_addX od_add (po_v (pd_ix ix_X od_ix (po_r 0 (pv 0)) (po_v pd_int) (fun _ _ => rfl))) (po_v pd_int)))) (blkOk_by (by kernel_rfl)) (fun _ _ _ _ _ => (pgv_name (i := 3) sc__law_places.nd rfl (by first | exact Or.inl rfl | exact Or.inr rfl) (by decide) (by first | exact Or.inl rfl | exact Or.inr rfl))) (fun _ _ _ _ _ => ptsd_nil) (fun _ _ _ _ _ => (pd_tup (pas_cons (po_v (pd_var 1 (pv 1))) (pas_cons (po_v (pd_bin op_addX od_add (po_r 2 (pv 2)) (po_r 3 (pv 3)))) pas_nil)))) (by intro _ _ h; first | (cases h; done) | (cases h; decide))))))))
theorem sc__law_bottom : FnScope ["_law_part_here"] ["_law_part_here"] (defScope (top 50)) := ⟨rfl, rfl, rfl, by decide +kernel, rfl, by decide +kernel, by decide +kernel⟩
theorem ok__law_bottom {f : Addr} {fd : FuncData} (T : Tx K mg cl) (F : Fun K "_law_bottom" "_law_bottom" (top 50) f fd) (gx : mg "_law_bottom" = some (.ref f)) (bd : Binds K fd ["_law_part_here"] []) : Means P w K mg base cl 1 "_law_bottom" ["_law_part_here"] Sc.dn__law_bottom_v1 :=
  means_mk (k := 0) (N := ["_law_part_here"]) (mask := [false]) F sc__law_bottom rfl gx bd fun cdv A outer s H E hr =>
    have tk : Takes (cxOf (L2.CX P w) P w K mg base ["_law_part_here"] "_law_bottom" (defScope (top 50)) f cdv A outer s H E) (fun c d _ H => E c d H) := takes_of rfl rfl rfl rfl
    have po := passes_of (X := cxOf (L2.CX P w) P w K mg base ["_law_part_here"] "_law_bottom" (defScope (top 50)) f cdv A outer s H E) rfl
    (pssd_one (psd_ret (pd_ife (ptd_cmp (op_eqX hr.units) od_eqX (po_v (pd_ix ix_X od_ix (po_r 0 (pv 0)) (po_v pd_int) (fun _ _ => rfl))) (po_v pd_str) (nomark _)) (pd_ix ix_X od_ix (po_r 0 (pv 0)) (po_v pd_int) (fun _ _ => rfl)) (pd_ix ix_X od_ix (po_r 0 (pv 0)) (po_v pd_int) (fun _ _ => rfl)))))
theorem sc__law_top : FnScope ["_law_part_here"] ["_law_part_here"] (defScope (top 51)) := ⟨rfl, rfl, rfl, by decide +kernel, rfl, by decide +kernel, by decide +kernel⟩
theorem ok__law_top {f : Addr} {fd : FuncData} (T : Tx K mg cl) (F : Fun K "_law_top" "_law_top" (top 51) f fd) (gx : mg "_law_top" = some (.ref f)) (bd : Binds K fd ["_law_part_here"] []) : Means P w K mg base cl 1 "_law_top" ["_law_part_here"] Sc.dn__law_top_v1 :=
  means_mk (k := 0) (N := ["_law_part_here"]) (mask := [false]) F sc__law_top rfl gx bd fun cdv A outer s H E hr =>
    have tk : Takes (cxOf (L2.CX P w) P w K mg base ["_law_part_here"] "_law_top" (defScope (top 51)) f cdv A outer s H E) (fun c d _ H => E c d H) := takes_of rfl rfl rfl rfl
    have po := passes_of (X := cxOf (L2.CX P w) P w K mg base ["_law_part_here"] "_law_top" (defScope (top 51)) f cdv A outer s H E) rfl
    (pssd_one (psd_ret (pd_ife (ptd_cmp (op_eqX hr.units) od_eqX (po_v (pd_ix ix_X od_ix (po_r 0 (pv 0)) (po_v pd_int) (fun _ _ => rfl))) (po_v pd_str) (nomark _)) (pd_ix ix_X od_ix (po_r 0 (pv 0)) (po_v pd_int) (fun _ _ => rfl)) (pd_bin op_addX od_add (po_v (pd_ix ix_X od_ix (po_r 0 (pv 0)) (po_v pd_int) (fun _ _ => rfl))) (po_v pd_int)))))
theorem sc__law_joints : FnScope ["_law_parts_here", "_law_got", "_law_upper", "_law_there", "_law_lower", "_law_some", "_law_place"] ["_law_parts_here"] (defScope (top 52)) := ⟨rfl, rfl, rfl, by decide +kernel, rfl, by decide +kernel, by decide +kernel⟩
theorem ok__law_joints {f : Addr} {fd : FuncData} (T : Tx K mg cl) (F : Fun K "_law_joints" "_law_joints" (top 52) f fd) (gx : mg "_law_joints" = some (.ref f)) (bd : Binds K fd ["_law_parts_here"] []) (G__law_places : Means P w K mg base cl 1 "_law_places" ["_law_part_here"] Sc.dn__law_places_v1) (G__law_bottom : Means P w K mg base cl 1 "_law_bottom" ["_law_part_here"] Sc.dn__law_bottom_v1) (G__law_top : Means P w K mg base cl 1 "_law_top" ["_law_part_here"] Sc.dn__law_top_v1) : Means P w K mg base cl 2 "_law_joints" ["_law_parts_here"] Sc.dn__law_joints_v1 :=
  means_mk (k := 1) (N := ["_law_parts_here", "_law_got", "_law_upper", "_law_there", "_law_lower", "_law_some", "_law_place"]) (mask := [false]) F sc__law_joints rfl gx bd fun cdv A outer s H E hr =>
    have tk : Takes (cxOf (L2.CX P w) P w K mg base ["_law_parts_here", "_law_got", "_law_upper", "_law_there", "_law_lower", "_law_some", "_law_place"] "_law_joints" (defScope (top 52)) f cdv A outer s H E) (fun c d _ H => E c d H) := takes_of rfl rfl rfl rfl
    have po := passes_of (X := cxOf (L2.CX P w) P w K mg base ["_law_parts_here", "_law_got", "_law_upper", "_law_there", "_law_lower", "_law_some", "_law_place"] "_law_joints" (defScope (top 52)) f cdv A outer s H E) rfl
    (pssd_cons (psd_asg (pd_lst pas_nil) (pgd_name (i := 1) sc__law_joints.nd rfl (Or.inl rfl)) gN_nx)
    (pssd_cons (psd_forI po rfl (pwk_seq (pd_var 0 (pv 0))) (pgd_name (i := 2) sc__law_joints.nd rfl (Or.inr rfl))
    (pssd_cons (psd_asg (pd_call G__law_places (hr.mono (by decide)) rfl tk (pas_cons (po_v (pd_var 2 (pv 2))) pas_nil)) (pgd_name (i := 3) sc__law_joints.nd rfl (Or.inl rfl)) gN_nx)
    (pssd_cons (psd_if (ptd_cmp (op_eqX hr.units) od_eqX (po_v (pd_call G__law_bottom (hr.mono (by decide)) rfl tk (pas_cons (po_v (pd_var 2 (pv 2))) pas_nil))) (po_v pd_int) (nomark _))
    (pssd_one (psd_asg (pd_bin op_addX od_add (po_r 1 (pv 1)) (po_v (pd_lc (own := [("_law_place", 6)]) rfl sc__law_joints.nd (pwk_seq (pd_var 3 (pv 3))) (blkOk_by (by kernel_rfl)) (fun _ _ _ _ _ => (pgv_name (i := 6) sc__law_joints.nd rfl (by first | exact Or.inl rfl | exact Or.inr rfl) (by decide) (by first | exact Or.inl rfl | exact Or.inr rfl))) (fun _ _ _ _ _ => ptsd_nil) (fun _ _ _ _ _ => (pd_tup (pas_cons (po_v pd_str) (pas_cons (po_v (pd_ix ix_X od_ix (po_r 2 (pv 2)) (po_v pd_int) (fun _ _ => rfl))) (pas_cons (po_v (pd_var 6 (pv 6))) pas_nil))))) (by intro _ _ h; first | (cases h; done) | (cases h; decide))))) (pgd_name (i := 1) sc__law_joints.nd rfl (Or.inl rfl)) gN_nx))
    pssd_nil)
    (pssd_one (psd_forI po rfl (pwk_seq (pd_var 0 (pv 0))) (pgd_name (i := 4) sc__law_joints.nd rfl (Or.inr rfl))
    (pssd_one (psd_if (ptd_cmp (op_eqX hr.units) od_eqX (po_v (pd_call G__law_top (hr.mono (by decide)) rfl tk (pas_cons (po_v (pd_var 4 (pv 4))) pas_nil))) (po_v (pd_call G__law_bottom (hr.mono (by decide)) rfl tk (pas_cons (po_v (pd_var 2 (pv 2))) pas_nil))) (nomark _))
    (pssd_cons (psd_asg (pd_call G__law_places (hr.mono (by decide)) rfl tk (pas_cons (po_v (pd_var 4 (pv 4))) pas_nil)) (pgd_name (i := 5) sc__law_joints.nd rfl (Or.inr rfl)) gN_nx)
    (pssd_one (psd_asg (pd_bin op_addX od_add (po_r 1 (pv 1)) (po_v (pd_lc (own := [("_law_place", 6)]) rfl sc__law_joints.nd (pwk_seq (pd_var 3 (pv 3))) (blkOk_by (by kernel_rfl)) (fun _ _ _ _ _ => (pgv_name (i := 6) sc__law_joints.nd rfl (by first | exact Or.inl rfl | exact Or.inr rfl) (by decide) (by first | exact Or.inl rfl | exact Or.inr rfl))) (fun _ _ _ _ _ => (ptsd_one (ptd_cmp (op_inX hr.units1) od_in (po_r 6 (pv 6)) (po_r 5 (pv 5)) (by with_unfolding_all rfl)))) (fun _ _ _ _ _ => (pd_tup (pas_cons (po_v (pd_ix ix_X od_ix (po_r 4 (pv 4)) (po_v pd_int) (fun _ _ => rfl))) (pas_cons (po_v (pd_ix ix_X od_ix (po_r 2 (pv 2)) (po_v pd_int) (fun _ _ => rfl))) (pas_cons (po_v (pd_var 6 (pv 6))) pas_nil))))) (by intro _ _ h; first | (cases h; done) | (cases h; decide))))) (pgd_name (i := 1) sc__law_joints.nd rfl (Or.inl rfl)) gN_nx)))
    pssd_nil)) gN_nx)))) gN_nx)
    (pssd_one (psd_ret (pd_callB (cr_sortD hr.units3) od_sorted rfl T.n_sorted (by decide +kernel) (pas_cons (po_r 1 (pv 1)) pas_nil))))))
theorem sc__law_has_room : FnScope ["_law_parts_here", "_law_new", "_law_there", "_law_part_here", "_law_place"] ["_law_parts_here", "_law_new"] (defScope (top 53)) := ⟨rfl, rfl, rfl, by decide +kernel, rfl, by decide +kernel, by decide +kernel⟩
theorem ok__law_has_room {f : Addr} {fd : FuncData} (T : Tx K mg cl) (F : Fun K "_law_has_room" "_law_has_room" (top 53) f fd) (gx : mg "_law_has_room" = some (.ref f)) (bd : Binds K fd ["_law_parts_here", "_law_new"] []) (G__law_places : Means P w K mg base cl 1 "_law_places" ["_law_part_here"] Sc.dn__law_places_v1) (G__law_bottom : Means P w K mg base cl 1 "_law_bottom" ["_law_part_here"] Sc.dn__law_bottom_v1) (G__law_top : Means P w K mg base cl 1 "_law_top" ["_law_part_here"] Sc.dn__law_top_v1) (G__law_joints : Means P w K mg base cl 2 "_law_joints" ["_law_parts_here"] Sc.dn__law_joints_v1) : Means P w K mg base cl 3 "_law_has_room" ["_law_parts_here", "_law_new"] Sc.dn__law_has_room :=
  means_mk (k := 2) (N := ["_law_parts_here", "_law_new", "_law_there", "_law_part_here", "_law_place"]) (mask := [false, false]) F sc__law_has_room rfl gx bd fun cdv A outer s H E hr =>
    have tk : Takes (cxOf (L2.CX P w) P w K mg base ["_law_parts_here", "_law_new", "_law_there", "_law_part_here", "_law_place"] "_law_has_room" (defScope (top 53)) f cdv A outer s H E) (fun c d _ H => E c d H) := takes_of rfl rfl rfl rfl
    have po := passes_of (X := cxOf (L2.CX P w) P w K mg base ["_law_parts_here", "_law_new", "_law_there", "_law_part_here", "_law_place"] "_law_has_room" (defScope (top 53)) f cdv A outer s H E) rfl
    (pssd_cons (psd_asg (pd_call G__law_places (hr.mono (by decide)) rfl tk (pas_cons (po_v (pd_var 1 (pv 1))) pas_nil)) (pgd_name (i := 2) sc__law_has_room.nd rfl (Or.inr rfl)) gN_nx)
    (pssd_cons (psd_forI po rfl (pwk_seq (pd_var 0 (pv 0))) (pgd_name (i := 3) sc__law_has_room.nd rfl (Or.inl rfl))
    (pssd_one (psd_if (ptd_of (pwd_and (ptd_cmp op_lt od_lt (po_v (pd_call G__law_bottom (hr.mono (by decide)) rfl tk (pas_cons (po_v (pd_var 3 (pv 3))) pas_nil))) (po_v (pd_call G__law_top (hr.mono (by decide)) rfl tk (pas_cons (po_v (pd_var 1 (pv 1))) pas_nil))) (nomark _)) (pwd_and1 (ptd_cmp op_lt od_lt (po_v (pd_call G__law_bottom (hr.mono (by decide)) rfl tk (pas_cons (po_v (pd_var 1 (pv 1))) pas_nil))) (po_v (pd_call G__law_top (hr.mono (by decide)) rfl tk (pas_cons (po_v (pd_var 3 (pv 3))) pas_nil))) (nomark _)))))
    (pssd_one (psd_if (ptd_val (pd_callB (cr_any rfl) od_any rfl T.n_any (by decide +kernel) (pas_cons (po_v (pd_lc (own := [("_law_place", 4)]) rfl sc__law_has_room.nd (pwk_seq (pd_call G__law_places (hr.mono (by decide)) rfl tk (pas_cons (po_v (pd_var 3 (pv 3))) pas_nil))) (blkOk_by (by kernel_rfl)) (fun _ _ _ _ _ => (pgv_name (i := 4) sc__law_has_room.nd rfl (by first | exact Or.inl rfl | exact Or.inr rfl) (by decide) (by first | exact Or.inl rfl | exact Or.inr rfl))) (fun _ _ _ _ _ => ptsd_nil) (fun _ _ _ _ _ => (pd_cmp (op_inX hr.units1) od_in (po_r 4 (pv 4)) (po_r 2 (pv 2)) (by with_unfolding_all rfl))) (by intro _ _ h; first | (cases h; done) | (cases h; decide)))) pas_nil)))
    (pssd_one (psd_ret pd_bl))
    pssd_nil))
    pssd_nil)) gN_nx)
    (pssd_one (psd_ret (pd_cmp op_le od_le (po_v (pd_callB call_len od_len rfl T.n_len (by decide +kernel) (pas_cons (po_v (pd_call G__law_joints (hr.mono (by decide)) rfl tk (pas_cons (po_v (pd_bin op_addX od_add (po_r 0 (pv 0)) (po_v (pd_lst (pas_cons (po_v (pd_var 1 (pv 1))) pas_nil))))) pas_nil))) pas_nil))) (po_v pd_int) (nomark _))))))
theorem sc__law_start : FnScope ["_law_purse_here", "_law_parts_here", "_law_place", "_law_part_here", "_law_some"] ["_law_purse_here", "_law_parts_here"] (defScope (top 54)) := ⟨rfl, rfl, rfl, by decide +kernel, rfl, by decide +kernel, by decide +kernel⟩
theorem ok__law_start {f : Addr} {fd : FuncData} (T : Tx K mg cl) (F : Fun K "_law_start" "_law_start" (top 54) f fd) (gx : mg "_law_start" = some (.ref f)) (bd : Binds K fd ["_law_purse_here", "_law_parts_here"] []) (G__law_take : Means P w K mg base cl 1 "_law_take" ["_law_purse_here", "_law_many"] Sc.dn__law_take) (G__law_places : Means P w K mg base cl 1 "_law_places" ["_law_part_here"] Sc.dn__law_places_v1) (G__law_top : Means P w K mg base cl 1 "_law_top" ["_law_part_here"] Sc.dn__law_top_v1) : Means P w K mg base cl 2 "_law_start" ["_law_purse_here", "_law_parts_here"] Sc.dn__law_start :=
  means_mk (k := 1) (N := ["_law_purse_here", "_law_parts_here", "_law_place", "_law_part_here", "_law_some"]) (mask := [true, false]) F sc__law_start rfl gx bd fun cdv A outer s H E hr =>
    have tk : Takes (cxOf (L2.CX P w) P w K mg base ["_law_purse_here", "_law_parts_here", "_law_place", "_law_part_here", "_law_some"] "_law_start" (defScope (top 54)) f cdv A outer s H E) (fun c d _ H => E c d H) := takes_of rfl rfl rfl rfl
    have po := passes_of (X := cxOf (L2.CX P w) P w K mg base ["_law_purse_here", "_law_parts_here", "_law_place", "_law_part_here", "_law_some"] "_law_start" (defScope (top 54)) f cdv A outer s H E) rfl
    (pssd_cons (psd_if (ptd_of (pwd_and (ptd_cmp (op_neX hr.units) od_neX (po_r 1 (pv 1)) (po_v (pd_lst pas_nil)) (nomark _)) (pwd_and1 (ptd_cmp op_gt od_gt (po_v (pd_call G__law_take (hr.mono (by decide)) rfl tk (pas_cons (po_r 0 (pv 0)) (pas_cons (po_v pd_int) pas_nil)))) (po_v pd_int) (nomark _)))))
    (pssd_cons (psd_asg (pd_ix ix_X od_ix (po_r 1 (pv 1)) (po_v (pd_sel (pas_cons (po_v (pd_call G__law_take (hr.mono (by decide)) rfl tk (pas_cons (po_r 0 (pv 0)) (pas_cons (po_v (pd_callB call_len od_len rfl T.n_len (by decide +kernel) (pas_cons (po_r 1 (pv 1)) pas_nil))) pas_nil)))) (pas_cons (po_v (pd_bin op_sub od_sub (po_v (pd_callB call_len od_len rfl T.n_len (by decide +kernel) (pas_cons (po_r 1 (pv 1)) pas_nil))) (po_v pd_int))) pas_nil)) (po_v (pd_bin op_fdivX od_fdiv (po_v (pd_call G__law_take (hr.mono (by decide)) rfl tk (pas_cons (po_r 0 (pv 0)) (pas_cons (po_v pd_int) pas_nil)))) (po_v pd_int))) (fun _ _ => rfl))) (fun _ _ => rfl)) (pgd_name (i := 3) sc__law_start.nd rfl (Or.inl rfl)) gN_nx)
    (pssd_cons (psd_asg (pd_call G__law_places (hr.mono (by decide)) rfl tk (pas_cons (po_v (pd_var 3 (pv 3))) pas_nil)) (pgd_name (i := 4) sc__law_start.nd rfl (Or.inl rfl)) gN_nx)
    (pssd_one (psd_ret (pd_tup (pas_cons (po_v (pd_ix ix_X od_ix (po_r 4 (pv 4)) (po_v (pd_call G__law_take (hr.mono (by decide)) rfl tk (pas_cons (po_r 0 (pv 0)) (pas_cons (po_v (pd_callB call_len od_len rfl T.n_len (by decide +kernel) (pas_cons (po_r 4 (pv 4)) pas_nil))) pas_nil)))) (fun _ _ => rfl))) (pas_cons (po_v (pd_callB (call_min2 rfl) od_min2 rfl T.n_min (by decide +kernel) (pas_cons (po_v pd_int) (pas_cons (po_v (pd_call G__law_top (hr.mono (by decide)) rfl tk (pas_cons (po_v (pd_var 3 (pv 3))) pas_nil))) pas_nil)))) pas_nil)))))))
    pssd_nil)
    (pssd_cons (psd_asg (pd_tup (pas_cons (po_v (pd_call G__law_take (hr.mono (by decide)) rfl tk (pas_cons (po_r 0 (pv 0)) (pas_cons (po_v (pd_ix ix_X od_ix (po_v (pd_lst (pas_cons (po_v pd_int) (pas_cons (po_v pd_int) pas_nil)))) (po_v (pd_call G__law_take (hr.mono (by decide)) rfl tk (pas_cons (po_r 0 (pv 0)) (pas_cons (po_v pd_int) pas_nil)))) (fun _ _ => rfl))) pas_nil)))) (pas_cons (po_v (pd_call G__law_take (hr.mono (by decide)) rfl tk (pas_cons (po_r 0 (pv 0)) (pas_cons (po_v (pd_ix ix_X od_ix (po_v (pd_lst (pas_cons (po_v pd_int) (pas_cons (po_v pd_int) pas_nil)))) (po_v (pd_call G__law_take (hr.mono (by decide)) rfl tk (pas_cons (po_r 0 (pv 0)) (pas_cons (po_v pd_int) pas_nil)))) (fun _ _ => rfl))) pas_nil)))) pas_nil))) (pgd_name (i := 2) sc__law_start.nd rfl (Or.inl rfl)) gN_nx)
    (pssd_one (psd_ret (pd_tup (pas_cons (po_v (pd_var 2 (pv 2))) (pas_cons (po_v (pd_sel (pas_cons (po_v pd_int) (pas_cons (po_v pd_int) (pas_cons (po_v (pd_call G__law_take (hr.mono (by decide)) rfl tk (pas_cons (po_r 0 (pv 0)) (pas_cons (po_v pd_int) pas_nil)))) pas_nil))) (po_v (pd_call G__law_take (hr.mono (by decide)) rfl tk (pas_cons (po_r 0 (pv 0)) (pas_cons (po_v pd_int) pas_nil)))) (fun _ _ => rfl))) pas_nil)))))))
theorem sc__law_part : FnScope ["_law_purse_here", "_law_parts_here", "_law_name_here", "_law_ends", "_law_length", "_law_way", "_law_along", "_law_spots", "_law_place", "_law_bottom_here", "_law_high"] ["_law_purse_here", "_law_parts_here", "_law_name_here"] (defScope (top 55)) := ⟨rfl, rfl, rfl, by decide +kernel, rfl, by decide +kernel, by decide +kernel⟩
theorem ok__law_part {f : Addr} {fd : FuncData} (T : Tx K mg cl) (F : Fun K "_law_part" "_law_part" (top 55) f fd) (gx : mg "_law_part" = some (.ref f)) (bd : Binds K fd ["_law_purse_here", "_law_parts_here", "_law_name_here"] []) (G__law_start : Means P w K mg base cl 2 "_law_start" ["_law_purse_here", "_law_parts_here"] Sc.dn__law_start) (G__law_fraction : Means P w K mg base cl 2 "_law_fraction" ["_law_purse_here", "_law_least"] Sc.dn__law_fraction) (G__law_take : Means P w K mg base cl 1 "_law_take" ["_law_purse_here", "_law_many"] Sc.dn__law_take) : Means P w K mg base cl 3 "_law_part" ["_law_purse_here", "_law_parts_here", "_law_name_here"] Sc.dn__law_part :=
  means_mk (k := 2) (N := ["_law_purse_here", "_law_parts_here", "_law_name_here", "_law_ends", "_law_length", "_law_way", "_law_along", "_law_spots", "_law_place", "_law_bottom_here", "_law_high"]) (mask := [true, false, false]) F sc__law_part rfl gx bd fun cdv A outer s H E hr =>
    have tk : Takes (cxOf (L2.CX P w) P w K mg base ["_law_purse_here", "_law_parts_here", "_law_name_here", "_law_ends", "_law_length", "_law_way", "_law_along", "_law_spots", "_law_place", "_law_bottom_here", "_law_high"] "_law_part" (defScope (top 55)) f cdv A outer s H E) (fun c d _ H => E c d H) := takes_of rfl rfl rfl rfl
    have po := passes_of (X := cxOf (L2.CX P w) P w K mg base ["_law_purse_here", "_law_parts_here", "_law_name_here", "_law_ends", "_law_length", "_law_way", "_law_along", "_law_spots", "_law_place", "_law_bottom_here", "_law_high"] "_law_part" (defScope (top 55)) f cdv A outer s H E) rfl
    (pssd_cons (psd_asg (pd_call G__law_start (hr.mono (by decide)) rfl tk (pas_cons (po_r 0 (pv 0)) (pas_cons (po_v (pd_var 1 (pv 1))) pas_nil))) (pgd_tup rfl (pgsd_cons (W := fun _ _ _ _ => False) (pgd_name (i := 8) sc__law_part.nd rfl (Or.inl rfl)) (pgsd_cons (W := fun _ _ _ _ => False) (pgd_name (i := 9) sc__law_part.nd rfl (Or.inl rfl)) pgsd_nil))) gTup_nx)
    (pssd_cons (psd_asg (pd_lst (pas_cons (po_v (pd_var 2 (pv 2))) (pas_cons (po_v (pd_call G__law_fraction (hr.mono (by decide)) rfl tk (pas_cons (po_r 0 (pv 0)) (pas_cons (po_v pd_int) pas_nil)))) (pas_cons (po_v (pd_call G__law_fraction (hr.mono (by decide)) rfl tk (pas_cons (po_r 0 (pv 0)) (pas_cons (po_v pd_int) pas_nil)))) pas_nil)))) (pgd_name (i := 3) sc__law_part.nd rfl (Or.inl rfl)) gN_nx)
    (pssd_cons (psd_if (ptd_of (pwd_and (ptd_cmp op_lt od_lt (po_v (pd_call G__law_take (hr.mono (by decide)) rfl tk (pas_cons (po_r 0 (pv 0)) (pas_cons (po_v pd_int) pas_nil)))) (po_v pd_int) (nomark _)) (pwd_and1 (ptd_cmp op_lt od_lt (po_r 9 (pv 9)) (po_v pd_int) (nomark _)))))
    (pssd_cons (psd_asg (pd_bin op_addX od_add (po_v (pd_bin op_addX od_add (po_r 9 (pv 9)) (po_v pd_int))) (po_v (pd_call G__law_take (hr.mono (by decide)) rfl tk (pas_cons (po_r 0 (pv 0)) (pas_cons (po_v (pd_callB (call_min2 rfl) od_min2 rfl T.n_min (by decide +kernel) (pas_cons (po_v (pd_bin op_sub od_sub (po_v pd_int) (po_r 9 (pv 9)))) (pas_cons (po_v (pd_ix ix_X od_ix (po_v (pd_lst (pas_cons (po_v pd_int) (pas_cons (po_v pd_int) pas_nil)))) (po_v (pd_bin op_fdivX od_fdiv (po_v (pd_call G__law_take (hr.mono (by decide)) rfl tk (pas_cons (po_r 0 (pv 0)) (pas_cons (po_v pd_int) pas_nil)))) (po_v pd_int))) (fun _ _ => rfl))) pas_nil)))) pas_nil))))) (pgd_name (i := 10) sc__law_part.nd rfl (Or.inl rfl)) gN_nx)
    (pssd_one (psd_ret (pd_tup (pas_cons (po_v pd_str) (pas_cons (po_v (pd_var 2 (pv 2))) (pas_cons (po_v (pd_ix ix_X od_ix (po_r 8 (pv 8)) (po_v pd_int) (fun _ _ => rfl))) (pas_cons (po_v (pd_ix ix_X od_ix (po_r 8 (pv 8)) (po_v pd_int) (fun _ _ => rfl))) (pas_cons (po_v (pd_var 9 (pv 9))) (pas_cons (po_v (pd_var 10 (pv 10))) (pas_cons (po_v (pd_ix ix_X od_ix (po_r 3 (pv 3)) (po_v pd_int) (fun _ _ => rfl))) (pas_cons (po_v (pd_ix ix_X od_ix (po_r 3 (pv 3)) (po_v pd_int) (fun _ _ => rfl))) pas_nil))))))))))))
    pssd_nil)
    (pssd_cons (psd_asg (pd_bin op_addX od_add (po_v pd_int) (po_v (pd_call G__law_take (hr.mono (by decide)) rfl tk (pas_cons (po_r 0 (pv 0)) (pas_cons (po_v (pd_ix ix_X od_ix (po_v (pd_lst (pas_cons (po_v pd_int) (pas_cons (po_v pd_int) (pas_cons (po_v pd_int) pas_nil))))) (po_v (pd_bin op_fdivX od_fdiv (po_v (pd_call G__law_take (hr.mono (by decide)) rfl tk (pas_cons (po_r 0 (pv 0)) (pas_cons (po_v pd_int) pas_nil)))) (po_v pd_int))) (fun _ _ => rfl))) pas_nil))))) (pgd_name (i := 4) sc__law_part.nd rfl (Or.inl rfl)) gN_nx)
    (pssd_cons (psd_asg (pd_ix ix_X od_ix (po_v (pd_lst (pas_cons (po_v pd_str) (pas_cons (po_v pd_str) pas_nil)))) (po_v (pd_call G__law_take (hr.mono (by decide)) rfl tk (pas_cons (po_r 0 (pv 0)) (pas_cons (po_v pd_int) pas_nil)))) (fun _ _ => rfl)) (pgd_name (i := 5) sc__law_part.nd rfl (Or.inl rfl)) gN_nx)
    (pssd_cons (psd_asg (pd_callTy call_int1 od_int rfl T.n_int (by decide +kernel) (pas_cons (po_v (pd_cmp (op_eqX hr.units) od_eqX (po_r 5 (pv 5)) (po_v pd_str) (nomark _))) pas_nil)) (pgd_name (i := 6) sc__law_part.nd rfl (Or.inl rfl)) gN_nx)
    (pssd_cons (psd_asg (pd_lst (pas_cons (po_v (pd_ix ix_X od_ix (po_r 8 (pv 8)) (po_v pd_int) (fun _ _ => rfl))) (pas_cons (po_v (pd_ix ix_X od_ix (po_r 8 (pv 8)) (po_v pd_int) (fun _ _ => rfl))) pas_nil))) (pgd_name (i := 7) sc__law_part.nd rfl (Or.inl rfl)) gN_nx)
    (pssd_cons (psd_asg (pd_callB (call_min2 rfl) od_min2 rfl T.n_min (by decide +kernel) (pas_cons (po_v (pd_bin op_sub od_sub (po_v pd_int) (po_r 4 (pv 4)))) (pas_cons (po_v (pd_callB (call_max2 rfl) od_max2 rfl T.n_max (by decide +kernel) (pas_cons (po_v pd_int) (pas_cons (po_v (pd_bin op_sub od_sub (po_v (pd_ix ix_X od_ix (po_r 7 (pv 7)) (po_r 6 (pv 6)) (fun _ _ => rfl))) (po_v (pd_call G__law_take (hr.mono (by decide)) rfl tk (pas_cons (po_r 0 (pv 0)) (pas_cons (po_v (pd_bin op_addX od_add (po_r 4 (pv 4)) (po_v pd_int))) pas_nil)))))) pas_nil)))) pas_nil))) (pgd_set (pv 7) (po_r 6 (pv 6))) gSet_nx)
    (pssd_one (psd_ret (pd_tup (pas_cons (po_v pd_str) (pas_cons (po_v (pd_var 2 (pv 2))) (pas_cons (po_v (pd_ix ix_X od_ix (po_r 7 (pv 7)) (po_v pd_int) (fun _ _ => rfl))) (pas_cons (po_v (pd_ix ix_X od_ix (po_r 7 (pv 7)) (po_v pd_int) (fun _ _ => rfl))) (pas_cons (po_v (pd_var 5 (pv 5))) (pas_cons (po_v (pd_var 4 (pv 4))) (pas_cons (po_v (pd_var 9 (pv 9))) (pas_cons (po_v (pd_ix ix_X od_ix (po_r 3 (pv 3)) (po_v pd_int) (fun _ _ => rfl))) (pas_cons (po_v (pd_ix ix_X od_ix (po_r 3 (pv 3)) (po_v pd_int) (fun _ _ => rfl))) pas_nil))))))))))))))))))))
theorem sc__law_parts : FnScope ["_law_purse_here", "_law_most", "_law_parts_here", "_law_used", "_law_k", "_law_part_here"] ["_law_purse_here", "_law_most"] (defScope (top 56)) := ⟨rfl, rfl, rfl, by decide +kernel, rfl, by decide +kernel, by decide +kernel⟩
theorem ok__law_parts {f : Addr} {fd : FuncData} (T : Tx K mg cl) (F : Fun K "_law_parts" "_law_parts" (top 56) f fd) (gx : mg "_law_parts" = some (.ref f)) (bd : Binds K fd ["_law_purse_here", "_law_most"] []) (G__law_part : Means P w K mg base cl 3 "_law_part" ["_law_purse_here", "_law_parts_here", "_law_name_here"] Sc.dn__law_part) (G__law_name : Means P w K mg base cl 2 "_law_name" ["_law_purse_here", "_law_used"] Sc.dn__law_name_v1) (G__law_has_room : Means P w K mg base cl 3 "_law_has_room" ["_law_parts_here", "_law_new"] Sc.dn__law_has_room) (G__law_take : Means P w K mg base cl 1 "_law_take" ["_law_purse_here", "_law_many"] Sc.dn__law_take) : Means P w K mg base cl 4 "_law_parts" ["_law_purse_here", "_law_most"] Sc.dn__law_parts :=
  means_mk (k := 3) (N := ["_law_purse_here", "_law_most", "_law_parts_here", "_law_used", "_law_k", "_law_part_here"]) (mask := [true, false]) F sc__law_parts rfl gx bd fun cdv A outer s H E hr =>
    have tk : Takes (cxOf (L2.CX P w) P w K mg base ["_law_purse_here", "_law_most", "_law_parts_here", "_law_used", "_law_k", "_law_part_here"] "_law_parts" (defScope (top 56)) f cdv A outer s H E) (fun c d _ H => E c d H) := takes_of rfl rfl rfl rfl
    have po := passes_of (X := cxOf (L2.CX P w) P w K mg base ["_law_purse_here", "_law_most", "_law_parts_here", "_law_used", "_law_k", "_law_part_here"] "_law_parts" (defScope (top 56)) f cdv A outer s H E) rfl
    (pssd_cons (psd_asg (pd_lst pas_nil) (pgd_name (i := 2) sc__law_parts.nd rfl (Or.inl rfl)) gN_nx)
    (pssd_cons (psd_asg (pd_lst pas_nil) (pgd_name (i := 3) sc__law_parts.nd rfl (Or.inl rfl)) gN_nx)
    (pssd_cons (psd_forI po rfl (pwk_r1 rfl T.n_range (po_v (pd_call G__law_take (hr.mono (by decide)) rfl tk (pas_cons (po_r 0 (pv 0)) (pas_cons (po_v (pd_bin op_addX od_add (po_r 1 (pv 1)) (po_v pd_int))) pas_nil))))) (pgd_name (i := 4) sc__law_parts.nd rfl (Or.inl rfl))
    (pssd_cons (psd_asg (pd_held 2 (pd_call G__law_part (hr.mono (by decide)) rfl tk (pas_cons (po_r 0 (pv 0)) (pas_cons (po_r 2 (pv 2)) (pas_cons (po_v (pd_call G__law_name (hr.mono (by decide)) rfl tk (pas_cons (po_r 0 (pv 0)) (pas_cons (po_r 3 (pv 3)) pas_nil)))) pas_nil))))) (pgd_name (i := 5) sc__law_parts.nd rfl (Or.inl rfl)) gN_nx)
    (pssd_one (psd_if (ptd_val (pd_held 2 (pd_call G__law_has_room (hr.mono (by decide)) rfl tk (pas_cons (po_r 2 (pv 2)) (pas_cons (po_v (pd_var 5 (pv 5))) pas_nil)))))
    (pssd_one (psd_append (pv 2) (pd_var 5 (pv 5))))
    pssd_nil))) gN_nx)
    (pssd_one (psd_ret (pd_mov 2 (pv 2)))))))
theorem sc__law_rests : FnScope ["_law_told", "_law_name_here", "_law_got", "_law_k", "_law_lower", "_law_upper", "_law_place"] ["_law_told", "_law_name_here"] (defScope (top 57)) := ⟨rfl, rfl, rfl, by decide +kernel, rfl, by decide +kernel, by decide +kernel⟩
theorem ok__law_rests {f : Addr} {fd : FuncData} (T : Tx K mg cl) (F : Fun K "_law_rests" "_law_rests" (top 57) f fd) (gx : mg "_law_rests" = some (.ref f)) (bd : Binds K fd ["_law_told", "_law_name_here"] []) : Means P w K mg base cl 1 "_law_rests" ["_law_told", "_law_name_here"] Sc.dn__law_rests :=
  means_mk (k := 0) (N := ["_law_told", "_law_name_here", "_law_got", "_law_k", "_law_lower", "_law_upper", "_law_place"]) (mask := [false, false]) F sc__law_rests rfl gx bd fun cdv A outer s H E hr =>
    have tk : Takes (cxOf (L2.CX P w) P w K mg base ["_law_told", "_law_name_here", "_law_got", "_law_k", "_law_lower", "_law_upper", "_law_place"] "_law_rests" (defScope (top 57)) f cdv A outer s H E) (fun c d _ H => E c d H) := takes_of rfl rfl rfl rfl
    have po := passes_of (X := cxOf (L2.CX P w) P w K mg base ["_law_told", "_law_name_here", "_law_got", "_law_k", "_law_lower", "_law_upper", "_law_place"] "_law_rests" (defScope (top 57)) f cdv A outer s H E) rfl
    (pssd_cons (psd_asg (pd_lst (pas_cons (po_v (pd_var 1 (pv 1))) pas_nil)) (pgd_name (i := 2) sc__law_rests.nd rfl (Or.inl rfl)) gN_nx)
    (pssd_cons (psd_forI po rfl (pwk_r1 rfl T.n_range (po_v (pd_bin op_addX od_add (po_v (pd_callB call_len od_len rfl T.n_len (by decide +kernel) (pas_cons (po_r 0 (pv 0)) pas_nil))) (po_v pd_int)))) (pgd_name (i := 3) sc__law_rests.nd rfl (Or.inl rfl))
    (pssd_one (psd_forI po rfl (pwk_seq (pd_var 0 (pv 0))) (pgd_tup rfl (pgsd_cons (W := fun _ _ _ _ => False) (pgd_name (i := 4) sc__law_rests.nd rfl (Or.inl rfl)) (pgsd_cons (W := fun _ _ _ _ => False) (pgd_name (i := 5) sc__law_rests.nd rfl (Or.inl rfl)) (pgsd_cons (W := fun _ _ _ _ => False) (pgd_name (i := 6) sc__law_rests.nd rfl (Or.inl rfl)) pgsd_nil))))
    (pssd_one (psd_if (ptd_of (pwd_and (ptd_cmp (op_inX hr.units1) od_in (po_r 5 (pv 5)) (po_r 2 (pv 2)) (by with_unfolding_all rfl)) (pwd_and (ptd_cmp (op_neX hr.units) od_neX (po_r 4 (pv 4)) (po_v pd_str) (nomark _)) (pwd_and1 (ptd_cmp (op_notInX hr.units1) od_notIn (po_r 4 (pv 4)) (po_r 2 (pv 2)) (by with_unfolding_all rfl))))))
    (pssd_one (psd_append (pv 2) (pd_var 4 (pv 4))))
    pssd_nil)) gTup_nx)) gN_nx)
    (pssd_one (psd_ret (pd_callB (cr_sortD hr.units3) od_sorted rfl T.n_sorted (by decide +kernel) (pas_cons (po_v (pd_slice sl_X sd_X (po_r 2 (pv 2)) (pid_some (po_v pd_int)) pid_none)) pas_nil))))))
theorem sc__law_is_list : FnScope ["_law_told", "_law_due"] ["_law_told", "_law_due"] (defScope (top 58)) := ⟨rfl, rfl, rfl, by decide +kernel, rfl, by decide +kernel, by decide +kernel⟩
theorem ok__law_is_list {f : Addr} {fd : FuncData} (T : Tx K mg cl) (F : Fun K "_law_is_list" "_law_is_list" (top 58) f fd) (gx : mg "_law_is_list" = some (.ref f)) (bd : Binds K fd ["_law_told", "_law_due"] []) : Means P w K mg base cl 1 "_law_is_list" ["_law_told", "_law_due"] dn__law_is_list :=
  means_mk (k := 0) (N := ["_law_told", "_law_due"]) (mask := [false, false]) F sc__law_is_list rfl gx bd fun cdv A outer s H E hr =>
    have tk : Takes (cxOf (L2.CX P w) P w K mg base ["_law_told", "_law_due"] "_law_is_list" (defScope (top 58)) f cdv A outer s H E) (fun c d _ H => E c d H) := takes_of rfl rfl rfl rfl
    have po := passes_of (X := cxOf (L2.CX P w) P w K mg base ["_law_told", "_law_due"] "_law_is_list" (defScope (top 58)) f cdv A outer s H E) rfl
    (pssd_one (psd_ret (pd_and (pd_isi .list rfl T.n_isinstance (po_r 0 (pv 0)) (pe_bltn rfl T.n_list (by decide +kernel) rfl)) (pd_one (pd_cmp (op_eqX hr.units) od_eqX (po_r 0 (pv 0)) (po_r 1 (pv 1)) (nomark _))))))
theorem sc_law : FnScope ["_law_script", "_law_parts_here", "_law_purse_here", "_law_plan", "_law_told", "_law_names", "_law_borne", "_law_due", "_law_first", "_law_turn", "_law_name_here", "_law_here", "_law_part_here", "_law_joint"] ["_law_script"] (defScope (top 59)) := ⟨rfl, rfl, rfl, by decide +kernel, rfl, by decide +kernel, by decide +kernel⟩
theorem ok_law {f : Addr} {fd : FuncData} (T : Tx K mg cl) (F : Fun K "law" "law" (top 59) f fd) (G__law_parts : Means P w K mg base cl 4 "_law_parts" ["_law_purse_here", "_law_most"] Sc.dn__law_parts) (G__law_purse : Means P w K mg base cl 1 "_law_purse" ["_law_cell"] Sc.dn__law_purse) (G__law_at : Means P w K mg base cl 1 "_law_at" ["_law_script", "_law_k"] Sc.dn__law_at) (G_Plan___init__ : MeansC P w K mg base cl 7 "Plan" ["self", "parts", "floor"] Sc.dn_Plan___init__) (G__law_fraction : Means P w K mg base cl 2 "_law_fraction" ["_law_purse_here", "_law_least"] Sc.dn__law_fraction) (G__law_joints : Means P w K mg base cl 2 "_law_joints" ["_law_parts_here"] Sc.dn__law_joints_v1) (G_loose : Means P w K mg base cl 5 "loose" ["plan"] Sc.dn_loose) (G__law_is_list : Means P w K mg base cl 1 "_law_is_list" ["_law_told", "_law_due"] dn__law_is_list) (G__law_take : Means P w K mg base cl 1 "_law_take" ["_law_purse_here", "_law_many"] Sc.dn__law_take) (G_rests_on : Means P w K mg base cl 5 "rests_on" ["plan", "name"] Sc.dn_rests_on) (G__law_rests : Means P w K mg base cl 1 "_law_rests" ["_law_told", "_law_name_here"] Sc.dn__law_rests) : FnOk P w K mg base (L2.CX P w) 9 f fd ["_law_script"] (spF ⟨K, cl⟩ 1 dn_law) :=
  fn_D (k := 8) (N := ["_law_script", "_law_parts_here", "_law_purse_here", "_law_plan", "_law_told", "_law_names", "_law_borne", "_law_due", "_law_first", "_law_turn", "_law_name_here", "_law_here", "_law_part_here", "_law_joint"]) (mask := [false]) F sc_law rfl fun cdv A outer s H E hr =>
    have tk : Takes (cxOf (L2.CX P w) P w K mg base ["_law_script", "_law_parts_here", "_law_purse_here", "_law_plan", "_law_told", "_law_names", "_law_borne", "_law_due", "_law_first", "_law_turn", "_law_name_here", "_law_here", "_law_part_here", "_law_joint"] "law" (defScope (top 59)) f cdv A outer s H E) (fun c d _ H => E c d H) := takes_of rfl rfl rfl rfl
    have po := passes_of (X := cxOf (L2.CX P w) P w K mg base ["_law_script", "_law_parts_here", "_law_purse_here", "_law_plan", "_law_told", "_law_names", "_law_borne", "_law_due", "_law_first", "_law_turn", "_law_name_here", "_law_here", "_law_part_here", "_law_joint"] "law" (defScope (top 59)) f cdv A outer s H E) rfl
    (pssd_cons (psd_asg (pd_call G__law_parts (hr.mono (by decide)) rfl tk (pas_cons (po_v (pd_call G__law_purse (hr.mono (by decide)) rfl tk (pas_cons (po_v (pd_call G__law_at (hr.mono (by decide)) rfl tk (pas_cons (po_v (pd_var 0 (pv 0))) (pas_cons (po_v pd_int) pas_nil)))) pas_nil))) (pas_cons (po_v pd_int) pas_nil))) (pgd_name (i := 1) sc_law.nd rfl (Or.inl rfl)) gN_nx)
    (pssd_cons (psd_asg (pd_call G__law_purse (hr.mono (by decide)) rfl tk (pas_cons (po_v (pd_call G__law_at (hr.mono (by decide)) rfl tk (pas_cons (po_v (pd_var 0 (pv 0))) (pas_cons (po_v pd_int) pas_nil)))) pas_nil)) (pgd_name (i := 2) sc_law.nd rfl (Or.inl rfl)) gN_nx)
    (pssd_cons (psd_asg (pd_shr (pd_make G_Plan___init__ (hr.mono (by decide)) rfl tk (pas_cons (po_v (pd_var 1 (pv 1))) (pas_cons (po_v (pd_call G__law_fraction (hr.mono (by decide)) rfl tk (pas_cons (po_r 2 (pv 2)) (pas_cons (po_v pd_int) pas_nil)))) pas_nil)))) (pgd_name (i := 3) sc_law.nd rfl (Or.inl rfl)) gN_nx)
    (pssd_cons (psd_asg (pd_call G__law_joints (hr.mono (by decide)) rfl tk (pas_cons (po_v (pd_var 1 (pv 1))) pas_nil)) (pgd_name (i := 4) sc_law.nd rfl (Or.inl rfl)) gN_nx)
    (pssd_cons (psd_setLc (own := [("_law_part_here", 12)]) (i := 5) rfl sc_law.nd rfl rfl rfl rfl (by decide +kernel) (pwk_seq (pd_var 1 (pv 1))) (blkOk_by (by kernel_rfl)) (fun _ _ _ _ _ => (pgv_name (i := 12) sc_law.nd rfl (by first | exact Or.inl rfl | exact Or.inr rfl) (by decide) (by first | exact Or.inl rfl | exact Or.inr rfl))) (fun _ _ _ _ _ => ptsd_nil) (fun _ _ _ _ _ => (pd_ix ix_X od_ix (po_r 12 (pv 12)) (po_v pd_int) (fun _ _ => rfl))) (by intro _ _ h; first | (cases h; done) | (cases h; decide)))
    (pssd_cons (psd_asg (pd_lc (own := [("_law_joint", 13)]) rfl sc_law.nd (pwk_seq (pd_var 4 (pv 4))) (blkOk_by (by kernel_rfl)) (fun _ _ _ _ _ => (pgv_name (i := 13) sc_law.nd rfl (by first | exact Or.inl rfl | exact Or.inr rfl) (by decide) (by first | exact Or.inl rfl | exact Or.inr rfl))) (fun _ _ _ _ _ => ptsd_nil) (fun _ _ _ _ _ => (pd_ix ix_X od_ix (po_r 13 (pv 13)) (po_v pd_int) (fun _ _ => rfl))) (by intro _ _ h; first | (cases h; done) | (cases h; decide))) (pgd_name (i := 6) sc_law.nd rfl (Or.inr rfl)) gN_nx)
    (pssd_cons (psd_asg (pd_callB (cr_sortD hr.units3) od_sorted rfl T.n_sorted (by decide +kernel) (pas_cons (po_v (pd_lc (own := [("_law_name_here", 10)]) rfl sc_law.nd (pwk_seq (pd_var 5 (pv 5))) (blkOk_by (by kernel_rfl)) (fun _ _ _ _ _ => (pgv_name (i := 10) sc_law.nd rfl (by first | exact Or.inl rfl | exact Or.inr rfl) (by decide) (by first | exact Or.inl rfl | exact Or.inr rfl))) (fun _ _ _ _ _ => (ptsd_one (ptd_cmp (op_notInX hr.units1) od_notIn (po_r 10 (pv 10)) (po_r 6 (pv 6)) (by with_unfolding_all rfl)))) (fun _ _ _ _ _ => (pd_var 10 (pv 10))) (by intro _ _ h; first | (cases h; done) | (cases h; decide)))) pas_nil)) (pgd_name (i := 7) sc_law.nd rfl (Or.inl rfl)) gN_nx)
    (pssd_cons (psd_asg (pd_call G_loose (hr.mono (by decide)) rfl tk (pas_cons (po_v (pd_var 3 (pv 3))) pas_nil)) (pgd_name (i := 8) sc_law.nd rfl (Or.inl rfl)) gN_nx)
    (pssd_cons (psd_if (ptd_not (ptd_val (pd_held 8 (pd_call G__law_is_list (hr.mono (by decide)) rfl tk (pas_cons (po_r 8 (pv 8)) (pas_cons (po_v (pd_var 7 (pv 7))) pas_nil))))))
    (pssd_one (psd_ret pd_bl))
    pssd_nil)
    (pssd_cons (psd_append (pv 8) pd_str)
    (pssd_cons (psd_asg (pd_call G__law_take (hr.mono (by decide)) rfl tk (pas_cons (po_r 2 (pv 2)) (pas_cons (po_v (pd_bin op_addX od_add (po_v pd_int) (po_v (pd_callB call_len od_len rfl T.n_len (by decide +kernel) (pas_cons (po_r 5 (pv 5)) pas_nil))))) pas_nil))) (pgd_name (i := 9) sc_law.nd rfl (Or.inl rfl)) gN_nx)
    (pssd_cons (psd_forI po rfl (pwk_seq (pd_bin op_addX od_add (po_v (pd_slice sl_X sd_X (po_r 5 (pv 5)) (pid_some (po_r 9 (pv 9))) pid_none)) (po_v (pd_slice sl_X sd_X (po_r 5 (pv 5)) pid_none (pid_some (po_r 9 (pv 9))))))) (pgd_name (i := 10) sc_law.nd rfl (Or.inl rfl))
    (pssd_cons (psd_asg (pd_call G_rests_on (hr.mono (by decide)) rfl tk (pas_cons (po_v (pd_var 3 (pv 3))) (pas_cons (po_v (pd_var 10 (pv 10))) pas_nil))) (pgd_name (i := 11) sc_law.nd rfl (Or.inl rfl)) gN_nx)
    (pssd_cons (psd_if (ptd_not (ptd_val (pd_held 11 (pd_call G__law_is_list (hr.mono (by decide)) rfl tk (pas_cons (po_r 11 (pv 11)) (pas_cons (po_v (pd_call G__law_rests (hr.mono (by decide)) rfl tk (pas_cons (po_v (pd_var 4 (pv 4))) (pas_cons (po_v (pd_var 10 (pv 10))) pas_nil)))) pas_nil))))))
    (pssd_one (psd_ret pd_bl))
    pssd_nil)
    (pssd_cons (psd_append (pv 11) pd_str)
    (pssd_one (psd_if (ptd_not (ptd_val (pd_call G__law_is_list (hr.mono (by decide)) rfl tk (pas_cons (po_v (pd_call G_rests_on (hr.mono (by decide)) rfl tk (pas_cons (po_v (pd_var 3 (pv 3))) (pas_cons (po_v (pd_var 10 (pv 10))) pas_nil)))) (pas_cons (po_v (pd_call G__law_rests (hr.mono (by decide)) rfl tk (pas_cons (po_v (pd_var 4 (pv 4))) (pas_cons (po_v (pd_var 10 (pv 10))) pas_nil)))) pas_nil)))))
    (pssd_one (psd_ret pd_bl))
    pssd_nil))))) gN_nx)
    (pssd_one (psd_ret (pd_call G__law_is_list (hr.mono (by decide)) rfl tk (pas_cons (po_v (pd_call G_loose (hr.mono (by decide)) rfl tk (pas_cons (po_v (pd_var 3 (pv 3))) pas_nil))) (pas_cons (po_v (pd_var 7 (pv 7))) pas_nil)))))))))))))))))
theorem sx_Clash : FnScope ["self", "one", "other"] ["self", "one", "other"] (defScope (mt 3 0)) := ⟨rfl, rfl, rfl, by decide +kernel, rfl, by decide +kernel, by decide +kernel⟩
theorem xi_Clash {f : Addr} {fd : FuncData} (T : Tx K mg cl) (F : Fun K "__init__" "Clash.__init__" (mt 3 0) f fd) (TB : BaseI K mg "ScaffoldError" (He.ga K "ScaffoldError")) (To : OexC K (He.ga K "Clash")) (h0 : PySem.W.findIn K (.ref (He.ga K "Clash")) "one" = some none) (h1 : PySem.W.findIn K (.ref (He.ga K "Clash")) "other" = some none) : FnOk P w K mg base (L2.CX P w) 1 f fd ["self", "one", "other"] (spI (He.ga K "Clash") ["one", "other"] (Xk.ok .t)) :=
  fn_xiT F sx_Clash To h0 h1 (m1 := "no room for ") (m2 := " and ") (by decide +kernel) (by decide +kernel) fun cdv A outer s H E => pss_cons (ps_expr (pe_oinit TB rfl (pa_cons (pv 0) (pa_cons (pe_op op_add_str (pe_op op_add_str (pe_op op_add_str pe_str (pv 1)) pe_str) (pv 2)) pa_nil)))) (pss_cons (ps_ost (pv 0) (pv 1)) (pss_one (ps_ost (pv 0) (pv 2))))
theorem sx_NoPart : FnScope ["self", "number"] ["self", "number"] (defScope (mt 2 0)) := ⟨rfl, rfl, rfl, by decide +kernel, rfl, by decide +kernel, by decide +kernel⟩
theorem xi_NoPart {f : Addr} {fd : FuncData} (T : Tx K mg cl) (F : Fun K "__init__" "NoPart.__init__" (mt 2 0) f fd) (TB : BaseI K mg "ScaffoldError" (He.ga K "ScaffoldError")) (To : OexC K (He.ga K "NoPart")) (h0 : PySem.W.findIn K (.ref (He.ga K "NoPart")) "number" = some none) : FnOk P w K mg base (L2.CX P w) 1 f fd ["self", "number"] (spI (He.ga K "NoPart") ["number"] (Xk.ok .n)) :=
  fn_xiN F sx_NoPart To h0 (msg := "no part: ") (by decide +kernel) fun cdv A outer s H E => pss_cons (ps_expr (pe_oinit TB rfl (pa_cons (pv 0) (pa_cons (pe_op op_add_str pe_str (pe_callTy call_str_int rfl T.n_str (by decide +kernel) (pa_cons (pv 1) pa_nil))) pa_nil)))) (pss_one (ps_ost (pv 0) (pv 1)))
end
end L_k23

/-! LmFrac: what the defs of fractions and of the pot give. -/
namespace Sc
open PySem Py
set_option maxRecDepth 10000
set_option linter.all false
noncomputable def gW : S := sWhile (tV (eOp (asC (aR 3) (asC (aV (eC (.int 0))) asN)) oGt))
    (sPar 2 3 (asC (aV (eVar 3)) (asC (aV (eOp (asC (aR 2) (asC (aR 3) asN)) oMod)) asN)))
theorem gW_spec (x y : Sl) : ∀ (n l r : Nat), r ≤ n → gW [x, y, .sh (.int l), .sh (.int r)] = some (.nx [x, y, .sh (.int (Nat.gcd l r)), .sh (.int 0)]) := by
  intro n
  induction n with
  | zero =>
    intro l r hn
    have : r = 0 := by omega
    subst this
    refine (sWhile_stop (r1 := [x, y, .sh (.int l), .sh (.int 0)]) ?_).trans ?_
    · simp
    · simp
  | succ n ih =>
    intro l r hn
    by_cases h0 : r = 0
    · subst h0
      refine (sWhile_stop (r1 := [x, y, .sh (.int l), .sh (.int 0)]) ?_).trans ?_
      · simp
      · simp
    · have hr0 : 0 < r := by omega
      have em : (l : Int).fmod r = ((l % r : Nat) : Int) := by
        rw [Int.fmod_eq_emod_of_nonneg _ (by omega)]
        exact (Int.natCast_emod l r).symm
      have h2 := Nat.mod_lt l hr0
      refine sWhile_step (r1 := [x, y, .sh (.int l), .sh (.int r)]) (r2 := [x, y, .sh (.int r), .sh (.int (l % r : Nat))]) ?_ ?_ ?_
      · simp [hr0]
      · simp only [sPar, sE, asC, aV, eVar, M.bind, M.pure, eOp, aR, M.get]
        simp [h0, em]
      · have := ih r (l % r) (by omega)
        rw [show sWhile _ _ = gW from rfl, this]
        rw [Nat.gcd_comm l r, Nat.gcd_rec r l, Nat.gcd_comm (l % r) r]
theorem abs_nat (a : Int) : (if a < 0 then -a else a) = (a.natAbs : Int) := by
  split <;> omega
theorem common_spec (a b : Int) : dn_common_part [.sh (.int a), .sh (.int b)] = some (.ret (.sh (.int (Int.gcd a b))) [.no, .no]) := by
  have h := gW_spec (.sh (.int a)) (.sh (.int b)) b.natAbs a.natAbs b.natAbs (Nat.le_refl _)
  unfold gW at h
  simp only [dn_common_part, mkFn]
  simp [abs_nat]
  simp at h
  rw [h]
  simp [Int.gcd]
theorem fraction_zero (a : Int) : dn_fraction [.sh (.int a), .sh (.int 0)] = some (.ex ⟨"NoFraction", []⟩ [.no, .no]) := by
  simp [dn_fraction]
theorem fraction_spec (a b : Int) (hb : b ≠ 0) (hs : divOk (byZ a b) = true) : dn_fraction [.sh (.int a), .sh (.int b)] = some (.ret (.sh (lowD a b)) [.no, .no]) := by
  by_cases h : b < 0
  · have e : byZ a b = -(Int.gcd a b : Int) := if_pos h
    rw [e] at hs
    simp [dn_fraction, hb, common_spec, h, hs, lowT, lowB, e, lim]
  · have e : byZ a b = (Int.gcd a b : Int) := if_neg h
    rw [e] at hs
    simp [dn_fraction, hb, common_spec, h, hs, lowT, lowB, e, lim]
theorem low_spec (a b : Int) (hb : b ≠ 0) (hs : divOk (byZ a b) = true) : dn__law_low [.sh (.int a), .sh (.int b)] = some (.ret (.sh (lowD a b)) [.no, .no]) := by
  have h0 := gW_spec (.sh (.int a)) (.sh (.int b)) b.natAbs a.natAbs b.natAbs (Nat.le_refl _)
  unfold gW at h0
  simp at h0
  by_cases h : b < 0
  · have e : byZ a b = -(Int.gcd a b : Int) := if_pos h
    rw [e] at hs
    simp only [dn__law_low, mkFn]
    simp [abs_nat]
    rw [h0]
    simp only [Int.gcd] at hs e
    simp [h, hs, lowT, lowB, e, lim]
  · have e : byZ a b = (Int.gcd a b : Int) := if_neg h
    rw [e] at hs
    simp only [dn__law_low, mkFn]
    simp [abs_nat]
    rw [h0]
    simp only [Int.gcd] at hs e
    simp [h, hs, lowT, lowB, e, lim]
/-- small numbers: below 2 ^ n -/
abbrev sm (n : Nat) (x : Int) : Prop := x.natAbs < 2 ^ n
section
variable {a b c d : Int}
theorem mul_sm {m n : Nat} {x y : Int} (hx : sm m x) (hy : sm n y) (hm : 0 < m) (hn : 0 < n) (h : m + n ≤ 1000000) : mulOk x y = true := mulOk_of hx hy hm hn h
theorem is_less_spec (h1 : sm 50 a) (h2 : sm 50 b) (h3 : sm 50 c) (h4 : sm 50 d) : dn_is_less [.sh (dF a b), .sh (dF c d)] = some (.ret (.sh (.bl (decide (a * d < c * b)))) [.no, .no]) := by
  simp [dn_is_less, mul_sm h1 h4, mul_sm h3 h2]
theorem frac_sm {a b : Int} {n : Nat} (hb : b ≠ 0) (h : sm n b) (hn : 0 < n := by decide) (h9 : n ≤ 9000 := by decide) : dn_fraction [.sh (.int a), .sh (.int b)] = some (.ret (.sh (lowD a b)) [.no, .no]) := fraction_spec a b hb (byZ_div hb h hn h9)
theorem low_sm {a b : Int} {n : Nat} (hb : b ≠ 0) (h : sm n b) (hn : 0 < n := by decide) (h9 : n ≤ 9000 := by decide) : dn__law_low [.sh (.int a), .sh (.int b)] = some (.ret (.sh (lowD a b)) [.no, .no]) := low_spec a b hb (byZ_div hb h hn h9)
theorem mul_ne {x y : Int} (hx : x ≠ 0) (hy : y ≠ 0) : x * y ≠ 0 := Int.mul_ne_zero hx hy
theorem plus_spec (h1 : sm 50 a) (h2 : sm 50 b) (h3 : sm 50 c) (h4 : sm 50 d) (hb : b ≠ 0) (hd : d ≠ 0) : dn_plus [.sh (dF a b), .sh (dF c d)] = some (.ret (.sh (lowD (a * d + c * b) (b * d))) [.no, .no]) := by
  simp [dn_plus, mul_sm h1 h4, mul_sm h3 h2, mul_sm h2 h4, frac_sm (mul_ne hb hd) (natAbs_mul_lt h2 h4)]
theorem sum_spec (h1 : sm 50 a) (h2 : sm 50 b) (h3 : sm 50 c) (h4 : sm 50 d) (hb : b ≠ 0) (hd : d ≠ 0) : dn__law_sum [.sh (dF a b), .sh (dF c d)] = some (.ret (.sh (lowD (a * d + c * b) (b * d))) [.no, .no]) := by
  simp [dn__law_sum, mul_sm h1 h4, mul_sm h3 h2, mul_sm h2 h4, low_sm (mul_ne hb hd) (natAbs_mul_lt h2 h4)]
theorem minus_spec (h1 : sm 50 a) (h2 : sm 50 b) (h3 : sm 50 c) (h4 : sm 50 d) (hb : b ≠ 0) (hd : d ≠ 0) : dn_minus [.sh (dF a b), .sh (dF c d)] = some (.ret (.sh (lowD (a * d - c * b) (b * d))) [.no, .no]) := by
  simp [dn_minus, mul_sm h1 h4, mul_sm h3 h2, mul_sm h2 h4, frac_sm (mul_ne hb hd) (natAbs_mul_lt h2 h4)]
theorem times_spec (h1 : sm 50 a) (h2 : sm 50 b) (h3 : sm 50 c) (h4 : sm 50 d) (hb : b ≠ 0) (hd : d ≠ 0) : dn_times [.sh (dF a b), .sh (dF c d)] = some (.ret (.sh (lowD (a * c) (b * d))) [.no, .no]) := by
  simp [dn_times, mul_sm h1 h3, mul_sm h2 h4, frac_sm (mul_ne hb hd) (natAbs_mul_lt h2 h4)]
theorem product_spec (h1 : sm 50 a) (h2 : sm 50 b) (h3 : sm 50 c) (h4 : sm 50 d) (hb : b ≠ 0) (hd : d ≠ 0) : dn__law_product [.sh (dF a b), .sh (dF c d)] = some (.ret (.sh (lowD (a * c) (b * d))) [.no, .no]) := by
  simp [dn__law_product, mul_sm h1 h3, mul_sm h2 h4, low_sm (mul_ne hb hd) (natAbs_mul_lt h2 h4)]
theorem over_spec (h1 : sm 50 a) (h2 : sm 50 b) (h3 : sm 50 c) (h4 : sm 50 d) (hb : b ≠ 0) (hc : c ≠ 0) : dn_over [.sh (dF a b), .sh (dF c d)] = some (.ret (.sh (lowD (a * d) (b * c))) [.no, .no]) := by
  simp [dn_over, mul_sm h1 h4, mul_sm h2 h3, frac_sm (mul_ne hb hc) (natAbs_mul_lt h2 h3)]
theorem over_zero (h1 : sm 50 a) (h2 : sm 50 b) (h4 : sm 50 d) : dn_over [.sh (dF a b), .sh (dF 0 d)] = some (.ex ⟨"NoFraction", []⟩ [.no, .no]) := by
  have h0 : sm 50 0 := by decide
  simp [dn_over, mul_sm h1 h4, mul_sm h2 h0, fraction_zero]
end
theorem whole_int (i : Int) : dn_is_whole [.sh (.int i)] = some (.ret (.sh (.bl true)) [.no]) := by simp [dn_is_whole]
theorem is_fraction_dF (a b : Int) : dn_is_fraction [.sh (dF a b)] = some (.ret (.sh (.bl (decide (0 < b) && decide (Int.gcd a b = 1)))) [.no]) := by
  by_cases hb : 0 < b
  · have e : ((Int.gcd a b : Int) == 1) = decide (Int.gcd a b = 1) := by
      rw [Bool.eq_iff_iff]
      simp
      omega
    simp [dn_is_fraction, whole_int, common_spec, hb, e]
  · simp [dn_is_fraction, whole_int, common_spec, hb]
/-! the pot -/
abbrev potD (a b : Int) : D := .lst [.int a, .int b]
def okP (a b : Int) : Prop := 0 ≤ a ∧ 0 ≤ b ∧ b < 2147483648
theorem pot_spec (n : Int) : ∃ a b, okP a b ∧ dn__law_pot [.sh (.int n)] = some (.ret (.ow (potD a b)) [.no]) := by
  have e1 : (n.natAbs : Int).fmod 2147483629 = (n.natAbs : Int) % 2147483629 := Int.fmod_eq_emod_of_nonneg _ (by decide)
  refine ⟨if (n.natAbs : Int) - 10 ^ 18 > 0 then (n.natAbs : Int) - 10 ^ 18 else 0, (n.natAbs : Int) % 2147483629 + 1, ⟨by split <;> omega, by omega, by omega⟩, ?_⟩
  simp [dn__law_pot, abs_nat, e1, lim]
theorem draw_spec (a b m : Int) (h : okP a b) (hm : 0 < m) (hs : sm 300 m) : ∃ d a' b', 0 ≤ d ∧ d < m ∧ okP a' b' ∧ dn__law_draw [.ow (potD a b), .sh (.int m)] = some (.ret (.sh (.int d)) [.ow (potD a' b'), .no]) := by
  obtain ⟨h1, h2, h3⟩ := h
  have hl : m.natAbs.log2 < 9000 := Nat.lt_trans (log2_lt hs (by decide)) (by decide)
  by_cases ha : 0 < a
  · refine ⟨a % m, a / m, b, Int.emod_nonneg _ (by omega), Int.emod_lt_of_pos _ hm, ⟨Int.ediv_nonneg h1 (by omega), h2, h3⟩, ?_⟩
    simp [dn__law_draw, ha, hm, hl, lim]
  · have ha0 : a = 0 := by omega
    subst ha0
    have m1 : mulOk b 48271 = true := mul_sm (m := 32) (n := 20) (by show b.natAbs < 2 ^ 32; omega) (by decide) (by decide) (by decide) (by decide)
    obtain ⟨b', hb'⟩ : ∃ b', b' = (b * 48271 + 11).fmod 2147483647 := ⟨_, rfl⟩
    have e0 : (b * 48271 + 11).fmod 2147483647 = (b * 48271 + 11) % 2147483647 := Int.fmod_eq_emod_of_nonneg _ (by decide)
    have b1 : 0 ≤ b' := by rw [hb', e0]; omega
    have b2 : b' < 2147483647 := by rw [hb', e0]; omega
    have m2 : mulOk b' b' = true := mul_sm (m := 32) (n := 32) (by show b'.natAbs < 2 ^ 32; omega) (by show b'.natAbs < 2 ^ 32; omega) (by decide) (by decide) (by decide)
    have d3 : divOk 3 = true := by decide
    refine ⟨(((b' * b').fmod 2147483629).fdiv 3).fmod m, 0, b', ?_, ?_, ⟨by omega, b1, by omega⟩, ?_⟩
    · rw [Int.fmod_eq_emod_of_nonneg _ (by omega)]
      exact Int.emod_nonneg _ (by omega)
    · rw [Int.fmod_eq_emod_of_nonneg _ (by omega)]
      exact Int.emod_lt_of_pos _ hm
    · have hm0 : m ≠ 0 := by omega
      simp [dn__law_draw, m1, ← hb', m2, d3, hm0]

/-! texts -/
theorem sm10 {x : Int} (h : sm 50 x) : x.natAbs < 10 ^ 16 := Nat.lt_trans h (by decide)
theorem smlog {x : Int} (h : sm 50 x) : x.natAbs.log2 < 1920 := Nat.lt_trans (log2_lt h (by decide)) (by decide)
abbrev txt (x : Int) : Str := Str.ofString x.repr
theorem txt_len {x : Int} (h : sm 50 x) : (txt x).length ≤ 17 := len_int x (sm10 h) (by decide)
theorem slash_len : (Str.ofString "/").length = 1 := by decide
def fracTxt (a b : Int) : Str := if b = 1 then txt a else txt a ++ Str.ofString "/" ++ txt b
theorem text_spec {a b : Int} (h1 : sm 50 a) (h2 : sm 50 b) : dn_fraction_text [.sh (dF a b)] = some (.ret (.sh (.str (fracTxt a b))) [.no]) := by
  have l1 := txt_len h1
  have l2 := txt_len h2
  have e1 : (txt a).length + (Str.ofString "/").length ≤ lim := by rw [slash_len]; unfold lim; omega
  have e2 : (txt a ++ Str.ofString "/").length + (txt b).length ≤ lim := by rw [len_app, slash_len]; unfold lim; omega
  by_cases hb : b = 1
  · simp [dn_fraction_text, hb, smlog h1, fracTxt]
  · simp [dn_fraction_text, hb, smlog h1, smlog h2, fracTxt, e1, e2]
theorem fracTxt_ok (a b : Int) : (fracTxt a b).cps.all (fun c => decide (c < 0x110000)) = true := by
  unfold fracTxt
  split
  · exact cps_ok _
  · rw [cps_app, cps_app, Array.all_append, Array.all_append, cps_ok, cps_ok, cps_ok]
    rfl
theorem forL_inv (P : Py.Env → Prop) (g : G) (b : S) : ∀ (ds : List D) (r : Py.Env), (∀ d ∈ ds, ∀ r, P r → ∃ r1 r2, g (.sh d) r = some (.nx r1) ∧ b r1 = some (.nx r2) ∧ P r2) → P r → ∃ r', forL g b ds r = some (.nx r') ∧ P r'
  | [], r, _, hp => ⟨r, rfl, hp⟩
  | d :: ds, r, h, hp => by
    obtain ⟨r1, r2, e1, e2, p2⟩ := h d (.head _) r hp
    obtain ⟨r', e3, p3⟩ := forL_inv P g b ds r2 (fun d' hd' => h d' (.tail _ hd')) p2
    refine ⟨r', ?_, p3⟩
    simp only [forL, e1, e2]
    exact e3
theorem cutD_mem {xs : List D} {lo hi : Option Int} {d : D} (h : d ∈ cutD xs lo hi) : d ∈ xs := List.mem_of_mem_drop (List.mem_of_mem_take h)
end Sc

/-! LmPart: what the defs of parts give. -/
namespace Sc
open PySem Py
set_option maxRecDepth 10000
set_option linter.all false
theorem lcL_map1 {n : G} {m : E} {vs : List Nat} {f : D → D} {r : Py.Env} : ∀ (ds acc : List D), (∀ d ∈ ds, ∃ r1 x r3, n (.sh d) r = some (.nx r1) ∧ m r1 = some (.ok x r3) ∧ x.val = some (f d) ∧ wipeE r3 vs = r) →
    acc.length + ds.length ≤ lim → lcL n tYesE m vs ds acc r = some (acc ++ ds.map f, r) := by
  intro ds acc h hl
  have := lcL_map (n := n) (t := tYesE) (m := m) (vs := vs) (p := fun _ => true) (f := f) (r := r) ds acc (fun d hd => by
    obtain ⟨r1, x, r3, h1, h2, h3, h4⟩ := h d hd
    exact .inl ⟨rfl, r1, r1, x, r3, h1, rfl, h2, h3, h4⟩) hl
  rw [this, List.filter_eq_self.mpr (fun _ _ => rfl)]
theorem blsD_map {α : Type} (f : α → Bool) : ∀ xs : List α, blsD (xs.map fun x => D.bl (f x)) = some (xs.map f)
  | [] => rfl
  | x :: xs => by
    rw [List.map_cons, blsD, blsD_map f xs]
    rfl
/-! ### things that are looked at -/
def atm : D → Bool
  | .int i => decide (i.natAbs ≤ 10000000000000)
  | .bl _ => true
  | .non => true
  | .str z => decide (z.length ≤ 1000) && z.cps.all (fun c => decide (c < 0x110000))
  | _ => false
def itm : D → Bool
  | .tup ds => ds.all atm
  | .lst ds => ds.all atm
  | .dic [] [] => true
  | d => atm d
theorem atm_cmp {d : D} (h : atm d = true) : cmpOk d = true ∧ dep d = 0 := by
  cases d <;> first | (cases h; done) | (simp [atm] at h ⊢; try exact h.2)
theorem atms_cmp : ∀ {ds : List D}, ds.all atm = true → cmpOks ds = true ∧ deps ds = 0
  | [], _ => ⟨rfl, rfl⟩
  | d :: ds, h => by
    rw [List.all_cons, Bool.and_eq_true] at h
    obtain ⟨a1, a2⟩ := atm_cmp h.1
    obtain ⟨b1, b2⟩ := atms_cmp h.2
    simp [a1, a2, b1, b2]
def dicB : D → Bool
  | .dic _ _ => true
  | _ => false
theorem itm_eq {d : D} (h : itm d = true) : eqOk d = true ∨ dicB d = true := by
  cases d with
  | tup ds =>
    obtain ⟨b1, b2⟩ := atms_cmp (show ds.all atm = true from h)
    exact .inl (by simp [b1, b2])
  | lst ds =>
    obtain ⟨b1, b2⟩ := atms_cmp (show ds.all atm = true from h)
    exact .inl (by simp [b1, b2])
  | dic ks ds => exact .inr rfl
  | int i => exact .inl rfl
  | bl i => exact .inl rfl
  | non => exact .inl rfl
  | str z =>
    obtain ⟨b1, b2⟩ := atm_cmp (show atm (.str z) = true from h)
    exact .inl (by unfold eqOk; rw [b1, b2]; rfl)
  | scr ds => cases h
  | obj _ _ _ => cases h
  | exc _ _ _ => cases h
/-- is the text s -/
def isB (s : Str) : D → Bool
  | .str z => z == s
  | _ => false
theorem eqvs_len : ∀ (xs ys : List D), xs.length ≠ ys.length → eqvs xs ys = false
  | [], [], h => absurd rfl h
  | [], _ :: _, _ => by simp only [eqvs]
  | _ :: _, [], _ => by simp only [eqvs]
  | x :: xs, y :: ys, h => by
    simp only [eqvs]
    rw [eqvs_len xs ys (fun e => h (by simp [e]))]
    simp
theorem eqX_of {d e : D} (hd : dicB d = false) (h1 : eqOk d = true) (h2 : eqOk e = true) : oEqX [d, e] = rB (eqv d e) := by
  have k : oEq [d, e] = rB (eqv d e) := by
    show (if _ ∧ _ then _ else _) = _
    rw [if_pos ⟨h1, h2⟩]
  cases d with
  | dic _ _ => cases hd
  | lst xs =>
    cases e with
    | lst ys =>
      show (if xs.length = ys.length then oEq [.lst xs, .lst ys] else rB false) = _
      split
      · exact k
      · rename_i hne
        simp only [eqv]
        rw [eqvs_len xs ys hne]
    | _ => exact k
  | str x =>
    cases e with
    | str y => simp only [oEqX, eqv]
    | _ => exact k
  | _ => exact k
theorem neX_of {d e : D} (hd : dicB d = false) (h1 : eqOk d = true) (h2 : eqOk e = true) : oNeX [d, e] = rB (!eqv d e) := by
  have k : oNe [d, e] = rB (!eqv d e) := by
    show (if _ ∧ _ then _ else _) = _
    rw [if_pos ⟨h1, h2⟩]
  cases d with
  | dic _ _ => cases hd
  | lst xs =>
    cases e with
    | lst ys =>
      show (if xs.length = ys.length then oNe [.lst xs, .lst ys] else rB true) = _
      split
      · exact k
      · rename_i hne
        simp only [eqv]
        rw [eqvs_len xs ys hne]
        rfl
    | _ => exact k
  | str x =>
    cases e with
    | str y => simp only [oNeX, eqv]
    | _ => exact k
  | _ => exact k
theorem eqv_str (d : D) (s : Str) : eqv d (.str s) = isB s d := by
  cases d <;> simp [isB]
theorem eq_str {d : D} (s : Str) (h : itm d = true) (hs : s.cps.all (fun c => decide (c < 0x110000)) = true) : oEqX [d, .str s] = rB (isB s d) := by
  have hs2 : eqOk (.str s) = true := by simp [hs]
  by_cases hd : dicB d = true
  · cases d <;> first | (cases hd; done) | rfl
  · rcases itm_eq h with e | e
    · rw [eqX_of (by simpa using hd) e hs2, eqv_str]
    · exact absurd e hd
theorem ne_str {d : D} (s : Str) (h : itm d = true) (hs : s.cps.all (fun c => decide (c < 0x110000)) = true) : oNeX [d, .str s] = rB (!isB s d) := by
  have hs2 : eqOk (.str s) = true := by simp [hs]
  by_cases hd : dicB d = true
  · cases d <;> first | (cases hd; done) | rfl
  · rcases itm_eq h with e | e
    · rw [neX_of (by simpa using hd) e hs2, eqv_str]
    · exact absurd e hd
theorem isi_itm {d : D} (h : itm d = true) (t : Ty) : ∃ b, t.has d = some b := by
  cases d <;> first | (cases h; done) | (cases t <;> exact ⟨_, rfl⟩)
/-- a turn that keeps d' and leaves the slots -/
@[simp] def turnOk (n : G) (m : E) (vs : List Nat) (r : Py.Env) (d d' : D) : Prop := match n (.sh d) r with
  | some (.nx r1) => match m r1 with
    | some (.ok x r3) => x.val = some d' ∧ wipeE r3 vs = r
    | _ => False
  | _ => False
theorem turnOk_get {n : G} {m : E} {vs : List Nat} {r : Py.Env} {d d' : D} (h : turnOk n m vs r d d') : ∃ r1 x r3, n (.sh d) r = some (.nx r1) ∧ m r1 = some (.ok x r3) ∧ x.val = some d' ∧ wipeE r3 vs = r := by
  unfold turnOk at h
  split at h
  · rename_i r1 e1
    split at h
    · rename_i x r3 e2
      exact ⟨r1, x, r3, e1, e2, h⟩
    · exact h.elim
  · exact h.elim
theorem lcL_of {α : Type} {n : G} {m : E} {vs : List Nat} (g f : α → D) {r : Py.Env} : ∀ (xs : List α) (acc : List D), (∀ a ∈ xs, turnOk n m vs r (g a) (f a)) →
    acc.length + xs.length ≤ lim → lcL n tYesE m vs (xs.map g) acc r = some (acc ++ xs.map f, r)
  | [], acc, _, _ => by simp [lcL]
  | a :: xs, acc, h, hl => by
    obtain ⟨r1, x, r3, h1, h2, h3, h4⟩ := turnOk_get (h a (.head _))
    rw [List.map_cons, lcL_take h1 rfl h2 h3 (by simp at hl; omega), h4, lcL_of g f xs _ (fun b hb => h b (.tail _ hb)) (by simp at hl ⊢; omega)]
    simp
/-! ### names -/
def isLetter (c : Nat) : Bool := decide (c ∈ (Str.ofString "abcdefghijklmnopqrstuvwxyz").cps)
def nameB : D → Bool
  | .str z => decide (1 ≤ z.length) && (decide (z.length ≤ 8) && z.cps.toList.all isLetter)
  | _ => false
theorem is_name_spec {d : D} (h : itm d = true) : dn_is_name [.sh d] = some (.ret (.sh (.bl (nameB d))) [.no]) := by
  cases d with
  | str z =>
    have hz : z.length ≤ 1000 := by
      have : (decide (z.length ≤ 1000) && z.cps.all (fun c => decide (c < 0x110000))) = true := h
      rw [Bool.and_eq_true] at this
      exact of_decide_eq_true this.1
    have hl : z.length ≤ lim := Nat.le_trans hz (by decide)
    have e1 : (1 ≤ (z.length : Int)) = (1 ≤ z.length) := by simp; omega
    have e2 : ((z.length : Int) ≤ 8) = (z.length ≤ 8) := by simp; omega
    by_cases h1 : 1 ≤ z.length
    · by_cases h8 : z.length ≤ 8
      · have key : lcL (gN 1) tYesE (eOp (asC (aR 1) (asC (aV (eC (.str "abcdefghijklmnopqrstuvwxyz"))) asN)) oIn) [1] (signsD z) [] [.sh (.str z), .no] = some (z.cps.toList.map fun c => D.bl (isLetter c), [.sh (.str z), .no]) :=
          lcL_of (fun c => D.str ⟨#[c]⟩) (fun c => .bl (isLetter c)) z.cps.toList [] (fun c _ => by simp [isLetter]) (by simpa [Str.length] using hl)
        simp only [dn_is_name, mkFn]
        simp [hl, e1, e2, h1, h8, nameB]
        simp at key
        rw [key]
        simp [blsD_map, List.all_map]
      · simp [dn_is_name, hl, e1, e2, h1, h8, nameB]
    · simp [dn_is_name, hl, e1, e2, h1, nameB]
  | scr ds => cases h
  | obj _ _ _ => cases h
  | exc _ _ _ => cases h
  | _ => simp [dn_is_name, nameB]

/-! ### numbers within -/
def wholeB (lo : Int) : D → Bool
  | .int i => decide (lo ≤ i) && decide (i ≤ 20)
  | _ => false
theorem is_whole_spec {d : D} (h : itm d = true) : dn_is_whole [.sh d] = some (.ret (.sh (.bl (match d with
  | .int _ => true
  | _ => false))) [.no]) := by
  cases d with
  | scr ds => cases h
  | obj _ _ _ => cases h
  | exc _ _ _ => cases h
  | _ => simp [dn_is_whole]
theorem is_within_spec {d : D} (lo : Int) (h : itm d = true) : dn_is_within [.sh d, .sh (.int lo)] = some (.ret (.sh (.bl (wholeB lo d))) [.no, .no]) := by
  have hw := is_whole_spec h
  cases d with
  | scr ds => cases h
  | obj _ _ _ => cases h
  | exc _ _ _ => cases h
  | int i =>
    by_cases h1 : lo ≤ i
    · simp [dn_is_within, hw, wholeB, h1]
    · simp [dn_is_within, hw, wholeB, h1]
  | _ => simp [dn_is_within, hw, wholeB]
theorem withins_spec {k : Nat} {r : Py.Env} (ds : List D) (h : ds.all itm = true) (hk : r[k]? = some .no) (hl : ds.length ≤ lim) : lcL (gN k) tYesE (eCall dn_is_within (asC (aV (eVar k)) (asC (aV (eC (.int 0))) asN))) [k] ds [] r = some (ds.map fun d => D.bl (wholeB 0 d), r) := by
  have hlt : k < r.length := (List.getElem?_eq_some_iff.mp hk).1
  have := lcL_of (n := gN k) (m := eCall dn_is_within (asC (aV (eVar k)) (asC (aV (eC (.int 0))) asN))) (vs := [k]) (r := r) id (fun d => D.bl (wholeB 0 d)) ds [] (fun d hd => by
    have hi := List.all_eq_true.mp h d hd
    have e2 : (r.set k Sl.no) = r := by
      apply List.ext_getElem?
      intro j
      by_cases hj : k = j
      · subst hj
        rw [List.getElem?_set_self hlt, hk]
      · rw [List.getElem?_set_ne hj]
    simp [hlt, is_within_spec 0 hi, List.getElem?_set_self hlt, e2]) (by simpa using hl)
  rw [List.map_id] at this
  simpa using this
/-! ### fractions -/
def fracB : D → Bool
  | .tup [.int a, .int b] => decide (0 < b) && decide (Int.gcd a b = 1)
  | _ => false
def fracN : D → Int
  | .tup [.int a, _] => a
  | _ => 0
theorem atm_itm {d : D} (h : atm d = true) : itm d = true := by
  cases d <;> first | exact h | cases h
theorem is_fraction_spec {d : D} (h : itm d = true) : dn_is_fraction [.sh d] = some (.ret (.sh (.bl (fracB d))) [.no]) := by
  cases d with
  | scr ds => cases h
  | obj _ _ _ => cases h
  | exc _ _ _ => cases h
  | tup ds =>
    have ha : ds.all atm = true := h
    match ds, ha with
    | [], _ => simp [dn_is_fraction, fracB]
    | [_], _ => simp [dn_is_fraction, fracB]
    | [x, y], ha =>
      simp only [List.all_cons, List.all_nil, Bool.and_true, Bool.and_eq_true] at ha
      have h1 := is_whole_spec (atm_itm ha.1)
      have h2 := is_whole_spec (atm_itm ha.2)
      cases x with
      | int a =>
        cases y with
        | int b => exact is_fraction_dF a b
        | _ => simp [dn_is_fraction, fracB, h1, h2]
      | _ => simp [dn_is_fraction, fracB, h1, h2]
    | _ :: _ :: _ :: l, _ =>
      have : ¬ ((l.length : Int) + 1 + 1 + 1 = 2) := by omega
      simp [dn_is_fraction, fracB, this]
  | _ => simp [dn_is_fraction, fracB]
def weightsB (w h : D) : Bool := fracB w && (fracB h && (decide (0 < fracN w) && decide (0 ≤ fracN h)))
theorem fracB_get {d : D} (h : fracB d = true) (hi : itm d = true) : ∃ a b, d = dF a b ∧ 0 < b ∧ Int.gcd a b = 1 ∧ sm 50 a ∧ sm 50 b := by
  unfold fracB at h
  split at h
  · rename_i a b
    rw [Bool.and_eq_true] at h
    have hi : ([D.int a, D.int b].all atm) = true := hi
    simp only [List.all_cons, List.all_nil, Bool.and_true, Bool.and_eq_true, atm] at hi
    exact ⟨a, b, rfl, of_decide_eq_true h.1, of_decide_eq_true h.2, Nat.lt_of_le_of_lt (of_decide_eq_true hi.1) (by decide), Nat.lt_of_le_of_lt (of_decide_eq_true hi.2) (by decide)⟩
  · cases h
theorem are_weights_spec {w h : D} (h1 : itm w = true) (h2 : itm h = true) : dn_are_weights [.sh w, .sh h] = some (.ret (.sh (.bl (weightsB w h))) [.no, .no]) := by
  have f1 := is_fraction_spec h1
  have f2 := is_fraction_spec h2
  by_cases b1 : fracB w = true
  · by_cases b2 : fracB h = true
    · obtain ⟨a, b, rfl, p1, p2, p3, p4⟩ := fracB_get b1 h1
      obtain ⟨c, d, rfl, q1, q2, q3, q4⟩ := fracB_get b2 h2
      have s0 : sm 50 0 := by decide
      have s1 : sm 50 1 := by decide
      have l1 := is_less_spec s0 s1 p3 p4
      have l2 := is_less_spec q3 q4 s0 s1
      by_cases c1 : 0 < a
      · by_cases c2 : c < 0
        · have c3 : ¬ 0 ≤ c := by omega
          simp [dn_are_weights, f1, f2, b1, b2, l1, l2, weightsB, fracN, c1, c2, c3]
        · have c3 : 0 ≤ c := by omega
          simp [dn_are_weights, f1, f2, b1, b2, l1, l2, weightsB, fracN, c1, c2, c3]
      · simp [dn_are_weights, f1, f2, b1, b2, l1, l2, weightsB, fracN, c1]
    · simp [dn_are_weights, f1, f2, b1, b2, weightsB]
  · simp [dn_are_weights, f1, f2, b1, weightsB]

/-! ### parts -/
def lessB : D → D → Bool
  | .int i, .int j => decide (i < j)
  | _, _ => false
def poleB (s n x y lo hi w h : D) : Bool := isB "pole" s && (nameB n && (weightsB w h && (wholeB 0 x && (wholeB 0 y && (wholeB 0 lo && (wholeB 0 hi && lessB lo hi))))))
theorem wholeB_get {lo : Int} {d : D} (h : wholeB lo d = true) : ∃ i, d = .int i ∧ lo ≤ i ∧ i ≤ 20 := by
  unfold wholeB at h
  split at h
  · rename_i i
    rw [Bool.and_eq_true] at h
    exact ⟨i, rfl, of_decide_eq_true h.1, of_decide_eq_true h.2⟩
  · cases h
theorem pole_ok : (Str.ofString "pole").cps.all (fun c => decide (c < 0x110000)) = true := cps_ok _
theorem board_ok : (Str.ofString "board").cps.all (fun c => decide (c < 0x110000)) = true := cps_ok _
theorem is_pole_spec {s n x y lo hi w h : D} (hs : itm s = true) (hn : itm n = true) (hx : itm x = true) (hy : itm y = true) (hlo : itm lo = true) (hhi : itm hi = true) (hw : itm w = true) (hh : itm h = true) :
    dn_is_pole [.sh (.tup [s, n, x, y, lo, hi, w, h])] = some (.ret (.sh (.bl (poleB s n x y lo hi w h))) [.no]) := by
  have e1 := ne_str "pole" hs pole_ok
  have e2 := is_name_spec hn
  have e3 := are_weights_spec hw hh
  have e4 := withins_spec (k := 9) (r := [.sh (.tup [s, n, x, y, lo, hi, w, h]), .sh s, .sh n, .sh x, .sh y, .sh lo, .sh hi, .sh w, .sh h, .no]) [x, y, lo, hi] (by simp [hx, hy, hlo, hhi]) rfl (by simp [lim])
  simp at e4
  cases b1 : isB "pole" s
  · simp only [dn_is_pole, mkFn]
    simp [-oNeX, e1, b1, poleB]
  · cases b2 : nameB n
    · simp only [dn_is_pole, mkFn]
      simp [-oNeX, e1, b1, e2, b2, poleB]
    · cases b3 : weightsB w h
      · simp only [dn_is_pole, mkFn]
        simp [-oNeX, e1, b1, e2, b2, e3, b3, poleB]
      · simp only [dn_is_pole, mkFn]
        simp [-oNeX, e1, b1, e2, b2, e3, b3, e4, poleB, lim]
        cases c1 : wholeB 0 x
        · simp
        · cases c2 : wholeB 0 y
          · simp
          · cases c3 : wholeB 0 lo
            · simp
            · cases c4 : wholeB 0 hi
              · simp
              · obtain ⟨i, rfl, -, -⟩ := wholeB_get c3
                obtain ⟨j, rfl, -, -⟩ := wholeB_get c4
                simp [lessB]

def wayB (d : D) : Bool := isB "x" d || isB "y" d
def endB (x y way len : D) : Bool := match x, y, len with
  | .int i, .int j, .int l => if isB "x" way = true then decide (i + l ≤ 20) else decide (j + l ≤ 20)
  | _, _, _ => false
def boardB (s n x y way len ht w h : D) : Bool := isB "board" s && (nameB n && (weightsB w h && (wayB way && (wholeB 0 x && (wholeB 0 y && (wholeB 0 ht && (wholeB 1 len && endB x y way len)))))))
theorem x_ok : (Str.ofString "x").cps.all (fun c => decide (c < 0x110000)) = true := cps_ok _
theorem ends_spec {i j l : Int} {way : D} (hw : itm way = true) : dn_ends_within [.sh (.int i), .sh (.int j), .sh way, .sh (.int l)] = some (.ret (.sh (.bl (endB (.int i) (.int j) way (.int l)))) [.no, .no, .no, .no]) := by
  have e1 := eq_str "x" hw x_ok
  cases b1 : isB "x" way
  · simp only [dn_ends_within, mkFn]
    simp [-oEqX, e1, b1, endB]
  · simp only [dn_ends_within, mkFn]
    simp [-oEqX, e1, b1, endB]
theorem is_plank_spec {s n x y way len ht w h : D} (hs : itm s = true) (hn : itm n = true) (hx : itm x = true) (hy : itm y = true) (hwa : itm way = true) (hlen : itm len = true) (hht : itm ht = true) (hw : itm w = true) (hh : itm h = true) :
    dn_is_plank [.sh (.tup [s, n, x, y, way, len, ht, w, h])] = some (.ret (.sh (.bl (boardB s n x y way len ht w h))) [.no]) := by
  have e1 := ne_str "board" hs board_ok
  have e2 := is_name_spec hn
  have e3 := are_weights_spec hw hh
  have e4 := withins_spec (k := 10) (r := [.sh (.tup [s, n, x, y, way, len, ht, w, h]), .sh s, .sh n, .sh x, .sh y, .sh way, .sh len, .sh ht, .sh w, .sh h, .no]) [x, y, ht] (by simp [hx, hy, hht]) rfl (by simp [lim])
  simp at e4
  have e5 := is_within_spec 1 hlen
  cases b1 : isB "board" s
  · simp only [dn_is_plank, mkFn]
    simp [-oNeX, e1, b1, boardB]
  · cases b2 : nameB n
    · simp only [dn_is_plank, mkFn]
      simp [-oNeX, e1, b1, e2, b2, boardB]
    · cases b3 : weightsB w h
      · simp only [dn_is_plank, mkFn]
        simp [-oNeX, e1, b1, e2, b2, e3, b3, boardB]
      · have hst : ∀ b, Ty.str.has way = some b → b = false → wayB way = false := by
          intro b hb hf
          cases way <;> first | rfl | (cases hb; cases hf)
        cases b4 : wayB way
        · cases way with
          | str z =>
            have : (z == Str.ofString "x") = false ∧ (z == Str.ofString "y") = false := by
              simpa [wayB, isB] using b4
            simp only [dn_is_plank, mkFn]
            have t1 : ¬ (z = Str.ofString "x") := by simpa using this.1
            have t2 : ¬ (z = Str.ofString "y") := by simpa using this.2
            have t3 : ¬ (Str.ofString "x" = z) := fun e => t1 e.symm
            have t4 : ¬ (Str.ofString "y" = z) := fun e => t2 e.symm
            simp [-oNeX, e1, b1, e2, b2, e3, b3, boardB, b4, t3, t4]
          | scr ds => cases hwa
          | obj _ _ _ => cases hwa
          | exc _ _ _ => cases hwa
          | _ =>
            simp only [dn_is_plank, mkFn]
            simp [-oNeX, e1, b1, e2, b2, e3, b3, boardB, b4]
        · cases way with
          | str z =>
            have hz : z = Str.ofString "x" ∨ z = Str.ofString "y" := by
              simpa [wayB, isB] using b4
            have hin : (Str.ofString "x" = z ∨ Str.ofString "y" = z) := hz.imp Eq.symm Eq.symm
            have hin2 : ¬ (¬ Str.ofString "x" = z ∧ ¬ Str.ofString "y" = z) := fun q => hin.elim q.1 q.2
            simp only [dn_is_plank, mkFn]
            simp [-oNeX, e1, b1, e2, b2, e3, b3, e4, e5, boardB, b4, lim, hin, hin2]
            cases c1 : wholeB 0 x
            · simp
            · cases c2 : wholeB 0 y
              · simp
              · cases c3 : wholeB 0 ht
                · simp
                · cases c4 : wholeB 1 len
                  · simp [e5, c4]
                  · obtain ⟨i, rfl, -, -⟩ := wholeB_get c1
                    obtain ⟨j, rfl, -, -⟩ := wholeB_get c2
                    obtain ⟨l, rfl, -, -⟩ := wholeB_get c4
                    simp [e5, c4, ends_spec hwa]
          | _ => cases b4

/-- the things of a part -/
def partB : List D → Bool
  | [s, n, x, y, lo, hi, w, h] => poleB s n x y lo hi w h
  | [s, n, x, y, way, len, ht, w, h] => boardB s n x y way len ht w h
  | _ => false
theorem is_part_tup {ds : List D} (h : ds.all itm = true) : dn_is_part [.sh (.tup ds)] = some (.ret (.sh (.bl (partB ds))) [.no]) := by
  by_cases h8 : ds.length = 8
  · match ds, h8 with
    | [s, n, x, y, lo, hi, w, hh], _ =>
      simp only [List.all_cons, List.all_nil, Bool.and_true, Bool.and_eq_true] at h
      obtain ⟨q1, q2, q3, q4, q5, q6, q7, q8⟩ := h
      have e := is_pole_spec q1 q2 q3 q4 q5 q6 q7 q8
      cases b : poleB s n x y lo hi w hh
      · simp [dn_is_part, e, b, partB]
      · simp [dn_is_part, e, b, partB]
  · by_cases h9 : ds.length = 9
    · match ds, h9 with
      | [s, n, x, y, way, len, ht, w, hh], _ =>
        simp only [List.all_cons, List.all_nil, Bool.and_true, Bool.and_eq_true] at h
        obtain ⟨q1, q2, q3, q4, q5, q6, q7, q8, q9⟩ := h
        have e := is_plank_spec q1 q2 q3 q4 q5 q6 q7 q8 q9
        simp [dn_is_part, e, partB]
    · have e8 : ((ds.length : Int) == 8) = false := by
        rw [beq_eq_false_iff_ne]
        omega
      have e9 : ((ds.length : Int) == 9) = false := by
        rw [beq_eq_false_iff_ne]
        omega
      have : partB ds = false := by
        unfold partB
        split
        · exact absurd rfl h8
        · exact absurd rfl h9
        · rfl
      simp [dn_is_part, e8, e9, this]
theorem is_part_other {d : D} (h : (∀ ds, d ≠ .tup ds) ∧ ∃ b, Ty.tuple.has d = some b) : dn_is_part [.sh d] = some (.ret (.sh (.bl false)) [.no]) := by
  obtain ⟨h1, b, h2⟩ := h
  cases d with
  | tup ds => exact absurd rfl (h1 ds)
  | scr ds => cases h2
  | obj _ _ _ => cases h2
  | exc _ _ _ => cases h2
  | _ => simp [dn_is_part]

/-! ### where a part is -/
def bottomZ : List D → Option Int
  | [_, _, _, _, .int lo, _, _, _] => some lo
  | [_, _, _, _, _, _, .int ht, _, _] => some ht
  | _ => none
def pl (x y : Int) : D := .tup [.int x, .int y]
/-- the places of a part of numbers -/
def placesD (b w : Bool) (x y l : Int) : List D := if b = true then (if w = true then (List.range (l + 1).toNat).map fun (k : Nat) => pl (x + k) y else (List.range (l + 1).toNat).map fun (k : Nat) => pl x (y + k)) else [pl x y]
/-- a pole, a board as data -/
abbrev poleD (n : Str) (x y lo hi : Int) (w h : D) : D := .tup [.str "pole", .str n, .int x, .int y, .int lo, .int hi, w, h]
abbrev boardD (n : Str) (x y : Int) (way : Str) (len ht : Int) (w h : D) : D := .tup [.str "board", .str n, .int x, .int y, .str way, .int len, .int ht, w, h]
theorem sn1 : ¬ (Str.ofString "pole" = Str.ofString "board") := by decide +kernel
theorem sn2 : ¬ (Str.ofString "board" = Str.ofString "pole") := by decide +kernel
theorem sn3 : ¬ (Str.ofString "y" = Str.ofString "x") := by decide +kernel
section
variable {n : Str} {x y lo hi len ht : Int} {w h : D} {way : Str}
theorem is_board_pole : dn_is_board [.sh (poleD n x y lo hi w h)] = some (.ret (.sh (.bl false)) [.no]) := by
  simp [dn_is_board, cps_ok, sn1]
theorem is_board_board : dn_is_board [.sh (boardD n x y way len ht w h)] = some (.ret (.sh (.bl true)) [.no]) := by
  simp [dn_is_board, cps_ok]
theorem bottom_pole : dn_bottom_of [.sh (poleD n x y lo hi w h)] = some (.ret (.sh (.int lo)) [.no]) := by
  simp [dn_bottom_of, is_board_pole]
theorem bottom_board : dn_bottom_of [.sh (boardD n x y way len ht w h)] = some (.ret (.sh (.int ht)) [.no]) := by
  simp [dn_bottom_of, is_board_board]
theorem top_pole : dn_top_of [.sh (poleD n x y lo hi w h)] = some (.ret (.sh (.int hi)) [.no]) := by
  simp [dn_top_of, is_board_pole]
theorem top_board : dn_top_of [.sh (boardD n x y way len ht w h)] = some (.ret (.sh (.int (ht + 1))) [.no]) := by
  simp [dn_top_of, is_board_board]
theorem places_pole : dn_places_of [.sh (poleD n x y lo hi w h)] = some (.ret (.ow (.lst [pl x y])) [.no]) := by
  simp [dn_places_of, is_board_pole, lim, pl]
theorem range_len (lo : Int) (k : Nat) : (rangeD lo k) = (List.range k).map fun (i : Nat) => D.int (lo + (i : Int)) := rfl
theorem small_of {i : Int} (h0 : 0 ≤ i) (h1 : i ≤ 1000) : small62 i = true := by
  exact small62_iff.mpr ⟨by omega, by omega⟩
theorem l2 : 2 ≤ lim := by decide
theorem l1 : 1 ≤ lim := by decide
theorem places_x (h0 : 0 ≤ len) (h1 : len ≤ 20) : dn_places_of [.sh (boardD n x y "x" len ht w h)] = some (.ret (.ow (.lst ((List.range (len + 1).toNat).map fun (k : Nat) => pl (x + k) y))) [.no]) := by
  have key : lcL (gN 3) tYesE (eTup (asC (aV (eOp (asC (aR 1) (asC (aR 3) asN)) oAdd)) (asC (aV (eVar 2)) asN))) [3] (rangeD 0 (len + 1).toNat) [] [.sh (boardD n x y "x" len ht w h), .sh (.int x), .sh (.int y), .no] = some ((List.range (len + 1).toNat).map fun (k : Nat) => pl (x + k) y, [.sh (boardD n x y "x" len ht w h), .sh (.int x), .sh (.int y), .no]) :=
    lcL_of (fun (k : Nat) => D.int (0 + (k : Int))) (fun (k : Nat) => pl (x + k) y) (List.range (len + 1).toNat) [] (fun k _ => by simp [lim, pl]) (by simp [lim]; omega)
  simp only [dn_places_of, mkFn]
  simp at key
  simp [is_board_board, l2, cps_ok, small_of (i := len + 1) (by omega) (by omega)]
  rw [key]
  simp
theorem places_y (h0 : 0 ≤ len) (h1 : len ≤ 20) : dn_places_of [.sh (boardD n x y "y" len ht w h)] = some (.ret (.ow (.lst ((List.range (len + 1).toNat).map fun (k : Nat) => pl x (y + k)))) [.no]) := by
  have key : lcL (gN 3) tYesE (eTup (asC (aV (eVar 1)) (asC (aV (eOp (asC (aR 2) (asC (aR 3) asN)) oAdd)) asN))) [3] (rangeD 0 (len + 1).toNat) [] [.sh (boardD n x y "y" len ht w h), .sh (.int x), .sh (.int y), .no] = some ((List.range (len + 1).toNat).map fun (k : Nat) => pl x (y + k), [.sh (boardD n x y "y" len ht w h), .sh (.int x), .sh (.int y), .no]) :=
    lcL_of (fun (k : Nat) => D.int (0 + (k : Int))) (fun (k : Nat) => pl x (y + k)) (List.range (len + 1).toNat) [] (fun k _ => by simp [lim, pl]) (by simp [lim]; omega)
  simp only [dn_places_of, mkFn]
  simp at key
  simp [is_board_board, l2, cps_ok, sn3, small_of (i := len + 1) (by omega) (by omega)]
  rw [key]
  simp

/-! ### the laws' own -/
theorem lawbottom_pole : dn__law_bottom [.sh (poleD n x y lo hi w h)] = some (.ret (.sh (.int lo)) [.no]) := by
  simp [dn__law_bottom, cps_ok, sn1]
theorem lawbottom_board : dn__law_bottom [.sh (boardD n x y way len ht w h)] = some (.ret (.sh (.int ht)) [.no]) := by
  simp [dn__law_bottom, cps_ok]
theorem lawtop_pole : dn__law_top [.sh (poleD n x y lo hi w h)] = some (.ret (.sh (.int hi)) [.no]) := by
  simp [dn__law_top, cps_ok, sn1]
theorem lawtop_board : dn__law_top [.sh (boardD n x y way len ht w h)] = some (.ret (.sh (.int (ht + 1))) [.no]) := by
  simp [dn__law_top, cps_ok]
theorem lawplaces_pole : dn__law_places [.sh (poleD n x y lo hi w h)] = some (.ret (.ow (.lst [pl x y])) [.no]) := by
  simp [dn__law_places, cps_ok, lim, pl]
theorem lawplaces_x (h0 : 0 ≤ len) (h1 : len ≤ 20) : dn__law_places [.sh (boardD n x y "x" len ht w h)] = some (.ret (.ow (.lst ((List.range (len + 1).toNat).map fun (k : Nat) => pl (x + k) y))) [.no]) := by
  have key : lcL (gN 1) tYesE (eTup (asC (aV (eOp (asC (aV (eOp (asC (aR 0) (asC (aV (eC (.int 2))) asN)) oIx)) (asC (aR 1) asN)) oAdd)) (asC (aV (eOp (asC (aR 0) (asC (aV (eC (.int 3))) asN)) oIx)) asN))) [1] (rangeD 0 (len + 1).toNat) [] [.sh (boardD n x y "x" len ht w h), .no] = some ((List.range (len + 1).toNat).map fun (k : Nat) => pl (x + k) y, [.sh (boardD n x y "x" len ht w h), .no]) :=
    lcL_of (fun (k : Nat) => D.int (0 + (k : Int))) (fun (k : Nat) => pl (x + k) y) (List.range (len + 1).toNat) [] (fun k _ => by simp [lim, pl]) (by simp [lim]; omega)
  simp only [dn__law_places, mkFn]
  simp at key
  simp [l2, cps_ok, sn2, small_of (i := len + 1) (by omega) (by omega)]
  rw [key]
  simp
theorem lawplaces_y (h0 : 0 ≤ len) (h1 : len ≤ 20) : dn__law_places [.sh (boardD n x y "y" len ht w h)] = some (.ret (.ow (.lst ((List.range (len + 1).toNat).map fun (k : Nat) => pl x (y + k)))) [.no]) := by
  have key : lcL (gN 1) tYesE (eTup (asC (aV (eOp (asC (aR 0) (asC (aV (eC (.int 2))) asN)) oIx)) (asC (aV (eOp (asC (aV (eOp (asC (aR 0) (asC (aV (eC (.int 3))) asN)) oIx)) (asC (aR 1) asN)) oAdd)) asN))) [1] (rangeD 0 (len + 1).toNat) [] [.sh (boardD n x y "y" len ht w h), .no] = some ((List.range (len + 1).toNat).map fun (k : Nat) => pl x (y + k), [.sh (boardD n x y "y" len ht w h), .no]) :=
    lcL_of (fun (k : Nat) => D.int (0 + (k : Int))) (fun (k : Nat) => pl x (y + k)) (List.range (len + 1).toNat) [] (fun k _ => by simp [lim, pl]) (by simp [lim]; omega)
  simp only [dn__law_places, mkFn]
  simp at key
  simp [l2, cps_ok, sn2, sn3, small_of (i := len + 1) (by omega) (by omega)]
  rw [key]
  simp
end
/-- turns that may change the slots -/
theorem lcL_inv (P : Py.Env → Prop) (Q : D → Prop) {n : G} {m : E} {vs : List Nat} : ∀ (ds acc : List D) (r : Py.Env), (∀ d ∈ ds, ∀ r, P r → ∃ r1 x r3 y, n (.sh d) r = some (.nx r1) ∧ m r1 = some (.ok x r3) ∧ x.val = some y ∧ Q y ∧ P (wipeE r3 vs)) →
    acc.length + ds.length ≤ lim → P r → ∃ out r', lcL n tYesE m vs ds acc r = some (acc ++ out, r') ∧ out.length = ds.length ∧ (∀ y ∈ out, Q y) ∧ P r'
  | [], acc, r, _, _, hp => ⟨[], r, by simp [lcL], rfl, by simp, hp⟩
  | d :: ds, acc, r, h, hl, hp => by
    obtain ⟨r1, x, r3, y, h1, h2, h3, h4, h5⟩ := h d (.head _) r hp
    obtain ⟨out, r', e1, e2, e3, e4⟩ := lcL_inv P Q ds (acc ++ [y]) (wipeE r3 vs) (fun d' hd' => h d' (.tail _ hd')) (by simp at hl ⊢; omega) h5
    refine ⟨y :: out, r', ?_, by simp [e2], fun z hz => ?_, e4⟩
    · rw [lcL_take h1 rfl h2 h3 (by simp at hl; omega), e1]
      simp
    · rcases List.mem_cons.mp hz with e | e
      · exact e ▸ h4
      · exact e3 z e
/-- the shape of a part -/
theorem partB_shape {ds : List D} (h : partB ds = true) : (∃ n x y lo hi w h, .tup ds = poleD n x y lo hi w h ∧ 0 ≤ lo ∧ lo < hi ∧ hi ≤ 20 ∧ 0 ≤ x ∧ x ≤ 20 ∧ 0 ≤ y ∧ y ≤ 20 ∧ nameB (.str n) = true ∧ weightsB w h = true) ∨
    ∃ n x y way len ht w h, .tup ds = boardD n x y way len ht w h ∧ (way = Str.ofString "x" ∨ way = Str.ofString "y") ∧ 1 ≤ len ∧ len ≤ 20 ∧ 0 ≤ ht ∧ ht ≤ 20 ∧ 0 ≤ x ∧ x ≤ 20 ∧ 0 ≤ y ∧ y ≤ 20 ∧ (way = Str.ofString "x" → x + len ≤ 20) ∧ (way = Str.ofString "y" → y + len ≤ 20) ∧ nameB (.str n) = true ∧ weightsB w h = true := by
  have isB_get : ∀ {s : Str} {d : D}, isB s d = true → d = .str s := by
    intro s d h
    cases d <;> first | (cases h; done) | (simp [isB] at h; rw [h])
  have nameB_get : ∀ {d : D}, nameB d = true → ∃ z, d = .str z := by
    intro d h
    cases d <;> first | (cases h; done) | exact ⟨_, rfl⟩
  unfold partB at h
  split at h
  · rename_i s n x y lo hi w hh
    unfold poleB at h
    simp only [Bool.and_eq_true] at h
    obtain ⟨q1, q2, q3, q4, q5, q6, q7, q8⟩ := h
    obtain ⟨z, rfl⟩ := nameB_get q2
    obtain ⟨x, rfl, -, -⟩ := wholeB_get q4
    obtain ⟨y, rfl, -, -⟩ := wholeB_get q5
    obtain ⟨lo, rfl, -, -⟩ := wholeB_get q6
    obtain ⟨hi, rfl, -, -⟩ := wholeB_get q7
    rw [isB_get q1]
    simp [wholeB] at q4 q5 q6 q7
    simp [lessB] at q8
    exact .inl ⟨z, x, y, lo, hi, w, hh, rfl, q6.1, q8, q7.2, q4.1, q4.2, q5.1, q5.2, q2, q3⟩
  · rename_i s n x y way len ht w hh
    unfold boardB at h
    simp only [Bool.and_eq_true] at h
    obtain ⟨q1, q2, q3, q4, q5, q6, q7, q8, q9⟩ := h
    obtain ⟨z, rfl⟩ := nameB_get q2
    obtain ⟨x, rfl, -, -⟩ := wholeB_get q5
    obtain ⟨y, rfl, -, -⟩ := wholeB_get q6
    obtain ⟨ht, rfl, -, -⟩ := wholeB_get q7
    obtain ⟨len, rfl, -, -⟩ := wholeB_get q8
    rw [isB_get q1]
    simp [wholeB] at q5 q6 q7 q8
    unfold wayB at q4
    rw [Bool.or_eq_true] at q4
    refine .inr ?_
    rcases q4 with q | q
    · rw [isB_get q] at q9 ⊢
      simp [endB, isB] at q9
      exact ⟨z, x, y, _, len, ht, w, hh, rfl, .inl rfl, q8.1, q8.2, q7.1, q7.2, q5.1, q5.2, q6.1, q6.2, fun _ => q9, fun e => absurd e.symm sn3, q2, q3⟩
    · rw [isB_get q] at q9 ⊢
      simp [endB, isB, sn3] at q9
      exact ⟨z, x, y, _, len, ht, w, hh, rfl, .inr rfl, q8.1, q8.2, q7.1, q7.2, q5.1, q5.2, q6.1, q6.2, fun e => absurd e sn3, fun _ => q9, q2, q3⟩
  · cases h
end Sc

/-! LmWord: plain facts of texts, fractions, ==. -/
namespace Sc
open PySem Py
set_option maxRecDepth 10000
set_option linter.all false
mutual
theorem eqv_refl : ∀ {d : D}, cmpOk d = true → eqv d d = true
  | .non, _ => rfl
  | .bl b, _ => by simp
  | .int i, _ => by simp
  | .str z, _ => by simp
  | .tup ds, h => by
    have h' : cmpOks ds = true := by simpa only [cmpOk] using h
    simp only [eqv]
    exact eqvs_refl h'
  | .lst ds, h => by
    have h' : cmpOks ds = true := by simpa only [cmpOk] using h
    simp only [eqv]
    exact eqvs_refl h'
  | .scr ds, h => by simp [cmpOk] at h
  | .dic _ _, h => by simp [cmpOk] at h
  | .obj _ _ _, h => by simp [cmpOk] at h
  | .exc _ _ _, h => by simp [cmpOk] at h
theorem eqvs_refl : ∀ {ds : List D}, cmpOks ds = true → eqvs ds ds = true
  | [], _ => rfl
  | d :: ds, h => by
    have h' : cmpOk d = true ∧ cmpOks ds = true := by simpa only [cmpOks, Bool.and_eq_true] using h
    simp only [eqvs]
    rw [eqv_refl h'.1, eqvs_refl h'.2]
    rfl
end
theorem cmpOks_of : ∀ {ds : List D}, (∀ d ∈ ds, cmpOk d = true) → cmpOks ds = true
  | [], _ => rfl
  | d :: ds, h => by
    simp only [cmpOks]
    rw [h d (.head _), cmpOks_of fun e he => h e (.tail _ he)]
    rfl
theorem deps_le {n : Nat} : ∀ {ds : List D}, (∀ d ∈ ds, dep d ≤ n) → deps ds ≤ n
  | [], _ => Nat.zero_le _
  | d :: ds, h => by
    simp only [deps]
    exact Nat.max_le.mpr ⟨h d (.head _), deps_le fun e he => h e (.tail _ he)⟩
theorem eqOk_lst {ds : List D} (h1 : ∀ d ∈ ds, cmpOk d = true) (h2 : ∀ d ∈ ds, dep d ≤ 60) : eqOk (.lst ds) = true := by
  have := deps_le h2
  unfold eqOk
  rw [show cmpOk (.lst ds) = true from by simp only [cmpOk]; exact cmpOks_of h1, show dep (.lst ds) = deps ds + 1 from by simp only [dep]]
  simp
  omega
theorem ne_self {d : D} (h : eqOk d = true) : oNeX [d, d] = rB false := by
  have hc : cmpOk d = true := by
    unfold eqOk at h
    exact (Bool.and_eq_true_iff.mp h).1
  rw [neX_of (by cases d <;> first | rfl | (simp [cmpOk] at hc)) h h, eqv_refl hc]
  rfl
theorem lowT_nonneg {a b : Int} (ha : 0 ≤ a) (hb : 0 < b) : 0 ≤ lowT a b ∧ (0 < a → 0 < lowT a b) := by
  have hm := lowT_mul (a := a) (b := b) (by omega)
  have hg := gcd_pos (a := a) (b := b) (by omega)
  have e : byZ a b = (Int.gcd a b : Int) := if_neg (by omega)
  rw [e] at hm
  refine ⟨?_, fun h => ?_⟩
  · by_cases hl : 0 ≤ lowT a b
    · exact hl
    · have : lowT a b * (Int.gcd a b : Int) < 0 := Int.mul_neg_of_neg_of_pos (by omega) (by omega)
      omega
  · by_cases hl : 0 < lowT a b
    · exact hl
    · have : lowT a b * (Int.gcd a b : Int) ≤ 0 := Int.mul_nonpos_of_nonpos_of_nonneg (by omega) (by omega)
      omega
/-- in lowest terms already -/
theorem low_same {a b : Int} (hb : 0 < b) (hg : Int.gcd a b = 1) : lowT a b = a ∧ lowB a b = b := by
  have e : byZ a b = 1 := by
    unfold byZ
    rw [if_neg (by omega), hg]
    rfl
  have h1 := lowT_mul (a := a) (b := b) (by omega)
  have h2 := lowB_mul (a := a) (b := b) (by omega)
  rw [e] at h1 h2
  omega
theorem low_same_iff {a b : Int} (hb : 0 < b) : (lowT a b = a ∧ lowB a b = b) ↔ Int.gcd a b = 1 := by
  refine ⟨fun ⟨h1, h2⟩ => ?_, low_same hb⟩
  have := low_coprime (a := a) (b := b) (by omega)
  rw [h1, h2] at this
  exact this
/-! ### texts of single signs -/
def sign (c : Nat) : Str := ⟨#[c]⟩
theorem join_signs : ∀ cs : List Nat, (Str.join ⟨#[]⟩ (cs.map sign)).cps.toList = cs
  | [] => rfl
  | [c] => rfl
  | c :: e :: cs => by
    have ih := join_signs (e :: cs)
    show ((sign c ++ ⟨#[]⟩ ++ Str.join ⟨#[]⟩ ((e :: cs).map sign)).cps).toList = _
    rw [cps_app, cps_app, Array.toList_append, Array.toList_append, ih]
    rfl
theorem signs_of : ∀ {out : List D}, (∀ y ∈ out, ∃ c, y = .str (sign c) ∧ isLetter c = true) → ∃ cs : List Nat, out = cs.map (fun c => D.str (sign c)) ∧ (∀ c ∈ cs, isLetter c = true)
  | [], _ => ⟨[], rfl, by simp⟩
  | y :: out, h => by
    obtain ⟨c, e1, e2⟩ := h y (.head _)
    obtain ⟨cs, e3, e4⟩ := signs_of fun z hz => h z (.tail _ hz)
    refine ⟨c :: cs, by rw [e1, e3]; rfl, fun d hd => ?_⟩
    rcases List.mem_cons.mp hd with e | e
    · exact e ▸ e2
    · exact e4 d e
theorem strsD_signs : ∀ cs : List Nat, strsD (cs.map fun c => D.str (sign c)) = some (cs.map sign)
  | [] => rfl
  | c :: cs => by
    rw [List.map_cons, strsD, strsD_signs cs]
    rfl
theorem sum_signs : ∀ cs : List Nat, ((cs.map sign).map (·.length)).sum = cs.length
  | [] => rfl
  | c :: cs => by
    rw [List.map_cons, List.map_cons, List.sum_cons, sum_signs cs]
    simp [sign, Str.length]
    omega
theorem letter_lt {c : Nat} (h : isLetter c = true) : c < 0x110000 := by
  have h1 : c ∈ (Str.ofString "abcdefghijklmnopqrstuvwxyz").cps := of_decide_eq_true h
  have h2 := cps_ok "abcdefghijklmnopqrstuvwxyz"
  rw [Array.all_eq_true'] at h2
  exact of_decide_eq_true (h2 c h1)
theorem abc_size : (Str.ofString "abcdefghijklmnopqrstuvwxyz").cps.size = 26 := by decide +kernel
theorem abc_len : (Str.ofString "abcdefghijklmnopqrstuvwxyz").length ≤ lim := by decide +kernel
/-- a letter by its number -/
theorem abc_get {k : Int} (h0 : 0 ≤ k) (h1 : k < 26) : ∃ c, isLetter c = true ∧ oIx [.str "abcdefghijklmnopqrstuvwxyz", .int k] = some (.sh (.str (sign c))) := by
  have hlt : k.toNat < (Str.ofString "abcdefghijklmnopqrstuvwxyz").cps.size := by rw [abc_size]; omega
  refine ⟨(Str.ofString "abcdefghijklmnopqrstuvwxyz").cps[k.toNat], decide_eq_true (Array.getElem_mem hlt), ?_⟩
  have e : (k < ((Str.ofString "abcdefghijklmnopqrstuvwxyz").cps.size : Int)) := by rw [abc_size]; omega
  simp [abc_len, h0, e, Array.getElem?_eq_getElem hlt, sign]
/-- a name of letters -/
theorem name_signs {cs : List Nat} (h1 : 1 ≤ cs.length) (h8 : cs.length ≤ 8) (hl : ∀ c ∈ cs, isLetter c = true) : nameB (.str (Str.join ⟨#[]⟩ (cs.map sign))) = true ∧ itm (.str (Str.join ⟨#[]⟩ (cs.map sign))) = true := by
  have e := join_signs cs
  have el : (Str.join ⟨#[]⟩ (cs.map sign)).length = cs.length := by
    show Array.size _ = _
    rw [← Array.length_toList, e]
  refine ⟨?_, ?_⟩
  · show (decide (1 ≤ (Str.join ⟨#[]⟩ (cs.map sign)).length) && (decide ((Str.join ⟨#[]⟩ (cs.map sign)).length ≤ 8) && (Str.join ⟨#[]⟩ (cs.map sign)).cps.toList.all isLetter)) = true
    rw [el, e]
    simp [h1, h8]
    exact hl
  · show (decide _ && _) = true
    rw [el, Bool.and_eq_true]
    refine ⟨decide_eq_true (by omega), ?_⟩
    rw [Array.all_eq_true']
    intro c hc
    refine decide_eq_true (letter_lt (hl c ?_))
    rw [← e]
    exact Array.mem_toList_iff.mpr hc

/-- a turn with a test -/
@[simp] def turnF (n : G) (t : T) (m : E) (vs : List Nat) (r : Py.Env) (d : D) (p : Bool) (d' : D) : Prop := match n (.sh d) r with
  | some (.nx r1) => match t r1 with
    | some (.ok b r2) => b = p ∧ (if p = true then (match m r2 with
      | some (.ok x r3) => x.val = some d' ∧ wipeE r3 vs = r
      | _ => False) else wipeE r2 vs = r)
    | _ => False
  | _ => False
theorem lcL_filt {α : Type} {n : G} {t : T} {m : E} {vs : List Nat} (g f : α → D) (p : α → Bool) {r : Py.Env} : ∀ (xs : List α) (acc : List D), (∀ a ∈ xs, turnF n t m vs r (g a) (p a) (f a)) →
    acc.length + xs.length ≤ lim → lcL n t m vs (xs.map g) acc r = some (acc ++ (xs.filter p).map f, r)
  | [], acc, _, _ => by simp [lcL]
  | a :: xs, acc, h, hl => by
    have h0 := h a (.head _)
    unfold turnF at h0
    split at h0
    · rename_i r1 e1
      split at h0
      · rename_i b r2 e2
        obtain ⟨hb, h0⟩ := h0
        subst hb
        cases hp : p a with
        | true =>
          rw [if_pos hp] at h0
          rw [hp] at e2
          split at h0
          · rename_i x r3 e3
            rw [List.map_cons, lcL_take e1 e2 e3 h0.1 (by simp at hl; omega), h0.2, lcL_filt g f p xs _ (fun b hb => h b (.tail _ hb)) (by simp at hl ⊢; omega)]
            simp [hp]
          · exact h0.elim
        | false =>
          rw [if_neg (by rw [hp]; decide)] at h0
          rw [hp] at e2
          rw [List.map_cons, lcL_skip e1 e2, h0, lcL_filt g f p xs _ (fun b hb => h b (.tail _ hb)) (by simp at hl ⊢; omega)]
          simp [hp]
      · exact h0.elim
    · exact h0.elim
theorem eq_nil (ds : List D) : oEqX [.lst ds, .lst []] = rB ds.isEmpty := by
  cases ds with
  | nil => rfl
  | cons d ds => rfl
theorem ne_nil (ds : List D) : oNeX [.lst ds, .lst []] = rB (!ds.isEmpty) := by
  cases ds with
  | nil => rfl
  | cons d ds => rfl
theorem itm_dep {d : D} (h : itm d = true) (hd : dicB d = false) : cmpOk d = true ∧ dep d ≤ 60 := by
  cases d with
  | tup ds =>
    obtain ⟨b1, b2⟩ := atms_cmp (show ds.all atm = true from h)
    simp [b1, b2]
  | lst ds =>
    obtain ⟨b1, b2⟩ := atms_cmp (show ds.all atm = true from h)
    simp [b1, b2]
  | dic ks ds => cases hd
  | int i => simp
  | bl i => simp
  | non => simp
  | str z =>
    obtain ⟨b1, b2⟩ := atm_cmp (show atm (.str z) = true from h)
    exact ⟨b1, by rw [b2]; decide⟩
  | scr ds => cases h
  | obj _ _ _ => cases h
  | exc _ _ _ => cases h
end Sc

/-! LmPlan: parts as plain data; what plans do with them. -/
namespace Sc
open PySem Py
set_option maxRecDepth 10000
set_option linter.all false

inductive Prt where
  | pole (n : Str) (x y lo hi : Int) (w h : D)
  | board (n : Str) (x y : Int) (wx : Bool) (len ht : Int) (w h : D)
def wayS (wx : Bool) : Str := if wx = true then Str.ofString "x" else Str.ofString "y"
def Prt.d : Prt → D
  | .pole n x y lo hi w h => poleD n x y lo hi w h
  | .board n x y wx len ht w h => boardD n x y (wayS wx) len ht w h
def Prt.ok : Prt → Prop
  | .pole n x y lo hi w h => nameB (.str n) = true ∧ (0 ≤ x ∧ x ≤ 20) ∧ (0 ≤ y ∧ y ≤ 20) ∧ (0 ≤ lo ∧ lo < hi ∧ hi ≤ 20) ∧ itm w = true ∧ itm h = true ∧ weightsB w h = true
  | .board n x y wx len ht w h => nameB (.str n) = true ∧ (0 ≤ x ∧ x ≤ 20) ∧ (0 ≤ y ∧ y ≤ 20) ∧ (1 ≤ len ∧ len ≤ 20) ∧ (0 ≤ ht ∧ ht ≤ 20) ∧ (if wx = true then x + len ≤ 20 else y + len ≤ 20) ∧ itm w = true ∧ itm h = true ∧ weightsB w h = true
def Prt.nm : Prt → Str
  | .pole n .. => n
  | .board n .. => n
def Prt.isBd : Prt → Bool
  | .pole .. => false
  | .board .. => true
def Prt.bot : Prt → Int
  | .pole _ _ _ lo _ _ _ => lo
  | .board _ _ _ _ _ ht _ _ => ht
def Prt.top : Prt → Int
  | .pole _ _ _ _ hi _ _ => hi
  | .board _ _ _ _ _ ht _ _ => ht + 1
abbrev plD (p : Int × Int) : D := pl p.1 p.2
def Prt.pls : Prt → List (Int × Int)
  | .pole _ x y _ _ _ _ => [(x, y)]
  | .board _ x y wx len _ _ _ => (List.range (len + 1).toNat).map fun (k : Nat) => if wx = true then (x + (k : Int), y) else (x, y + (k : Int))
def Prt.has (p : Prt) (a : Int × Int) : Bool := p.pls.contains a
def clash (p q : Prt) : Bool := (decide (p.bot < q.top) && decide (q.bot < p.top)) && p.pls.any fun a => q.has a
theorem clash_symm (p q : Prt) : clash p q = clash q p := by
  unfold clash
  have : (p.pls.any fun a => q.has a) = (q.pls.any fun a => p.has a) := by
    rw [Bool.eq_iff_iff]
    simp only [List.any_eq_true, Prt.has, List.contains_iff_mem]
    exact ⟨fun ⟨a, h1, h2⟩ => ⟨a, h2, h1⟩, fun ⟨a, h1, h2⟩ => ⟨a, h2, h1⟩⟩
  rw [this, Bool.and_comm (decide _)]
theorem name_itm {n : Str} (h : nameB (.str n) = true) : itm (.str n) = true := by
  simp only [nameB, Bool.and_eq_true, decide_eq_true_eq, List.all_eq_true] at h
  obtain ⟨h1, h2, h3⟩ := h
  show (decide (n.length ≤ 1000) && n.cps.all (fun c => decide (c < 0x110000))) = true
  rw [Bool.and_eq_true]
  refine ⟨decide_eq_true (by omega), ?_⟩
  rw [Array.all_eq_true']
  intro c hc
  exact decide_eq_true (letter_lt (h3 c (Array.mem_toList_iff.mpr hc)))
theorem int_itm {i : Int} (h0 : 0 ≤ i) (h1 : i ≤ 1000) : itm (.int i) = true := by
  show decide (i.natAbs ≤ 10000000000000) = true
  exact decide_eq_true (by omega)
theorem lit_itm (s : String) (h : (Str.ofString s).length ≤ 1000) : itm (.str (Str.ofString s)) = true := by
  show (decide ((Str.ofString s).length ≤ 1000) && (Str.ofString s).cps.all (fun c => decide (c < 0x110000))) = true
  rw [cps_ok, Bool.and_true]
  exact decide_eq_true h
theorem part_ok {p : Prt} (h : p.ok) : dn_is_part [.sh p.d] = some (.ret (.sh (.bl true)) [.no]) := by
  cases p with
  | pole n x y lo hi w hh =>
    obtain ⟨h1, h2, h3, h4, h5, h6, h7⟩ := h
    have e := is_part_tup (ds := [.str "pole", .str n, .int x, .int y, .int lo, .int hi, w, hh]) (by
      simp only [List.all_cons, List.all_nil, Bool.and_true, Bool.and_eq_true]
      exact ⟨lit_itm _ (by decide +kernel), name_itm h1, int_itm (by omega) (by omega), int_itm (by omega) (by omega), int_itm (by omega) (by omega), int_itm (by omega) (by omega), h5, h6⟩)
    show dn_is_part [.sh (.tup _)] = _
    rw [e]
    have : partB [.str "pole", .str n, .int x, .int y, .int lo, .int hi, w, hh] = true := by
      simp [partB, poleB, isB, h1, h7, wholeB, lessB]
      omega
    rw [this]
  | board n x y wx len ht w hh =>
    obtain ⟨h1, h2, h3, h4, h5, h6, h7, h8, h9⟩ := h
    have hw : itm (.str (wayS wx)) = true := by
      cases wx
      · exact lit_itm _ (by decide +kernel)
      · exact lit_itm _ (by decide +kernel)
    have e := is_part_tup (ds := [.str "board", .str n, .int x, .int y, .str (wayS wx), .int len, .int ht, w, hh]) (by
      simp only [List.all_cons, List.all_nil, Bool.and_true, Bool.and_eq_true]
      exact ⟨lit_itm _ (by decide +kernel), name_itm h1, int_itm (by omega) (by omega), int_itm (by omega) (by omega), hw, int_itm (by omega) (by omega), int_itm (by omega) (by omega), h7, h8⟩)
    show dn_is_part [.sh (.tup _)] = _
    rw [e]
    have : partB [.str "board", .str n, .int x, .int y, .str (wayS wx), .int len, .int ht, w, hh] = true := by
      cases wx
      · simp [partB, boardB, isB, h1, h9, wholeB, wayB, endB, wayS, sn3]
        simp at h6
        omega
      · simp [partB, boardB, isB, h1, h9, wholeB, wayB, endB, wayS]
        simp at h6
        omega
    rw [this]
theorem name_of_prt (p : Prt) : dn_name_of [.sh p.d] = some (.ret (.sh (.str p.nm)) [.no]) := by
  cases p <;> simp [dn_name_of, Prt.d, Prt.nm]
theorem is_board_prt (p : Prt) : dn_is_board [.sh p.d] = some (.ret (.sh (.bl p.isBd)) [.no]) := by
  cases p
  · exact is_board_pole
  · exact is_board_board
theorem bottom_prt (p : Prt) : dn_bottom_of [.sh p.d] = some (.ret (.sh (.int p.bot)) [.no]) := by
  cases p
  · exact bottom_pole
  · exact bottom_board
theorem top_prt (p : Prt) : dn_top_of [.sh p.d] = some (.ret (.sh (.int p.top)) [.no]) := by
  cases p
  · exact top_pole
  · exact top_board
theorem lbottom_prt (p : Prt) : dn__law_bottom [.sh p.d] = some (.ret (.sh (.int p.bot)) [.no]) := by
  cases p
  · exact lawbottom_pole
  · exact lawbottom_board
theorem ltop_prt (p : Prt) : dn__law_top [.sh p.d] = some (.ret (.sh (.int p.top)) [.no]) := by
  cases p
  · exact lawtop_pole
  · exact lawtop_board
theorem places_prt {p : Prt} (h : p.ok) : dn_places_of [.sh p.d] = some (.ret (.ow (.lst (p.pls.map plD))) [.no]) := by
  cases p with
  | pole n x y lo hi w hh => exact places_pole
  | board n x y wx len ht w hh =>
    obtain ⟨-, -, -, h4, -⟩ := h
    cases wx
    · refine (places_y (by omega) (by omega)).trans ?_
      simp [Prt.pls, List.map_map]
    · refine (places_x (by omega) (by omega)).trans ?_
      simp [Prt.pls, List.map_map]
theorem lplaces_prt {p : Prt} (h : p.ok) : dn__law_places [.sh p.d] = some (.ret (.ow (.lst (p.pls.map plD))) [.no]) := by
  cases p with
  | pole n x y lo hi w hh => exact lawplaces_pole
  | board n x y wx len ht w hh =>
    obtain ⟨-, -, -, h4, -⟩ := h
    cases wx
    · refine (lawplaces_y (by omega) (by omega)).trans ?_
      simp [Prt.pls, List.map_map]
    · refine (lawplaces_x (by omega) (by omega)).trans ?_
      simp [Prt.pls, List.map_map]
theorem pls_len {p : Prt} (h : p.ok) : 1 ≤ p.pls.length ∧ p.pls.length ≤ 21 := by
  cases p with
  | pole n x y lo hi w hh => simp [Prt.pls]
  | board n x y wx len ht w hh =>
    obtain ⟨-, -, -, h4, -⟩ := h
    simp [Prt.pls]
    omega
theorem eqOk_pl (a : Int × Int) : eqOk (plD a) = true := by simp [pl]
theorem eqOk_pls (ps : List (Int × Int)) : eqOk (.lst (ps.map plD)) = true := eqOk_lst (by rintro d hd; obtain ⟨a, -, rfl⟩ := List.mem_map.mp hd; simp [pl]) (by rintro d hd; obtain ⟨a, -, rfl⟩ := List.mem_map.mp hd; simp [pl])
theorem eqv_pl (a b : Int × Int) : eqv (plD a) (plD b) = decide (a = b) := by
  obtain ⟨a1, a2⟩ := a
  obtain ⟨b1, b2⟩ := b
  simp only [pl, eqv, eqvs, Bool.and_true]
  rw [Bool.eq_iff_iff]
  simp
theorem in_pls (a : Int × Int) (ps : List (Int × Int)) : inD (plD a) (.lst (ps.map plD)) = some (ps.contains a) := by
  have : inD (plD a) (.lst (ps.map plD)) = if eqOk (plD a) = true ∧ eqOk (.lst (ps.map plD)) = true then some ((ps.map plD).any fun z => eqv z (plD a)) else none := rfl
  rw [this, if_pos ⟨eqOk_pl a, eqOk_pls ps⟩, List.any_map]
  congr 1
  rw [Bool.eq_iff_iff]
  simp only [List.any_eq_true, Function.comp, eqv_pl, decide_eq_true_eq, List.contains_iff_mem]
  exact ⟨fun ⟨x, h1, h2⟩ => h2 ▸ h1, fun h => ⟨a, h, rfl⟩⟩

theorem any_bls {α : Type} (f : α → Bool) (xs : List α) : oAny [.lst (xs.map fun x => D.bl (f x))] = rB (xs.any f) := by
  show ((blsD _).map fun bs => Sl.sh (.bl (bs.any id))) = _
  rw [blsD_map]
  simp [List.any_map]
theorem do_clash_prt {p q : Prt} (hp : p.ok) (hq : q.ok) : dn_do_clash [.sh p.d, .sh q.d] = some (.ret (.sh (.bl (clash p q))) [.no, .no]) := by
  have key : lcL (gN 3) tYesE (eOp (asC (aR 3) (asC (aR 2) asN)) oIn) [3] (p.pls.map plD) [] [.sh p.d, .sh q.d, .ow (.lst (q.pls.map plD)), .no] = some (p.pls.map (fun a => D.bl (q.has a)), [.sh p.d, .sh q.d, .ow (.lst (q.pls.map plD)), .no]) :=
    lcL_of plD (fun a => .bl (q.has a)) p.pls [] (fun a _ => by
      simp [-inD, in_pls, Prt.has]) (by have := pls_len hp; simp [lim]; omega)
  have k2 := any_bls q.has p.pls
  unfold dn_do_clash
  by_cases c1 : q.top ≤ p.bot
  · have : ¬ p.bot < q.top := by omega
    simp [bottom_prt, top_prt, c1, clash, this]
  · by_cases c2 : p.top ≤ q.bot
    · have h1 : ¬ q.bot < p.top := by omega
      simp [bottom_prt, top_prt, c1, c2, clash, h1]
    · have h1 : q.bot < p.top := by omega
      have h2 : p.bot < q.top := by omega
      simp [bottom_prt, top_prt, c1, c2, clash, h1, h2, places_prt hp, places_prt hq]
      simp at key
      rw [key]
      simp [-oAny, k2]
theorem lclash_prt {p q : Prt} (hp : p.ok) (hq : q.ok) : dn__law_clash [.sh p.d, .sh q.d] = some (.ret (.sh (.bl (clash p q))) [.no, .no]) := by
  have key : lcL (gN 2) (tV (eOp (asC (aR 2) (asC (aV (eCall dn__law_places (asC (aV (eVar 1)) asN))) asN)) oIn)) (eVar 2) [2] (p.pls.map plD) [] [.sh p.d, .sh q.d, .no] = some ((p.pls.filter q.has).map plD, [.sh p.d, .sh q.d, .no]) :=
    lcL_filt plD plD q.has p.pls [] (fun a _ => by
      by_cases c : q.has a = true
      · simp [-inD, lplaces_prt hq, in_pls, c]
        simp [Prt.has] at c
        simp [c, Prt.has]
      · simp [-inD, lplaces_prt hq, in_pls, c]
        simp [Prt.has] at c
        simp [c, Prt.has]) (by have := pls_len hp; simp [lim]; omega)
  have k2 : (!((p.pls.filter q.has).map plD).isEmpty) = p.pls.any q.has := by
    rw [Bool.eq_iff_iff]
    simp [List.isEmpty_iff]
  unfold dn__law_clash
  by_cases c1 : q.top ≤ p.bot
  · have : ¬ p.bot < q.top := by omega
    simp [lbottom_prt, ltop_prt, c1, clash, this]
  · by_cases c2 : p.top ≤ q.bot
    · have h1 : ¬ q.bot < p.top := by omega
      simp [lbottom_prt, ltop_prt, c1, c2, clash, h1]
    · have h1 : q.bot < p.top := by omega
      have h2 : p.bot < q.top := by omega
      simp [-oNeX, lbottom_prt, ltop_prt, c1, c2, clash, h1, h2, lplaces_prt hp]
      simp at key
      rw [key]
      have k3 := ne_nil ((p.pls.filter q.has).map plD)
      rw [k2] at k3
      simp [-oNeX, k3]

/-! ### want_parts, want_room -/
noncomputable def wpB : S := (sSeq (sIf (tOr (tNot (tV (eCall dn_is_part (asC (aV (eVar 3)) asN)))) (tV (eOp (asC (aV (eCall dn_name_of (asC (aV (eVar 3)) asN))) (asC (aR 1) asN)) oIn)))
    (sRaiseX "NoPart" ["number"] .n (asC (aV (eVar 2)) asN))
    sPass)
    (sAsg (eC (.bl true)) (gSetX 1 (aV (eCall dn_name_of (asC (aV (eVar 3)) asN))))))
theorem wpB_ok {p : Prt} (hp : p.ok) (x0 x2 : Sl) (ks : List KeyD) (vs : List D) (hn : Sum.inr p.nm ∉ ks) (hl : vs.length < lim) :
    wpB [x0, .ow (.dic ks vs), x2, .sh p.d] = some (.nx [x0, .ow (.dic (ks ++ [.inr p.nm]) (vs ++ [.bl true])), x2, .sh p.d]) := by
  have h1 : (ks.any fun k' => decide (k' = Sum.inr p.nm)) = false := by
    rw [List.any_eq_false]
    intro k hk
    simp
    intro e
    exact hn (e ▸ hk)
  simp [wpB, part_ok hp, name_of_prt, h1, hl, dPutK, dPutV, hn]
def wpG : G := gTup [(gN 2), (gN 3)]
theorem wp_loop (x0 : Sl) : ∀ (qs : List Prt) (i : Nat) (ks : List KeyD) (vs : List D) (x2 x3 : Sl), (∀ q ∈ qs, q.ok) → (∀ q ∈ qs, Sum.inr q.nm ∉ ks) → (qs.map Prt.nm).Nodup → vs.length + qs.length ≤ lim →
    ∃ r, forL wpG wpB (enumD i (qs.map Prt.d)) [x0, .ow (.dic ks vs), x2, x3] = some (.nx r)
  | [], i, ks, vs, x2, x3, _, _, _, _ => ⟨_, rfl⟩
  | q :: qs, i, ks, vs, x2, x3, h1, h2, h3, h4 => by
    rw [List.map_cons, List.nodup_cons] at h3
    have hb := wpB_ok (h1 q (.head _)) x0 (.sh (.int i)) ks vs (h2 q (.head _)) (by simp at h4; omega)
    obtain ⟨r, e⟩ := wp_loop x0 qs (i + 1) (ks ++ [.inr q.nm]) (vs ++ [.bl true]) (.sh (.int i)) (.sh q.d) (fun a ha => h1 a (.tail _ ha)) (fun a ha hc => by
      rcases List.mem_append.mp hc with hc | hc
      · exact h2 a (.tail _ ha) hc
      · have : a.nm = q.nm := by simpa using hc
        exact h3.1 (this ▸ List.mem_map_of_mem ha)) h3.2 (by simp at h4 ⊢; omega)
    refine ⟨r, ?_⟩
    rw [List.map_cons, enumD, forL]
    have eg : wpG (.sh (.tup [.int i, q.d])) [x0, .ow (.dic ks vs), x2, x3] = some (.nx [x0, .ow (.dic ks vs), .sh (.int i), .sh q.d]) := by simp [wpG]
    rw [eg]
    simp only [hb, e]
structure Good (ps : List Prt) : Prop where
  ok : ∀ p ∈ ps, p.ok
  nm : (ps.map Prt.nm).Nodup
  room : ps.Pairwise fun p q => clash p q = false
  few : ps.length ≤ 1000
theorem back1 (r : Py.Env) : mkBack [false] r = [.no] := by
  cases r <;> rfl
theorem few_lim {n : Nat} (h : n ≤ 1000) : n ≤ lim := Nat.le_trans h (by decide)
/-- a row of things as it may be handed on -/
def SeqX (x : Sl) (ds : List D) : Prop := x = .sh (.lst ds) ∨ x = .sh (.tup ds) ∨ x = .bw (.ow (.lst ds))
theorem want_parts_prt {ps : List Prt} (h : Good ps) {x0 : Sl} (hx : SeqX x0 (ps.map Prt.d)) : dn_want_parts [x0] = some (.ret (.sh .non) [.no]) := by
  obtain ⟨r, e⟩ := wp_loop x0 ps 0 [] [] .no .no h.ok (by simp) h.nm (by simpa using few_lim h.few)
  have : dn_want_parts = mkFn 4 [false] (sSeq (sAsg eNewK (gN 1)) (sForI (wEnumX (aV (eVar 0))) wpG wpB)) := rfl
  rw [this]
  rcases hx with rfl | rfl | rfl <;> simp [e, -mkBack, back1]
noncomputable def wrB : S := (sIf (tV (eCall dn_do_clash (asC (aV (eVar 2)) (asC (aV (eVar 3)) asN))))
    (sRaiseX "Clash" ["one", "other"] .t (asC (aV (eCall dn_name_of (asC (aV (eVar 2)) asN))) (asC (aV (eCall dn_name_of (asC (aV (eVar 3)) asN))) asN)))
    sPass)
theorem wr_in {p : Prt} (hp : p.ok) (x0 x1 : Sl) : ∀ (qs : List Prt) (x3 : Sl), (∀ q ∈ qs, q.ok) → (∀ q ∈ qs, clash p q = false) → ∃ x, forL (gN 3) wrB (qs.map Prt.d) [x0, x1, .sh p.d, x3] = some (.nx [x0, x1, .sh p.d, x])
  | [], x3, _, _ => ⟨x3, rfl⟩
  | q :: qs, x3, h1, h2 => by
    obtain ⟨x, e⟩ := wr_in hp x0 x1 qs (.sh q.d) (fun a ha => h1 a (.tail _ ha)) (fun a ha => h2 a (.tail _ ha))
    refine ⟨x, ?_⟩
    have eb : wrB [x0, x1, .sh p.d, .sh q.d] = some (.nx [x0, x1, .sh p.d, .sh q.d]) := by
      simp [wrB, do_clash_prt hp (h1 q (.head _)), h2 q (.head _)]
    rw [List.map_cons, forL]
    have eg : gN 3 (.sh q.d) [x0, x1, .sh p.d, x3] = some (.nx [x0, x1, .sh p.d, .sh q.d]) := by simp
    rw [eg]
    simp only [eb, e]
def wrG : G := gTup [(gN 1), (gN 2)]
noncomputable def wrO : S := (sForI (wSeq (eSl (aR 0) (oaS (aV (eOp (asC (aR 1) (asC (aV (eC (.int 1))) asN)) oAdd))) oaN oSlice)) (gN 3) wrB)
theorem cut_from (xs : List D) (i : Nat) (h : i ≤ xs.length) : cutD xs (some (i : Int)) none = xs.drop i := by
  unfold cutD
  simp only [slIx]
  rw [if_neg (by omega), show min (Int.toNat (i : Int)) xs.length = i from by simp; omega]
  rw [List.take_of_length_le (by simp)]
theorem wr_out (ps : List Prt) (hg : Good ps) {x0 : Sl} (hx : SeqX x0 (ps.map Prt.d)) : ∀ (qs : List Prt) (i : Nat) (x1 x2 x3 : Sl), ps.drop i = qs → ∃ r, forL wrG wrO (enumD i (qs.map Prt.d)) [x0, x1, x2, x3] = some (.nx r)
  | [], i, x1, x2, x3, _ => ⟨_, rfl⟩
  | q :: qs, i, x1, x2, x3, hd => by
    have hsub : (q :: qs).Pairwise fun p q => clash p q = false := hd ▸ hg.room.sublist (List.drop_sublist _ _)
    have hok : ∀ a ∈ q :: qs, a.ok := fun a ha => hg.ok a (List.mem_of_mem_drop (hd.symm ▸ ha))
    have hlt : i < ps.length := by
      have : (ps.drop i).length = qs.length + 1 := by rw [hd]; rfl
      simp at this
      omega
    have hd1 : ps.drop (i + 1) = qs := by
      rw [← List.drop_drop, hd]
      rfl
    obtain ⟨x, e⟩ := wr_in (hok q (.head _)) x0 (.sh (.int i)) qs x3 (fun a ha => hok a (.tail _ ha)) (List.pairwise_cons.mp hsub).1
    have ecut : cutD (ps.map Prt.d) (some ((i : Int) + 1)) none = qs.map Prt.d := by
      have := cut_from (ps.map Prt.d) (i + 1) (by simp; omega)
      rw [show ((i + 1 : Nat) : Int) = (i : Int) + 1 from by omega] at this
      rw [this, ← List.map_drop, hd1]
    have eb : wrO [x0, .sh (.int i), .sh q.d, x3] = some (.nx [x0, .sh (.int i), .sh q.d, x]) := by
      rcases hx with rfl | rfl | rfl <;> (simp [wrO, ecut]; exact e)
    obtain ⟨r, e2⟩ := wr_out ps hg hx qs (i + 1) (.sh (.int i)) (.sh q.d) x hd1
    refine ⟨r, ?_⟩
    rw [List.map_cons, enumD, forL]
    have eg : wrG (.sh (.tup [.int i, q.d])) [x0, x1, x2, x3] = some (.nx [x0, .sh (.int i), .sh q.d, x3]) := by simp [wrG]
    rw [eg]
    simp only [eb, e2]
theorem want_room_prt {ps : List Prt} (h : Good ps) {x0 : Sl} (hx : SeqX x0 (ps.map Prt.d)) : dn_want_room [x0] = some (.ret (.sh .non) [.no]) := by
  obtain ⟨r, e⟩ := wr_out ps h hx ps 0 .no .no .no rfl
  have : dn_want_room = mkFn 4 [false] (sForI (wEnumX (aV (eVar 0))) wrG wrO) := rfl
  rw [this]
  rcases hx with rfl | rfl | rfl <;> simp [e, -mkBack, back1]

/-! ### a plan -/
def isFloor : D → Bool := fun d => fracB d && decide (0 ≤ fracN d)
theorem is_floor_spec {d : D} (h : itm d = true) : dn_is_floor [.sh d] = some (.ret (.sh (.bl (isFloor d))) [.no]) := by
  have f1 := is_fraction_spec h
  by_cases b1 : fracB d = true
  · obtain ⟨a, b, rfl, p1, p2, p3, p4⟩ := fracB_get b1 h
    have l1 := is_less_spec p3 p4 (show sm 50 0 by decide) (show sm 50 1 by decide)
    by_cases c : a < 0
    · have c2 : ¬ 0 ≤ a := by omega
      simp [dn_is_floor, f1, b1, l1, isFloor, fracN, c, c2]
    · have c2 : 0 ≤ a := by omega
      simp [dn_is_floor, f1, b1, l1, isFloor, fracN, c, c2]
  · simp [dn_is_floor, f1, b1, isFloor]
abbrev planF : List Str := ["own_parts", "own_floor", "by_name"]
def nmK (p : Prt) : KeyD := .inr p.nm
abbrev planD (ps : List Prt) (fl : D) : D := .obj "Plan" planF [.lst (ps.map Prt.d), fl, .dic (ps.map nmK) (ps.map Prt.d)]
abbrev planN (ps : List D) (fl : D) (ks : List KeyD) (vs : List D) : Sl := .nd (.ob "Plan" planF) [.ow (.lst ps), .sh fl, .ow (.dic ks vs)]
noncomputable def piB : S := (sFldD "Plan" "by_name" 0 (eCall dn_name_of (asC (aV (eVar 3)) asN)) (eVar 3))
theorem fn1 : ¬ (Str.ofString "own_parts" = Str.ofString "own_floor") := by decide +kernel
theorem fn2 : ¬ (Str.ofString "own_parts" = Str.ofString "by_name") := by decide +kernel
theorem fn3 : ¬ (Str.ofString "own_floor" = Str.ofString "by_name") := by decide +kernel
theorem piB_ok (ds : List D) (fl : D) (x1 : Sl) (p : Prt) (ks : List KeyD) (vs : List D) (hn : nmK p ∉ ks) (hl : vs.length < lim) :
    piB [planN ds fl ks vs, x1, .sh fl, .sh p.d] = some (.nx [planN ds fl (ks ++ [nmK p]) (vs ++ [p.d]), x1, .sh fl, .sh p.d]) := by
  unfold nmK at hn ⊢
  simp [piB, name_of_prt, fn1, fn2, fn3, dPutK, dPutV, hn, hl]
theorem pi_loop (ds : List D) (fl : D) (x1 : Sl) : ∀ (qs : List Prt) (ks : List KeyD) (vs : List D) (x3 : Sl), (∀ q ∈ qs, nmK q ∉ ks) → (qs.map Prt.nm).Nodup → vs.length + qs.length ≤ lim →
    ∃ x, forL (gN 3) piB (qs.map Prt.d) [planN ds fl ks vs, x1, .sh fl, x3] = some (.nx [planN ds fl (ks ++ qs.map nmK) (vs ++ qs.map Prt.d), x1, .sh fl, x])
  | [], ks, vs, x3, _, _, _ => ⟨x3, by simp⟩
  | q :: qs, ks, vs, x3, h2, h3, h4 => by
    rw [List.map_cons, List.nodup_cons] at h3
    have hb := piB_ok ds fl x1 q ks vs (h2 q (.head _)) (by simp at h4; omega)
    obtain ⟨x, e⟩ := pi_loop ds fl x1 qs (ks ++ [nmK q]) (vs ++ [q.d]) (.sh q.d) (fun a ha hc => by
      rcases List.mem_append.mp hc with hc | hc
      · exact h2 a (.tail _ ha) hc
      · have : a.nm = q.nm := by simpa [nmK] using hc
        exact h3.1 (this ▸ List.mem_map_of_mem ha)) h3.2 (by simp at h4 ⊢; omega)
    refine ⟨x, ?_⟩
    rw [List.map_cons, forL]
    have eg : gN 3 (.sh q.d) [planN ds fl ks vs, x1, .sh fl, x3] = some (.nx [planN ds fl ks vs, x1, .sh fl, .sh q.d]) := by simp
    rw [eg]
    simp only [hb, e]
    simp
theorem plan_init {ps : List Prt} {fl : D} (h : Good ps) (h1 : itm fl = true) (h2 : isFloor fl = true) (x1 : Sl) (hx : x1 = .ow (.lst (ps.map Prt.d)) ∨ SeqX x1 (ps.map Prt.d)) :
    dn_Plan___init__ [.nd (.ob "Plan" []) [], x1, .sh fl] = some (.ret (.sh .non) [planN (ps.map Prt.d) fl (ps.map nmK) (ps.map Prt.d), .no, .no]) := by
  have e := fun y => pi_loop (ps.map Prt.d) fl y ps [] [] .no (by simp) h.nm (by simpa using few_lim h.few)
  have hd : dn_Plan___init__ = mkFn 4 [true, false, false]
    (sSeq (sIf (tNot (tV (eCall dn_is_floor (asC (aV (eVar 2)) asN))))
    (sRaiseX "NoPart" ["number"] .n (asC (aV (eOp (asC (aV (eC (.int 1))) asN) oNeg)) asN))
    sPass)
    (sSeq (sDrop (eCall dn_want_parts (asC (aV (eVar 1)) asN)))
    (sSeq (sDrop (eCall dn_want_room (asC (aV (eVar 1)) asN)))
    (sSeq (sFldW "Plan" "own_parts" 0 (eOp (asC (aR 1) asN) oList))
    (sSeq (sFldW "Plan" "own_floor" 0 (eVar 2))
    (sSeq (sFldW "Plan" "by_name" 0 eNewK)
    (sForI (wSeq (eVar 1)) (gN 3) piB))))))) := rfl
  rw [hd]
  rcases hx with rfl | hx
  · obtain ⟨x, e⟩ := e (.sh (.lst (ps.map Prt.d)))
    simp [is_floor_spec h1, h2, want_parts_prt h (.inl rfl), want_room_prt h (.inl rfl), fn1, fn2, fn3]
    simp at e
    rw [e]
    simp
  · obtain ⟨x, e⟩ := e x1
    have w1 := want_parts_prt h hx
    have w2 := want_room_prt h hx
    rcases hx with rfl | rfl | rfl <;> (simp [is_floor_spec h1, h2, w1, w2, fn1, fn2, fn3]; simp at e; rw [e]; simp)
theorem plan_parts (ps : List Prt) (fl : D) : dn_Plan_parts [.sh (planD ps fl)] = some (.ret (.ow (.lst (ps.map Prt.d))) [.no]) := by
  simp [dn_Plan_parts]
theorem plan_floor (ps : List Prt) (fl : D) : dn_Plan_floor [.sh (planD ps fl)] = some (.ret (.sh fl) [.no]) := by
  simp [dn_Plan_floor, fn1]
theorem plan_names {ps : List Prt} (fl : D) (h : ps.length ≤ 1000) : dn_Plan_names [.sh (planD ps fl)] = some (.ret (.ow (.lst (ps.map fun p => .str p.nm))) [.no]) := by
  have key : lcL (gN 1) tYesE (eCall dn_name_of (asC (aV (eVar 1)) asN)) [1] (ps.map Prt.d) [] [.sh (planD ps fl), .no] = some (ps.map (fun p => .str p.nm), [.sh (planD ps fl), .no]) :=
    lcL_of Prt.d (fun p => .str p.nm) ps [] (fun p _ => by simp [name_of_prt]) (by simpa using few_lim h)
  unfold dn_Plan_names
  simp
  simp at key
  rw [key]
  simp
end Sc

/-! LmPile: the laws' own piles of parts. -/
namespace Sc
open PySem Py
set_option maxRecDepth 10000
set_option linter.all false
/-! ### draws -/
def isPot (P : D) : Prop := ∃ a b, okP a b ∧ P = potD a b
theorem pot_new (n : Int) : ∃ P, isPot P ∧ dn__law_pot [.sh (.int n)] = some (.ret (.ow P) [.no]) := by
  obtain ⟨a, b, h, e⟩ := pot_spec n
  exact ⟨_, ⟨a, b, h, rfl⟩, e⟩
theorem draw {P : D} (h : isPot P) (m : Int) (hm : 0 < m := by decide) (hs : sm 300 m := by decide) : ∃ d P', isPot P' ∧ 0 ≤ d ∧ d < m ∧ dn__law_draw [.ow P, .sh (.int m)] = some (.ret (.sh (.int d)) [.ow P', .no]) := by
  obtain ⟨a, b, h, rfl⟩ := h
  obtain ⟨d, a', b', h1, h2, h3, e⟩ := draw_spec a b m h hm hs
  exact ⟨d, _, ⟨a', b', h3, rfl⟩, h1, h2, e⟩
theorem sm_few {m : Int} (h0 : 0 ≤ m) (h1 : m ≤ 1000000) : sm 300 m := Nat.lt_of_le_of_lt (show m.natAbs ≤ 1000000 by omega) (by decide)
/-! ### picks -/
theorem ix_lst {xs : List D} {d : Int} (h0 : 0 ≤ d) (h1 : d < xs.length) : ∃ h : d.toNat < xs.length, oIx [.lst xs, .int d] = some (.sh (xs[d.toNat]'h)) := by
  refine ⟨by omega, ?_⟩
  simp [h0, h1, List.getElem?_eq_getElem (show d.toNat < xs.length by omega)]
theorem ix_all (Q : D → Prop) {xs : List D} {d : Int} (h0 : 0 ≤ d) (h1 : d < xs.length) (h : ∀ x ∈ xs, Q x) : ∃ x, oIx [.lst xs, .int d] = some (.sh x) ∧ Q x := by
  obtain ⟨hl, e⟩ := ix_lst h0 h1
  exact ⟨_, e, h _ (List.getElem_mem hl)⟩
/-! ### weights -/
theorem low_frac {a b : Int} (ha : 0 ≤ a) (ha2 : a ≤ 10000000000000) (hb : 0 < b) (hb2 : b ≤ 10000000000000) : fracB (lowD a b) = true ∧ itm (lowD a b) = true ∧ 0 ≤ fracN (lowD a b) ∧ (0 < a → 0 < fracN (lowD a b)) := by
  have hb0 : b ≠ 0 := by omega
  have h1 := lowB_pos (a := a) hb0
  have h2 := low_coprime (a := a) hb0
  have h3 := lowT_le (a := a) hb0
  have h4 := lowB_le (a := a) hb0
  obtain ⟨h5, h6⟩ := lowT_nonneg ha hb
  refine ⟨by simp [lowD, fracB, h1, h2], ?_, h5, h6⟩
  show [D.int (lowT a b), D.int (lowB a b)].all atm = true
  simp [atm]
  omega
theorem ends_prt {P : D} (h : isPot P) : ∃ w hh P', isPot P' ∧ itm w = true ∧ itm hh = true ∧ weightsB w hh = true ∧ dn__law_ends [.ow P] = some (.ret (.sh (.tup [w, hh])) [.ow P']) := by
  obtain ⟨d1, P1, p1, a1, b1, e1⟩ := draw h 12
  obtain ⟨d2, P2, p2, a2, b2, e2⟩ := draw p1 3
  obtain ⟨d3, P3, p3, a3, b3, e3⟩ := draw p2 8
  obtain ⟨d4, P4, p4, a4, b4, e4⟩ := draw p3 2
  obtain ⟨_, e5, v, rfl, hv⟩ := ix_all (fun x => ∃ v : Int, x = .int v ∧ 0 ≤ v ∧ v ≤ 100) (xs := [.int 0, .int 1, .int 3, .int 8, .int 8, .int 30, .int 30, .int 100]) a3 (by simpa using b3) (by simp)
  obtain ⟨f1, f2, f3, f4⟩ := low_frac (a := 1 + d1) (b := 1 + d2) (by omega) (by omega) (by omega) (by omega)
  obtain ⟨g1, g2, g3, g4⟩ := low_frac (a := v) (b := 1 + d4) (by omega) (by omega) (by omega) (by omega)
  have l1 := low_sm (a := 1 + d1) (b := 1 + d2) (n := 50) (by omega) (by show (1 + d2).natAbs < _; omega)
  have l2 := low_sm (a := v) (b := 1 + d4) (n := 50) (by omega) (by show (1 + d4).natAbs < _; omega)
  refine ⟨_, _, P4, p4, f2, g2, ?_, ?_⟩
  · simp [weightsB, f1, g1, f4 (by omega), g3]
  · simp [-oIx, dn__law_ends, e1, e2, e3, e4, e5, l1, l2, lim]
theorem floor_prt {P : D} (h : isPot P) : ∃ fl P', isPot P' ∧ itm fl = true ∧ isFloor fl = true ∧ dn__law_floor [.ow P] = some (.ret (.sh fl) [.ow P']) := by
  obtain ⟨d3, P3, p3, a3, b3, e3⟩ := draw h 6
  obtain ⟨d4, P4, p4, a4, b4, e4⟩ := draw p3 2
  obtain ⟨_, e5, v, rfl, hv⟩ := ix_all (fun x => ∃ v : Int, x = .int v ∧ 0 ≤ v ∧ v ≤ 1000) (xs := [.int 1000, .int 1000, .int 1000, .int 40, .int 9, .int 0]) a3 (by simpa using b3) (by simp)
  obtain ⟨g1, g2, g3, g4⟩ := low_frac (a := v) (b := 1 + d4) (by omega) (by omega) (by omega) (by omega)
  have l2 := low_sm (a := v) (b := 1 + d4) (n := 50) (by omega) (by show (1 + d4).natAbs < _; omega)
  refine ⟨_, P4, p4, g2, by simp [isFloor, g1, g3], ?_⟩
  simp [-oIx, dn__law_floor, e3, e4, e5, l2, lim]
/-! ### names -/
def words : List Str := ["floor", "pole", "board", "new", "take", "load", "show", "joints", "stands", "most", "order", "fewest"]
def runK (k j : Nat) : Str := repS ⟨#[97 + k]⟩ j
def allNames : List (Nat × Str) := ((List.range 12).zip words) ++ (List.range 12).flatMap fun k => (List.range 8).map fun j => (k, runK k (j + 1))
theorem names_ok : allNames.all (fun p => nameB (.str p.2)) = true := by decide +kernel
theorem names_one : allNames.all (fun p => allNames.all fun q => !(p.2 == q.2) || p.1 == q.1) = true := by decide +kernel
def NameK (k : Nat) (n : Str) : Prop := (k, n) ∈ allNames
theorem NameK.ok {k : Nat} {n : Str} (h : NameK k n) : nameB (.str n) = true := List.all_eq_true.mp names_ok _ h
theorem NameK.one {k l : Nat} {n : Str} (h : NameK k n) (h2 : NameK l n) : k = l := by
  have := List.all_eq_true.mp (List.all_eq_true.mp names_one _ h) _ h2
  simpa using this
theorem ab12 : Str.ofString "abcdefghijkl" = ⟨#[97, 98, 99, 100, 101, 102, 103, 104, 105, 106, 107, 108]⟩ := by decide +kernel
theorem letter_at {k : Nat} (h : k < 12) : oIx [.str "abcdefghijkl", .int k] = some (.sh (.str ⟨#[97 + k]⟩)) := by
  rw [ab12]
  match k, h with
  | 0, _ => rfl
  | 1, _ => rfl
  | 2, _ => rfl
  | 3, _ => rfl
  | 4, _ => rfl
  | 5, _ => rfl
  | 6, _ => rfl
  | 7, _ => rfl
  | 8, _ => rfl
  | 9, _ => rfl
  | 10, _ => rfl
  | 11, _ => rfl
theorem word_at {k : Nat} (h : k < 12) : ∃ w, oIx [.lst (words.map .str), .int k] = some (.sh (.str w)) ∧ NameK k w := by
  have hl : words.length = 12 := rfl
  obtain ⟨h1, e⟩ := ix_lst (xs := words.map .str) (d := (k : Int)) (by omega) (by simp [hl]; omega)
  refine ⟨words[k]'(by omega), ?_, ?_⟩
  · rw [e]
    simp
  · unfold NameK allNames
    refine List.mem_append_left _ ?_
    have : ((List.range 12).zip words)[k]'(by simp [hl]; omega) = (k, words[k]'(by omega)) := by simp
    rw [← this]
    exact List.getElem_mem _
theorem run_name {k j : Nat} (h : k < 12) (h1 : 1 ≤ j) (h2 : j ≤ 8) : NameK k (runK k j) := by
  unfold NameK allNames
  refine List.mem_append_right _ ?_
  rw [List.mem_flatMap]
  refine ⟨k, List.mem_range.mpr h, ?_⟩
  rw [List.mem_map]
  exact ⟨j - 1, List.mem_range.mpr (by omega), by rw [Nat.sub_add_cancel h1]⟩
theorem name_prt {P : D} (h : isPot P) {k : Nat} (hk : k < 12) : ∃ n P', isPot P' ∧ NameK k n ∧ dn__law_name [.ow P, .sh (.int k)] = some (.ret (.sh (.str n)) [.ow P', .no]) := by
  obtain ⟨d1, P1, p1, a1, b1, e1⟩ := draw h 8
  obtain ⟨d2, P2, p2, a2, b2, e2⟩ := draw p1 5
  obtain ⟨w, ew, hw⟩ := word_at hk
  have el := letter_at hk
  have ew2 : oIx [.lst [.str "floor", .str "pole", .str "board", .str "new", .str "take", .str "load", .str "show", .str "joints", .str "stands", .str "most", .str "order", .str "fewest"], .int k] = some (.sh (.str w)) := ew
  have hr : NameK k (repS ⟨#[97 + k]⟩ (1 + d1).toNat) := run_name hk (by omega) (by omega)
  have i1 : 1 ≤ 1 + d1 := by omega
  have i2 : 1 + d1 ≤ 1000 := by omega
  have sl : (⟨#[97 + k]⟩ : Str).length ≤ 1000 := by simp [Str.length]
  have r1 : oMulX [.str ⟨#[97 + k]⟩, .int (1 + d1)] = some (.sh (.str (repS ⟨#[97 + k]⟩ (1 + d1).toNat))) := by
    show (if _ then _ else _) = _
    rw [if_pos ⟨i1, i2, sl⟩]
  by_cases c : 0 < d2
  · refine ⟨_, P2, p2, hr, ?_⟩
    have e9 : ∀ u v : D, oIx [.lst [u, v], .int 1] = some (.sh v) := fun _ _ => rfl
    simp [-oIx, -oMulX, dn__law_name, e1, e2, ew2, el, r1, c, e9, lim]
  · refine ⟨w, P2, p2, hw, ?_⟩
    have e9 : ∀ u v : D, oIx [.lst [u, v], .int 0] = some (.sh u) := fun _ _ => rfl
    simp [-oIx, -oMulX, dn__law_name, e1, e2, ew2, el, r1, c, e9, lim]

/-! ### parts -/
theorem pole_prt {P : D} (h : isPot P) {n : Str} (hn : nameB (.str n) = true) {x y lo : Int} (hx : 0 ≤ x ∧ x ≤ 20) (hy : 0 ≤ y ∧ y ≤ 20) (hlo : 0 ≤ lo ∧ lo < 20) :
    ∃ p P', isPot P' ∧ Prt.ok p ∧ p.nm = n ∧ dn__law_pole [.ow P, .sh (.str n), .sh (.int x), .sh (.int y), .sh (.int lo)] = some (.ret (.sh p.d) [.ow P', .no, .no, .no, .no]) := by
  obtain ⟨d1, P1, p1, a1, b1, e1⟩ := draw h 3
  obtain ⟨w, hh, P2, p2, w1, w2, w3, e2⟩ := ends_prt p1
  refine ⟨.pole n x y lo (if lo + 1 + d1 < 20 then lo + 1 + d1 else 20) w hh, P2, p2, ⟨hn, hx, hy, ⟨hlo.1, by split <;> omega, by split <;> omega⟩, w1, w2, w3⟩, rfl, ?_⟩
  simp [dn__law_pole, e1, e2, lim, Prt.d]
theorem xy_at {d : Int} (h0 : 0 ≤ d) (h1 : d < 2) : ∃ wx, oIx [.str "xy", .int d] = some (.sh (.str (wayS wx))) := by
  have : Str.ofString "xy" = ⟨#[120, 121]⟩ := by decide +kernel
  have hx : Str.ofString "x" = ⟨#[120]⟩ := by decide +kernel
  have hy : Str.ofString "y" = ⟨#[121]⟩ := by decide +kernel
  by_cases c : d = 0
  · subst c
    refine ⟨true, ?_⟩
    rw [this, wayS, if_pos rfl, hx]
    rfl
  · have : d = 1 := by omega
    subst this
    refine ⟨false, ?_⟩
    rw [‹Str.ofString "xy" = _›, wayS, if_neg (by decide), hy]
    rfl
theorem way_eq (wx : Bool) : oEqX [.str (wayS wx), .str "x"] = rB wx := by
  cases wx
  · simp [wayS, cps_ok, sn3]
  · simp [wayS, cps_ok]
theorem board_prt {P : D} (h : isPot P) {n : Str} (hn : nameB (.str n) = true) {x y ht : Int} (hx : 0 ≤ x ∧ x ≤ 20) (hy : 0 ≤ y ∧ y ≤ 20) (hht : 0 ≤ ht ∧ ht ≤ 20) :
    ∃ p P', isPot P' ∧ Prt.ok p ∧ p.nm = n ∧ dn__law_board [.ow P, .sh (.str n), .sh (.int x), .sh (.int y), .sh (.int ht)] = some (.ret (.sh p.d) [.ow P', .no, .no, .no, .no]) := by
  obtain ⟨d1, P1, p1, a1, b1, e1⟩ := draw h 2
  obtain ⟨d2, P2, p2, a2, b2, e2⟩ := draw p1 4
  obtain ⟨d3, P3, p3, a3, b3, e3⟩ := draw p2 (1 + d2 + 1) (by omega) (sm_few (by omega) (by omega))
  obtain ⟨w, hh, P4, p4, w1, w2, w3, e4⟩ := ends_prt p3
  obtain ⟨wx, ew⟩ := xy_at a1 b1
  have eq := way_eq wx
  cases wx with
  | true =>
    let m : Int := if x - d3 < 20 - (1 + d2) then x - d3 else 20 - (1 + d2)
    refine ⟨.board n (if m > 0 then m else 0) y true (1 + d2) ht w hh, P4, p4, ⟨hn, ⟨by split <;> omega, by dsimp only [m]; split <;> (try split) <;> omega⟩, hy, ⟨by omega, by omega⟩, hht, ?_, w1, w2, w3⟩, rfl, ?_⟩
    · rw [if_pos rfl]
      dsimp only [m]
      split <;> (try split) <;> (try split at *) <;> omega
    · simp [-oIx, -oEqX, dn__law_board, e1, e2, e3, e4, ew, eq, lim, Prt.d, m]
  | false =>
    let m : Int := if y - d3 < 20 - (1 + d2) then y - d3 else 20 - (1 + d2)
    refine ⟨.board n x (if m > 0 then m else 0) false (1 + d2) ht w hh, P4, p4, ⟨hn, hx, ⟨by split <;> omega, by dsimp only [m]; split <;> (try split) <;> omega⟩, ⟨by omega, by omega⟩, hht, ?_, w1, w2, w3⟩, rfl, ?_⟩
    · rw [if_neg (by decide)]
      dsimp only [m]
      split <;> (try split) <;> (try split at *) <;> omega
    · simp [-oIx, -oEqX, dn__law_board, e1, e2, e3, e4, ew, eq, lim, Prt.d, m]
theorem Prt.ok.pls_in {p : Prt} (h : p.ok) : ∀ a ∈ p.pls, (0 ≤ a.1 ∧ a.1 ≤ 20) ∧ (0 ≤ a.2 ∧ a.2 ≤ 20) := by
  cases p with
  | pole n x y lo hi w hh =>
    obtain ⟨-, h2, h3, -⟩ := h
    intro a ha
    have : a = (x, y) := by simpa [Prt.pls] using ha
    subst this
    exact ⟨h2, h3⟩
  | board n x y wx len ht w hh =>
    obtain ⟨-, h2, h3, h4, -, h6, -⟩ := h
    intro a ha
    simp only [Prt.pls, List.mem_map, List.mem_range] at ha
    obtain ⟨k, hk, rfl⟩ := ha
    cases wx
    · simp only [Bool.false_eq_true, if_false] at h6 ⊢
      omega
    · simp only [if_true] at h6 ⊢
      omega
theorem Prt.ok.top_in {p : Prt} (h : p.ok) : 0 < p.top ∧ p.top ≤ 21 := by
  cases p with
  | pole n x y lo hi w hh =>
    obtain ⟨-, h2, h3, h4, -⟩ := h
    simp only [Prt.top]
    omega
  | board n x y wx len ht w hh =>
    obtain ⟨-, h2, h3, h4, h5, -⟩ := h
    simp only [Prt.top]
    omega
theorem len_get {x1 : Sl} {ds : List D} (hx : x1.get = some (.lst ds)) : Sl.held? x1 = some () := by
  cases x1 <;> first | rfl | (simp at hx)
noncomputable def moreT : S := (sSeq (sAsg (eCall dn__law_name (asC (aR 0) (asC (aV (eVar 2)) asN))) (gN 3))
        (sSeq (sIf (tAnd (tV (eOp (asC (aR 6) (asC (aV (eC (.int 20))) asN)) oLt)) (tV (eOp (asC (aV (eCall dn__law_draw (asC (aR 0) (asC (aV (eC (.int 2))) asN)))) (asC (aV (eC (.int 0))) asN)) oEqX)))
        (sRet (eCall dn__law_pole (asC (aR 0) (asC (aV (eVar 3)) (asC (aV (eVar 4)) (asC (aV (eVar 5)) (asC (aV (eVar 6)) asN)))))))
        sPass)
        (sRet (eCall dn__law_board (asC (aR 0) (asC (aV (eVar 3)) (asC (aV (eVar 4)) (asC (aV (eVar 5)) (asC (aV (eOp (asC (aV (eC (.int 20))) (asC (aR 6) asN)) oMin2)) asN)))))))))
theorem back2 (r : Py.Env) : mkBack [false, false] r = [.no, .no] := by
  match r with
  | [] => rfl
  | [_] => rfl
  | _ :: _ :: _ => rfl
theorem more_prt {P : D} (h : isPot P) {ps : List Prt} (hps : ∀ p ∈ ps, p.ok) (hfew : ps.length ≤ 1000) {k : Nat} (hk : k < 12) {x1 : Sl} (hx : x1 = .sh (.lst (ps.map Prt.d)) ∨ x1 = .bw (.ow (.lst (ps.map Prt.d)))) :
    ∃ p P', isPot P' ∧ Prt.ok p ∧ NameK k p.nm ∧ dn__law_more [.ow P, x1, .sh (.int k)] = some (.ret (.sh p.d) [.ow P', .no, .no]) := by
  obtain ⟨d1, P1, p1, a1, b1, e1⟩ := draw h 6
  obtain ⟨d2, P2, p2, a2, b2, e2⟩ := draw p1 3
  obtain ⟨d3, P3, p3, a3, b3, e3⟩ := draw p2 6
  obtain ⟨_, e4, v, rfl, hv⟩ := ix_all (fun x => ∃ v : Int, x = .int v ∧ 0 ≤ v ∧ v ≤ 2) (xs := [.int 0, .int 0, .int 0, .int 0, .int 0, .int 2]) a3 (by simpa using b3) (by simp)
  have hne := ne_nil (ps.map Prt.d)
  -- the end of it
  have tail : ∀ (P : D) (x y ht : Int) (x7 x8 : Sl), isPot P → (0 ≤ x ∧ x ≤ 20) → (0 ≤ y ∧ y ≤ 20) → (0 ≤ ht ∧ ht ≤ 21) → ∃ p P', isPot P' ∧ Prt.ok p ∧ NameK k p.nm ∧
      ∃ r, moreT [.ow P, x1, .sh (.int k), .no, .sh (.int x), .sh (.int y), .sh (.int ht), x7, x8] = some (.rt (.sh p.d) (.ow P' :: r)) := by
    intro P x y ht x7 x8 hP h1 h2 h3
    obtain ⟨n, P1, p1, n1, e1⟩ := name_prt hP hk
    by_cases c1 : ht < 20
    · obtain ⟨d2, P2, p2, a2, b2, e2⟩ := draw p1 2
      by_cases c2 : d2 = 0
      · subst c2
        obtain ⟨p, P3, p3, o3, m3, e3⟩ := pole_prt p2 n1.ok h1 h2 ⟨h3.1, c1⟩
        refine ⟨p, P3, p3, o3, m3 ▸ n1, [x1, .sh (.int k), .sh (.str n), .sh (.int x), .sh (.int y), .sh (.int ht), x7, x8], ?_⟩
        simp [moreT, e1, e2, e3, c1]
      · obtain ⟨p, P3, p3, o3, m3, e3⟩ := board_prt p2 n1.ok h1 h2 (ht := ht) ⟨h3.1, by omega⟩
        refine ⟨p, P3, p3, o3, m3 ▸ n1, [x1, .sh (.int k), .sh (.str n), .sh (.int x), .sh (.int y), .sh (.int ht), x7, x8], ?_⟩
        have c3 : ¬ 20 < ht := by omega
        have c4 : (if ht < 20 then ht else 20) = ht := if_pos c1
        simp [moreT, e1, e2, e3, c1, c2]
    · obtain ⟨p, P3, p3, o3, m3, e3⟩ := board_prt p1 n1.ok h1 h2 (ht := 20) ⟨by omega, by omega⟩
      refine ⟨p, P3, p3, o3, m3 ▸ n1, [x1, .sh (.int k), .sh (.str n), .sh (.int x), .sh (.int y), .sh (.int ht), x7, x8], ?_⟩
      have c1' : 20 ≤ ht := by omega
      simp [moreT, e1, e3, c1]
  have split_ : dn__law_more = mkFn 9 [true, false, false]
    (sSeq (sPar3 4 5 6 (asC (aV (eCall dn__law_draw (asC (aR 0) (asC (aV (eC (.int 6))) asN)))) (asC (aV (eCall dn__law_draw (asC (aR 0) (asC (aV (eC (.int 3))) asN)))) (asC (aV (eOp (asC (aV (eLst (asC (aV (eC (.int 0))) (asC (aV (eC (.int 0))) (asC (aV (eC (.int 0))) (asC (aV (eC (.int 0))) (asC (aV (eC (.int 0))) (asC (aV (eC (.int 2))) asN)))))))) (asC (aV (eCall dn__law_draw (asC (aR 0) (asC (aV (eC (.int 6))) asN)))) asN)) oIx)) asN))))
    (sSeq (sIf (tAnd (tV (eOp (asC (aR 1) (asC (aV (eLst asN)) asN)) oNeX)) (tV (eOp (asC (aV (eCall dn__law_draw (asC (aR 0) (asC (aV (eC (.int 3))) asN)))) (asC (aV (eC (.int 0))) asN)) oGt)))
    (sSeq (sAsg (eOp (asC (aR 1) (asC (aV (eCall dn__law_draw (asC (aR 0) (asC (aV (eOp (asC (aR 1) asN) oLen)) asN)))) asN)) oIx) (gN 7))
    (sSeq (sAsg (eCall dn__law_places (asC (aV (eVar 7)) asN)) (gN 8))
    (sSeq (sAsg (eOp (asC (aR 8) (asC (aV (eCall dn__law_draw (asC (aR 0) (asC (aV (eOp (asC (aR 8) asN) oLen)) asN)))) asN)) oIx) (gTup [(gN 4), (gN 5)]))
    (sAsg (eCall dn__law_top (asC (aV (eVar 7)) asN)) (gN 6)))))
    sPass) moreT)) := rfl
  rw [split_]
  by_cases c : ps = []
  · subst c
    obtain ⟨p, P', q1, q2, q3, r, e⟩ := tail P3 d1 d2 v .no .no p3 (by omega) (by omega) (by omega)
    refine ⟨p, P', q1, q2, q3, ?_⟩
    rcases hx with rfl | rfl <;> (simp only [List.map_nil] at e; simp [-oIx, -oNeX, e1, e2, e3, e4, lim, ne_nil, e, back2])
  · have hne2 : (!(ps.map Prt.d).isEmpty) = true := by simp [c]
    rw [hne2] at hne
    have hpos : 0 < ps.length := List.length_pos_iff.mpr c
    obtain ⟨d5, P5, p5, a5, b5, e5⟩ := draw p3 3
    by_cases c5 : 0 < d5
    · obtain ⟨d6, P6, p6, a6, b6, e6⟩ := draw p5 (ps.length : Int) (by omega) (sm_few (by omega) (by omega))
      obtain ⟨_, e7, u, hu, rfl⟩ := ix_all (fun x => ∃ u ∈ ps, x = Prt.d u) (xs := ps.map Prt.d) a6 (by simpa using b6) (by simp; exact fun a ha => ⟨a, ha, rfl⟩)
      have ou := hps u hu
      obtain ⟨l1, l2⟩ := pls_len ou
      obtain ⟨d8, P8, p8, a8, b8, e8⟩ := draw p6 (u.pls.length : Int) (by omega) (sm_few (by omega) (by omega))
      obtain ⟨_, e9, a, ha, rfl⟩ := ix_all (fun x => ∃ a ∈ u.pls, x = plD a) (xs := u.pls.map plD) a8 (by simpa using b8) (by simp; exact fun a b c hab e => ⟨b, c, hab, e.symm⟩)
      obtain ⟨i1, i2⟩ := ou.pls_in a ha
      have it := ou.top_in
      obtain ⟨p, P', q1, q2, q3, r, e⟩ := tail P8 a.1 a.2 u.top (.sh u.d) (.ow (.lst (u.pls.map plD))) p8 i1 i2 (by omega)
      refine ⟨p, P', q1, q2, q3, ?_⟩
      rcases hx with rfl | rfl <;> simp [-oIx, -oNeX, e1, e2, e3, e4, lim, hne, e5, c5, e6, e7, lplaces_prt ou, e8, e9, pl, ltop_prt, e, back2]
    · obtain ⟨p, P', q1, q2, q3, r, e⟩ := tail P5 d1 d2 v .no .no p5 (by omega) (by omega) (by omega)
      refine ⟨p, P', q1, q2, q3, ?_⟩
      rcases hx with rfl | rfl <;> simp [-oIx, -oNeX, e1, e2, e3, e4, lim, hne, e5, c5, e, back2]

/-! ### the pile -/
noncomputable def pileB : S := (sSeq (sAsg (heldE 2 (eCall dn__law_more (asC (aR 0) (asC (aR 2) (asC (aV (eVar 3)) asN))))) (gN 4))
    (sIf (tV (eOp (asC (aV (heldE 2 (eLc (wSeq (eVar 2)) (gN 5) (tV (eCall dn__law_clash (asC (aV (eVar 4)) (asC (aV (eVar 5)) asN)))) (eVar 5) [5]))) (asC (aV (eLst asN)) asN)) oEqX))
    (sAppend 2 (eVar 4))
    sPass))
structure PileI (k : Nat) (ps : List Prt) : Prop where
  good : Good ps
  ks : ∀ p ∈ ps, ∃ j, j < k ∧ NameK j p.nm
  len : ps.length ≤ k
theorem PileI.up {k : Nat} {ps : List Prt} (h : PileI k ps) : PileI (k + 1) ps := ⟨h.good, fun p hp => by
  obtain ⟨j, h1, h2⟩ := h.ks p hp
  exact ⟨j, by omega, h2⟩, by have := h.len; omega⟩
theorem PileI.more {k : Nat} {ps : List Prt} (h : PileI k ps) (hk : k < 12) {p : Prt} (hp : p.ok) (hn : NameK k p.nm) (hc : ∀ q ∈ ps, clash p q = false) : PileI (k + 1) (ps ++ [p]) := by
  refine ⟨⟨?_, ?_, ?_, ?_⟩, ?_, ?_⟩
  · intro q hq
    rcases List.mem_append.mp hq with hq | hq
    · exact h.good.ok q hq
    · rw [List.mem_singleton.mp hq]
      exact hp
  · rw [List.map_append, List.nodup_append]
    refine ⟨h.good.nm, by simp, ?_⟩
    intro a ha b hb
    obtain ⟨q, hq, rfl⟩ := List.mem_map.mp ha
    have : b = p.nm := by simpa using hb
    subst this
    intro e
    obtain ⟨j, h1, h2⟩ := h.ks q hq
    rw [e] at h2
    have := NameK.one h2 hn
    omega
  · rw [List.pairwise_append]
    refine ⟨h.good.room, by simp, ?_⟩
    intro a ha b hb
    rw [List.mem_singleton.mp hb, clash_symm]
    exact hc a ha
  · have := h.len
    simp
    omega
  · intro q hq
    rcases List.mem_append.mp hq with hq | hq
    · obtain ⟨j, h1, h2⟩ := h.ks q hq
      exact ⟨j, by omega, h2⟩
    · rw [List.mem_singleton.mp hq]
      exact ⟨k, by omega, hn⟩
  · have := h.len
    simp
    omega
theorem pileB_ok {P : D} (h : isPot P) {k : Nat} (hk : k < 12) {ps : List Prt} (hi : PileI k ps) (m : D) (x4 : Sl) : ∃ P' ps' x4', isPot P' ∧ PileI (k + 1) ps' ∧
    pileB [.ow P, .sh m, .ow (.lst (ps.map Prt.d)), .sh (.int k), x4, .no] = some (.nx [.ow P', .sh m, .ow (.lst (ps'.map Prt.d)), .sh (.int k), x4', .no]) := by
  obtain ⟨p, P1, p1, o1, n1, e1⟩ := more_prt h hi.good.ok hi.good.few hk (x1 := .bw (.ow (.lst (ps.map Prt.d)))) (.inr rfl)
  have key : lcL (gN 5) (tV (eCall dn__law_clash (asC (aV (eVar 4)) (asC (aV (eVar 5)) asN)))) (eVar 5) [5] (ps.map Prt.d) [] [.ow P1, .sh m, .bw (.ow (.lst (ps.map Prt.d))), .sh (.int k), .sh p.d, .no] = some ((ps.filter (clash p)).map Prt.d, [.ow P1, .sh m, .bw (.ow (.lst (ps.map Prt.d))), .sh (.int k), .sh p.d, .no]) :=
    lcL_filt Prt.d Prt.d (clash p) ps [] (fun q hq => by
      by_cases c : clash p q = true
      · simp [lclash_prt o1 (hi.good.ok q hq), c]
      · simp [lclash_prt o1 (hi.good.ok q hq), c]) (by simpa using few_lim hi.good.few)
  have k2 := eq_nil ((ps.filter (clash p)).map Prt.d)
  have hl : ps.length < lim := Nat.lt_of_le_of_lt hi.good.few (by decide)
  by_cases c : ∀ q ∈ ps, clash p q = false
  · have k3 : ((ps.filter (clash p)).map Prt.d).isEmpty = true := by
      simp
      exact c
    rw [k3] at k2
    refine ⟨P1, ps ++ [p], .sh p.d, p1, hi.more hk o1 n1 c, ?_⟩
    simp [-oEqX, pileB, e1]
    simp at key
    rw [key]
    simp [-oEqX, k2, hl]
  · have k3 : ((ps.filter (clash p)).map Prt.d).isEmpty = false := by
      rw [Bool.eq_false_iff]
      intro e
      simp at e
      exact c e
    rw [k3] at k2
    refine ⟨P1, ps, .sh p.d, p1, hi.up, ?_⟩
    simp [-oEqX, pileB, e1]
    simp at key
    rw [key]
    simp [-oEqX, k2]
theorem range_cons (lo : Int) (n : Nat) : rangeD lo (n + 1) = .int lo :: rangeD (lo + 1) n := by
  unfold rangeD
  rw [List.range_succ_eq_map, List.map_cons, List.map_map]
  congr 1
  · simp
  · apply List.map_congr_left
    intro a _
    simp
    omega
theorem pile_loop (m : D) : ∀ (n k : Nat) (P : D) (ps : List Prt) (x3 x4 : Sl), isPot P → PileI k ps → k + n ≤ 12 → ∃ P' ps' x3' x4', isPot P' ∧ PileI (k + n) ps' ∧
    forL (gN 3) pileB (rangeD k n) [.ow P, .sh m, .ow (.lst (ps.map Prt.d)), x3, x4, .no] = some (.nx [.ow P', .sh m, .ow (.lst (ps'.map Prt.d)), x3', x4', .no])
  | 0, k, P, ps, x3, x4, h, hi, _ => ⟨P, ps, x3, x4, h, hi, rfl⟩
  | n + 1, k, P, ps, x3, x4, h, hi, hk => by
    obtain ⟨P1, ps1, x41, h1, i1, e1⟩ := pileB_ok h (show k < 12 by omega) hi m x4
    obtain ⟨P2, ps2, x32, x42, h2, i2, e2⟩ := pile_loop m n (k + 1) P1 ps1 (.sh (.int k)) x41 h1 i1 (by omega)
    refine ⟨P2, ps2, x32, x42, h2, by rw [show k + (n + 1) = k + 1 + n by omega]; exact i2, ?_⟩
    rw [range_cons, forL]
    have eg : gN 3 (.sh (.int k)) [.ow P, .sh m, .ow (.lst (ps.map Prt.d)), x3, x4, .no] = some (.nx [.ow P, .sh m, .ow (.lst (ps.map Prt.d)), .sh (.int k), x4, .no]) := by simp
    rw [eg]
    simp only [e1]
    exact e2
theorem pile_prtN {P : D} (h : isPot P) {m : Nat} (hm : m ≤ 12) : ∃ ps P', isPot P' ∧ PileI m ps ∧ dn__law_pile [.ow P, .sh (.int m)] = some (.ret (.ow (.lst (ps.map Prt.d))) [.ow P', .no]) := by
  obtain ⟨d, P1, p1, a1, b1, e1⟩ := draw h ((m : Int) + 1) (by omega) (sm_few (by omega) (by omega))
  obtain ⟨P2, ps, x3, x4, p2, i2, e2⟩ := pile_loop (.int m) d.toNat 0 P1 [] .no .no p1 ⟨⟨by simp, by simp, by simp, by simp⟩, by simp, by simp⟩ (by omega)
  refine ⟨ps, P2, p2, ⟨i2.good, fun p hp => by
    obtain ⟨j, h1, h2⟩ := i2.ks p hp
    exact ⟨j, by omega, h2⟩, by have := i2.len; omega⟩, ?_⟩
  have hd : dn__law_pile = mkFn 6 [true, false] (sSeq (sAsg (eLst asN) (gN 2)) (sSeq (sForI (wR1 (aV (eCall dn__law_draw (asC (aR 0) (asC (aV (eOp (asC (aR 1) (asC (aV (eC (.int 1))) asN)) oAdd)) asN))))) (gN 3) pileB) (sRet (eMov 2)))) := rfl
  rw [hd]
  have hs : small62 d = true := small_of a1 (by omega)
  have e3 : forL (gN 3) pileB (rangeD 0 d.toNat) [.ow P1, .sh (.int m), .ow (.lst []), .no, .no, .no] = _ := e2
  simp [e1, hs, e3, lim]
theorem pile_prt {P : D} (h : isPot P) {m : Nat} (hm : m ≤ 12) : ∃ ps P', isPot P' ∧ Good ps ∧ ps.length ≤ m ∧ dn__law_pile [.ow P, .sh (.int m)] = some (.ret (.ow (.lst (ps.map Prt.d))) [.ow P', .no]) := by
  obtain ⟨ps, P', h1, h2, e⟩ := pile_prtN h hm
  exact ⟨ps, P', h1, h2.good, h2.len, e⟩
end Sc

/-! LmReach: points that boards reach. -/
namespace Sc
open PySem Py
set_option maxRecDepth 10000
set_option linter.all false
theorem prt_cmp {p : Prt} (h : p.ok) : cmpOk p.d = true ∧ dep p.d ≤ 60 := by
  have wk : ∀ {w hh : D}, itm w = true → itm hh = true → weightsB w hh = true → (cmpOk w = true ∧ dep w ≤ 1) ∧ (cmpOk hh = true ∧ dep hh ≤ 1) := by
    intro w hh h1 h2 h3
    simp only [weightsB, Bool.and_eq_true] at h3
    obtain ⟨a, b, rfl, -⟩ := fracB_get h3.1 h1
    obtain ⟨c, d, rfl, -⟩ := fracB_get h3.2.1 h2
    simp
  cases p with
  | pole n x y lo hi w hh =>
    obtain ⟨h1, -, -, -, h5, h6, h7⟩ := h
    obtain ⟨⟨a1, a2⟩, b1, b2⟩ := wk h5 h6 h7
    obtain ⟨n1, -⟩ := itm_dep (name_itm h1) rfl
    simp only [Prt.d, cmpOk, cmpOks, dep, deps, Bool.and_eq_true]
    refine ⟨⟨cps_ok _, ?_, trivial, trivial, trivial, trivial, a1, b1, trivial⟩, by omega⟩
    simpa using n1
  | board n x y wx len ht w hh =>
    obtain ⟨h1, -, -, -, -, -, h5, h6, h7⟩ := h
    obtain ⟨⟨a1, a2⟩, b1, b2⟩ := wk h5 h6 h7
    obtain ⟨n1, -⟩ := itm_dep (name_itm h1) rfl
    simp only [Prt.d, cmpOk, cmpOks, dep, deps, Bool.and_eq_true]
    refine ⟨⟨cps_ok _, ?_, trivial, trivial, ?_, trivial, trivial, a1, b1, trivial⟩, by omega⟩
    · simpa using n1
    · cases wx <;> exact cps_ok _
theorem prts_eqOk {ps : List Prt} (h : ∀ p ∈ ps, p.ok) : eqOk (.lst (ps.map Prt.d)) = true := eqOk_lst (fun d hd => by
  obtain ⟨p, hp, rfl⟩ := List.mem_map.mp hd
  exact (prt_cmp (h p hp)).1) (fun d hd => by
  obtain ⟨p, hp, rfl⟩ := List.mem_map.mp hd
  exact (prt_cmp (h p hp)).2)
theorem eq_self {d : D} (h : eqOk d = true) : oEqX [d, d] = rB true := by
  have hc : cmpOk d = true := by
    unfold eqOk at h
    exact (Bool.and_eq_true_iff.mp h).1
  rw [eqX_of (by cases d <;> first | rfl | (simp [cmpOk] at hc)) h h, eqv_refl hc]
def Prt.srt (p : Prt) : Str := if p.isBd = true then Str.ofString "board" else Str.ofString "pole"
theorem ix_srt (p : Prt) : oIx [p.d, .int 0] = some (.sh (.str p.srt)) := by
  cases p <;> rfl
theorem srt_board (p : Prt) : oEqX [.str p.srt, .str "board"] = rB p.isBd := by
  cases p <;> simp [Prt.srt, Prt.isBd, cps_ok, sn1]
theorem srt_pole (p : Prt) : oEqX [.str p.srt, .str "pole"] = rB (!p.isBd) := by
  cases p <;> simp [Prt.srt, Prt.isBd, cps_ok, sn2]
theorem eq_int (i j : Int) : oEqX [.int i, .int j] = rB (decide (i = j)) := by
  simp
  rfl
abbrev ptD (a : Int × Int × Int) : D := .tup [.int a.1, .int a.2.1, .int a.2.2]
def onTop (a : Int × Int × Int) (p : Prt) : Bool := p.isBd && decide (p.top = a.2.2)
def reachB (ps : List Prt) (a : Int × Int × Int) : Bool := ps.any fun p => onTop a p && p.has (a.1, a.2.1)
theorem pn1 : ¬ (Str.ofString "own_parts" = Str.ofString "parts") := by decide +kernel
theorem pn2 : ¬ (Str.ofString "own_floor" = Str.ofString "parts") := by decide +kernel
theorem pn3 : ¬ (Str.ofString "by_name" = Str.ofString "parts") := by decide +kernel
theorem pn1' : ¬ (Str.ofString "parts" = Str.ofString "own_parts") := by decide +kernel
theorem pn2' : ¬ (Str.ofString "parts" = Str.ofString "own_floor") := by decide +kernel
theorem pn3' : ¬ (Str.ofString "parts" = Str.ofString "by_name") := by decide +kernel
theorem any_filter_map {α : Type} (f g : α → Bool) (xs : List α) : (xs.filter f).any g = xs.any fun x => f x && g x := by
  induction xs with
  | nil => rfl
  | cons x xs ih =>
    by_cases c : f x = true
    · simp [c, ih]
    · simp [c, ih]
theorem reaches_prt {ps : List Prt} (fl : D) (h : ∀ p ∈ ps, p.ok) (hl : ps.length ≤ 1000) (a : Int × Int × Int) : dn_reaches [.sh (planD ps fl), .sh (ptD a)] = some (.ret (.sh (.bl (reachB ps a))) [.no, .no]) := by
  obtain ⟨x, y, z⟩ := a
  have key : lcL (gN 5) (tAnd (tV (eCall dn_is_board (asC (aV (eVar 5)) asN))) (tV (eOp (asC (aV (eCall dn_top_of (asC (aV (eVar 5)) asN))) (asC (aR 4) asN)) oEqX))) (eOp (asC (aV (eTup (asC (aV (eVar 2)) (asC (aV (eVar 3)) asN)))) (asC (aV (eCall dn_places_of (asC (aV (eVar 5)) asN))) asN)) oIn) [5] (ps.map Prt.d) [] [.sh (planD ps fl), .sh (ptD (x, y, z)), .sh (.int x), .sh (.int y), .sh (.int z), .no] = some ((ps.filter (onTop (x, y, z))).map (fun p => .bl (p.has (x, y))), [.sh (planD ps fl), .sh (ptD (x, y, z)), .sh (.int x), .sh (.int y), .sh (.int z), .no]) :=
    lcL_filt Prt.d (fun p => .bl (p.has (x, y))) (onTop (x, y, z)) ps [] (fun p hp => by
      have hin : inD (.tup [.int x, .int y]) (.lst (p.pls.map plD)) = some (p.pls.contains (x, y)) := in_pls (x, y) p.pls
      by_cases c1 : p.isBd = true
      · by_cases c2 : p.top = z
        · simp [-inD, onTop, is_board_prt, top_prt, c1, c2, places_prt (h p hp), l2]
          rw [hin]
          simp [Prt.has]
        · simp [-inD, onTop, is_board_prt, top_prt, c1, c2]
      · simp [-inD, onTop, is_board_prt, top_prt, c1]) (by simpa using few_lim hl)
  have k2 := any_bls (fun p : Prt => p.has (x, y)) (ps.filter (onTop (x, y, z)))
  rw [any_filter_map] at k2
  unfold dn_reaches
  simp [plan_parts, pn1', pn2', pn3']
  simp at key
  rw [key]
  simp [-oAny, k2, reachB]
theorem reached_prt {ps : List Prt} (h : ∀ p ∈ ps, p.ok) (hl : ps.length ≤ 1000) (a : Int × Int × Int) : dn__law_reached [.sh (.lst (ps.map Prt.d)), .sh (ptD a)] = some (.ret (.sh (.bl (reachB ps a))) [.no, .no]) := by
  obtain ⟨x, y, z⟩ := a
  have cut2 : cutD [.int x, .int y, .int z] none (some 2) = [.int x, .int y] := rfl
  have ix2 : oIx [ptD (x, y, z), .int 2] = some (.sh (.int z)) := rfl
  have key : lcL (gN 3) (tAnd (tV (eOp (asC (aV (eOp (asC (aR 3) (asC (aV (eC (.int 0))) asN)) oIx)) (asC (aV (eC (.str "board"))) asN)) oEqX)) (tV (eOp (asC (aV (eCall dn__law_top (asC (aV (eVar 3)) asN))) (asC (aV (eOp (asC (aR 1) (asC (aV (eC (.int 2))) asN)) oIx)) asN)) oEqX))) (eVar 3) [3] (ps.map Prt.d) [] [.sh (.lst (ps.map Prt.d)), .sh (ptD (x, y, z)), .no, .no] = some ((ps.filter (onTop (x, y, z))).map Prt.d, [.sh (.lst (ps.map Prt.d)), .sh (ptD (x, y, z)), .no, .no]) :=
    lcL_filt Prt.d Prt.d (onTop (x, y, z)) ps [] (fun p hp => by
      have s1 := ix_srt p
      have s2 := srt_board p
      by_cases c1 : p.isBd = true
      · rw [c1] at s2
        by_cases c2 : p.top = z
        · simp [-oIx, -oEqX, s1, s2, onTop, ltop_prt, c1, c2, ix2, eq_int]
        · simp [-oIx, -oEqX, s1, s2, onTop, ltop_prt, c1, c2, ix2, eq_int]
      · rw [show p.isBd = false by simpa using c1] at s2
        simp [-oIx, -oEqX, s1, s2, onTop, c1]) (by simpa using few_lim hl)
  obtain ⟨qs, hqs⟩ : ∃ qs, qs = ps.filter (onTop (x, y, z)) := ⟨_, rfl⟩
  rw [← hqs] at key
  have hq : ∀ p ∈ qs, p.ok := fun p hp => h p (List.mem_filter.mp (hqs ▸ hp)).1
  have hql : qs.length ≤ 1000 := Nat.le_trans (by rw [hqs]; exact List.length_filter_le _ _) hl
  have key2 : lcL (gN 3) (tV (eOp (asC (aV (eSl (aR 1) oaN (oaS (aV (eC (.int 2)))) oSlice)) (asC (aV (eCall dn__law_places (asC (aV (eVar 3)) asN))) asN)) oIn)) (eVar 3) [3] (qs.map Prt.d) [] [.sh (.lst (ps.map Prt.d)), .sh (ptD (x, y, z)), .sh (.lst (qs.map Prt.d)), .no] = some ((qs.filter fun p => p.has (x, y)).map Prt.d, [.sh (.lst (ps.map Prt.d)), .sh (ptD (x, y, z)), .sh (.lst (qs.map Prt.d)), .no]) :=
    lcL_filt Prt.d Prt.d (fun p => p.has (x, y)) qs [] (fun p hp => by
      have hin : inD (.tup [.int x, .int y]) (.lst (p.pls.map plD)) = some (p.pls.contains (x, y)) := in_pls (x, y) p.pls
      by_cases c1 : p.has (x, y) = true
      · have c2 : (x, y) ∈ p.pls := by simpa [Prt.has] using c1
        simp [-inD, cut2, lplaces_prt (hq p hp)]
        rw [hin]
        simp [c1, c2]
      · have c2 : ¬ (x, y) ∈ p.pls := by simpa [Prt.has] using c1
        simp [-inD, cut2, lplaces_prt (hq p hp)]
        rw [hin]
        simp [c1, c2]) (by simpa using few_lim hql)
  have k2 := ne_nil ((qs.filter fun p => p.has (x, y)).map Prt.d)
  have k3 : (!((qs.filter fun p => p.has (x, y)).map Prt.d).isEmpty) = reachB ps (x, y, z) := by
    unfold reachB
    rw [← any_filter_map, ← hqs, Bool.eq_iff_iff]
    simp
  rw [k3] at k2
  unfold dn__law_reached
  simp [-oNeX, -oIx, -oEqX]
  simp [-oNeX, -oIx, -oEqX] at key key2
  rw [key]
  simp [-oNeX, -oIx, -oEqX]
  rw [key2]
  simp [-oNeX, k2, lim]

/-! ### the laws' own points -/
theorem ix_two (u v : D) (b : Bool) : oIx [.lst [u, v], .int (if b = true then 1 else 0)] = some (.sh (if b = true then v else u)) := by
  cases b <;> rfl
theorem point_prt {P : D} (h : isPot P) {ps : List Prt} (hps : ∀ p ∈ ps, p.ok) (hl : ps.length ≤ 1000) : ∃ a P', isPot P' ∧ dn__law_point [.ow P, .sh (.lst (ps.map Prt.d))] = some (.ret (.sh (ptD a)) [.ow P', .no]) := by
  obtain ⟨d1, P1, p1, a1, b1, e1⟩ := draw h 6
  let f : Prt → Bool := fun p => if d1 = 1 then !p.isBd else p.isBd
  have key : lcL (gN 10) (tV (eOp (asC (aV (eOp (asC (aR 10) (asC (aV (eC (.int 0))) asN)) oIx)) (asC (aV (eOp (asC (aV (eLst (asC (aV (eC (.str "board"))) (asC (aV (eC (.str "pole"))) asN)))) (asC (aV (eOp (asC (aV (eOp (asC (aR 2) (asC (aV (eC (.int 1))) asN)) oEqX)) asN) oInt)) asN)) oIx)) asN)) oEqX)) (eVar 10) [10] (ps.map Prt.d) [] [.ow P1, .sh (.lst (ps.map Prt.d)), .sh (.int d1), .no, .no, .no, .no, .no, .no, .no, .no] = some ((ps.filter f).map Prt.d, [.ow P1, .sh (.lst (ps.map Prt.d)), .sh (.int d1), .no, .no, .no, .no, .no, .no, .no, .no]) :=
    lcL_filt Prt.d Prt.d f ps [] (fun p hp => by
      have s1 := ix_srt p
      have s2 := srt_board p
      have s3 := srt_pole p
      have t1 : oIx [.lst [.str "board", .str "pole"], .int 1] = some (.sh (.str "pole")) := rfl
      have t0 : oIx [.lst [.str "board", .str "pole"], .int 0] = some (.sh (.str "board")) := rfl
      by_cases c1 : d1 = 1
      · cases c2 : p.isBd
        · rw [c2] at s3
          simp [-oIx, -oEqX, eq_int, c1, s1, s3, f, c2, l2, t1]
        · rw [c2] at s3
          simp [-oIx, -oEqX, eq_int, c1, s1, s3, f, c2, l2, t1]
      · cases c2 : p.isBd
        · rw [c2] at s2
          simp [-oIx, -oEqX, eq_int, c1, s1, s2, f, c2, l2, t0]
        · rw [c2] at s2
          simp [-oIx, -oEqX, eq_int, c1, s1, s2, f, c2, l2, t0]) (by simpa using few_lim hl)
  obtain ⟨qs, hqs⟩ : ∃ qs, qs = ps.filter f := ⟨_, rfl⟩
  rw [← hqs] at key
  have hq : ∀ p ∈ qs, p.ok := fun p hp => hps p (List.mem_filter.mp (hqs ▸ hp)).1
  have hql : qs.length ≤ 1000 := Nat.le_trans (by rw [hqs]; exact List.length_filter_le _ _) hl
  have k2 := eq_nil (qs.map Prt.d)
  simp [-oEqX, -oIx] at key
  by_cases c1 : qs = []
  · obtain ⟨d2, P2, p2, a2, b2, e2⟩ := draw p1 6
    obtain ⟨d3, P3, p3, a3, b3, e3⟩ := draw p2 3
    obtain ⟨d4, P4, p4, a4, b4, e4⟩ := draw p3 4
    refine ⟨(d2, d3, d4), P4, p4, ?_⟩
    rw [show (qs.map Prt.d).isEmpty = true by simp [c1]] at k2
    unfold dn__law_point
    simp [-oEqX, -oIx, e1]
    rw [key]
    simp [-oEqX, -oIx, lim, k2, e2, e3, e4]
  · rw [show (qs.map Prt.d).isEmpty = false by simp [c1]] at k2
    by_cases c2 : d1 = 0
    · obtain ⟨d2, P2, p2, a2, b2, e2⟩ := draw p1 6
      obtain ⟨d3, P3, p3, a3, b3, e3⟩ := draw p2 3
      obtain ⟨d4, P4, p4, a4, b4, e4⟩ := draw p3 4
      refine ⟨(d2, d3, d4), P4, p4, ?_⟩
      unfold dn__law_point
      simp [-oEqX, -oIx, e1]
      rw [key]
      simp [-oEqX, -oIx, lim, k2, e2, e3, e4, eq_int, c2]
    · have hpos : 0 < qs.length := List.length_pos_iff.mpr c1
      obtain ⟨d6, P6, p6, a6, b6, e6⟩ := draw p1 (qs.length : Int) (by omega) (sm_few (by omega) (by omega))
      obtain ⟨_, e7, u, hu, rfl⟩ := ix_all (fun x => ∃ u ∈ qs, x = Prt.d u) (xs := qs.map Prt.d) a6 (by simpa using b6) (by simp; exact fun a ha => ⟨a, ha, rfl⟩)
      have ou := hq u hu
      obtain ⟨l1', l2'⟩ := pls_len ou
      obtain ⟨d8, P8, p8, a8, b8, e8⟩ := draw p6 (u.pls.length : Int) (by omega) (sm_few (by omega) (by omega))
      obtain ⟨_, e9, a, ha, rfl⟩ := ix_all (fun x => ∃ a ∈ u.pls, x = plD a) (xs := u.pls.map plD) a8 (by simpa using b8) (by simp; exact fun a b c hab e => ⟨b, c, hab, e.symm⟩)
      obtain ⟨d10, P10, p10, a10, b10, e10⟩ := draw p8 6
      obtain ⟨_, e11, v, rfl⟩ := ix_all (fun x => ∃ v : Int, x = .int v) (xs := [.int 0, .int 0, .int 0, .int 0, .int 1, .int (-1)]) a10 (by simpa using b10) (by simp)
      obtain ⟨d12, P12, p12, a12, b12, e12⟩ := draw p10 3
      obtain ⟨_, e13, b, rfl⟩ := ix_all (fun x => ∃ b, x = ptD b) (xs := [.tup [.int a.1, .int a.2, .int u.top], .tup [.int (a.1 + v), .int a.2, .int u.top], .tup [.int a.1, .int a.2, .int (u.top + v)]]) a12 (by simpa using b12) (by
        intro x hx
        simp only [List.mem_cons, List.not_mem_nil, or_false] at hx
        rcases hx with rfl | rfl | rfl
        · exact ⟨(_, _, _), rfl⟩
        · exact ⟨(_, _, _), rfl⟩
        · exact ⟨(_, _, _), rfl⟩)
      refine ⟨b, P12, p12, ?_⟩
      unfold dn__law_point
      simp [-oEqX, -oIx, e1]
      rw [key]
      simp [-oEqX, -oIx, lim, k2, eq_int, c2, e6, e7, lplaces_prt ou, e8, e9, pl, e10, e11, ltop_prt, e12, e13]
end Sc

/-! LmCut: parts by their names; a plan cut to some names. -/
namespace Sc
open PySem Py
set_option maxRecDepth 10000
set_option linter.all false
theorem dGet_prt : ∀ {ps : List Prt} {p : Prt}, p ∈ ps → (ps.map Prt.nm).Nodup → dGet (ps.map nmK) (ps.map Prt.d) (nmK p) = some p.d
  | q :: qs, p, hp, hn => by
    rw [List.map_cons, List.nodup_cons] at hn
    rw [List.map_cons, List.map_cons, dGet]
    by_cases c : nmK q = nmK p
    · rw [if_pos c]
      rcases List.mem_cons.mp hp with e | e
      · rw [e]
      · have : q.nm = p.nm := by simpa [nmK] using c
        exact absurd (this ▸ List.mem_map_of_mem e) hn.1
    · rw [if_neg c]
      rcases List.mem_cons.mp hp with e | e
      · exact absurd (e ▸ rfl) c
      · exact dGet_prt e hn.2
theorem part_in {ps : List Prt} (fl : D) {p : Prt} (hp : p ∈ ps) (hn : (ps.map Prt.nm).Nodup) : dn_Plan_part [.sh (planD ps fl), .sh (.str p.nm)] = some (.ret (.sh p.d) [.no, .no]) := by
  have g := dGet_prt hp hn
  unfold nmK at g
  have h1 : ((ps.map nmK).any fun k' => decide (k' = Sum.inr p.nm)) = true := by
    rw [List.any_eq_true]
    exact ⟨nmK p, List.mem_map_of_mem hp, by simp [nmK]⟩
  have i1 : inD (.str p.nm) (.dic (ps.map nmK) (ps.map Prt.d)) = some true := by
    show ((keyOf (D.str p.nm)).map fun k => (ps.map nmK).any fun k' => decide (k' = k)) = _
    simp only [keyOf, Option.map_some, h1]
  have i2 : oIxX [.dic (ps.map nmK) (ps.map Prt.d), .str p.nm] = some (.sh p.d) := by
    show ((keyOf (D.str p.nm)).bind fun k => (dGet (ps.map nmK) (ps.map Prt.d) k).map Sl.sh) = _
    simp only [keyOf, Option.bind_some]
    unfold nmK
    rw [g]
    rfl
  simp [-oIxX, -inD, dn_Plan_part, fn1, fn2, fn3, i1, i2]
theorem part_no {ps : List Prt} (fl : D) {n : Str} (hn : ∀ p ∈ ps, p.nm ≠ n) : dn_Plan_part [.sh (planD ps fl), .sh (.str n)] = some (.ex ⟨"NoName", []⟩ [.no, .no]) := by
  have h1 : ((ps.map nmK).any fun k' => decide (k' = Sum.inr n)) = false := by
    rw [List.any_eq_false]
    intro k hk
    obtain ⟨p, hp, rfl⟩ := List.mem_map.mp hk
    simp [nmK]
    exact hn p hp
  have i1 : inD (.str n) (.dic (ps.map nmK) (ps.map Prt.d)) = some false := by
    show ((keyOf (D.str n)).map fun k => (ps.map nmK).any fun k' => decide (k' = k)) = _
    simp only [keyOf, Option.map_some, h1]
  simp [-oIxX, -inD, dn_Plan_part, fn1, fn2, fn3, i1]
theorem part_odd {ps : List Prt} (fl : D) {d : D} (hd : Ty.str.has d = some false) : dn_Plan_part [.sh (planD ps fl), .sh d] = some (.ex ⟨"NoName", []⟩ [.no, .no]) := by
  simp [-Ty.has, dn_Plan_part, hd]
theorem pt1 : ¬ (Str.ofString "part" = Str.ofString "own_parts") := by decide +kernel
theorem pt2 : ¬ (Str.ofString "part" = Str.ofString "own_floor") := by decide +kernel
theorem pt3 : ¬ (Str.ofString "part" = Str.ofString "by_name") := by decide +kernel
theorem nt1 : ¬ (Str.ofString "names" = Str.ofString "own_parts") := by decide +kernel
theorem nt2 : ¬ (Str.ofString "names" = Str.ofString "own_floor") := by decide +kernel
theorem nt3 : ¬ (Str.ofString "names" = Str.ofString "by_name") := by decide +kernel
theorem ft1 : ¬ (Str.ofString "floor" = Str.ofString "own_parts") := by decide +kernel
theorem ft2 : ¬ (Str.ofString "floor" = Str.ofString "own_floor") := by decide +kernel
theorem ft3 : ¬ (Str.ofString "floor" = Str.ofString "by_name") := by decide +kernel
theorem names_eqOk {ps : List Prt} (h : ∀ p ∈ ps, p.ok) : eqOk (.lst (ps.map fun p => .str p.nm)) = true := eqOk_lst (fun d hd => by
  obtain ⟨p, hp, rfl⟩ := List.mem_map.mp hd
  have o : nameB (.str p.nm) = true := by
    have := h p hp
    cases p
    · exact this.1
    · exact this.1
  exact (itm_dep (name_itm o) rfl).1) (fun d hd => by
  obtain ⟨p, hp, rfl⟩ := List.mem_map.mp hd
  simp)
theorem floor_eqOk {fl : D} (h : itm fl = true) (h2 : isFloor fl = true) : eqOk fl = true := by
  unfold isFloor at h2
  rw [Bool.and_eq_true] at h2
  obtain ⟨a, b, rfl, -⟩ := fracB_get h2.1 h
  simp
theorem ix_name (p : Prt) : oIx [p.d, .int 1] = some (.sh (.str p.nm)) := by
  cases p <;> rfl

/-! ### rows of names -/
theorem name_ok {p : Prt} (h : p.ok) : nameB (.str p.nm) = true := by
  cases p
  · exact h.1
  · exact h.1
def nmD (n : Str) : D := .str n
theorem in_lst {n : Str} {ns : List Str} (h : (D.str n :: ns.map nmD).all (fun d => eqOk d && flatD d) = true) : inD (.str n) (.lst (ns.map nmD)) = some (ns.contains n) ∧ inD (.str n) (.tup (ns.map nmD)) = some (ns.contains n) := by
  simp only [List.all_cons, Bool.and_eq_true, List.all_map, List.all_eq_true, Function.comp] at h
  obtain ⟨⟨h1, h2⟩, h3⟩ := h
  have e1 : eqOk (.lst (ns.map nmD)) = true := eqOk_lst (fun d hd => by
    obtain ⟨m, hm, rfl⟩ := List.mem_map.mp hd
    have := (h3 m hm).1
    unfold eqOk at this
    exact (Bool.and_eq_true_iff.mp this).1) (fun d hd => by
    obtain ⟨m, hm, rfl⟩ := List.mem_map.mp hd
    simp [nmD])
  have e2 : (ns.map nmD).all flatD = true := by simp [nmD]
  have e3 : ((ns.map nmD).any fun z => eqv z (.str n)) = ns.contains n := by
    rw [List.any_map, Bool.eq_iff_iff]
    simp only [List.any_eq_true, Function.comp, nmD, eqv, List.contains_iff_mem, beq_iff_eq]
    exact ⟨fun ⟨m, h1, h2⟩ => h2 ▸ h1, fun h => ⟨n, h, rfl⟩⟩
  constructor
  · show (if eqOk (.str n) = true ∧ eqOk (.lst (ns.map nmD)) = true then some ((ns.map nmD).any fun z => eqv z (.str n)) else none) = _
    rw [if_pos ⟨h1, e1⟩, e3]
  · show (if flatD (.str n) = true ∧ (ns.map nmD).all flatD = true then some ((ns.map nmD).any fun z => eqv z (.str n)) else none) = _
    rw [if_pos ⟨rfl, e2⟩, e3]

/-! ### cut -/
def Known (ps : List Prt) (n : Str) : Prop := ∃ p ∈ ps, p.nm = n
theorem known_chk {ps : List Prt} (h : ∀ p ∈ ps, p.ok) {n : Str} (hn : Known ps n) : (eqOk (.str n) && flatD (.str n)) = true := by
  obtain ⟨p, hp, rfl⟩ := hn
  obtain ⟨a, b⟩ := itm_dep (name_itm (name_ok (h p hp))) rfl
  unfold eqOk
  rw [a]
  simp
theorem known_all {ps : List Prt} (h : ∀ p ∈ ps, p.ok) {n : Str} {ns : List Str} (hn : Known ps n) (hs : ∀ m ∈ ns, Known ps m) : (D.str n :: ns.map nmD).all (fun d => eqOk d && flatD d) = true := by
  rw [List.all_cons, known_chk h hn, Bool.true_and, List.all_map, List.all_eq_true]
  intro m hm
  exact known_chk h (hs m hm)
noncomputable def ctB : S := (sSeq (sDrop (eCall dn_Plan_part (asO "Plan" "part" (aR 0) (asC (aV (eVar 3)) asN))))
    (sIf (tV (eOp (asC (aR 3) (asC (aV (eSl (aR 1) oaN (oaS (aR 2)) oSlice)) asN)) oIn))
    (sRaise "NoName")
    sPass))
def RowX (x : Sl) (ds : List D) : Prop := x = .sh (.lst ds) ∨ x = .sh (.tup ds)
theorem cut_to (ns : List Str) (ds : List D) : cutD (ns.map nmD ++ ds) none (some (ns.length : Int)) = ns.map nmD := by
  unfold cutD
  simp only [slIx, List.drop_zero, Nat.sub_zero]
  rw [if_neg (by omega)]
  have : min (Int.toNat (ns.length : Int)) (ns.map nmD ++ ds).length = (ns.map nmD).length := by simp
  rw [this, List.take_left]
section
variable {ps : List Prt} {fl : D} (g : Good ps) {x1 : Sl} {ds rest : List D} {ns : List Str} {d : D} (hx : RowX x1 ds) (hs : ∀ m ∈ ns, Known ps m)
include g hx hs
theorem ct_known {n : Str} (e : ds = ns.map nmD ++ rest) (hn : Known ps n) (x4 : Sl) : ctB [.sh (planD ps fl), x1, .sh (.int ns.length), .sh (.str n), x4] = some (if ns.contains n = true then .ex ⟨"NoName", []⟩ [.sh (planD ps fl), x1, .sh (.int ns.length), .sh (.str n), x4] else .nx [.sh (planD ps fl), x1, .sh (.int ns.length), .sh (.str n), x4]) := by
  obtain ⟨i1, i2⟩ := in_lst (known_all g.ok hn hs)
  obtain ⟨p, hp, rfl⟩ := hn
  have q := part_in fl hp g.nm
  have c1 := cut_to ns rest
  rw [← e] at c1
  rcases hx with rfl | rfl
  · cases c : ns.contains p.nm
    · rw [c] at i1
      simp [-inD, ctB, pt1, pt2, pt3, q, c1, i1]
    · rw [c] at i1
      simp [-inD, ctB, pt1, pt2, pt3, q, c1, i1]
  · cases c : ns.contains p.nm
    · rw [c] at i2
      simp [-inD, ctB, pt1, pt2, pt3, q, c1, i2]
    · rw [c] at i2
      simp [-inD, ctB, pt1, pt2, pt3, q, c1, i2]
omit hs in
theorem ct_odd (k : Int) (h : dn_Plan_part [.sh (planD ps fl), .sh d] = some (.ex ⟨"NoName", []⟩ [.no, .no])) (x4 : Sl) : ctB [.sh (planD ps fl), x1, .sh (.int k), .sh d, x4] = some (.ex ⟨"NoName", []⟩ [.sh (planD ps fl), x1, .sh (.int k), .sh d, x4]) := by
  rcases hx with rfl | rfl <;> simp [ctB, pt1, pt2, pt3, h]
end

def ctG : G := gTup [(gN 2), (gN 3)]
theorem ctG_ok (x0 x1 x2 x3 x4 : Sl) (i : Int) (d : D) : ctG (.sh (.tup [.int i, d])) [x0, x1, x2, x3, x4] = some (.nx [x0, x1, .sh (.int i), .sh d, x4]) := by simp [ctG]
theorem ct_loop {ps : List Prt} {fl : D} (g : Good ps) {x1 : Sl} {ds : List D} (hx : RowX x1 ds) (x4 : Sl) : ∀ (ms ns : List Str) (x2 x3 : Sl), ds = ns.map nmD ++ ms.map nmD → (∀ m ∈ ns ++ ms, Known ps m) → (ns ++ ms).Nodup →
    ∃ y2 y3, forL ctG ctB (enumD ns.length (ms.map nmD)) [.sh (planD ps fl), x1, x2, x3, x4] = some (.nx [.sh (planD ps fl), x1, y2, y3, x4])
  | [], ns, x2, x3, _, _, _ => ⟨x2, x3, rfl⟩
  | m :: ms, ns, x2, x3, e, hk, hn => by
    have hns : ∀ a ∈ ns, Known ps a := fun a ha => hk a (List.mem_append_left _ ha)
    have hc : ns.contains m = false := by
      rw [Bool.eq_false_iff]
      intro z
      have z := List.contains_iff_mem.mp z
      rw [List.nodup_append] at hn
      exact hn.2.2 m z m (.head _) rfl
    have hb := ct_known (fl := fl) g hx hns (rest := (m :: ms).map nmD) e (hk m (by simp)) x4
    rw [hc] at hb
    obtain ⟨y2, y3, e2⟩ := ct_loop (fl := fl) g hx x4 ms (ns ++ [m]) (.sh (.int ns.length)) (.sh (.str m)) (by rw [e]; simp) (by simpa using hk) (by simpa using hn)
    refine ⟨y2, y3, ?_⟩
    rw [List.length_append] at e2
    rw [List.map_cons, enumD, forL, ctG_ok]
    simp only [nmD] at hb e2 ⊢
    rw [hb]
    exact e2
theorem ct_loopX {ps : List Prt} {fl : D} (g : Good ps) {x1 : Sl} {ds : List D} (hx : RowX x1 ds) (x4 : Sl) : ∀ (rest : List D) (ns : List Str) (x2 x3 : Sl), ds = ns.map nmD ++ rest → (∀ d ∈ rest, ∃ b, Ty.str.has d = some b) → (∀ m ∈ ns, Known ps m) → ns.Nodup → (¬ ∃ ms : List Str, rest = ms.map nmD ∧ (∀ m ∈ ms, Known ps m) ∧ (ns ++ ms).Nodup) →
    ∃ r, forL ctG ctB (enumD ns.length rest) [.sh (planD ps fl), x1, x2, x3, x4] = some (.ex ⟨"NoName", []⟩ r)
  | [], ns, x2, x3, _, _, _, hn, hb => absurd ⟨[], rfl, by simp, by simpa using hn⟩ hb
  | d :: rest, ns, x2, x3, e, ht, hk, hn, hb => by
    rw [enumD, forL, ctG_ok]
    have odd : dn_Plan_part [.sh (planD ps fl), .sh d] = some (.ex ⟨"NoName", []⟩ [.no, .no]) → ∃ r, (match ctB [.sh (planD ps fl), x1, .sh (.int ns.length), .sh d, x4] with
      | some (.nx r2) => forL ctG ctB (enumD (ns.length + 1) rest) r2
      | some (.ct r2) => forL ctG ctB (enumD (ns.length + 1) rest) r2
      | some (.bk r2) => some (.nx r2)
      | x => x) = some (.ex ⟨"NoName", []⟩ r) := fun z => by
        rw [ct_odd g hx _ z x4]
        exact ⟨_, rfl⟩
    obtain ⟨b, hb1⟩ := ht d (.head _)
    cases b with
    | false => exact odd (part_odd fl hb1)
    | true =>
      cases d with
      | str n =>
        by_cases kn : Known ps n
        · have hs := ct_known (fl := fl) g hx hk (rest := D.str n :: rest) e kn x4
          by_cases c : ns.contains n = true
          · rw [if_pos c] at hs
            simp only [hs]
            exact ⟨_, rfl⟩
          · rw [if_neg c] at hs
            simp only [hs]
            have := ct_loopX (fl := fl) g hx x4 rest (ns ++ [n]) (.sh (.int ns.length)) (.sh (.str n)) (by rw [e]; simp [nmD]) (fun a ha => ht a (.tail _ ha)) (fun a ha => by
              rcases List.mem_append.mp ha with ha | ha
              · exact hk a ha
              · rw [List.mem_singleton.mp ha]
                exact kn) (by
              rw [List.nodup_append]
              refine ⟨hn, by simp, fun a ha b hb2 => ?_⟩
              rw [List.mem_singleton.mp hb2]
              intro z
              exact c (List.contains_iff_mem.mpr (z ▸ ha))) (fun ⟨ms, m1, m2, m3⟩ => hb ⟨n :: ms, by rw [m1]; rfl, fun a ha => by
              rcases List.mem_cons.mp ha with ha | ha
              · rw [ha]
                exact kn
              · exact m2 a ha, by simpa using m3⟩)
            rw [List.length_append] at this
            exact this
        · exact odd (part_no fl fun p hp z => kn ⟨p, hp, z⟩)
      | _ => cases hb1
/-- the parts that a row of names leaves -/
def kept (ps : List Prt) (ns : List Str) : List Prt := ps.filter fun p => ns.contains p.nm
theorem Good.kept {ps : List Prt} (g : Good ps) (ns : List Str) : Good (kept ps ns) := ⟨fun p hp => g.ok p (List.mem_filter.mp hp).1, g.nm.sublist (List.filter_sublist.map _), g.room.sublist List.filter_sublist, Nat.le_trans (List.length_filter_le _ _) g.few⟩
theorem cut_ok {ps : List Prt} {fl : D} (g : Good ps) (h1 : itm fl = true) (h2 : isFloor fl = true) {x1 : Sl} {ns : List Str} (hx : RowX x1 (ns.map nmD)) (hk : ∀ m ∈ ns, Known ps m) (hn : ns.Nodup) : dn_cut [.sh (planD ps fl), x1] = some (.ret (.sh (planD (kept ps ns) fl)) [.no, .no]) := by
  obtain ⟨y2, y3, e⟩ := ct_loop (fl := fl) g hx .no ns [] .no .no rfl (by simpa using hk) (by simpa using hn)
  have key : lcL (gN 4) (tV (eOp (asC (aV (eCall dn_name_of (asC (aV (eVar 4)) asN))) (asC (aR 1) asN)) oIn)) (eVar 4) [4] (ps.map Prt.d) [] [.sh (planD ps fl), x1, y2, y3, .no] = some ((kept ps ns).map Prt.d, [.sh (planD ps fl), x1, y2, y3, .no]) :=
    lcL_filt Prt.d Prt.d (fun p => ns.contains p.nm) ps [] (fun p hp => by
      obtain ⟨i1, i2⟩ := in_lst (known_all g.ok ⟨p, hp, rfl⟩ hk)
      rcases hx with rfl | rfl
      · cases c : ns.contains p.nm
        · rw [c] at i1
          simp [-inD, name_of_prt, i1]
        · rw [c] at i1
          simp [-inD, name_of_prt, i1]
      · cases c : ns.contains p.nm
        · rw [c] at i2
          simp [-inD, name_of_prt, i2]
        · rw [c] at i2
          simp [-inD, name_of_prt, i2]) (by simpa using few_lim g.few)
  have i1 := plan_init (g.kept ns) h1 h2 (.ow (.lst ((kept ps ns).map Prt.d))) (.inl rfl)
  have hd : dn_cut = mkFn 5 [false, false]
    (sSeq (sForI (wEnumX (aV (eVar 1))) ctG ctB)
    (sRet (eShr (eMake "Plan" dn_Plan___init__ (asC (aV (eLc (wSeq (eCall dn_Plan_parts (asO "Plan" "parts" (aR 0) asN))) (gN 4) (tV (eOp (asC (aV (eCall dn_name_of (asC (aV (eVar 4)) asN))) (asC (aR 1) asN)) oIn)) (eVar 4) [4])) (asC (aV (eCall dn_Plan_floor (asO "Plan" "floor" (aR 0) asN))) asN)))))) := rfl
  rw [hd]
  have e' : forL ctG ctB (enumD 0 (ns.map nmD)) [.sh (planD ps fl), x1, .no, .no, .no] = _ := e
  rcases hx with rfl | rfl
  · simp [e', plan_parts, pn1', pn2', pn3']
    simp at key
    rw [key]
    simp [plan_floor, ft1, ft2, ft3, i1]
  · simp [e', plan_parts, pn1', pn2', pn3']
    simp at key
    rw [key]
    simp [plan_floor, ft1, ft2, ft3, i1]
theorem cut_bad {ps : List Prt} {fl : D} (g : Good ps) {x1 : Sl} {ds : List D} (hx : RowX x1 ds) (ht : ∀ d ∈ ds, ∃ b, Ty.str.has d = some b) (hb : ¬ ∃ ms : List Str, ds = ms.map nmD ∧ (∀ m ∈ ms, Known ps m) ∧ ms.Nodup) : dn_cut [.sh (planD ps fl), x1] = some (.ex ⟨"NoName", []⟩ [.no, .no]) := by
  obtain ⟨r, e⟩ := ct_loopX (fl := fl) g hx .no ds [] .no .no rfl ht (by simp) (by simp) (by simpa using hb)
  have hd : dn_cut = mkFn 5 [false, false]
    (sSeq (sForI (wEnumX (aV (eVar 1))) ctG ctB)
    (sRet (eShr (eMake "Plan" dn_Plan___init__ (asC (aV (eLc (wSeq (eCall dn_Plan_parts (asO "Plan" "parts" (aR 0) asN))) (gN 4) (tV (eOp (asC (aV (eCall dn_name_of (asC (aV (eVar 4)) asN))) (asC (aR 1) asN)) oIn)) (eVar 4) [4])) (asC (aV (eCall dn_Plan_floor (asO "Plan" "floor" (aR 0) asN))) asN)))))) := rfl
  rw [hd]
  have e' : forL ctG ctB (enumD 0 ds) [.sh (planD ps fl), x1, .no, .no, .no] = _ := e
  rcases hx with rfl | rfl <;> simp [-mkBack, e', back2]
end Sc

/-! LmSort: sorted lists (plain). -/
namespace Sc
open PySem Py
set_option maxRecDepth 10000
set_option linter.all false
/-- a linear order -/
structure Lin {α : Type} (le : α → α → Bool) : Prop where
  tr : ∀ a b c, le a b = true → le b c = true → le a c = true
  tot : ∀ a b, (le a b || le b a) = true
  anti : ∀ a b, le a b = true → le b a = true → a = b
theorem Lin.uniq {α : Type} {le : α → α → Bool} (h : Lin le) : ∀ {l m : List α}, l.Pairwise (fun a b => le a b = true) → m.Pairwise (fun a b => le a b = true) → l.Perm m → l = m
  | [], m, _, _, p => (List.Perm.nil_eq p)
  | x :: l, [], _, _, p => absurd p.length_eq (by simp)
  | x :: l, y :: m, hl, hm, p => by
    have e : x = y := by
      have h1 : x ∈ y :: m := p.mem_iff.mp (.head _)
      have h2 : y ∈ x :: l := p.mem_iff.mpr (.head _)
      rcases List.mem_cons.mp h1 with e | h1
      · exact e
      · rcases List.mem_cons.mp h2 with e | h2
        · exact e.symm
        · exact h.anti _ _ ((List.pairwise_cons.mp hl).1 y h2) ((List.pairwise_cons.mp hm).1 x h1)
    subst e
    rw [h.uniq (List.pairwise_cons.mp hl).2 (List.pairwise_cons.mp hm).2 p.cons_inv]
theorem Lin.sorted {α : Type} {le : α → α → Bool} (h : Lin le) (l : List α) : (l.mergeSort le).Pairwise (fun a b => le a b = true) := List.pairwise_mergeSort h.tr h.tot l
theorem Lin.sort_perm {α : Type} {le : α → α → Bool} (h : Lin le) {l m : List α} (p : l.Perm m) : l.mergeSort le = m.mergeSort le :=
  h.uniq (h.sorted l) (h.sorted m) ((List.mergeSort_perm l le).trans (p.trans (List.mergeSort_perm m le).symm))
/-! ### texts -/
def leS (x y : Str) : Bool := !decide (y.cps.toList < x.cps.toList)
theorem str_ext {x y : Str} (h : x.cps.toList = y.cps.toList) : x = y := by
  cases x
  cases y
  congr 1
  exact Array.toList_inj.mp h
theorem leS_iff {x y : Str} : leS x y = true ↔ x.cps.toList ≤ y.cps.toList := by
  unfold leS
  rw [Bool.not_eq_true', decide_eq_false_iff_not]
  exact List.not_lt
theorem lin_S : Lin leS where
  tr := fun a b c h1 h2 => leS_iff.mpr (List.le_trans (leS_iff.mp h1) (leS_iff.mp h2))
  tot := fun a b => by
    rcases List.le_total a.cps.toList b.cps.toList with h | h
    · rw [leS_iff.mpr h]
      rfl
    · rw [leS_iff.mpr h, Bool.or_true]
  anti := fun a b h1 h2 => str_ext (List.le_antisymm (leS_iff.mp h1) (leS_iff.mp h2))
/-- sorted texts -/
def sortS (xs : List Str) : List Str := xs.mergeSort leS
theorem sort_names (ns : List Str) : (ns.map nmD).mergeSort leD = (sortS ns).map nmD :=
  (List.map_mergeSort (r := leS) (s := leD) (f := nmD) (l := ns) fun a _ b _ => by simp [leS, leD, nmD]).symm
theorem sorted_names {ns : List Str} (h : ∀ n ∈ ns, eqOk (.str n) = true) : oSorted [.lst (ns.map nmD)] = some (.ow (.lst ((sortS ns).map nmD))) := by
  have : sortOk (ns.map nmD) = true := by
    simp only [sortOk, Bool.and_eq_true, List.all_map, List.all_eq_true, Function.comp, Bool.or_eq_true]
    exact ⟨⟨fun a _ b _ => rfl, .inr fun a _ => rfl⟩, fun a ha => h a ha⟩
  show (if sortOk (ns.map nmD) = true then some (Sl.ow (.lst ((ns.map nmD).mergeSort leD))) else none) = _
  rw [if_pos this, sort_names]
/-! ### joints -/
structure Jt where
  lo : Str
  up : Str
  x : Int
  y : Int
def Jt.d (j : Jt) : D := .tup [.str j.lo, .str j.up, .tup [.int j.x, .int j.y]]
def ltJ (a b : Jt) : Bool := if a.lo = b.lo then (if a.up = b.up then (if a.x = b.x then decide (a.y < b.y) else decide (a.x < b.x)) else decide (a.up.cps.toList < b.up.cps.toList)) else decide (a.lo.cps.toList < b.lo.cps.toList)
def leJ (a b : Jt) : Bool := !ltJ b a
theorem ltD_J (a b : Jt) : ltD a.d b.d = ltJ a b := by
  unfold ltJ
  simp only [Jt.d, ltD, ltDs, eqv, beq_iff_eq, eqvs, Bool.and_true, Bool.and_eq_true]
  by_cases h1 : a.lo = b.lo
  · rw [if_pos h1, if_pos h1]
    by_cases h2 : a.up = b.up
    · rw [if_pos h2, if_pos h2]
      by_cases h3 : a.x = b.x
      · rw [if_pos h3]
        by_cases h4 : a.y = b.y
        · simp [h3, h4]
        · simp [h3, h4]
      · simp [h3]
    · rw [if_neg h2, if_neg h2]
  · rw [if_neg h1, if_neg h1]
theorem lt_lin {x y : Str} (h : x ≠ y) : x.cps.toList < y.cps.toList ∨ y.cps.toList < x.cps.toList := by
  rcases List.le_total x.cps.toList y.cps.toList with q | q
  · by_cases z : x.cps.toList < y.cps.toList
    · exact .inl z
    · exact absurd (str_ext (List.le_antisymm q (List.not_lt.mp z))) h
  · by_cases z : y.cps.toList < x.cps.toList
    · exact .inr z
    · exact absurd (str_ext (List.le_antisymm (List.not_lt.mp z) q)) h
/-- as one reads them -/
def LtJ (a b : Jt) : Prop := a.lo.cps.toList < b.lo.cps.toList ∨ (a.lo = b.lo ∧ (a.up.cps.toList < b.up.cps.toList ∨ (a.up = b.up ∧ (a.x < b.x ∨ (a.x = b.x ∧ a.y < b.y)))))
theorem str_irr (x : Str) : ¬ x.cps.toList < x.cps.toList := List.lt_irrefl _
theorem ltJ_iff {a b : Jt} : ltJ a b = true ↔ LtJ a b := by
  unfold ltJ LtJ
  have i1 := str_irr b.lo
  have i2 := str_irr b.up
  by_cases h1 : a.lo = b.lo
  · rw [if_pos h1, h1]
    by_cases h2 : a.up = b.up
    · rw [if_pos h2, h2]
      by_cases h3 : a.x = b.x
      · rw [if_pos h3, decide_eq_true_eq]
        refine ⟨fun h => .inr ⟨rfl, .inr ⟨rfl, .inr ⟨h3, h⟩⟩⟩, ?_⟩
        rintro (h | ⟨-, h | ⟨-, h | ⟨-, h⟩⟩⟩)
        · exact absurd h i1
        · exact absurd h i2
        · omega
        · exact h
      · rw [if_neg h3, decide_eq_true_eq]
        refine ⟨fun h => .inr ⟨rfl, .inr ⟨rfl, .inl h⟩⟩, ?_⟩
        rintro (h | ⟨-, h | ⟨-, h | ⟨h, -⟩⟩⟩)
        · exact absurd h i1
        · exact absurd h i2
        · exact h
        · exact absurd h h3
    · rw [if_neg h2, decide_eq_true_eq]
      refine ⟨fun h => .inr ⟨rfl, .inl h⟩, ?_⟩
      rintro (h | ⟨-, h | ⟨h, -⟩⟩)
      · exact absurd h i1
      · exact h
      · exact absurd h h2
  · rw [if_neg h1, decide_eq_true_eq]
    refine ⟨fun h => .inl h, ?_⟩
    rintro (h | ⟨h, -⟩)
    · exact h
    · exact absurd h h1
theorem LtJ.trans {a b c : Jt} (h : LtJ a b) (k : LtJ b c) : LtJ a c := by
  unfold LtJ at *
  rcases h with h | ⟨h, h'⟩
  · rcases k with k | ⟨k, k'⟩
    · exact .inl (List.lt_trans h k)
    · exact .inl (k ▸ h)
  · rcases k with k | ⟨k, k'⟩
    · exact .inl (h ▸ k)
    · refine .inr ⟨h.trans k, ?_⟩
      rcases h' with h' | ⟨h', h2⟩
      · rcases k' with k' | ⟨k', k2⟩
        · exact .inl (List.lt_trans h' k')
        · exact .inl (k' ▸ h')
      · rcases k' with k' | ⟨k', k2⟩
        · exact .inl (h' ▸ k')
        · exact .inr ⟨h'.trans k', by omega⟩
theorem LtJ.irr {a : Jt} : ¬ LtJ a a := by
  unfold LtJ
  rintro (h | ⟨-, h | ⟨-, h | ⟨-, h⟩⟩⟩)
  · exact str_irr _ h
  · exact str_irr _ h
  · omega
  · omega
theorem LtJ.tri (a b : Jt) : LtJ a b ∨ a = b ∨ LtJ b a := by
  unfold LtJ
  by_cases h1 : a.lo = b.lo
  · by_cases h2 : a.up = b.up
    · by_cases h3 : a.x = b.x
      · by_cases h4 : a.y = b.y
        · right
          left
          cases a
          cases b
          simp_all
        · have : a.y < b.y ∨ b.y < a.y := by omega
          rcases this with h | h
          · exact .inl (.inr ⟨h1, .inr ⟨h2, .inr ⟨h3, h⟩⟩⟩)
          · exact .inr (.inr (.inr ⟨h1.symm, .inr ⟨h2.symm, .inr ⟨h3.symm, h⟩⟩⟩))
      · have : a.x < b.x ∨ b.x < a.x := by omega
        rcases this with h | h
        · exact .inl (.inr ⟨h1, .inr ⟨h2, .inl h⟩⟩)
        · exact .inr (.inr (.inr ⟨h1.symm, .inr ⟨h2.symm, .inl h⟩⟩))
    · rcases lt_lin h2 with h | h
      · exact .inl (.inr ⟨h1, .inl h⟩)
      · exact .inr (.inr (.inr ⟨h1.symm, .inl h⟩))
  · rcases lt_lin h1 with h | h
    · exact .inl (.inl h)
    · exact .inr (.inr (.inl h))
theorem leJ_iff {a b : Jt} : leJ a b = true ↔ ¬ LtJ b a := by
  unfold leJ
  rw [Bool.not_eq_true', ← Bool.not_eq_true, ltJ_iff]
theorem lin_J : Lin leJ where
  tr := fun a b c h1 h2 => by
    rw [leJ_iff] at *
    intro h
    rcases LtJ.tri a b with z | z | z
    · exact h2 (h.trans z)
    · exact h2 (z ▸ h)
    · exact h1 z
  tot := fun a b => by
    rw [Bool.or_eq_true, leJ_iff, leJ_iff]
    rcases LtJ.tri a b with z | z | z
    · exact .inl fun q => LtJ.irr (z.trans q)
    · exact .inl fun q => LtJ.irr (z ▸ q)
    · exact .inr fun q => LtJ.irr (z.trans q)
  anti := fun a b h1 h2 => by
    rw [leJ_iff] at h1 h2
    rcases LtJ.tri a b with z | z | z
    · exact absurd z h2
    · exact z
    · exact absurd z h1
def sortJ (js : List Jt) : List Jt := js.mergeSort leJ
theorem sort_joints (js : List Jt) : (js.map Jt.d).mergeSort leD = (sortJ js).map Jt.d :=
  (List.map_mergeSort (r := leJ) (s := leD) (f := Jt.d) (l := js) fun a _ b _ => by simp only [leJ, leD, ltD_J]).symm
theorem sorted_joints {js : List Jt} (h : ∀ j ∈ js, eqOk j.d = true) : oSorted [.lst (js.map Jt.d)] = some (.ow (.lst ((sortJ js).map Jt.d))) := by
  have : sortOk (js.map Jt.d) = true := by
    simp only [sortOk, Bool.and_eq_true, List.all_map, List.all_eq_true, Function.comp, Bool.or_eq_true]
    exact ⟨⟨fun a _ b _ => rfl, .inl fun a _ => rfl⟩, fun a ha => h a ha⟩
  show (if sortOk (js.map Jt.d) = true then some (Sl.ow (.lst ((js.map Jt.d).mergeSort leD))) else none) = _
  rw [if_pos this, sort_joints]
theorem sortJ_perm (js : List Jt) : (sortJ js).Perm js := List.mergeSort_perm js leJ
end Sc

/-! LmJoint: which part bears which (plain). -/
namespace Sc
open PySem Py
set_option maxRecDepth 10000
set_option linter.all false
theorem ne_int (i j : Int) : oNeX [.int i, .int j] = rB (!decide (i = j)) := by
  simp
  rfl
def floorJ (u : Prt) : List Jt := if u.bot = 0 then u.pls.map fun a => ⟨"", u.nm, a.1, a.2⟩ else []
def betwJ (u l : Prt) : List Jt := if l.top = u.bot then (u.pls.filter l.has).map fun a => ⟨l.nm, u.nm, a.1, a.2⟩ else []
def rawU (ps : List Prt) (u : Prt) : List Jt := floorJ u ++ ps.flatMap (betwJ u)
def rawJ (ps : List Prt) : List Jt := ps.flatMap (rawU ps)
/-- the joints of a plan -/
def jointsOf (ps : List Prt) : List Jt := sortJ (rawJ ps)
theorem floorJ_len {u : Prt} (h : u.ok) : (floorJ u).length ≤ 21 := by
  have := (pls_len h).2
  unfold floorJ
  split
  · simpa using this
  · simp
theorem betwJ_len {u : Prt} (h : u.ok) (l : Prt) : (betwJ u l).length ≤ 21 := by
  have := (pls_len h).2
  unfold betwJ
  split
  · rw [List.length_map]
    exact Nat.le_trans (List.length_filter_le _ _) this
  · simp
theorem flat_len {α β : Type} (f : α → List β) (c : Nat) : ∀ (xs : List α), (∀ x ∈ xs, (f x).length ≤ c) → (xs.flatMap f).length ≤ xs.length * c
  | [], _ => by simp
  | x :: xs, h => by
    have a := h x (.head _)
    have b := flat_len f c xs fun y hy => h y (.tail _ hy)
    rw [List.flatMap_cons, List.length_append, List.length_cons, Nat.add_mul, Nat.one_mul]
    omega
theorem rawU_len {ps : List Prt} {u : Prt} (h : u.ok) : (rawU ps u).length ≤ 21 * (ps.length + 1) := by
  unfold rawU
  have a := floorJ_len h
  have b := flat_len (betwJ u) 21 ps fun l _ => betwJ_len h l
  rw [List.length_append]
  omega
theorem rawJ_len {ps : List Prt} (h : ∀ p ∈ ps, p.ok) : (rawJ ps).length ≤ ps.length * (21 * (ps.length + 1)) := flat_len _ _ ps fun u hu => rawU_len (h u hu)
theorem jd_mk (l u : Str) (a : Int × Int) : (Jt.d ⟨l, u, a.1, a.2⟩) = .tup [.str l, .str u, plD a] := rfl
theorem l3 : 3 ≤ lim := by decide
theorem len21 {n : Nat} (h : n ≤ 21) : n ≤ lim := Nat.le_trans h (by decide)
theorem with_floor_prt {p : Prt} (hp : p.ok) : dn_joints_with_floor [.sh p.d] = some (.ret (.ow (.lst ((floorJ p).map Jt.d))) [.no]) := by
  have key : lcL (gN 1) tYesE (eTup (asC (aV (eC (.str ""))) (asC (aV (eCall dn_name_of (asC (aV (eVar 0)) asN))) (asC (aV (eVar 1)) asN)))) [1] (p.pls.map plD) [] [.sh p.d, .no] = some (p.pls.map (fun a => Jt.d ⟨"", p.nm, a.1, a.2⟩), [.sh p.d, .no]) :=
    lcL_of plD (fun a => Jt.d ⟨"", p.nm, a.1, a.2⟩) p.pls [] (fun a _ => by simp [name_of_prt, l3, jd_mk]) (by simpa using len21 (pls_len hp).2)
  have l0 : (0 : Nat) ≤ lim := by decide
  unfold dn_joints_with_floor floorJ
  by_cases c : p.bot = 0
  · simp [-oNeX, ne_int, bottom_prt, c, places_prt hp]
    simp at key
    rw [key]
    simp [Function.comp_def]
  · simp [-oNeX, ne_int, bottom_prt, c, l0]
theorem between_prt {l u : Prt} (hl : l.ok) (hu : u.ok) : dn_joints_between [.sh l.d, .sh u.d] = some (.ret (.ow (.lst ((betwJ u l).map Jt.d))) [.no, .no]) := by
  have key : lcL (gN 3) (tV (eOp (asC (aR 3) (asC (aR 2) asN)) oIn)) (eTup (asC (aV (eCall dn_name_of (asC (aV (eVar 0)) asN))) (asC (aV (eCall dn_name_of (asC (aV (eVar 1)) asN))) (asC (aV (eVar 3)) asN)))) [3] (u.pls.map plD) [] [.sh l.d, .sh u.d, .ow (.lst (l.pls.map plD)), .no] = some ((u.pls.filter l.has).map (fun a => Jt.d ⟨l.nm, u.nm, a.1, a.2⟩), [.sh l.d, .sh u.d, .ow (.lst (l.pls.map plD)), .no]) :=
    lcL_filt plD (fun a => Jt.d ⟨l.nm, u.nm, a.1, a.2⟩) l.has u.pls [] (fun a _ => by
      by_cases c : l.has a = true
      · simp [-inD, in_pls, name_of_prt, l3, jd_mk, c]
        simp [Prt.has] at c
        simp [c, Prt.has]
      · simp [-inD, in_pls, name_of_prt, l3, jd_mk, c]
        simp [Prt.has] at c
        simp [c, Prt.has]) (by simpa using len21 (pls_len hu).2)
  have l0 : (0 : Nat) ≤ lim := by decide
  unfold dn_joints_between betwJ
  by_cases c : l.top = u.bot
  · simp [-oNeX, ne_int, bottom_prt, top_prt, c, places_prt hl, places_prt hu]
    simp at key
    rw [key]
    simp [Function.comp_def]
  · simp [-oNeX, ne_int, bottom_prt, top_prt, c, l0]
noncomputable def jiB : S := (sExtend 1 (eCall dn_joints_between (asC (aV (eVar 3)) (asC (aV (eVar 2)) asN))))
theorem ji_loop (x0 : Sl) {u : Prt} (hu : u.ok) : ∀ (qs : List Prt) (acc : List Jt) (x3 : Sl), (∀ q ∈ qs, q.ok) → acc.length + qs.length * 21 ≤ lim → ∃ y3, forL (gN 3) jiB (qs.map Prt.d) [x0, .ow (.lst (acc.map Jt.d)), .sh u.d, x3] = some (.nx [x0, .ow (.lst ((acc ++ qs.flatMap (betwJ u)).map Jt.d)), .sh u.d, y3])
  | [], acc, x3, _, _ => ⟨x3, by simp⟩
  | q :: qs, acc, x3, h, hl => by
    have b := betwJ_len hu q
    rw [List.length_cons, Nat.add_mul] at hl
    obtain ⟨y3, e⟩ := ji_loop x0 hu qs (acc ++ betwJ u q) (.sh q.d) (fun a ha => h a (.tail _ ha)) (by rw [List.length_append]; omega)
    refine ⟨y3, ?_⟩
    have h1 : acc.length + (betwJ u q).length ≤ lim := by omega
    have eb : jiB [x0, .ow (.lst (acc.map Jt.d)), .sh u.d, .sh q.d] = some (.nx [x0, .ow (.lst ((acc ++ betwJ u q).map Jt.d)), .sh u.d, .sh q.d]) := by
      simp [jiB, between_prt (h q (.head _)) hu, h1]
    rw [List.map_cons, forL]
    have eg : gN 3 (.sh q.d) [x0, .ow (.lst (acc.map Jt.d)), .sh u.d, x3] = some (.nx [x0, .ow (.lst (acc.map Jt.d)), .sh u.d, .sh q.d]) := by simp
    rw [eg]
    simp only [eb, e]
    rw [List.flatMap_cons, List.append_assoc]
noncomputable def joB : S := (sSeq (sExtend 1 (eCall dn_joints_with_floor (asC (aV (eVar 2)) asN)))
    (sForI (wSeq (eCall dn_Plan_parts (asO "Plan" "parts" (aR 0) asN))) (gN 3) jiB))
theorem jo_loop {ps : List Prt} (fl : D) (hps : ∀ p ∈ ps, p.ok) : ∀ (qs : List Prt) (acc : List Jt) (x2 x3 : Sl), (∀ q ∈ qs, q.ok) → acc.length + qs.length * (21 * (ps.length + 1)) ≤ lim →
    ∃ y2 y3, forL (gN 2) joB (qs.map Prt.d) [.sh (planD ps fl), .ow (.lst (acc.map Jt.d)), x2, x3] = some (.nx [.sh (planD ps fl), .ow (.lst ((acc ++ qs.flatMap (rawU ps)).map Jt.d)), y2, y3])
  | [], acc, x2, x3, _, _ => ⟨x2, x3, by simp⟩
  | q :: qs, acc, x2, x3, h, hl => by
    have hq := h q (.head _)
    have b := rawU_len (ps := ps) hq
    have b1 := floorJ_len hq
    rw [List.length_cons, Nat.add_mul] at hl
    obtain ⟨z3, e1⟩ := ji_loop (.sh (planD ps fl)) hq ps (acc ++ floorJ q) x3 hps (by rw [List.length_append]; omega)
    obtain ⟨y2, y3, e2⟩ := jo_loop fl hps qs (acc ++ rawU ps q) (.sh q.d) z3 (fun a ha => h a (.tail _ ha)) (by rw [List.length_append]; omega)
    refine ⟨y2, y3, ?_⟩
    have h1 : acc.length + (floorJ q).length ≤ lim := by omega
    rw [List.append_assoc] at e1
    have e1' : forL (gN 3) jiB (ps.map Prt.d) [.sh (planD ps fl), .ow (.lst (acc.map Jt.d ++ (floorJ q).map Jt.d)), .sh q.d, x3] = some (.nx [.sh (planD ps fl), .ow (.lst ((acc ++ rawU ps q).map Jt.d)), .sh q.d, z3]) := by
      rw [← List.map_append]
      exact e1
    have eb : joB [.sh (planD ps fl), .ow (.lst (acc.map Jt.d)), .sh q.d, x3] = some (.nx [.sh (planD ps fl), .ow (.lst ((acc ++ rawU ps q).map Jt.d)), .sh q.d, z3]) := by
      simp [-forL, joB, with_floor_prt hq, h1, plan_parts, pn1', pn2', pn3']
      rw [e1']
      simp
    rw [List.map_cons, forL]
    have eg : gN 2 (.sh q.d) [.sh (planD ps fl), .ow (.lst (acc.map Jt.d)), x2, x3] = some (.nx [.sh (planD ps fl), .ow (.lst (acc.map Jt.d)), .sh q.d, x3]) := by simp
    rw [eg]
    simp only [eb, e2]
    rw [List.flatMap_cons, List.append_assoc]
theorem str_eqOk {n : Str} (h : nameB (.str n) = true) : eqOk (.str n) = true := by
  have := (itm_dep (name_itm h) rfl).1
  unfold eqOk
  rw [this]
  simp
theorem jt_ok {l u : Str} (h1 : eqOk (.str l) = true) (h2 : eqOk (.str u) = true) (x y : Int) : eqOk (Jt.d ⟨l, u, x, y⟩) = true := by
  simp [eqOk] at h1 h2
  simp [Jt.d, eqOk, h1, h2]
theorem empty_ok : eqOk (.str (Str.ofString "")) = true := by simp [eqOk, cps_ok]
/-- a joint's two names are names, or the floor's -/
def Jt.fine (ps : List Prt) (j : Jt) : Prop := (j.lo = Str.ofString "" ∨ ∃ p ∈ ps, p.nm = j.lo) ∧ ∃ p ∈ ps, p.nm = j.up
theorem rawJ_fine {ps : List Prt} {j : Jt} (h : j ∈ rawJ ps) : j.fine ps := by
  unfold rawJ rawU at h
  rw [List.mem_flatMap] at h
  obtain ⟨u, hu, h⟩ := h
  rcases List.mem_append.mp h with h | h
  · unfold floorJ at h
    split at h
    · obtain ⟨a, -, rfl⟩ := List.mem_map.mp h
      exact ⟨.inl rfl, u, hu, rfl⟩
    · cases h
  · rw [List.mem_flatMap] at h
    obtain ⟨l, hl, h⟩ := h
    unfold betwJ at h
    split at h
    · obtain ⟨a, -, rfl⟩ := List.mem_map.mp h
      exact ⟨.inr ⟨l, hl, rfl⟩, u, hu, rfl⟩
    · cases h
theorem fine_ok {ps : List Prt} (h : ∀ p ∈ ps, p.ok) {j : Jt} (hj : j.fine ps) : eqOk j.d = true := by
  obtain ⟨h1, p, hp, h2⟩ := hj
  have n2 : eqOk (.str j.up) = true := by
    rw [← h2]
    exact str_eqOk (name_ok (h p hp))
  have n1 : eqOk (.str j.lo) = true := by
    rcases h1 with h1 | ⟨q, hq, h1⟩
    · rw [h1]
      exact empty_ok
    · rw [← h1]
      exact str_eqOk (name_ok (h q hq))
  exact jt_ok n1 n2 j.x j.y
theorem few_mul {n : Nat} (h : n ≤ 100) : n * (21 * (n + 1)) ≤ lim := by
  have a : n * (21 * (n + 1)) ≤ 100 * (21 * 101) := Nat.mul_le_mul h (by omega)
  exact Nat.le_trans a (by decide)
theorem joints_prt {ps : List Prt} (fl : D) (h : ∀ p ∈ ps, p.ok) (hf : ps.length ≤ 100) : dn_joints [.sh (planD ps fl)] = some (.ret (.ow (.lst ((jointsOf ps).map Jt.d))) [.no]) := by
  obtain ⟨y2, y3, e⟩ := jo_loop fl h ps [] .no .no h (by simpa using few_mul hf)
  have hs := sorted_joints (js := rawJ ps) fun j hj => fine_ok h (rawJ_fine hj)
  have hd : dn_joints = mkFn 4 [false] (sSeq (sAsg (eLst asN) (gN 1)) (sSeq (sForI (wSeq (eCall dn_Plan_parts (asO "Plan" "parts" (aR 0) asN))) (gN 2) joB) (sRet (eOp (asC (aR 1) asN) oSorted)))) := rfl
  rw [hd]
  have l0 : (0 : Nat) ≤ lim := by decide
  simp [-forL, -oSorted, l0, plan_parts, pn1', pn2', pn3']
  simp only [List.map_nil, List.nil_append] at e
  rw [e]
  have hs' : oSorted [.lst ((ps.flatMap (rawU ps)).map Jt.d)] = some (.ow (.lst ((jointsOf ps).map Jt.d))) := hs
  simp [-oSorted, hs']
theorem flat_perm {α β : Type} (f : α → List β) {xs ys : List α} (h : xs.Perm ys) : (xs.flatMap f).Perm (ys.flatMap f) := List.Perm.flatMap_right f h
theorem flat_each {α β : Type} {f g : α → List β} : ∀ (xs : List α), (∀ x ∈ xs, (f x).Perm (g x)) → (xs.flatMap f).Perm (xs.flatMap g)
  | [], _ => by simp
  | x :: xs, h => by
    rw [List.flatMap_cons, List.flatMap_cons]
    exact (h x (.head _)).append (flat_each xs fun y hy => h y (.tail _ hy))
theorem flat_swap {α β γ : Type} (f : α → β → List γ) (ys : List β) : ∀ xs : List α, (xs.flatMap fun a => ys.flatMap fun b => f a b).Perm (ys.flatMap fun b => xs.flatMap fun a => f a b)
  | [] => by simp
  | x :: xs => by
    rw [List.flatMap_cons]
    refine (List.Perm.append_left _ (flat_swap f ys xs)).trans ?_
    have key : ∀ zs : List β, (zs.flatMap (fun b => f x b) ++ zs.flatMap fun b => xs.flatMap fun a => f a b).Perm (zs.flatMap fun b => (x :: xs).flatMap fun a => f a b) := by
      intro zs
      induction zs with
      | nil => simp
      | cons z zs ih =>
        simp only [List.flatMap_cons] at ih ⊢
        refine List.Perm.trans ?_ (List.Perm.append_left _ ih)
        rw [List.append_assoc, List.append_assoc]
        refine List.Perm.append_left _ ?_
        rw [← List.append_assoc, ← List.append_assoc]
        exact List.Perm.append_right _ List.perm_append_comm
    exact key ys
/-- the order of the parts plays no part -/
theorem rawJ_perm {ps qs : List Prt} (h : ps.Perm qs) : (rawJ ps).Perm (rawJ qs) := by
  unfold rawJ
  refine (flat_perm _ h).trans ?_
  refine flat_each qs fun u _ => ?_
  exact List.Perm.append_left _ (flat_perm _ h)
theorem jointsOf_perm {ps qs : List Prt} (h : ps.Perm qs) : jointsOf ps = jointsOf qs := lin_J.sort_perm (rawJ_perm h)
theorem jointsOf_mem {ps : List Prt} {j : Jt} : j ∈ jointsOf ps ↔ j ∈ rawJ ps := (sortJ_perm _).mem_iff
theorem jointsOf_ok {ps : List Prt} (h : ∀ p ∈ ps, p.ok) {j : Jt} (hj : j ∈ jointsOf ps) : eqOk j.d = true := fine_ok h (rawJ_fine (jointsOf_mem.mp hj))
theorem jointsOf_len (ps : List Prt) : (jointsOf ps).length = (rawJ ps).length := (sortJ_perm _).length_eq
end Sc

/-! LmPurse: the parts that the laws k21 to k25 draw (plain). -/
namespace Sc
open PySem Py
set_option maxRecDepth 10000
set_option linter.all false
theorem purse_new (n : Int) : ∃ P, isPot P ∧ dn__law_purse [.sh (.int n)] = some (.ret (.ow P) [.no]) := by
  have e1 : (n.natAbs : Int).fmod 2147483563 = (n.natAbs : Int) % 2147483563 := Int.fmod_eq_emod_of_nonneg _ (by decide)
  refine ⟨potD (if (n.natAbs : Int) - 10 ^ 18 > 0 then (n.natAbs : Int) - 10 ^ 18 else 0) ((n.natAbs : Int) % 2147483563 + 1), ⟨_, _, ⟨by split <;> omega, by omega, by omega⟩, rfl⟩, ?_⟩
  simp [dn__law_purse, abs_nat, e1, lim]
theorem take {P : D} (h : isPot P) (m : Int) (hm : 0 < m := by decide) (hs : sm 300 m := by decide) : ∃ d P', isPot P' ∧ 0 ≤ d ∧ d < m ∧ dn__law_take [.ow P, .sh (.int m)] = some (.ret (.sh (.int d)) [.ow P', .no]) := by
  obtain ⟨a, b, ⟨h1, h2, h3⟩, rfl⟩ := h
  have hm0 : m ≠ 0 := by omega
  have hl : divOk m = true := divOk_of hm0 hs (by decide) (by decide)
  by_cases ha : 0 < a
  · refine ⟨a.fmod m, potD (a.fdiv m) b, ⟨_, _, ⟨?_, h2, h3⟩, rfl⟩, ?_, ?_, ?_⟩
    · rw [Int.fdiv_eq_ediv_of_nonneg _ (by omega)]
      exact Int.ediv_nonneg h1 (by omega)
    · rw [Int.fmod_eq_emod_of_nonneg _ (by omega)]
      exact Int.emod_nonneg _ hm0
    · rw [Int.fmod_eq_emod_of_nonneg _ (by omega)]
      exact Int.emod_lt_of_pos _ hm
    · simp [dn__law_take, ha, hm0, hl]
  · have ha0 : a = 0 := by omega
    subst ha0
    have m1 : mulOk b 48271 = true := mul_sm (m := 32) (n := 20) (by show b.natAbs < 2 ^ 32; omega) (by decide) (by decide) (by decide) (by decide)
    obtain ⟨b', hb'⟩ : ∃ b', b' = (b * 48271 + 9973).fmod 2147483629 := ⟨_, rfl⟩
    have e0 : (b * 48271 + 9973).fmod 2147483629 = (b * 48271 + 9973) % 2147483629 := Int.fmod_eq_emod_of_nonneg _ (by decide)
    have b1 : 0 ≤ b' := by rw [hb', e0]; omega
    have b2 : b' < 2147483629 := by rw [hb', e0]; omega
    have m2 : mulOk b' b' = true := mul_sm (m := 32) (n := 32) (by show b'.natAbs < 2 ^ 32; omega) (by show b'.natAbs < 2 ^ 32; omega) (by decide) (by decide) (by decide)
    have d3 : divOk 7 = true := by decide
    refine ⟨(((b' * b').fmod 2147483587).fdiv 7).fmod m, potD 0 b', ⟨_, _, ⟨by omega, b1, by omega⟩, rfl⟩, ?_, ?_, ?_⟩
    · rw [Int.fmod_eq_emod_of_nonneg _ (by omega)]
      exact Int.emod_nonneg _ (by omega)
    · rw [Int.fmod_eq_emod_of_nonneg _ (by omega)]
      exact Int.emod_lt_of_pos _ hm
    · simp [dn__law_take, m1, ← hb', m2, d3, hm0]
/-! ### fractions -/
noncomputable def lw__law_fraction_0 : S := (sWhile (tV (eOp (asC (aR 6) (asC (aV (eC (.int 0))) asN)) oGt)) (sPar 5 6 (asC (aV (eVar 6)) (asC (aV (eOp (asC (aR 5) (asC (aR 6) asN)) oMod)) asN))))
theorem hd__law_fraction : dn__law_fraction = mkFn 7 [true, false] (sSeq (sAsg (eCall dn__law_take (asC (aR 0) (asC (aV (eC (.int 6))) asN))) (gN 2)) (sSeq (sAsg (eOp (asC (aR 1) (asC (aV (eCall dn__law_take (asC (aR 0) (asC (aV (eOp (asC (aV (eLst (asC (aV (eC (.int 3))) (asC (aV (eC (.int 30))) (asC (aV (eC (.int 1000))) (asC (aV (eOp (asC (aV (eOp (asC (aV (eC (.int 10))) (asC (aV (eC (.int 12))) asN)) oPow)) (asC (aV (eC (.int 1))) asN)) oSub)) (asC (aV (eC (.int 3))) (asC (aV (eC (.int 60))) asN)))))))) (asC (aR 2) asN)) oIx)) asN)))) asN)) oAdd) (gN 3)) (sSeq (sAsg (eOp (asC (aV (eC (.int 1))) (asC (aV (eCall dn__law_take (asC (aR 0) (asC (aV (eOp (asC (aV (eLst (asC (aV (eC (.int 1))) (asC (aV (eC (.int 1))) (asC (aV (eC (.int 12))) (asC (aV (eOp (asC (aV (eOp (asC (aV (eC (.int 10))) (asC (aV (eC (.int 12))) asN)) oPow)) (asC (aV (eC (.int 1))) asN)) oSub)) (asC (aV (eC (.int 4))) (asC (aV (eC (.int 1))) asN)))))))) (asC (aR 2) asN)) oIx)) asN)))) asN)) oAdd) (gN 4)) (sSeq (sPar 5 6 (asC (aV (eVar 3)) (asC (aV (eVar 4)) asN))) (sSeq lw__law_fraction_0 (sRet (eTup (asC (aV (eOp (asC (aR 3) (asC (aR 5) asN)) oFdiv)) (asC (aV (eOp (asC (aR 4) (asC (aR 5) asN)) oFdiv)) asN))))))))) := rfl
noncomputable abbrev gV : S := lw__law_fraction_0
theorem gV_spec (x0 x1 x2 x3 x4 : Sl) : ∀ (n l r : Nat), r ≤ n → gV [x0, x1, x2, x3, x4, .sh (.int l), .sh (.int r)] = some (.nx [x0, x1, x2, x3, x4, .sh (.int (Nat.gcd l r)), .sh (.int 0)]) := by
  intro n
  induction n with
  | zero =>
    intro l r hn
    have : r = 0 := by omega
    subst this
    refine (sWhile_stop (r1 := [x0, x1, x2, x3, x4, .sh (.int l), .sh (.int 0)]) ?_).trans ?_
    · simp
    · simp
  | succ n ih =>
    intro l r hn
    by_cases h0 : r = 0
    · subst h0
      refine (sWhile_stop (r1 := [x0, x1, x2, x3, x4, .sh (.int l), .sh (.int 0)]) ?_).trans ?_
      · simp
      · simp
    · have hr0 : 0 < r := by omega
      have em : (l : Int).fmod r = ((l % r : Nat) : Int) := by
        rw [Int.fmod_eq_emod_of_nonneg _ (by omega)]
        exact (Int.natCast_emod l r).symm
      have h2 := Nat.mod_lt l hr0
      refine sWhile_step (r1 := [x0, x1, x2, x3, x4, .sh (.int l), .sh (.int r)]) (r2 := [x0, x1, x2, x3, x4, .sh (.int r), .sh (.int (l % r : Nat))]) ?_ ?_ ?_
      · simp [hr0]
      · simp only [sPar, sE, asC, aV, eVar, M.bind, M.pure, eOp, aR, M.get]
        simp [h0, em]
      · have := ih r (l % r) (by omega)
        rw [show sWhile _ _ = gV from rfl, this]
        rw [Nat.gcd_comm l r, Nat.gcd_rec r l, Nat.gcd_comm (l % r) r]
theorem frac_prt {P : D} (h : isPot P) {lo : Int} (h0 : 0 ≤ lo) (h1 : lo ≤ 1) : ∃ f P', isPot P' ∧ fracB f = true ∧ itm f = true ∧ 0 ≤ fracN f ∧ (0 < lo → 0 < fracN f) ∧ dn__law_fraction [.ow P, .sh (.int lo)] = some (.ret (.sh f) [.ow P', .no]) := by
  obtain ⟨d1, P1, p1, a1, b1, e1⟩ := take h 6
  obtain ⟨_, e2, v, rfl, hv⟩ := ix_all (fun x => ∃ v : Int, x = .int v ∧ 0 < v ∧ v ≤ 999999999999) (xs := [.int 3, .int 30, .int 1000, .int 999999999999, .int 3, .int 60]) a1 (by simpa using b1) (by simp)
  obtain ⟨_, e3, u, rfl, hu⟩ := ix_all (fun x => ∃ v : Int, x = .int v ∧ 0 < v ∧ v ≤ 999999999999) (xs := [.int 1, .int 1, .int 12, .int 999999999999, .int 4, .int 1]) a1 (by simpa using b1) (by simp)
  have sv : ∀ v : Int, 0 < v → v ≤ 999999999999 → sm 300 v := fun v q1 q2 => Nat.lt_of_le_of_lt (show v.natAbs ≤ 999999999999 by omega) (by decide)
  obtain ⟨d2, P2, p2, a2, b2, e4⟩ := take p1 v hv.1 (sv v hv.1 hv.2)
  obtain ⟨d3, P3, p3, a3, b3, e5⟩ := take p2 u hu.1 (sv u hu.1 hu.2)
  obtain ⟨f1, f2, f3, f4⟩ := low_frac (a := lo + d2) (b := 1 + d3) (by omega) (by omega) (by omega) (by omega)
  refine ⟨lowD (lo + d2) (1 + d3), P3, p3, f1, f2, f3, fun q => f4 (by omega), ?_⟩
  have hg := gV_spec (.ow P3) (.sh (.int lo)) (.sh (.int d1)) (.sh (.int (lo + d2))) (.sh (.int (1 + d3))) (1 + d3).toNat (lo + d2).toNat (1 + d3).toNat (Nat.le_refl _)
  have q1 : ((lo + d2).toNat : Int) = lo + d2 := by omega
  have q2 : ((1 + d3).toNat : Int) = 1 + d3 := by omega
  have q3 : Nat.gcd (lo + d2).toNat (1 + d3).toNat = Int.gcd (lo + d2) (1 + d3) := by
    unfold Int.gcd
    congr 1 <;> omega
  rw [q1, q2, q3] at hg
  have hz : byZ (lo + d2) (1 + d3) = (Int.gcd (lo + d2) (1 + d3) : Int) := if_neg (by omega)
  have dv : divOk (byZ (lo + d2) (1 + d3)) = true := byZ_div (by omega) (n := 50) (show (1 + d3).natAbs < 2 ^ 50 by omega) (by decide) (by decide)
  rw [hz] at dv
  rw [hd__law_fraction]
  have ll : 6 ≤ lim := by decide
  simp [-oIx, e1, e2, e3, e4, e5, ll, hg, dv, l2, lowD, lowT, lowB, hz]
/-! ### comprehensions as a whole -/
theorem eLc_filt {α : Type} (g f : α → D) (p : α → Bool) {w : Wk} {n : G} {t : T} {m : E} {vs : List Nat} {r r1 : Py.Env} {ks : List Sl} (xs : List α) (hw : w r = some (.ok (xs.map g, ks) r1)) (hr : wipeE r1 vs = r1) (h : ∀ a ∈ xs, turnF n t m vs r1 (g a) (p a) (f a)) (hl : xs.length ≤ lim) :
    eLc w n t m vs r = some (.ok (.ow (.lst ((xs.filter p).map f))) r1) := by
  have k := lcL_filt g f p xs [] h (by simpa using hl)
  simp only [eLc, M.bind, hw, hr, k]
  rfl
theorem eLc_of {α : Type} (g f : α → D) {w : Wk} {n : G} {m : E} {vs : List Nat} {r r1 : Py.Env} {ks : List Sl} (xs : List α) (hw : w r = some (.ok (xs.map g, ks) r1)) (hr : wipeE r1 vs = r1) (h : ∀ a ∈ xs, turnOk n m vs r1 (g a) (f a)) (hl : xs.length ≤ lim) :
    eLc w n tYesE m vs r = some (.ok (.ow (.lst (xs.map f))) r1) := by
  have k := lcL_of g f xs [] h (by simpa using hl)
  simp only [eLc, M.bind, hw, hr, k]
  rfl
/-! ### a part as these laws look at it -/
noncomputable def lb__law_name_v1_0 : S := (sAsg (eOp (asC (aR 2) (asC (aV (eOp (asC (aV (eC (.str "abcdefghijklmnopqrstuvwxyz"))) (asC (aV (eCall dn__law_take (asC (aR 0) (asC (aV (eC (.int 26))) asN)))) asN)) oIx)) asN)) oAdd) (gN 2))
noncomputable def lc__law_name_v1_0 : E := (eLc (wSeq (eC (.str "abcdefghijklmnopqrstuvwxyz"))) (gN 4) (tV (eOp (asC (aV (eOp (asC (aV (eSl (aR 2) oaN (oaS (aV (eC (.int 7)))) oSlice)) (asC (aR 4) asN)) oAdd)) (asC (aR 1) asN)) oNotIn)) (eOp (asC (aV (eSl (aR 2) oaN (oaS (aV (eC (.int 7)))) oSlice)) (asC (aR 4) asN)) oAdd) [4])
noncomputable def st__law_name_v1_0 : S := (sAsg (eC (.str "")) (gN 2))
noncomputable def st__law_name_v1_1 : S := (sForI (wR1 (aV (eOp (asC (aV (eC (.int 1))) (asC (aV (eCall dn__law_take (asC (aR 0) (asC (aV (eC (.int 8))) asN)))) asN)) oAdd))) (gN 3) lb__law_name_v1_0)
noncomputable def st__law_name_v1_2 : S := (sIf (tV (eOp (asC (aV (eCall dn__law_take (asC (aR 0) (asC (aV (eC (.int 7))) asN)))) (asC (aV (eC (.int 4))) asN)) oEqX)) (sAsg (eOp (asC (aV (eLst (asC (aV (eC (.str "floor"))) (asC (aV (eC (.str "pole"))) (asC (aV (eC (.str "board"))) (asC (aV (eC (.str "x"))) (asC (aV (eC (.str "y"))) (asC (aV (eC (.str "sum"))) (asC (aV (eC (.str "turn"))) asN))))))))) (asC (aV (eCall dn__law_take (asC (aR 0) (asC (aV (eC (.int 7))) asN)))) asN)) oIx) (gN 2)) sPass)
noncomputable def st__law_name_v1_3 : S := (sIf (tV (eOp (asC (aR 2) (asC (aR 1) asN)) oIn)) (sAsg (eOp (asC (aV lc__law_name_v1_0) (asC (aV (eC (.int 0))) asN)) oIx) (gN 2)) sPass)
noncomputable def st__law_name_v1_4 : S := (sAppend 1 (eVar 2))
noncomputable def st__law_name_v1_5 : S := (sRet (eMov 2))
theorem hd__law_name_v1 : dn__law_name_v1 = mkFn 5 [true, true] (sSeq st__law_name_v1_0 (sSeq st__law_name_v1_1 (sSeq st__law_name_v1_2 (sSeq st__law_name_v1_3 (sSeq st__law_name_v1_4 st__law_name_v1_5))))) := rfl
noncomputable def lc__law_places_v1_0 : E := (eLc (wR1 (aV (eOp (asC (aV (eOp (asC (aR 0) (asC (aV (eC (.int 5))) asN)) oIx)) (asC (aV (eC (.int 1))) asN)) oAdd))) (gN 3) tYesE (eTup (asC (aV (eOp (asC (aR 1) (asC (aR 3) asN)) oAdd)) (asC (aV (eVar 2)) asN))) [3])
noncomputable def lc__law_places_v1_1 : E := (eLc (wR1 (aV (eOp (asC (aV (eOp (asC (aR 0) (asC (aV (eC (.int 5))) asN)) oIx)) (asC (aV (eC (.int 1))) asN)) oAdd))) (gN 3) tYesE (eTup (asC (aV (eVar 1)) (asC (aV (eOp (asC (aR 2) (asC (aR 3) asN)) oAdd)) asN))) [3])
theorem hd__law_places_v1 : dn__law_places_v1 = mkFn 4 [false] (sSeq (sAsg (eTup (asC (aV (eOp (asC (aR 0) (asC (aV (eC (.int 2))) asN)) oIx)) (asC (aV (eOp (asC (aR 0) (asC (aV (eC (.int 3))) asN)) oIx)) asN))) (gTup [(gN 1), (gN 2)])) (sSeq (sIf (tV (eOp (asC (aV (eOp (asC (aR 0) (asC (aV (eC (.int 0))) asN)) oIx)) (asC (aV (eC (.str "pole"))) asN)) oEqX)) (sRet (eLst (asC (aV (eTup (asC (aV (eVar 1)) (asC (aV (eVar 2)) asN)))) asN))) sPass) (sSeq (sIf (tV (eOp (asC (aV (eOp (asC (aR 0) (asC (aV (eC (.int 4))) asN)) oIx)) (asC (aV (eC (.str "x"))) asN)) oEqX)) (sRet lc__law_places_v1_0) sPass) (sRet lc__law_places_v1_1)))) := rfl
noncomputable def lc__law_joints_v1_0 : E := (eLc (wSeq (eVar 3)) (gN 6) tYesE (eTup (asC (aV (eC (.str ""))) (asC (aV (eOp (asC (aR 2) (asC (aV (eC (.int 1))) asN)) oIx)) (asC (aV (eVar 6)) asN)))) [6])
noncomputable def lc__law_joints_v1_1 : E := (eLc (wSeq (eVar 3)) (gN 6) (tV (eOp (asC (aR 6) (asC (aR 5) asN)) oIn)) (eTup (asC (aV (eOp (asC (aR 4) (asC (aV (eC (.int 1))) asN)) oIx)) (asC (aV (eOp (asC (aR 2) (asC (aV (eC (.int 1))) asN)) oIx)) (asC (aV (eVar 6)) asN)))) [6])
noncomputable def lb__law_joints_v1_0 : S := (sIf (tV (eOp (asC (aV (eCall dn__law_top_v1 (asC (aV (eVar 4)) asN))) (asC (aV (eCall dn__law_bottom_v1 (asC (aV (eVar 2)) asN))) asN)) oEqX)) (sSeq (sAsg (eCall dn__law_places_v1 (asC (aV (eVar 4)) asN)) (gN 5)) (sAsg (eOp (asC (aR 1) (asC (aV lc__law_joints_v1_1) asN)) oAdd) (gN 1))) sPass)
noncomputable def lb__law_joints_v1_1 : S := (sSeq (sAsg (eCall dn__law_places_v1 (asC (aV (eVar 2)) asN)) (gN 3)) (sSeq (sIf (tV (eOp (asC (aV (eCall dn__law_bottom_v1 (asC (aV (eVar 2)) asN))) (asC (aV (eC (.int 0))) asN)) oEqX)) (sAsg (eOp (asC (aR 1) (asC (aV lc__law_joints_v1_0) asN)) oAdd) (gN 1)) sPass) (sForI (wSeq (eVar 0)) (gN 4) lb__law_joints_v1_0)))
theorem hd__law_joints_v1 : dn__law_joints_v1 = mkFn 7 [false] (sSeq (sAsg (eLst asN) (gN 1)) (sSeq (sForI (wSeq (eVar 0)) (gN 2) lb__law_joints_v1_1) (sRet (eOp (asC (aR 1) asN) oSorted)))) := rfl
noncomputable def lc__law_has_room_0 : E := (eLc (wSeq (eCall dn__law_places_v1 (asC (aV (eVar 3)) asN))) (gN 4) tYesE (eOp (asC (aR 4) (asC (aR 2) asN)) oIn) [4])
noncomputable def lb__law_has_room_0 : S := (sIf (tAnd (tV (eOp (asC (aV (eCall dn__law_bottom_v1 (asC (aV (eVar 3)) asN))) (asC (aV (eCall dn__law_top_v1 (asC (aV (eVar 1)) asN))) asN)) oLt)) (tV (eOp (asC (aV (eCall dn__law_bottom_v1 (asC (aV (eVar 1)) asN))) (asC (aV (eCall dn__law_top_v1 (asC (aV (eVar 3)) asN))) asN)) oLt))) (sIf (tV (eOp (asC (aV lc__law_has_room_0) asN) oAny)) (sRet (eC (.bl false))) sPass) sPass)
theorem hd__law_has_room : dn__law_has_room = mkFn 5 [false, false] (sSeq (sAsg (eCall dn__law_places_v1 (asC (aV (eVar 1)) asN)) (gN 2)) (sSeq (sForI (wSeq (eVar 0)) (gN 3) lb__law_has_room_0) (sRet (eOp (asC (aV (eOp (asC (aV (eCall dn__law_joints_v1 (asC (aV (eOp (asC (aR 0) (asC (aV (eLst (asC (aV (eVar 1)) asN))) asN)) oAdd)) asN))) asN) oLen)) (asC (aV (eC (.int 100))) asN)) oLe)))) := rfl
noncomputable def lb__law_parts_0 : S := (sSeq (sAsg (heldE 2 (eCall dn__law_part (asC (aR 0) (asC (aR 2) (asC (aV (eCall dn__law_name_v1 (asC (aR 0) (asC (aR 3) asN)))) asN))))) (gN 5)) (sIf (tV (heldE 2 (eCall dn__law_has_room (asC (aR 2) (asC (aV (eVar 5)) asN))))) (sAppend 2 (eVar 5)) sPass))
theorem hd__law_parts : dn__law_parts = mkFn 6 [true, false] (sSeq (sAsg (eLst asN) (gN 2)) (sSeq (sAsg (eLst asN) (gN 3)) (sSeq (sForI (wR1 (aV (eCall dn__law_take (asC (aR 0) (asC (aV (eOp (asC (aR 1) (asC (aV (eC (.int 1))) asN)) oAdd)) asN))))) (gN 4) lb__law_parts_0) (sRet (eMov 2))))) := rfl

theorem topv_prt (p : Prt) : dn__law_top_v1 [.sh p.d] = some (.ret (.sh (.int p.top)) [.no]) := by
  cases p <;> simp [dn__law_top_v1, Prt.d, Prt.top, sn2]
theorem botv_prt (p : Prt) : dn__law_bottom_v1 [.sh p.d] = some (.ret (.sh (.int p.bot)) [.no]) := by
  cases p <;> simp [dn__law_bottom_v1, Prt.d, Prt.bot, sn2]
theorem plv_prt {p : Prt} (h : p.ok) : dn__law_places_v1 [.sh p.d] = some (.ret (.ow (.lst (p.pls.map plD))) [.no]) := by
  cases p with
  | pole n x y lo hi w hh => simp [dn__law_places_v1, Prt.d, Prt.pls, l1, l2, plD, pl]
  | board n x y wx len ht w hh =>
    obtain ⟨-, -, -, h4, -⟩ := h
    have hs : small62 (len + 1) = true := small_of (by omega) (by omega)
    have hlen : (List.range (len + 1).toNat).length ≤ lim := by
      rw [List.length_range]
      exact len21 (by omega)
    cases wx with
    | true =>
      have k1 : lc__law_places_v1_0 [.sh (boardD n x y (wayS true) len ht w hh), .sh (.int x), .sh (.int y), .no] = some (.ok (.ow (.lst ((List.range (len + 1).toNat).map fun (k : Nat) => pl (x + k) y))) [.sh (boardD n x y (wayS true) len ht w hh), .sh (.int x), .sh (.int y), .no]) :=
        eLc_of (ks := []) (fun (k : Nat) => D.int (0 + (k : Int))) (fun (k : Nat) => pl (x + k) y) (List.range (len + 1).toNat) (by simp [hs, rangeD]) (by simp) (fun k _ => by simp [lim, pl]) hlen
      rw [hd__law_places_v1]
      simp [Prt.d, Prt.pls, l2, sn2, wayS]
      simp [wayS] at k1
      rw [k1]
      simp [Function.comp_def]
    | false =>
      have k1 : lc__law_places_v1_1 [.sh (boardD n x y (wayS false) len ht w hh), .sh (.int x), .sh (.int y), .no] = some (.ok (.ow (.lst ((List.range (len + 1).toNat).map fun (k : Nat) => pl x (y + k)))) [.sh (boardD n x y (wayS false) len ht w hh), .sh (.int x), .sh (.int y), .no]) :=
        eLc_of (ks := []) (fun (k : Nat) => D.int (0 + (k : Int))) (fun (k : Nat) => pl x (y + k)) (List.range (len + 1).toNat) (by simp [hs, rangeD]) (by simp) (fun k _ => by simp [lim, pl]) hlen
      rw [hd__law_places_v1]
      simp [Prt.d, Prt.pls, l2, sn2, sn3, wayS]
      simp [wayS] at k1
      rw [k1]
      simp [Function.comp_def]
/-! ### their own joints -/
def ShOw (x : Sl) (d : D) : Prop := x = .sh d ∨ x = .ow d
theorem jv_in (x0 : Sl) {u l : Prt} (hu : u.ok) (hl : l.ok) (acc : List Jt) {x3 : Sl} (h3 : ShOw x3 (.lst (u.pls.map plD))) (x5 : Sl) (h : acc.length + 21 ≤ lim) : ∃ y3 y5, ShOw y3 (.lst (u.pls.map plD)) ∧ lb__law_joints_v1_0 [x0, .ow (.lst (acc.map Jt.d)), .sh u.d, x3, .sh l.d, x5, .no] = some (.nx [x0, .ow (.lst ((acc ++ betwJ u l).map Jt.d)), .sh u.d, y3, .sh l.d, y5, .no]) := by
  have b := betwJ_len hu l
  by_cases c : l.top = u.bot
  · have k1 : lc__law_joints_v1_1 [x0, .ow (.lst (acc.map Jt.d)), .sh u.d, x3, .sh l.d, .ow (.lst (l.pls.map plD)), .no] = some (.ok (.ow (.lst ((u.pls.filter l.has).map fun a => Jt.d ⟨l.nm, u.nm, a.1, a.2⟩))) [x0, .ow (.lst (acc.map Jt.d)), .sh u.d, .sh (.lst (u.pls.map plD)), .sh l.d, .ow (.lst (l.pls.map plD)), .no]) :=
      eLc_filt (ks := [.sh (.lst (u.pls.map plD))]) plD (fun a => Jt.d ⟨l.nm, u.nm, a.1, a.2⟩) l.has u.pls (by rcases h3 with rfl | rfl <;> simp) (by simp) (fun a _ => by
        by_cases c : l.has a = true
        · simp [-inD, -oIx, in_pls, ix_name, l3, jd_mk, c]
          simp [Prt.has] at c
          simp [c, Prt.has]
        · simp [-inD, -oIx, in_pls, ix_name, l3, jd_mk, c]
          simp [Prt.has] at c
          simp [c, Prt.has]) (len21 (pls_len hu).2)
    refine ⟨.sh (.lst (u.pls.map plD)), .ow (.lst (l.pls.map plD)), .inl rfl, ?_⟩
    have e1 : betwJ u l = (u.pls.filter l.has).map fun a => ⟨l.nm, u.nm, a.1, a.2⟩ := if_pos c
    rw [e1, List.length_map] at b
    have h1 : acc.length + (u.pls.filter l.has).length ≤ lim := by omega
    rw [e1]
    simp [-oEqX, lb__law_joints_v1_0, topv_prt, botv_prt, eq_int, c, plv_prt hl, k1, h1, Function.comp_def]
  · refine ⟨x3, x5, h3, ?_⟩
    have e1 : betwJ u l = [] := if_neg c
    rw [e1]
    simp [-oEqX, lb__law_joints_v1_0, topv_prt, botv_prt, eq_int, c]
theorem jv_loop (x0 : Sl) {u : Prt} (hu : u.ok) : ∀ (qs : List Prt) (acc : List Jt) (x3 x4 x5 : Sl), ShOw x3 (.lst (u.pls.map plD)) → (∀ q ∈ qs, q.ok) → acc.length + qs.length * 21 ≤ lim → ∃ y3 y4 y5, forL (gN 4) lb__law_joints_v1_0 (qs.map Prt.d) [x0, .ow (.lst (acc.map Jt.d)), .sh u.d, x3, x4, x5, .no] = some (.nx [x0, .ow (.lst ((acc ++ qs.flatMap (betwJ u)).map Jt.d)), .sh u.d, y3, y4, y5, .no])
  | [], acc, x3, x4, x5, _, _, _ => ⟨x3, x4, x5, by simp⟩
  | q :: qs, acc, x3, x4, x5, h3, h, hl => by
    have b := betwJ_len hu q
    rw [List.length_cons, Nat.add_mul] at hl
    obtain ⟨z3, z5, g3, eb⟩ := jv_in x0 hu (h q (.head _)) acc h3 x5 (by omega)
    obtain ⟨y3, y4, y5, e⟩ := jv_loop x0 hu qs (acc ++ betwJ u q) z3 (.sh q.d) z5 g3 (fun a ha => h a (.tail _ ha)) (by rw [List.length_append]; omega)
    refine ⟨y3, y4, y5, ?_⟩
    rw [List.map_cons, forL]
    have eg : gN 4 (.sh q.d) [x0, .ow (.lst (acc.map Jt.d)), .sh u.d, x3, x4, x5, .no] = some (.nx [x0, .ow (.lst (acc.map Jt.d)), .sh u.d, x3, .sh q.d, x5, .no]) := by simp
    rw [eg]
    simp only [eb, e]
    rw [List.flatMap_cons, List.append_assoc]
/-- a list as it may be looked at -/
def LstX (x : Sl) (ds : List D) : Prop := x = .sh (.lst ds) ∨ x = .bw (.ow (.lst ds))
theorem jvo {ps : List Prt} {x0 : Sl} (hx : LstX x0 (ps.map Prt.d)) (hps : ∀ p ∈ ps, p.ok) {u : Prt} (hu : u.ok) (acc : List Jt) (x3 x4 x5 : Sl) (h : acc.length + 21 * (ps.length + 1) ≤ lim) :
    ∃ y3 y4 y5, lb__law_joints_v1_1 [x0, .ow (.lst (acc.map Jt.d)), .sh u.d, x3, x4, x5, .no] = some (.nx [x0, .ow (.lst ((acc ++ rawU ps u).map Jt.d)), .sh u.d, y3, y4, y5, .no]) := by
  have b := floorJ_len hu
  by_cases c : u.bot = 0
  · have e1 : floorJ u = u.pls.map fun a => ⟨"", u.nm, a.1, a.2⟩ := if_pos c
    have k1 : lc__law_joints_v1_0 [x0, .ow (.lst (acc.map Jt.d)), .sh u.d, .ow (.lst (u.pls.map plD)), x4, x5, .no] = some (.ok (.ow (.lst (u.pls.map fun a => Jt.d ⟨"", u.nm, a.1, a.2⟩))) [x0, .ow (.lst (acc.map Jt.d)), .sh u.d, .sh (.lst (u.pls.map plD)), x4, x5, .no]) :=
      eLc_of (ks := [.sh (.lst (u.pls.map plD))]) plD (fun a => Jt.d ⟨"", u.nm, a.1, a.2⟩) u.pls (by simp) (by simp) (fun a _ => by simp [-oIx, ix_name, l3, jd_mk]) (len21 (pls_len hu).2)
    obtain ⟨y3, y4, y5, e2⟩ := jv_loop x0 hu ps (acc ++ floorJ u) (.sh (.lst (u.pls.map plD))) x4 x5 (.inl rfl) hps (by rw [List.length_append]; omega)
    refine ⟨y3, y4, y5, ?_⟩
    have b2 : u.pls.length ≤ 21 := (pls_len hu).2
    have h1 : acc.length + u.pls.length ≤ lim := by omega
    have e2' : forL (gN 4) lb__law_joints_v1_0 (ps.map Prt.d) [x0, .ow (.lst (acc.map Jt.d ++ u.pls.map fun a => Jt.d ⟨"", u.nm, a.1, a.2⟩)), .sh u.d, .sh (.lst (u.pls.map plD)), x4, x5, .no] = some (.nx [x0, .ow (.lst ((acc ++ rawU ps u).map Jt.d)), .sh u.d, y3, y4, y5, .no]) := by
      have : (acc.map Jt.d ++ u.pls.map fun a => Jt.d ⟨"", u.nm, a.1, a.2⟩) = (acc ++ floorJ u).map Jt.d := by rw [e1]; simp [Function.comp_def]
      rw [this, e2, List.append_assoc]
      rfl
    rcases hx with rfl | rfl
    · simp [-oEqX, -forL, lb__law_joints_v1_1, plv_prt hu, botv_prt, eq_int, c, k1, h1]
      rw [e2']
      simp
    · simp [-oEqX, -forL, lb__law_joints_v1_1, plv_prt hu, botv_prt, eq_int, c, k1, h1]
      rw [e2']
      simp
  · have e1 : floorJ u = [] := if_neg c
    obtain ⟨y3, y4, y5, e2⟩ := jv_loop x0 hu ps acc (.ow (.lst (u.pls.map plD))) x4 x5 (.inr rfl) hps (by omega)
    refine ⟨y3, y4, y5, ?_⟩
    have e3 : rawU ps u = ps.flatMap (betwJ u) := by
      unfold rawU
      rw [e1]
      rfl
    rw [e3]
    rcases hx with rfl | rfl
    · simp [-oEqX, -forL, lb__law_joints_v1_1, plv_prt hu, botv_prt, eq_int, c]
      rw [e2]
      simp
    · simp [-oEqX, -forL, lb__law_joints_v1_1, plv_prt hu, botv_prt, eq_int, c]
      rw [e2]
      simp
theorem jvo_loop {ps : List Prt} {x0 : Sl} (hx : LstX x0 (ps.map Prt.d)) (hps : ∀ p ∈ ps, p.ok) : ∀ (qs : List Prt) (acc : List Jt) (x2 x3 x4 x5 : Sl), (∀ q ∈ qs, q.ok) → acc.length + qs.length * (21 * (ps.length + 1)) ≤ lim →
    ∃ r, forL (gN 2) lb__law_joints_v1_1 (qs.map Prt.d) [x0, .ow (.lst (acc.map Jt.d)), x2, x3, x4, x5, .no] = some (.nx (x0 :: .ow (.lst ((acc ++ qs.flatMap (rawU ps)).map Jt.d)) :: r)) ∧ r.length = 5
  | [], acc, x2, x3, x4, x5, _, _ => ⟨[x2, x3, x4, x5, .no], by simp, rfl⟩
  | q :: qs, acc, x2, x3, x4, x5, h, hl => by
    have hq := h q (.head _)
    have b := rawU_len (ps := ps) hq
    rw [List.length_cons, Nat.add_mul] at hl
    obtain ⟨y3, y4, y5, e1⟩ := jvo hx hps hq acc x3 x4 x5 (by omega)
    obtain ⟨r, e2, hr⟩ := jvo_loop hx hps qs (acc ++ rawU ps q) (.sh q.d) y3 y4 y5 (fun a ha => h a (.tail _ ha)) (by rw [List.length_append]; omega)
    refine ⟨r, ?_, hr⟩
    rw [List.map_cons, forL]
    have eg : gN 2 (.sh q.d) [x0, .ow (.lst (acc.map Jt.d)), x2, x3, x4, x5, .no] = some (.nx [x0, .ow (.lst (acc.map Jt.d)), .sh q.d, x3, x4, x5, .no]) := by simp
    rw [eg]
    simp only [e1, e2]
    rw [List.flatMap_cons, List.append_assoc]
theorem joints_v1_prt {ps : List Prt} {x0 : Sl} (hx : x0 = .ow (.lst (ps.map Prt.d)) ∨ LstX x0 (ps.map Prt.d)) (h : ∀ p ∈ ps, p.ok) (hf : ps.length ≤ 100) : dn__law_joints_v1 [x0] = some (.ret (.ow (.lst ((jointsOf ps).map Jt.d))) [.no]) := by
  have hs : oSorted [.lst ((ps.flatMap (rawU ps)).map Jt.d)] = some (.ow (.lst ((jointsOf ps).map Jt.d))) := sorted_joints (js := rawJ ps) fun j hj => fine_ok h (rawJ_fine hj)
  have l0 : (0 : Nat) ≤ lim := by decide
  have key : ∀ x0 : Sl, LstX x0 (ps.map Prt.d) → ∃ r : Py.Env, forL (gN 2) lb__law_joints_v1_1 (ps.map Prt.d) [x0, .ow (.lst []), .no, .no, .no, .no, .no] = some (.nx (x0 :: .ow (.lst ((ps.flatMap (rawU ps)).map Jt.d)) :: r)) ∧ r.length = 5 := fun x0 hx => by
    have := jvo_loop hx h ps [] .no .no .no .no h (by simpa using few_mul hf)
    simpa using this
  rw [hd__law_joints_v1]
  rcases hx with rfl | hx
  · obtain ⟨r, e, hr⟩ := key _ (.inl rfl)
    simp [-forL, -oSorted, l0]
    rw [e]
    simp [-oSorted, hs]
  · obtain ⟨r, e, hr⟩ := key _ hx
    rcases hx with rfl | rfl
    · simp [-forL, -oSorted, l0]
      rw [e]
      simp [-oSorted, hs]
    · simp [-forL, -oSorted, l0]
      rw [e]
      simp [-oSorted, hs]
/-! ### room -/
theorem hr_body (x0 : Sl) {p q : Prt} (hp : p.ok) (hq : q.ok) : lb__law_has_room_0 [x0, .sh q.d, .ow (.lst (q.pls.map plD)), .sh p.d, .no] = some (if clash p q = true then .rt (.sh (.bl false)) [x0, .sh q.d, .ow (.lst (q.pls.map plD)), .sh p.d, .no] else .nx [x0, .sh q.d, .ow (.lst (q.pls.map plD)), .sh p.d, .no]) := by
  have k1 : lc__law_has_room_0 [x0, .sh q.d, .ow (.lst (q.pls.map plD)), .sh p.d, .no] = some (.ok (.ow (.lst (p.pls.map fun a => D.bl (q.has a)))) [x0, .sh q.d, .ow (.lst (q.pls.map plD)), .sh p.d, .no]) :=
    eLc_of (ks := [.ow (.lst (p.pls.map plD))]) plD (fun a => .bl (q.has a)) p.pls (by simp [plv_prt hp]) (by simp) (fun a _ => by simp [-inD, in_pls, Prt.has]) (len21 (pls_len hp).2)
  have k2 := any_bls q.has p.pls
  by_cases c1 : p.bot < q.top
  · by_cases c2 : q.bot < p.top
    · cases c3 : p.pls.any q.has
      · rw [c3] at k2
        simp [-oAny, lb__law_has_room_0, botv_prt, topv_prt, c1, c2, k1, k2, clash, c3]
      · rw [c3] at k2
        simp [-oAny, lb__law_has_room_0, botv_prt, topv_prt, c1, c2, k1, k2, clash, c3]
    · simp [-oAny, lb__law_has_room_0, botv_prt, topv_prt, c1, c2, clash]
  · simp [-oAny, lb__law_has_room_0, botv_prt, topv_prt, c1, clash]
theorem hr_loop (x0 : Sl) {q : Prt} (hq : q.ok) : ∀ (ps : List Prt) (x3 : Sl), (∀ p ∈ ps, p.ok) → ∃ y3, forL (gN 3) lb__law_has_room_0 (ps.map Prt.d) [x0, .sh q.d, .ow (.lst (q.pls.map plD)), x3, .no] = some (if (ps.any fun p => clash p q) = true then .rt (.sh (.bl false)) [x0, .sh q.d, .ow (.lst (q.pls.map plD)), y3, .no] else .nx [x0, .sh q.d, .ow (.lst (q.pls.map plD)), y3, .no])
  | [], x3, _ => ⟨x3, by simp⟩
  | p :: ps, x3, h => by
    obtain ⟨y3, e⟩ := hr_loop x0 hq ps (.sh p.d) fun a ha => h a (.tail _ ha)
    have eb := hr_body x0 (h p (.head _)) hq
    have eg : gN 3 (.sh p.d) [x0, .sh q.d, .ow (.lst (q.pls.map plD)), x3, .no] = some (.nx [x0, .sh q.d, .ow (.lst (q.pls.map plD)), .sh p.d, .no]) := by simp
    by_cases c : clash p q = true
    · refine ⟨.sh p.d, ?_⟩
      rw [List.map_cons, forL, eg]
      simp only [eb, c, List.any_cons, Bool.true_or, if_true]
    · refine ⟨y3, ?_⟩
      rw [List.map_cons, forL, eg]
      rw [if_neg c] at eb
      simp only [eb, e, List.any_cons, Bool.eq_false_iff.mpr c, Bool.false_or]
theorem has_room_prt {ps : List Prt} (h : ∀ p ∈ ps, p.ok) (hf : ps.length ≤ 50) {q : Prt} (hq : q.ok) {x0 : Sl} (hx : LstX x0 (ps.map Prt.d)) : ∃ b : Bool, dn__law_has_room [x0, .sh q.d] = some (.ret (.sh (.bl b)) [.no, .no]) ∧ (b = true → (∀ p ∈ ps, clash p q = false) ∧ (jointsOf (ps ++ [q])).length ≤ 100) := by
  obtain ⟨y3, e⟩ := hr_loop x0 hq ps .no h
  have hok : ∀ p ∈ ps ++ [q], p.ok := fun p hp => by
    rcases List.mem_append.mp hp with hp | hp
    · exact h p hp
    · rw [List.mem_singleton.mp hp]
      exact hq
  have j1 := joints_v1_prt (ps := ps ++ [q]) (.inl rfl) hok (by simp; omega)
  have h2 : ps.length + 1 ≤ lim := Nat.le_trans (show _ ≤ 100 by omega) (by decide)
  rw [List.map_append] at j1
  by_cases c : (ps.any fun p => clash p q) = true
  · refine ⟨false, ?_, fun z => by cases z⟩
    rw [if_pos c] at e
    rw [hd__law_has_room]
    rcases hx with rfl | rfl
    · simp [-forL, plv_prt hq]
      rw [e]
      simp
    · simp [-forL, plv_prt hq]
      rw [e]
      simp
  · refine ⟨decide ((jointsOf (ps ++ [q])).length ≤ 100), ?_, fun z => ⟨fun p hp => ?_, of_decide_eq_true z⟩⟩
    · rw [if_neg c] at e
      rw [hd__law_has_room]
      have e9 : ((jointsOf (ps ++ [q])).length : Int) ≤ 100 ↔ (jointsOf (ps ++ [q])).length ≤ 100 := by omega
      rcases hx with rfl | rfl
      · simp [-forL, plv_prt hq]
        rw [e]
        simp at j1
        simp [l1, h2, j1, e9]
      · simp [-forL, plv_prt hq]
        rw [e]
        simp at j1
        simp [l1, h2, j1, e9]
    · rw [Bool.not_eq_true, List.any_eq_false] at c
      simpa using c p hp
/-! ### names -/
def Ltrs (n : Str) : Prop := ∀ c ∈ n.cps.toList, isLetter c = true
theorem name_of_ltrs {n : Str} (h1 : 1 ≤ n.length) (h8 : n.length ≤ 8) (h : Ltrs n) : nameB (.str n) = true := by
  show (decide (1 ≤ n.length) && (decide (n.length ≤ 8) && n.cps.toList.all isLetter)) = true
  rw [decide_eq_true h1, decide_eq_true h8, Bool.true_and, Bool.true_and, List.all_eq_true]
  exact h
theorem ltrs_of {n : Str} (h : nameB (.str n) = true) : 1 ≤ n.length ∧ n.length ≤ 8 ∧ Ltrs n := by
  have h' : (decide (1 ≤ n.length) && (decide (n.length ≤ 8) && n.cps.toList.all isLetter)) = true := h
  simp only [Bool.and_eq_true, decide_eq_true_eq, List.all_eq_true] at h'
  exact h'
theorem ltrs_add {n : Str} (h : Ltrs n) {c : Nat} (hc : isLetter c = true) : Ltrs (n ++ sign c) := by
  intro d hd
  rw [cps_app, Array.toList_append] at hd
  rcases List.mem_append.mp hd with hd | hd
  · exact h d hd
  · have : d = c := by simpa [sign] using hd
    rw [this]
    exact hc
theorem sign_len (c : Nat) : (sign c).length = 1 := rfl
theorem nm_loop (x1 : Sl) : ∀ (k : Nat) (i : Int) (P : D) (n : Str) (x3 : Sl), isPot P → Ltrs n → n.length + k ≤ 8 → ∃ P' n' y3, isPot P' ∧ Ltrs n' ∧ n'.length = n.length + k ∧
    forL (gN 3) lb__law_name_v1_0 (rangeD i k) [.ow P, x1, .sh (.str n), x3, .no] = some (.nx [.ow P', x1, .sh (.str n'), y3, .no])
  | 0, i, P, n, x3, h, hn, _ => ⟨P, n, x3, h, hn, rfl, rfl⟩
  | k + 1, i, P, n, x3, h, hn, hk => by
    obtain ⟨d1, P1, p1, a1, b1, e1⟩ := take h 26
    obtain ⟨c, hc, e2⟩ := abc_get a1 b1
    obtain ⟨P2, n2, y3, p2, l2, m2, e3⟩ := nm_loop x1 k (i + 1) P1 (n ++ sign c) (.sh (.int i)) p1 (ltrs_add hn hc) (by rw [len_app, sign_len]; omega)
    refine ⟨P2, n2, y3, p2, l2, by rw [m2, len_app, sign_len]; omega, ?_⟩
    rw [range_cons, forL]
    have eg : gN 3 (.sh (.int i)) [.ow P, x1, .sh (.str n), x3, .no] = some (.nx [.ow P, x1, .sh (.str n), .sh (.int i), .no]) := by simp
    have h9 : n.length + 1 ≤ lim := Nat.le_trans (show _ ≤ 100 by omega) (by decide)
    have eb : lb__law_name_v1_0 [.ow P, x1, .sh (.str n), .sh (.int i), .no] = some (.nx [.ow P1, x1, .sh (.str (n ++ sign c)), .sh (.int i), .no]) := by
      simp [-oIx, lb__law_name_v1_0, e1, e2, sign_len, h9]
    rw [eg]
    simp only [eb]
    exact e3
def abcL : List Nat := (Str.ofString "abcdefghijklmnopqrstuvwxyz").cps.toList
theorem abc_nodup : abcL.Nodup := by decide +kernel
theorem abc_26 : abcL.length = 26 := by decide +kernel
def t7 (n : Str) : Str := cutT n none (some 7)
theorem t7_len {n : Str} : (t7 n).length ≤ 7 := by
  unfold t7 cutT
  show Array.size _ ≤ 7
  simp [slIx]
  omega
theorem t7_ltrs {n : Str} (h : Ltrs n) : Ltrs (t7 n) := by
  intro c hc
  unfold t7 cutT at hc
  have : c ∈ n.cps.toList := List.mem_of_mem_drop (List.mem_of_mem_take (by simpa using hc))
  exact h c this
theorem sub_len {α : Type} [DecidableEq α] : ∀ {xs ys : List α}, xs.Nodup → (∀ x ∈ xs, x ∈ ys) → xs.length ≤ ys.length
  | [], ys, _, _ => Nat.zero_le _
  | x :: xs, ys, hn, h => by
    rw [List.nodup_cons] at hn
    have hx := h x (.head _)
    have := sub_len (xs := xs) (ys := ys.erase x) hn.2 fun y hy => (List.mem_erase_of_ne (a := y) (b := x) (fun e => hn.1 (by rw [← e]; exact hy))).mpr (h y (.tail _ hy))
    rw [List.length_erase_of_mem hx] at this
    have : 0 < ys.length := List.length_pos_of_mem hx
    simp
    omega
theorem words7 : ([("floor" : Str), "pole", "board", "x", "y", "sum", "turn"] : List Str).all (fun w => nameB (.str w)) = true := by decide +kernel
theorem chk_name {n : Str} (h : nameB (.str n) = true) : (eqOk (.str n) && flatD (.str n)) = true := by
  rw [str_eqOk h]
  rfl
theorem chk_all {n : Str} {us : List Str} (h : nameB (.str n) = true) (hu : ∀ u ∈ us, nameB (.str u) = true) : (D.str n :: us.map nmD).all (fun d => eqOk d && flatD d) = true := by
  rw [List.all_cons, chk_name h, Bool.true_and, List.all_map, List.all_eq_true]
  intro m hm
  exact chk_name (hu m hm)
theorem app_inj {a : Str} {c d : Nat} (h : a ++ sign c = a ++ sign d) : c = d := by
  have := congrArg (fun s : Str => s.cps.toList) h
  simp only [cps_app, Array.toList_append] at this
  have := List.append_cancel_left this
  simpa [sign] using this
theorem free_name {n : Str} (hn : Ltrs n) {us : List Str} (hl : us.length ≤ 25) : ∃ c cs, abcL.filter (fun c => !us.contains (t7 n ++ sign c)) = c :: cs ∧ isLetter c = true ∧ t7 n ++ sign c ∉ us := by
  cases q : abcL.filter (fun c => !us.contains (t7 n ++ sign c)) with
  | cons c cs =>
    have hm : c ∈ abcL.filter (fun c => !us.contains (t7 n ++ sign c)) := by rw [q]; exact .head _
    rw [List.mem_filter] at hm
    refine ⟨c, cs, rfl, decide_eq_true (Array.mem_toList_iff.mp hm.1), ?_⟩
    simpa using hm.2
  | nil =>
    exfalso
    rw [List.filter_eq_nil_iff] at q
    have h1 : (abcL.map fun c => t7 n ++ sign c).length ≤ us.length := sub_len (List.Pairwise.map _ (fun a b hab e => hab (app_inj e)) abc_nodup) (fun x hx => by
      obtain ⟨c, hc, rfl⟩ := List.mem_map.mp hx
      have := q c hc
      simpa using this)
    rw [List.length_map, abc_26] at h1
    omega
theorem name_v1_prt {P : D} (h : isPot P) {us : List Str} (hu : ∀ u ∈ us, nameB (.str u) = true) (hl : us.length ≤ 25) : ∃ n P', isPot P' ∧ nameB (.str n) = true ∧ n ∉ us ∧ dn__law_name_v1 [.ow P, .ow (.lst (us.map nmD))] = some (.ret (.sh (.str n)) [.ow P', .ow (.lst ((us ++ [n]).map nmD))]) := by
  obtain ⟨d1, P1, p1, a1, b1, e1⟩ := take h 8
  obtain ⟨P2, n1, y3, p2, l2', m2, e2⟩ := nm_loop (.ow (.lst (us.map nmD))) (1 + d1).toNat 0 P1 (Str.ofString "") .no p1 (by intro c hc; cases hc) (by show 0 + _ ≤ 8; omega)
  have m2' : n1.length = (1 + d1).toNat := m2.trans (Nat.zero_add _)
  have o1 : nameB (.str n1) = true := name_of_ltrs (by omega) (by omega) l2'
  obtain ⟨d2, P3, p3, a3, b3, e3⟩ := take p2 7
  have hs : small62 (1 + d1) = true := small_of (by omega) (by omega)
  have ll : us.length < lim := Nat.lt_of_le_of_lt hl (by decide)
  have l7 : 7 ≤ lim := by decide
  -- behind the words
  obtain ⟨n2, P4, p4, o2, e4⟩ : ∃ n2 P4, isPot P4 ∧ nameB (.str n2) = true ∧ st__law_name_v1_2 [.ow P2, .ow (.lst (us.map nmD)), .sh (.str n1), y3, .no] = some (.nx [.ow P4, .ow (.lst (us.map nmD)), .sh (.str n2), y3, .no]) := by
    by_cases c : d2 = 4
    · obtain ⟨d3, P4, p4, a4, b4, e5⟩ := take p3 7
      obtain ⟨_, e6, w, rfl, hw⟩ := ix_all (fun x => ∃ w : Str, x = .str w ∧ nameB (.str w) = true) (xs := [.str "floor", .str "pole", .str "board", .str "x", .str "y", .str "sum", .str "turn"]) a4 (by simpa using b4) (fun x hx => by
        simp only [List.mem_cons, List.not_mem_nil, or_false] at hx
        have z := List.all_eq_true.mp words7
        rcases hx with rfl | rfl | rfl | rfl | rfl | rfl | rfl <;> exact ⟨_, rfl, z _ (by simp)⟩)
      refine ⟨w, P4, p4, hw, ?_⟩
      simp [st__law_name_v1_2, -oIx, -oEqX, eq_int, e3, c, l7, e5, e6]
    · exact ⟨n1, P3, p3, o1, by simp [st__law_name_v1_2, -oEqX, eq_int, e3, c]⟩
  obtain ⟨i1, i2⟩ := in_lst (chk_all o2 hu)
  obtain ⟨g1, g8, gl⟩ := ltrs_of o2
  by_cases c : us.contains n2 = true
  · rw [c] at i1
    obtain ⟨c0, cs, f1, f2, f3⟩ := free_name gl hl
    have k1 : lc__law_name_v1_0 [.ow P4, .ow (.lst (us.map nmD)), .sh (.str n2), y3, .no] = some (.ok (.ow (.lst ((abcL.filter fun c => !us.contains (t7 n2 ++ sign c)).map fun c => nmD (t7 n2 ++ sign c)))) [.ow P4, .ow (.lst (us.map nmD)), .sh (.str n2), y3, .no]) :=
      eLc_filt (ks := [.sh (.str (Str.ofString "abcdefghijklmnopqrstuvwxyz"))]) (fun c => D.str (sign c)) (fun c => nmD (t7 n2 ++ sign c)) (fun c => !us.contains (t7 n2 ++ sign c)) abcL (by simp [signsD, abcL, sign]) (by simp) (fun c hc => by
        have hc1 : isLetter c = true := decide_eq_true (Array.mem_toList_iff.mp hc)
        have t1 := t7_len (n := n2)
        have oo : nameB (.str (t7 n2 ++ sign c)) = true := name_of_ltrs (by rw [len_app, sign_len]; omega) (by rw [len_app, sign_len]; omega) (ltrs_add (t7_ltrs gl) hc1)
        obtain ⟨j1, -⟩ := in_lst (chk_all oo hu)
        have h9 : (t7 n2).length + 1 ≤ lim := Nat.le_trans (show _ ≤ 100 by omega) (by decide)
        have h10 : n2.length ≤ lim := Nat.le_trans (show _ ≤ 100 by omega) (by decide)
        unfold t7 at j1 h9 ⊢
        cases q : us.contains (cutT n2 none (some 7) ++ sign c)
        · rw [q] at j1
          simp [-inD, h10, h9, sign_len, j1, nmD]
        · rw [q] at j1
          simp [-inD, h10, h9, sign_len, j1, nmD]) (by rw [abc_26]; decide)
    rw [f1] at k1
    have t1 := t7_len (n := n2)
    refine ⟨t7 n2 ++ sign c0, P4, p4, name_of_ltrs (by rw [len_app, sign_len]; omega) (by rw [len_app, sign_len]; omega) (ltrs_add (t7_ltrs gl) f2), f3, ?_⟩
    have ix0 : ∀ (x : D) (xs : List D), oIx [.lst (x :: xs), .int 0] = some (.sh x) := fun x xs => by simp
    rw [hd__law_name_v1]
    have q0 : st__law_name_v1_0 [.ow P, .ow (.lst (us.map nmD)), .no, .no, .no] = some (.nx [.ow P, .ow (.lst (us.map nmD)), .sh (.str ""), .no, .no]) := by simp [st__law_name_v1_0]
    have q1 : st__law_name_v1_1 [.ow P, .ow (.lst (us.map nmD)), .sh (.str ""), .no, .no] = some (.nx [.ow P2, .ow (.lst (us.map nmD)), .sh (.str n1), y3, .no]) := by
      simp [-forL, st__law_name_v1_1, e1, hs]
      rw [e2]
    simp [q0, q1, e4, st__law_name_v1_3, st__law_name_v1_4, st__law_name_v1_5, -oIx, -inD, i1, k1, ix0, ll, nmD]
  · rw [Bool.not_eq_true] at c
    rw [c] at i1
    refine ⟨n2, P4, p4, o2, by simpa using c, ?_⟩
    rw [hd__law_name_v1]
    have q0 : st__law_name_v1_0 [.ow P, .ow (.lst (us.map nmD)), .no, .no, .no] = some (.nx [.ow P, .ow (.lst (us.map nmD)), .sh (.str ""), .no, .no]) := by simp [st__law_name_v1_0]
    have q1 : st__law_name_v1_1 [.ow P, .ow (.lst (us.map nmD)), .sh (.str ""), .no, .no] = some (.nx [.ow P2, .ow (.lst (us.map nmD)), .sh (.str n1), y3, .no]) := by
      simp [-forL, st__law_name_v1_1, e1, hs]
      rw [e2]
    simp [q0, q1, e4, st__law_name_v1_3, st__law_name_v1_4, st__law_name_v1_5, -oIx, -inD, i1, ll, nmD]
/-! ### where a part begins -/
noncomputable def st__law_start_0 : S := (sIf (tAnd (tV (eOp (asC (aR 1) (asC (aV (eLst asN)) asN)) oNeX)) (tV (eOp (asC (aV (eCall dn__law_take (asC (aR 0) (asC (aV (eC (.int 8))) asN)))) (asC (aV (eC (.int 0))) asN)) oGt))) (sSeq (sAsg (eOp (asC (aR 1) (asC (aV (eSel (asC (aV (eCall dn__law_take (asC (aR 0) (asC (aV (eOp (asC (aR 1) asN) oLen)) asN)))) (asC (aV (eOp (asC (aV (eOp (asC (aR 1) asN) oLen)) (asC (aV (eC (.int 1))) asN)) oSub)) asN)) (aV (eOp (asC (aV (eCall dn__law_take (asC (aR 0) (asC (aV (eC (.int 4))) asN)))) (asC (aV (eC (.int 3))) asN)) oFdiv)))) asN)) oIx) (gN 3)) (sSeq (sAsg (eCall dn__law_places_v1 (asC (aV (eVar 3)) asN)) (gN 4)) (sRet (eTup (asC (aV (eOp (asC (aR 4) (asC (aV (eCall dn__law_take (asC (aR 0) (asC (aV (eOp (asC (aR 4) asN) oLen)) asN)))) asN)) oIx)) (asC (aV (eOp (asC (aV (eC (.int 20))) (asC (aV (eCall dn__law_top_v1 (asC (aV (eVar 3)) asN))) asN)) oMin2)) asN)))))) sPass)
noncomputable def st__law_start_1 : S := (sAsg (eTup (asC (aV (eCall dn__law_take (asC (aR 0) (asC (aV (eOp (asC (aV (eLst (asC (aV (eC (.int 4))) (asC (aV (eC (.int 21))) asN)))) (asC (aV (eCall dn__law_take (asC (aR 0) (asC (aV (eC (.int 2))) asN)))) asN)) oIx)) asN)))) (asC (aV (eCall dn__law_take (asC (aR 0) (asC (aV (eOp (asC (aV (eLst (asC (aV (eC (.int 4))) (asC (aV (eC (.int 21))) asN)))) (asC (aV (eCall dn__law_take (asC (aR 0) (asC (aV (eC (.int 2))) asN)))) asN)) oIx)) asN)))) asN))) (gN 2))
noncomputable def st__law_start_2 : S := (sRet (eTup (asC (aV (eVar 2)) (asC (aV (eSel (asC (aV (eC (.int 0))) (asC (aV (eC (.int 0))) (asC (aV (eCall dn__law_take (asC (aR 0) (asC (aV (eC (.int 21))) asN)))) asN))) (aV (eCall dn__law_take (asC (aR 0) (asC (aV (eC (.int 3))) asN)))))) asN))))
theorem hd__law_start : dn__law_start = mkFn 5 [true, false] (sSeq st__law_start_0 (sSeq st__law_start_1 st__law_start_2)) := rfl
noncomputable def st__law_part_0 : S := (sAsg (eCall dn__law_start (asC (aR 0) (asC (aV (eVar 1)) asN))) (gTup [(gN 8), (gN 9)]))
noncomputable def st__law_part_1 : S := (sAsg (eLst (asC (aV (eVar 2)) (asC (aV (eCall dn__law_fraction (asC (aR 0) (asC (aV (eC (.int 1))) asN)))) (asC (aV (eCall dn__law_fraction (asC (aR 0) (asC (aV (eC (.int 0))) asN)))) asN)))) (gN 3))
noncomputable def st__law_part_2 : S := (sIf (tAnd (tV (eOp (asC (aV (eCall dn__law_take (asC (aR 0) (asC (aV (eC (.int 5))) asN)))) (asC (aV (eC (.int 2))) asN)) oLt)) (tV (eOp (asC (aR 9) (asC (aV (eC (.int 20))) asN)) oLt))) (sSeq (sAsg (eOp (asC (aV (eOp (asC (aR 9) (asC (aV (eC (.int 1))) asN)) oAdd)) (asC (aV (eCall dn__law_take (asC (aR 0) (asC (aV (eOp (asC (aV (eOp (asC (aV (eC (.int 20))) (asC (aR 9) asN)) oSub)) (asC (aV (eOp (asC (aV (eLst (asC (aV (eC (.int 2))) (asC (aV (eC (.int 20))) asN)))) (asC (aV (eOp (asC (aV (eCall dn__law_take (asC (aR 0) (asC (aV (eC (.int 6))) asN)))) (asC (aV (eC (.int 5))) asN)) oFdiv)) asN)) oIx)) asN)) oMin2)) asN)))) asN)) oAdd) (gN 10)) (sRet (eTup (asC (aV (eC (.str "pole"))) (asC (aV (eVar 2)) (asC (aV (eOp (asC (aR 8) (asC (aV (eC (.int 0))) asN)) oIx)) (asC (aV (eOp (asC (aR 8) (asC (aV (eC (.int 1))) asN)) oIx)) (asC (aV (eVar 9)) (asC (aV (eVar 10)) (asC (aV (eOp (asC (aR 3) (asC (aV (eC (.int 1))) asN)) oIx)) (asC (aV (eOp (asC (aR 3) (asC (aV (eC (.int 2))) asN)) oIx)) asN))))))))))) sPass)
noncomputable def st__law_part_3 : S := (sAsg (eOp (asC (aV (eC (.int 1))) (asC (aV (eCall dn__law_take (asC (aR 0) (asC (aV (eOp (asC (aV (eLst (asC (aV (eC (.int 3))) (asC (aV (eC (.int 6))) (asC (aV (eC (.int 20))) asN))))) (asC (aV (eOp (asC (aV (eCall dn__law_take (asC (aR 0) (asC (aV (eC (.int 8))) asN)))) (asC (aV (eC (.int 3))) asN)) oFdiv)) asN)) oIx)) asN)))) asN)) oAdd) (gN 4))
noncomputable def st__law_part_4 : S := (sAsg (eOp (asC (aV (eLst (asC (aV (eC (.str "x"))) (asC (aV (eC (.str "y"))) asN)))) (asC (aV (eCall dn__law_take (asC (aR 0) (asC (aV (eC (.int 2))) asN)))) asN)) oIx) (gN 5))
noncomputable def st__law_part_5 : S := (sAsg (eOp (asC (aV (eOp (asC (aR 5) (asC (aV (eC (.str "y"))) asN)) oEqX)) asN) oInt) (gN 6))
noncomputable def st__law_part_6 : S := (sAsg (eLst (asC (aV (eOp (asC (aR 8) (asC (aV (eC (.int 0))) asN)) oIx)) (asC (aV (eOp (asC (aR 8) (asC (aV (eC (.int 1))) asN)) oIx)) asN))) (gN 7))
noncomputable def st__law_part_7 : S := (sAsg (eOp (asC (aV (eOp (asC (aV (eC (.int 20))) (asC (aR 4) asN)) oSub)) (asC (aV (eOp (asC (aV (eC (.int 0))) (asC (aV (eOp (asC (aV (eOp (asC (aR 7) (asC (aR 6) asN)) oIx)) (asC (aV (eCall dn__law_take (asC (aR 0) (asC (aV (eOp (asC (aR 4) (asC (aV (eC (.int 1))) asN)) oAdd)) asN)))) asN)) oSub)) asN)) oMax2)) asN)) oMin2) (gSet 7 (aR 6)))
noncomputable def st__law_part_8 : S := (sRet (eTup (asC (aV (eC (.str "board"))) (asC (aV (eVar 2)) (asC (aV (eOp (asC (aR 7) (asC (aV (eC (.int 0))) asN)) oIx)) (asC (aV (eOp (asC (aR 7) (asC (aV (eC (.int 1))) asN)) oIx)) (asC (aV (eVar 5)) (asC (aV (eVar 4)) (asC (aV (eVar 9)) (asC (aV (eOp (asC (aR 3) (asC (aV (eC (.int 1))) asN)) oIx)) (asC (aV (eOp (asC (aR 3) (asC (aV (eC (.int 2))) asN)) oIx)) asN)))))))))))
theorem hd__law_part : dn__law_part = mkFn 11 [true, false, false] (sSeq st__law_part_0 (sSeq st__law_part_1 (sSeq st__law_part_2 (sSeq st__law_part_3 (sSeq st__law_part_4 (sSeq st__law_part_5 (sSeq st__law_part_6 (sSeq st__law_part_7 st__law_part_8)))))))) := rfl
theorem ix2i (u v : D) {d : Int} (h0 : 0 ≤ d) (h1 : d < 2) : oIx [.lst [u, v], .int d] = some (.sh (if d = 0 then u else v)) := by
  by_cases c : d = 0
  · subst c
    rfl
  · have : d = 1 := by omega
    subst this
    rfl
theorem take_421 {P : D} (h : isPot P) : ∃ d P1 P2 v, isPot P2 ∧ 0 ≤ v ∧ v ≤ 20 ∧ dn__law_take [.ow P, .sh (.int 2)] = some (.ret (.sh (.int d)) [.ow P1, .no]) ∧ ∃ m, oIx [.lst [.int 4, .int 21], .int d] = some (.sh (.int m)) ∧ dn__law_take [.ow P1, .sh (.int m)] = some (.ret (.sh (.int v)) [.ow P2, .no]) := by
  obtain ⟨d, P1, p1, a1, b1, e1⟩ := take h 2
  obtain ⟨_, e2, m, rfl, hm⟩ := ix_all (fun x => ∃ v : Int, x = .int v ∧ 0 < v ∧ v ≤ 21) (xs := [.int 4, .int 21]) a1 (by simpa using b1) (by simp)
  obtain ⟨v, P2, p2, a2, b2, e3⟩ := take p1 m hm.1 (sm_few (by omega) (by omega))
  exact ⟨d, P1, P2, v, p2, a2, by omega, e1, m, e2, e3⟩
theorem start_free {P : D} (h : isPot P) (x1 : Sl) : ∃ a ht P' r, isPot P' ∧ (0 ≤ a.1 ∧ a.1 ≤ 20) ∧ (0 ≤ a.2 ∧ a.2 ≤ 20) ∧ (0 ≤ ht ∧ ht ≤ 20) ∧ (sSeq st__law_start_1 st__law_start_2) [.ow P, x1, .no, .no, .no] = some (.rt (.sh (.tup [plD a, .int ht])) (.ow P' :: r)) := by
  obtain ⟨d1, P1, P2, x, p2, x0, x9, e1, m1, e2, e3⟩ := take_421 h
  obtain ⟨d2, P3, P4, y, p4, y0, y9, e4, m2, e5, e6⟩ := take_421 p2
  obtain ⟨z, P5, p5, z0, z9, e7⟩ := take p4 21
  obtain ⟨k, P6, p6, k0, k9, e8⟩ := take p5 3
  refine ⟨(x, y), if k = 2 then z else 0, P6, [x1, .sh (plD (x, y)), .no, .no], p6, ⟨x0, x9⟩, ⟨y0, y9⟩, by split <;> omega, ?_⟩
  by_cases c0 : k = 0
  · subst c0
    simp [-oIx, st__law_start_1, st__law_start_2, e1, e2, e3, e4, e5, e6, e7, e8, l2, l3, plD, pl]
  · by_cases c1 : k = 1
    · subst c1
      simp [-oIx, st__law_start_1, st__law_start_2, e1, e2, e3, e4, e5, e6, e7, e8, l2, l3, plD, pl]
    · have : k = 2 := by omega
      subst this
      simp [-oIx, st__law_start_1, st__law_start_2, e1, e2, e3, e4, e5, e6, e7, e8, l2, l3, plD, pl]
theorem start_prt {P : D} (h : isPot P) {ps : List Prt} (hps : ∀ p ∈ ps, p.ok) (hf : ps.length ≤ 50) {x1 : Sl} (hx : LstX x1 (ps.map Prt.d)) : ∃ a ht P', isPot P' ∧ (0 ≤ a.1 ∧ a.1 ≤ 20) ∧ (0 ≤ a.2 ∧ a.2 ≤ 20) ∧ (0 ≤ ht ∧ ht ≤ 20) ∧ dn__law_start [.ow P, x1] = some (.ret (.sh (.tup [plD a, .int ht])) [.ow P', .no]) := by
  have hne := ne_nil (ps.map Prt.d)
  have l0 : (0 : Nat) ≤ lim := by decide
  have free : ∀ {Q : D}, isPot Q → st__law_start_0 [.ow P, x1, .no, .no, .no] = some (.nx [.ow Q, x1, .no, .no, .no]) → ∃ a ht P', isPot P' ∧ (0 ≤ a.1 ∧ a.1 ≤ 20) ∧ (0 ≤ a.2 ∧ a.2 ≤ 20) ∧ (0 ≤ ht ∧ ht ≤ 20) ∧ dn__law_start [.ow P, x1] = some (.ret (.sh (.tup [plD a, .int ht])) [.ow P', .no]) := by
    intro Q q e
    obtain ⟨a, ht, P', r, p1, h1, h2, h3, e1⟩ := start_free q x1
    refine ⟨a, ht, P', p1, h1, h2, h3, ?_⟩
    rw [hd__law_start]
    have e1' : sSeq st__law_start_1 st__law_start_2 [.ow Q, x1, .no, .no, .no] = _ := e1
    simp [-sSeq]
    rw [sSeq, e]
    simp only [e1']
    cases r <;> simp
  cases ps with
  | nil =>
    refine free h ?_
    rcases hx with rfl | rfl
    · simp [-oNeX, st__law_start_0, l0, ne_nil]
    · simp [-oNeX, st__law_start_0, l0, ne_nil]
  | cons p0 ps' =>
    obtain ⟨d1, P1, p1, a1, b1, e1⟩ := take h 8
    by_cases c : 0 < d1
    · obtain ⟨d2, P2, p2, a2, b2, e2⟩ := take p1 (((p0 :: ps').map Prt.d).length : Int) (by rw [List.length_map, List.length_cons]; omega) (sm_few (by rw [List.length_map, List.length_cons]; omega) (by rw [List.length_map]; omega))
      obtain ⟨d3, P3, p3, a3, b3, e3⟩ := take p2 4
      have go : ∀ i : Int, 0 ≤ i → i < ((p0 :: ps').map Prt.d).length → (∀ x1 : Sl, LstX x1 ((p0 :: ps').map Prt.d) → eSel (asC (aV (eCall dn__law_take (asC (aR 0) (asC (aV (eOp (asC (aR 1) asN) oLen)) asN)))) (asC (aV (eOp (asC (aV (eOp (asC (aR 1) asN) oLen)) (asC (aV (eC (.int 1))) asN)) oSub)) asN)) (aV (eOp (asC (aV (eCall dn__law_take (asC (aR 0) (asC (aV (eC (.int 4))) asN)))) (asC (aV (eC (.int 3))) asN)) oFdiv)) [.ow P1, x1, .no, .no, .no] = some (.ok (.sh (.int i)) [.ow P3, x1, .no, .no, .no])) →
          ∃ a ht P', isPot P' ∧ (0 ≤ a.1 ∧ a.1 ≤ 20) ∧ (0 ≤ a.2 ∧ a.2 ≤ 20) ∧ (0 ≤ ht ∧ ht ≤ 20) ∧ dn__law_start [.ow P, x1] = some (.ret (.sh (.tup [plD a, .int ht])) [.ow P', .no]) := by
        intro i i0 i1 es
        obtain ⟨_, e4, p, hp, rfl⟩ := ix_all (fun x => ∃ p ∈ p0 :: ps', x = p.d) i0 i1 (fun x hx => by
          obtain ⟨p, hp, rfl⟩ := List.mem_map.mp hx
          exact ⟨p, hp, rfl⟩)
        have op := hps p hp
        have hpl := pls_len op
        obtain ⟨d4, P4, p4, a4, b4, e5⟩ := take p3 ((p.pls.map plD).length : Int) (by simp; omega) (sm_few (by simp) (by simp; omega))
        obtain ⟨_, e6, a, ha, rfl⟩ := ix_all (fun x => ∃ a ∈ p.pls, x = plD a) a4 b4 (fun x hx => by
          obtain ⟨a, ha, rfl⟩ := List.mem_map.mp hx
          exact ⟨a, ha, rfl⟩)
        obtain ⟨g1, g2⟩ := op.pls_in a ha
        obtain ⟨g3, g4⟩ := op.top_in
        refine ⟨a, if p.top < 20 then p.top else 20, P4, p4, g1, g2, by split <;> omega, ?_⟩
        have es' := es x1 hx
        rw [hd__law_start]
        simp only [List.length_map] at e5
        rcases hx with rfl | rfl
        · simp [-oIx] at e4
          simp [-oIx, -oNeX] at es'
          simp [-oNeX, -oIx, st__law_start_0, l0, ne_nil, e1, c, es', e4, plv_prt op, e5, e6, topv_prt, l2]
        · simp [-oIx] at e4
          simp [-oIx, -oNeX] at es'
          simp [-oNeX, -oIx, st__law_start_0, l0, ne_nil, e1, c, es', e4, plv_prt op, e5, e6, topv_prt, l2]
      have d3k : divOk 3 = true := by decide
      have e2' : dn__law_take [.ow P1, .sh (.int (ps'.length + 1))] = some (.ret (.sh (.int d2)) [.ow P2, .no]) := by
        have : (((p0 :: ps').map Prt.d).length : Int) = (ps'.length : Int) + 1 := by simp
        rw [← this]
        exact e2
      by_cases c3 : d3 < 3
      · have f0 : d3.fdiv 3 = 0 := by
          rw [Int.fdiv_eq_ediv_of_nonneg _ (by decide)]
          omega
        refine go d2 a2 b2 fun x1 hx => ?_
        rcases hx with rfl | rfl <;> simp [e2', e3, d3k, f0, l2]
      · have : d3 = 3 := by omega
        subst this
        have f0 : (3 : Int).fdiv 3 = 1 := by decide
        refine go ((ps'.length : Int) + 1 - 1) (by omega) (by rw [List.length_map, List.length_cons]; omega) fun x1 hx => ?_
        rcases hx with rfl | rfl <;> simp [e2', e3, d3k, f0, l2]
    · refine free p1 ?_
      rcases hx with rfl | rfl
      · simp [-oNeX, st__law_start_0, l0, ne_nil, e1, c]
      · simp [-oNeX, st__law_start_0, l0, ne_nil, e1, c]
/-! ### a part -/
theorem sny : ¬ (Str.ofString "x" = Str.ofString "y") := by decide +kernel
theorem part_prt {P : D} (h : isPot P) {ps : List Prt} (hps : ∀ p ∈ ps, p.ok) (hf : ps.length ≤ 50) {x1 : Sl} (hx : LstX x1 (ps.map Prt.d)) {n : Str} (hn : nameB (.str n) = true) :
    ∃ p P', isPot P' ∧ Prt.ok p ∧ p.nm = n ∧ dn__law_part [.ow P, x1, .sh (.str n)] = some (.ret (.sh p.d) [.ow P', .no, .no]) := by
  obtain ⟨a, ht, P1, p1, ha1, ha2, hht, e1⟩ := start_prt h hps hf hx
  obtain ⟨w, P2, p2, w1, w2, w3, w4, e2⟩ := frac_prt p1 (lo := 1) (by decide) (by decide)
  obtain ⟨hh, P3, p3, v1, v2, v3, v4, e3⟩ := frac_prt p2 (lo := 0) (by decide) (by decide)
  obtain ⟨d1, P4, p4, a1, b1, e4⟩ := take p3 5
  have wb : weightsB w hh = true := by simp [weightsB, w1, v1, v3, w4 (by decide)]
  have q0 : st__law_part_0 [.ow P, x1, .sh (.str n), .no, .no, .no, .no, .no, .no, .no, .no] = some (.nx [.ow P1, x1, .sh (.str n), .no, .no, .no, .no, .no, .sh (plD a), .sh (.int ht), .no]) := by
    rcases hx with rfl | rfl <;> simp [st__law_part_0, e1]
  have q1 : st__law_part_1 [.ow P1, x1, .sh (.str n), .no, .no, .no, .no, .no, .sh (plD a), .sh (.int ht), .no] = some (.nx [.ow P3, x1, .sh (.str n), .ow (.lst [.str n, w, hh]), .no, .no, .no, .no, .sh (plD a), .sh (.int ht), .no]) := by
    simp [st__law_part_1, e2, e3, l3]
  have d5 : divOk 5 = true := by decide
  have d3 : divOk 3 = true := by decide
  rw [hd__law_part]
  by_cases c : d1 < 2 ∧ ht < 20
  · obtain ⟨d2, P5, p5, a5, b5, e5⟩ := take p4 6
    have i2 : 0 ≤ d2.fdiv 5 ∧ d2.fdiv 5 < 2 := by
      rw [Int.fdiv_eq_ediv_of_nonneg _ (by decide)]
      omega
    obtain ⟨_, e6, m, rfl, hm⟩ := ix_all (fun x => ∃ v : Int, x = .int v ∧ 0 < v ∧ v ≤ 20) (xs := [.int 2, .int 20]) i2.1 (by simpa using i2.2) (by simp)
    obtain ⟨d3', P6, p6, a6, b6, e7⟩ := take p5 (if m < 20 - ht then m else 20 - ht) (by split <;> omega) (sm_few (by split <;> omega) (by split <;> omega))
    refine ⟨.pole n a.1 a.2 ht (ht + 1 + d3') w hh, P6, p6, ⟨hn, ha1, ha2, ⟨hht.1, by omega, by split at b6 <;> omega⟩, w2, v2, wb⟩, rfl, ?_⟩
    have l8 : 8 ≤ lim := by decide
    simp [q0, q1]
    simp [-oIx, st__law_part_2, e4, c.1, c.2, l2, e5, d5, e6]
    simp [e7, l8, plD, pl, Prt.d]
  · obtain ⟨d2, P5, p5, a5, b5, e5⟩ := take p4 8
    have i2 : 0 ≤ d2.fdiv 3 ∧ d2.fdiv 3 < 3 := by
      rw [Int.fdiv_eq_ediv_of_nonneg _ (by decide)]
      omega
    obtain ⟨_, e6, m, rfl, hm⟩ := ix_all (fun x => ∃ v : Int, x = .int v ∧ 0 < v ∧ v ≤ 20) (xs := [.int 3, .int 6, .int 20]) i2.1 (by simpa using i2.2) (by simp)
    obtain ⟨d3', P6, p6, a6, b6, e7⟩ := take p5 m hm.1 (sm_few (by omega) (by omega))
    obtain ⟨d4, P7, p7, a7, b7, e8⟩ := take p6 2
    obtain ⟨d5', P8, p8, a8, b8, e9⟩ := take p7 (1 + d3' + 1) (by omega) (sm_few (by omega) (by omega))
    have q2 : st__law_part_2 [.ow P3, x1, .sh (.str n), .ow (.lst [.str n, w, hh]), .no, .no, .no, .no, .sh (plD a), .sh (.int ht), .no] = some (.nx [.ow P4, x1, .sh (.str n), .ow (.lst [.str n, w, hh]), .no, .no, .no, .no, .sh (plD a), .sh (.int ht), .no]) := by
      by_cases c1 : d1 < 2
      · have c2 : ¬ ht < 20 := fun z => c ⟨c1, z⟩
        simp [st__law_part_2, e4, c1, c2]
      · simp [st__law_part_2, e4, c1]
    have q3 : st__law_part_3 [.ow P4, x1, .sh (.str n), .ow (.lst [.str n, w, hh]), .no, .no, .no, .no, .sh (plD a), .sh (.int ht), .no] = some (.nx [.ow P6, x1, .sh (.str n), .ow (.lst [.str n, w, hh]), .sh (.int (1 + d3')), .no, .no, .no, .sh (plD a), .sh (.int ht), .no]) := by
      simp [-oIx, st__law_part_3, l3, e5, d3, e6, e7]
    have l9 : 9 ≤ lim := by decide
    by_cases c4 : d4 = 0
    · subst c4
      refine ⟨.board n (if (if a.1 - d5' > 0 then a.1 - d5' else 0) < 20 - (1 + d3') then (if a.1 - d5' > 0 then a.1 - d5' else 0) else 20 - (1 + d3')) a.2 true (1 + d3') ht w hh, P8, p8, ⟨hn, by split <;> (try split) <;> omega, ha2, by omega, hht, by rw [if_pos rfl]; split <;> (try split) <;> omega, w2, v2, wb⟩, rfl, ?_⟩
      simp [q0, q1, q2, q3]
      simp [st__law_part_4, st__law_part_5, st__law_part_6, st__law_part_7, st__law_part_8, e8, l2, l9, sny, e9, plD, pl, Prt.d, wayS]
    · have : d4 = 1 := by omega
      subst this
      refine ⟨.board n a.1 (if (if a.2 - d5' > 0 then a.2 - d5' else 0) < 20 - (1 + d3') then (if a.2 - d5' > 0 then a.2 - d5' else 0) else 20 - (1 + d3')) false (1 + d3') ht w hh, P8, p8, ⟨hn, ha1, by split <;> (try split) <;> omega, by omega, hht, by rw [if_neg (by decide)]; split <;> (try split) <;> omega, w2, v2, wb⟩, rfl, ?_⟩
      simp [q0, q1, q2, q3]
      simp [st__law_part_4, st__law_part_5, st__law_part_6, st__law_part_7, st__law_part_8, e8, l2, l9, sny, e9, plD, pl, Prt.d, wayS]
/-! ### the parts -/
structure PurI (k : Nat) (ps : List Prt) (us : List Str) : Prop where
  good : Good ps
  len : ps.length ≤ k
  ul : us.length = k
  un : ∀ u ∈ us, nameB (.str u) = true
  sub : ∀ p ∈ ps, p.nm ∈ us
  few : (jointsOf ps).length ≤ 100
theorem parts_body {P : D} (h : isPot P) {k : Nat} (hk : k < 16) {ps : List Prt} {us : List Str} (hi : PurI k ps us) (x1 : Sl) (i : Int) (x5 : Sl) : ∃ P' ps' us' x5', isPot P' ∧ PurI (k + 1) ps' us' ∧
    lb__law_parts_0 [.ow P, x1, .ow (.lst (ps.map Prt.d)), .ow (.lst (us.map nmD)), .sh (.int i), x5] = some (.nx [.ow P', x1, .ow (.lst (ps'.map Prt.d)), .ow (.lst (us'.map nmD)), .sh (.int i), x5']) := by
  obtain ⟨n, P1, p1, n1, n2, e1⟩ := name_v1_prt h hi.un (by rw [hi.ul]; omega)
  have g := hi.good
  have hf : ps.length ≤ 50 := by have := hi.len; omega
  obtain ⟨p, P2, p2, op, np, e2⟩ := part_prt p1 g.ok hf (x1 := .bw (.ow (.lst (ps.map Prt.d)))) (.inr rfl) n1
  obtain ⟨b, e3, hb⟩ := has_room_prt g.ok hf op (x0 := .bw (.ow (.lst (ps.map Prt.d)))) (.inr rfl)
  have ul : (us ++ [n]).length = k + 1 := by simp [hi.ul]
  have un : ∀ u ∈ us ++ [n], nameB (.str u) = true := fun u hu => by
    rcases List.mem_append.mp hu with hu | hu
    · exact hi.un u hu
    · rw [List.mem_singleton.mp hu]
      exact n1
  have hlim : ps.length < lim := Nat.lt_of_le_of_lt hf (by decide)
  cases b with
  | false =>
    refine ⟨P2, ps, us ++ [n], .sh p.d, p2, ⟨g, by have := hi.len; omega, ul, un, fun q hq => List.mem_append_left _ (hi.sub q hq), hi.few⟩, ?_⟩
    simp only [List.map_append, List.map_cons, List.map_nil] at e1
    simp [lb__law_parts_0, e1, e2, e3]
  | true =>
    obtain ⟨hc, hj⟩ := hb rfl
    refine ⟨P2, ps ++ [p], us ++ [n], .sh p.d, p2, ⟨⟨?_, ?_, ?_, by simp; omega⟩, by have := hi.len; simp; omega, ul, un, ?_, hj⟩, ?_⟩
    · intro q hq
      rcases List.mem_append.mp hq with hq | hq
      · exact g.ok q hq
      · rw [List.mem_singleton.mp hq]
        exact op
    · rw [List.map_append, List.nodup_append]
      refine ⟨g.nm, by simp, ?_⟩
      intro a ha b hb e
      obtain ⟨q, hq, rfl⟩ := List.mem_map.mp ha
      have : b = n := by simpa [np] using hb
      exact n2 (this ▸ e ▸ hi.sub q hq)
    · rw [List.pairwise_append]
      refine ⟨g.room, by simp, fun a ha b hb => ?_⟩
      rw [List.mem_singleton.mp hb]
      exact hc a ha
    · intro q hq
      rcases List.mem_append.mp hq with hq | hq
      · exact List.mem_append_left _ (hi.sub q hq)
      · rw [List.mem_singleton.mp hq, np]
        simp
    · simp only [List.map_append, List.map_cons, List.map_nil] at e1
      simp [lb__law_parts_0, e1, e2, e3, hlim]
theorem parts_loop (x1 : Sl) : ∀ (n k : Nat) (P : D) (ps : List Prt) (us : List Str) (x4 x5 : Sl), isPot P → PurI k ps us → k + n ≤ 16 → ∃ P' ps' us' x4' x5', isPot P' ∧ PurI (k + n) ps' us' ∧
    forL (gN 4) lb__law_parts_0 (rangeD k n) [.ow P, x1, .ow (.lst (ps.map Prt.d)), .ow (.lst (us.map nmD)), x4, x5] = some (.nx [.ow P', x1, .ow (.lst (ps'.map Prt.d)), .ow (.lst (us'.map nmD)), x4', x5'])
  | 0, k, P, ps, us, x4, x5, h, hi, _ => ⟨P, ps, us, x4, x5, h, hi, rfl⟩
  | n + 1, k, P, ps, us, x4, x5, h, hi, hk => by
    obtain ⟨P1, ps1, us1, x51, h1, i1, e1⟩ := parts_body h (show k < 16 by omega) hi x1 k x5
    obtain ⟨P2, ps2, us2, x42, x52, h2, i2, e2⟩ := parts_loop x1 n (k + 1) P1 ps1 us1 (.sh (.int k)) x51 h1 i1 (by omega)
    refine ⟨P2, ps2, us2, x42, x52, h2, by rw [show k + (n + 1) = k + 1 + n by omega]; exact i2, ?_⟩
    rw [range_cons, forL]
    have eg : gN 4 (.sh (.int k)) [.ow P, x1, .ow (.lst (ps.map Prt.d)), .ow (.lst (us.map nmD)), x4, x5] = some (.nx [.ow P, x1, .ow (.lst (ps.map Prt.d)), .ow (.lst (us.map nmD)), .sh (.int k), x5]) := by simp
    rw [eg]
    simp only [e1]
    exact e2
/-- the parts that are drawn -/
theorem parts_prt {P : D} (h : isPot P) {m : Nat} (hm : m ≤ 16) : ∃ ps P', isPot P' ∧ Good ps ∧ ps.length ≤ m ∧ (jointsOf ps).length ≤ 100 ∧ dn__law_parts [.ow P, .sh (.int m)] = some (.ret (.ow (.lst (ps.map Prt.d))) [.ow P', .no]) := by
  obtain ⟨d, P1, p1, a1, b1, e1⟩ := take h ((m : Int) + 1) (by omega) (sm_few (by omega) (by omega))
  obtain ⟨P2, ps, us, x4, x5, p2, i2, e2⟩ := parts_loop (.sh (.int m)) d.toNat 0 P1 [] [] .no .no p1 ⟨⟨by simp, by simp, by simp, by simp⟩, by simp, rfl, by simp, by simp, by rw [jointsOf_len]; simp [rawJ]⟩ (by omega)
  refine ⟨ps, P2, p2, i2.good, by have := i2.len; omega, i2.few, ?_⟩
  rw [hd__law_parts]
  have hs : small62 d = true := small_of a1 (by omega)
  have e3 : forL (gN 4) lb__law_parts_0 (rangeD 0 d.toNat) [.ow P1, .sh (.int m), .ow (.lst []), .ow (.lst []), .no, .no] = _ := e2
  simp [e1, hs, e3, lim]
theorem at_int (ns : List Int) (k : Nat) : ∃ c : Int, dn__law_at [.sh (.scr (ns.map .int)), .sh (.int k)] = some (.ret (.sh (.int c)) [.no, .no]) := by
  by_cases h : k < ns.length
  · refine ⟨ns[k], ?_⟩
    simp [dn__law_at, h]
  · refine ⟨0, ?_⟩
    simp [dn__law_at, h]
end Sc

/-! LmRepr: what may be shown (plain). -/
namespace Sc
open PySem Py
set_option maxRecDepth 10000
set_option linter.all false
theorem reprWs_le (c : Nat) : ∀ {ds : List D}, (∀ d ∈ ds, reprW d ≤ c) → reprWs ds ≤ ds.length * (c + 2)
  | [], _ => by simp [reprWs]
  | d :: ds, h => by
    have a := h d (.head _)
    have b := reprWs_le c (ds := ds) fun e he => h e (.tail _ he)
    simp only [reprWs, List.length_cons, Nat.add_mul, Nat.one_mul]
    omega
theorem reprIs_all : ∀ {ds : List D}, (∀ d ∈ ds, reprI d = true) → reprIs ds = true
  | [], _ => rfl
  | d :: ds, h => by
    simp only [reprIs, Bool.and_eq_true]
    exact ⟨h d (.head _), reprIs_all fun e he => h e (.tail _ he)⟩
theorem reprOk_lst {ds : List D} (h1 : ∀ d ∈ ds, eqOk d = true ∧ dep d ≤ 60) (h2 : ∀ d ∈ ds, reprI d = true) (c : Nat) (h3 : ∀ d ∈ ds, reprW d ≤ c) (h4 : ds.length * (c + 2) + 3 ≤ 16000000) : reprOk (.lst ds) = true := by
  have e : eqOk (.lst ds) = true := eqOk_lst (fun d hd => by
    have := (h1 d hd).1
    unfold eqOk at this
    exact (Bool.and_eq_true_iff.mp this).1) fun d hd => (h1 d hd).2
  have w := reprWs_le c h3
  unfold reprOk
  have h5 : reprW (.lst ds) ≤ 16000000 := by
    rw [reprW]
    omega
  have h6 : reprI (.lst ds) = true := by
    rw [reprI]
    exact reprIs_all h2
  rw [e, h6, decide_eq_true h5]
  rfl
theorem int_w {i : Int} (h : i.natAbs < 10 ^ 16) : (Str.ofString (toString i)).length ≤ 17 := len_int i h (by decide)
theorem int_log {i : Int} (h : i.natAbs < 10 ^ 16) : i.natAbs.log2 < 1920 := Nat.lt_trans (log2_lt (k := 60) (Nat.lt_trans h (by decide)) (by decide)) (by decide)
/-- a joint of short names and small numbers -/
def Jt.small (j : Jt) : Prop := (j.lo.length ≤ 8 ∧ j.up.length ≤ 8) ∧ j.x.natAbs < 10 ^ 16 ∧ j.y.natAbs < 10 ^ 16
theorem jt_w {j : Jt} (h : j.small) : reprW j.d ≤ 300 ∧ reprI j.d = true ∧ dep j.d ≤ 60 := by
  obtain ⟨⟨h1, h2⟩, h3, h4⟩ := h
  have a := int_w h3
  have b := int_w h4
  have c := int_log h3
  have d := int_log h4
  refine ⟨?_, ?_, by simp [Jt.d]⟩
  · simp only [Jt.d, reprW, reprWs]
    omega
  · simp only [Jt.d, reprI, reprIs, Bool.and_true, Bool.and_eq_true, decide_eq_true_eq, true_and]
    exact ⟨c, d⟩
theorem reprOk_joints {js : List Jt} (h1 : ∀ j ∈ js, eqOk j.d = true) (h2 : ∀ j ∈ js, j.small) (h3 : js.length ≤ 1000) : reprOk (.lst (js.map Jt.d)) = true := by
  refine reprOk_lst (fun d hd => ?_) (fun d hd => ?_) 300 (fun d hd => ?_) ?_
  · obtain ⟨j, hj, rfl⟩ := List.mem_map.mp hd
    exact ⟨h1 j hj, (jt_w (h2 j hj)).2.2⟩
  · obtain ⟨j, hj, rfl⟩ := List.mem_map.mp hd
    exact (jt_w (h2 j hj)).2.1
  · obtain ⟨j, hj, rfl⟩ := List.mem_map.mp hd
    exact (jt_w (h2 j hj)).1
  · rw [List.length_map]
    omega
theorem name_len {p : Prt} (h : p.ok) : p.nm.length ≤ 8 := (ltrs_of (name_ok h)).2.1
theorem rawJ_small {ps : List Prt} (h : ∀ p ∈ ps, p.ok) {j : Jt} (hj : j ∈ rawJ ps) : j.small := by
  have pin : ∀ {u : Prt}, u.ok → ∀ a ∈ u.pls, a.1.natAbs < 10 ^ 16 ∧ a.2.natAbs < 10 ^ 16 := fun hu a ha => by
    obtain ⟨g1, g2⟩ := hu.pls_in a ha
    omega
  unfold rawJ rawU at hj
  rw [List.mem_flatMap] at hj
  obtain ⟨u, hu, hj⟩ := hj
  rcases List.mem_append.mp hj with hj | hj
  · unfold floorJ at hj
    split at hj
    · obtain ⟨a, ha, rfl⟩ := List.mem_map.mp hj
      exact ⟨⟨show (Str.ofString "").length ≤ 8 by decide, name_len (h u hu)⟩, pin (h u hu) a ha⟩
    · cases hj
  · rw [List.mem_flatMap] at hj
    obtain ⟨l, hl, hj⟩ := hj
    unfold betwJ at hj
    split at hj
    · obtain ⟨a, ha, rfl⟩ := List.mem_map.mp hj
      exact ⟨⟨name_len (h l hl), name_len (h u hu)⟩, pin (h u hu) a (List.mem_filter.mp ha).1⟩
    · cases hj
theorem repr_joints {ps : List Prt} (h : ∀ p ∈ ps, p.ok) (hf : (jointsOf ps).length ≤ 1000) : oRepr [.lst ((jointsOf ps).map Jt.d)] = some (.sh (.str (reprD (.lst ((jointsOf ps).map Jt.d))))) := by
  show (if _ then _ else _) = _
  rw [if_pos (reprOk_joints (fun j hj => jointsOf_ok h hj) (fun j hj => rawJ_small h (jointsOf_mem.mp hj)) hf)]
theorem eq_str2 (x : Str) : oEqX [.str x, .str x] = rB true := by simp
theorem ne_str2 (x : Str) : oNeX [.str x, .str x] = rB false := by simp
theorem Good.reverse {ps : List Prt} (g : Good ps) : Good ps.reverse := ⟨fun p hp => g.ok p (List.mem_reverse.mp hp), by
  rw [List.map_reverse]
  exact (List.reverse_perm _).nodup_iff.mpr g.nm, by
  rw [List.pairwise_reverse]
  exact g.room.imp fun h => by rw [clash_symm]; exact h, by rw [List.length_reverse]; exact g.few⟩
end Sc

/-! LmRest: what is loose, what a part rests on (plain). -/
namespace Sc
open PySem Py
set_option maxRecDepth 10000
set_option linter.all false
noncomputable def lc_loose_0 : E := (eLc (wSeq (eCall dn_joints (asC (aV (eVar 0)) asN))) (gN 2) tYesE (eOp (asC (aR 2) (asC (aV (eC (.int 1))) asN)) oIx) [2])
noncomputable def lc_loose_1 : E := (eLc (wSeq (eCall dn_Plan_names (asO "Plan" "names" (aR 0) asN))) (gN 3) (tV (eOp (asC (aR 3) (asC (aR 1) asN)) oNotIn)) (eVar 3) [3])
noncomputable def st_loose_0 : S := (sAsg lc_loose_0 (gN 1))
noncomputable def st_loose_1 : S := (sRet (eOp (asC (aV lc_loose_1) asN) oSorted))
theorem hd_loose : dn_loose = mkFn 4 [false] (sSeq st_loose_0 st_loose_1) := rfl
noncomputable def lb_rests_on_0 : S := (sIf (tAnd (tV (eOp (asC (aV (eOp (asC (aR 6) (asC (aV (eC (.int 1))) asN)) oIx)) (asC (aR 5) asN)) oEqX)) (tAnd (tV (eOp (asC (aV (eOp (asC (aR 6) (asC (aV (eC (.int 0))) asN)) oIx)) (asC (aV (eC (.str ""))) asN)) oNeX)) (tV (eOp (asC (aV (eOp (asC (aR 6) (asC (aV (eC (.int 0))) asN)) oIx)) (asC (aR 3) asN)) oNotIn)))) (sSeq (sAppend 3 (eOp (asC (aR 6) (asC (aV (eC (.int 0))) asN)) oIx)) (sAppend 4 (eOp (asC (aR 6) (asC (aV (eC (.int 0))) asN)) oIx))) sPass)
noncomputable def lw_rests_on_1 : S := (sWhile (tV (eOp (asC (aR 4) (asC (aV (eLst asN)) asN)) oNeX)) (sSeq (sAsg (ePop 4) (gN 5)) (sForI (wSeq (eVar 2)) (gN 6) lb_rests_on_0)))
noncomputable def st_rests_on_0 : S := (sDrop (eCall dn_Plan_part (asO "Plan" "part" (aR 0) (asC (aV (eVar 1)) asN))))
noncomputable def st_rests_on_1 : S := (sAsg (eCall dn_joints (asC (aV (eVar 0)) asN)) (gN 2))
noncomputable def st_rests_on_2 : S := (sAsg (eLst asN) (gN 3))
noncomputable def st_rests_on_3 : S := (sAsg (eLst (asC (aV (eVar 1)) asN)) (gN 4))
noncomputable def st_rests_on_4 : S := lw_rests_on_1
noncomputable def st_rests_on_5 : S := (sRet (eOp (asC (aR 3) asN) oSorted))
theorem hd_rests_on : dn_rests_on = mkFn 7 [false, false] (sSeq st_rests_on_0 (sSeq st_rests_on_1 (sSeq st_rests_on_2 (sSeq st_rests_on_3 (sSeq st_rests_on_4 st_rests_on_5))))) := rfl
noncomputable def lb__law_rests_0 : S := (sIf (tAnd (tV (eOp (asC (aR 5) (asC (aR 2) asN)) oIn)) (tAnd (tV (eOp (asC (aR 4) (asC (aV (eC (.str ""))) asN)) oNeX)) (tV (eOp (asC (aR 4) (asC (aR 2) asN)) oNotIn)))) (sAppend 2 (eVar 4)) sPass)
noncomputable def lb__law_rests_1 : S := (sForI (wSeq (eVar 0)) (gTup [(gN 4), (gN 5), (gN 6)]) lb__law_rests_0)
noncomputable def st__law_rests_0 : S := (sAsg (eLst (asC (aV (eVar 1)) asN)) (gN 2))
noncomputable def st__law_rests_1 : S := (sForI (wR1 (aV (eOp (asC (aV (eOp (asC (aR 0) asN) oLen)) (asC (aV (eC (.int 1))) asN)) oAdd))) (gN 3) lb__law_rests_1)
noncomputable def st__law_rests_2 : S := (sRet (eOp (asC (aV (eSl (aR 2) (oaS (aV (eC (.int 1)))) oaN oSlice)) asN) oSorted))
theorem hd__law_rests : dn__law_rests = mkFn 7 [false, false] (sSeq st__law_rests_0 (sSeq st__law_rests_1 st__law_rests_2)) := rfl
/-! ### loose -/
def looseOf (ps : List Prt) : List Str := sortS ((ps.map Prt.nm).filter fun n => !((jointsOf ps).map Jt.up).contains n)
theorem ix_up (j : Jt) : oIx [j.d, .int 1] = some (.sh (.str j.up)) := rfl
theorem ix_lo (j : Jt) : oIx [j.d, .int 0] = some (.sh (.str j.lo)) := rfl
theorem chk_str {n : Str} (h : eqOk (.str n) = true) : (eqOk (.str n) && flatD (.str n)) = true := by
  rw [h]
  rfl
theorem chk_strs {n : Str} {us : List Str} (h : eqOk (.str n) = true) (hu : ∀ u ∈ us, eqOk (.str u) = true) : (D.str n :: us.map nmD).all (fun d => eqOk d && flatD d) = true := by
  rw [List.all_cons, chk_str h, Bool.true_and, List.all_map, List.all_eq_true]
  intro m hm
  exact chk_str (hu m hm)
theorem jt_strs {j : Jt} (h : eqOk j.d = true) : eqOk (.str j.lo) = true ∧ eqOk (.str j.up) = true := by
  simp [Jt.d, eqOk] at h ⊢
  exact ⟨h.1, h.2⟩
theorem nm_eqOk {ps : List Prt} (h : ∀ p ∈ ps, p.ok) {n : Str} (hn : n ∈ ps.map Prt.nm) : eqOk (.str n) = true := by
  obtain ⟨p, hp, rfl⟩ := List.mem_map.mp hn
  exact str_eqOk (name_ok (h p hp))
theorem ups_ok {ps : List Prt} (h : ∀ p ∈ ps, p.ok) {n : Str} (hn : n ∈ (jointsOf ps).map Jt.up) : eqOk (.str n) = true := by
  obtain ⟨j, hj, rfl⟩ := List.mem_map.mp hn
  exact (jt_strs (jointsOf_ok h hj)).2
theorem loose_prt {ps : List Prt} (fl : D) (h : ∀ p ∈ ps, p.ok) (hf : ps.length ≤ 100) : dn_loose [.sh (planD ps fl)] = some (.ret (.ow (.lst ((looseOf ps).map nmD))) [.no]) := by
  have j1 := joints_prt fl h hf
  have jl : (jointsOf ps).length ≤ lim := by
    rw [jointsOf_len]
    exact Nat.le_trans (rawJ_len h) (few_mul hf)
  have k1 : lc_loose_0 [.sh (planD ps fl), .no, .no, .no] = some (.ok (.ow (.lst ((jointsOf ps).map fun j => nmD j.up))) [.sh (planD ps fl), .no, .no, .no]) :=
    eLc_of (ks := [.ow (.lst ((jointsOf ps).map Jt.d))]) Jt.d (fun j => nmD j.up) (jointsOf ps) (by simp [j1]) (by simp) (fun j _ => by simp [-oIx, ix_up, nmD]) jl
  have q1 := plan_names fl (Nat.le_trans hf (by decide) : ps.length ≤ 1000)
  have eu : ((jointsOf ps).map fun j => nmD j.up) = ((jointsOf ps).map Jt.up).map nmD := by rw [List.map_map]; rfl
  have k2 : lc_loose_1 [.sh (planD ps fl), .ow (.lst ((jointsOf ps).map fun j => nmD j.up)), .no, .no] = some (.ok (.ow (.lst (((ps.map Prt.nm).filter fun n => !((jointsOf ps).map Jt.up).contains n).map nmD))) [.sh (planD ps fl), .ow (.lst ((jointsOf ps).map fun j => nmD j.up)), .no, .no]) :=
    eLc_filt (ks := [.ow (.lst (ps.map fun p => .str p.nm))]) nmD nmD (fun n => !((jointsOf ps).map Jt.up).contains n) (ps.map Prt.nm) (by
      have : (ps.map Prt.nm).map nmD = ps.map fun p => .str p.nm := by rw [List.map_map]; rfl
      rw [this]
      simp [q1, nt1, nt2, nt3]) (by simp) (fun n hn => by
      obtain ⟨i1, -⟩ := in_lst (chk_strs (nm_eqOk h hn) fun u hu => ups_ok h hu)
      rw [← eu] at i1
      cases c : ((jointsOf ps).map Jt.up).contains n
      · rw [c] at i1
        simp only [nmD] at i1
        simp [-inD, i1, nmD]
      · rw [c] at i1
        simp only [nmD] at i1
        simp [-inD, i1, nmD]) (by rw [List.length_map]; exact Nat.le_trans hf (by decide))
  have hs := sorted_names (ns := (ps.map Prt.nm).filter fun n => !((jointsOf ps).map Jt.up).contains n) fun n hn => nm_eqOk h (List.mem_filter.mp hn).1
  obtain ⟨F, hF⟩ : ∃ F, F = (ps.map Prt.nm).filter fun n => !((jointsOf ps).map Jt.up).contains n := ⟨_, rfl⟩
  have e : looseOf ps = sortS F := by
    rw [hF]
    rfl
  rw [← hF] at k2 hs
  rw [e, hd_loose]
  simp [-oSorted, st_loose_0, st_loose_1, k1, k2, hs]
/-! ### rests on -/
def Edge (js : List Jt) (l u : Str) : Prop := ∃ j ∈ js, j.lo = l ∧ j.up = u ∧ l ≠ Str.ofString ""
inductive Rest (js : List Jt) (n : Str) : Str → Prop
  | one {l : Str} : Edge js l n → Rest js n l
  | step {u l : Str} : Rest js n u → Edge js l u → Rest js n l
def Lows (js : List Jt) (u : Str) (f : List Str) : Prop := ∀ l, Edge js l u → l ∈ f
theorem ne_str_b (x y : Str) : oNeX [.str x, .str y] = rB (!decide (x = y)) := by
  simp
  rfl
theorem eq_str_b (x y : Str) : oEqX [.str x, .str y] = rB (decide (x = y)) := by
  simp
  rfl
theorem ro_body (x0 x1 x2 : Sl) {f l : List Str} {u : Str} {j : Jt} (hj : eqOk j.d = true) (hf : ∀ x ∈ f, eqOk (.str x) = true) (l1 : f.length < lim) (l2 : l.length < lim) :
    lb_rests_on_0 [x0, x1, x2, .ow (.lst (f.map nmD)), .ow (.lst (l.map nmD)), .sh (.str u), .sh j.d] = some (.nx (if j.up = u ∧ j.lo ≠ Str.ofString "" ∧ j.lo ∉ f then [x0, x1, x2, .ow (.lst ((f ++ [j.lo]).map nmD)), .ow (.lst ((l ++ [j.lo]).map nmD)), .sh (.str u), .sh j.d] else [x0, x1, x2, .ow (.lst (f.map nmD)), .ow (.lst (l.map nmD)), .sh (.str u), .sh j.d])) := by
  obtain ⟨i1, -⟩ := in_lst (chk_strs (jt_strs hj).1 hf)
  by_cases c1 : j.up = u
  · by_cases c2 : j.lo = Str.ofString ""
    · simp [-oIx, -inD, -oEqX, -oNeX, lb_rests_on_0, ix_up, ix_lo, eq_str_b, ne_str_b, c1, c2]
    · by_cases c3 : j.lo ∈ f
      · have : f.contains j.lo = true := by simpa using c3
        rw [this] at i1
        simp [-oIx, -inD, -oEqX, -oNeX, lb_rests_on_0, ix_up, ix_lo, eq_str_b, ne_str_b, c1, c2, i1, c3]
      · have : f.contains j.lo = false := by simpa using c3
        rw [this] at i1
        simp [-oIx, -inD, -oEqX, -oNeX, lb_rests_on_0, ix_up, ix_lo, eq_str_b, ne_str_b, c1, c2, i1, c3, l1, l2, nmD]
  · simp [-oIx, -inD, -oEqX, -oNeX, lb_rests_on_0, ix_up, ix_lo, eq_str_b, ne_str_b, c1]
theorem ro_inner (x0 x1 x2 : Sl) (ns : List Str) (hns : ns.length ≤ 1000) (u : Str) : ∀ (js : List Jt) (f l : List Str) (x6 : Sl), (∀ j ∈ js, eqOk j.d = true ∧ (j.lo ≠ Str.ofString "" → j.lo ∈ ns)) → (∀ x ∈ f, eqOk (.str x) = true ∧ x ∈ ns) → f.Nodup → l.length ≤ f.length + 1 →
    ∃ new y6, forL (gN 6) lb_rests_on_0 (js.map Jt.d) [x0, x1, x2, .ow (.lst (f.map nmD)), .ow (.lst (l.map nmD)), .sh (.str u), x6] = some (.nx [x0, x1, x2, .ow (.lst ((f ++ new).map nmD)), .ow (.lst ((l ++ new).map nmD)), .sh (.str u), y6]) ∧ (f ++ new).Nodup ∧ (∀ x ∈ new, Edge js x u ∧ eqOk (.str x) = true ∧ x ∈ ns) ∧ Lows js u (f ++ new)
  | [], f, l, x6, _, _, hn, _ => ⟨[], x6, by simp, by simpa using hn, by simp, fun l ⟨j, hj, _⟩ => by cases hj⟩
  | j :: js, f, l, x6, hj, hf, hn, hl => by
    have b : f.length ≤ 1000 := Nat.le_trans (sub_len hn fun x hx => (hf x hx).2) hns
    have eg : gN 6 (.sh j.d) [x0, x1, x2, .ow (.lst (f.map nmD)), .ow (.lst (l.map nmD)), .sh (.str u), x6] = some (.nx [x0, x1, x2, .ow (.lst (f.map nmD)), .ow (.lst (l.map nmD)), .sh (.str u), .sh j.d]) := by simp
    have eb := ro_body x0 x1 x2 (f := f) (l := l) (u := u) (hj j (.head _)).1 (fun x hx => (hf x hx).1) (Nat.lt_of_le_of_lt b (by decide)) (Nat.lt_of_le_of_lt (Nat.le_trans hl (Nat.succ_le_succ b)) (by decide))
    by_cases c : j.up = u ∧ j.lo ≠ Str.ofString "" ∧ j.lo ∉ f
    · rw [if_pos c] at eb
      have o1 := (jt_strs (hj j (.head _)).1).1
      have o2 := (hj j (.head _)).2 c.2.1
      obtain ⟨new, y6, e, h1, h2, h3⟩ := ro_inner x0 x1 x2 ns hns u js (f ++ [j.lo]) (l ++ [j.lo]) (.sh j.d) (fun k hk => hj k (.tail _ hk)) (fun x hx => by
        rcases List.mem_append.mp hx with hx | hx
        · exact hf x hx
        · rw [List.mem_singleton.mp hx]
          exact ⟨o1, o2⟩) (by
        rw [List.nodup_append]
        refine ⟨hn, by simp, fun a ha b hb e => ?_⟩
        rw [List.mem_singleton.mp hb] at e
        exact c.2.2 (e ▸ ha)) (by simp; omega)
      refine ⟨j.lo :: new, y6, ?_, by simpa using h1, fun x hx => ?_, fun x hx => ?_⟩
      · rw [List.map_cons, forL, eg]
        simp only [eb, e]
        simp
      · rcases List.mem_cons.mp hx with rfl | hx
        · exact ⟨⟨j, .head _, rfl, c.1, c.2.1⟩, o1, o2⟩
        · obtain ⟨⟨k, k1, k2⟩, k3⟩ := h2 x hx
          exact ⟨⟨k, .tail _ k1, k2⟩, k3⟩
      · obtain ⟨k, k1, k2, k3, k4⟩ := hx
        rcases List.mem_cons.mp k1 with rfl | k1
        · rw [← k2]
          simp
        · have := h3 x ⟨k, k1, k2, k3, k4⟩
          simpa using this
    · rw [if_neg c] at eb
      obtain ⟨new, y6, e, h1, h2, h3⟩ := ro_inner x0 x1 x2 ns hns u js f l (.sh j.d) (fun k hk => hj k (.tail _ hk)) hf hn hl
      refine ⟨new, y6, ?_, h1, fun x hx => ?_, fun x hx => ?_⟩
      · rw [List.map_cons, forL, eg]
        simp only [eb, e]
      · obtain ⟨⟨k, k1, k2⟩, k3⟩ := h2 x hx
        exact ⟨⟨k, .tail _ k1, k2⟩, k3⟩
      · obtain ⟨k, k1, k2, k3, k4⟩ := hx
        rcases List.mem_cons.mp k1 with rfl | k1
        · by_cases z : k.lo ∈ f
          · rw [← k2]
            exact List.mem_append_left _ z
          · exact absurd ⟨k3, by rw [k2]; exact k4, z⟩ c
        · exact h3 x ⟨k, k1, k2, k3, k4⟩
theorem ro_while {js : List Jt} (hj : ∀ j ∈ js, eqOk j.d = true) (ns : List Str) (hns : ns.length ≤ 1000) (hjn : ∀ j ∈ js, j.lo ≠ Str.ofString "" → j.lo ∈ ns) (x0 : Sl) (n : Str) (x1 : Sl) : ∀ (m : Nat) (f l : List Str) (x2 x5 x6 : Sl), ShOw x2 (.lst (js.map Jt.d)) → 2 * (1000 - f.length) + l.length ≤ m → (∀ x ∈ f, eqOk (.str x) = true ∧ x ∈ ns) → f.Nodup → l.length ≤ f.length + 1 →
    (∀ x ∈ f, Rest js n x) → (∀ x ∈ l, x ∈ n :: f) → (∀ y ∈ n :: f, y ∉ l → Lows js y f) →
    ∃ f' r, lw_rests_on_1 [x0, x1, x2, .ow (.lst (f.map nmD)), .ow (.lst (l.map nmD)), x5, x6] = some (.nx (x0 :: x1 :: r)) ∧ r[1]? = some (.ow (.lst (f'.map nmD))) ∧ r.length = 5 ∧ f'.Nodup ∧ (∀ x ∈ f', eqOk (.str x) = true) ∧ (∀ x ∈ f', Rest js n x) ∧ (∀ y ∈ n :: f', Lows js y f') := by
  intro m
  induction m with
  | zero =>
    intro f l x2 x5 x6 h2 hm hf hn hl h3 h4 h5
    have : l = [] := List.eq_nil_of_length_eq_zero (by omega)
    subst this
    refine ⟨f, _, sWhile_stop (r1 := [x0, x1, x2, .ow (.lst (f.map nmD)), .ow (.lst ([].map nmD)), x5, x6]) ?_, rfl, rfl, hn, fun x hx => (hf x hx).1, h3, fun y hy => h5 y hy (by simp)⟩
    simp [-oNeX, ne_nil]
  | succ m ih =>
    intro f l x2 x5 x6 h2 hm hf hn hl h3 h4 h5
    rcases List.eq_nil_or_concat l with rfl | ⟨l0, u, rfl⟩
    · refine ⟨f, _, sWhile_stop (r1 := [x0, x1, x2, .ow (.lst (f.map nmD)), .ow (.lst ([].map nmD)), x5, x6]) ?_, rfl, rfl, hn, fun x hx => (hf x hx).1, h3, fun y hy => h5 y hy (by simp)⟩
      simp [-oNeX, ne_nil]
    · have b : f.length ≤ 1000 := Nat.le_trans (sub_len hn fun x hx => (hf x hx).2) hns
      have hl0 : l0.length ≤ f.length + 1 := by simp at hl; omega
      obtain ⟨new, y6, e, g1, g2, g3⟩ := ro_inner x0 x1 (.sh (.lst (js.map Jt.d))) ns hns u js f l0 x6 (fun j h => ⟨hj j h, hjn j h⟩) hf hn hl0
      have b2 : (f ++ new).length ≤ 1000 := Nat.le_trans (sub_len g1 fun x hx => by
        rcases List.mem_append.mp hx with hx | hx
        · exact (hf x hx).2
        · exact (g2 x hx).2.2) hns
      have hu : u ∈ n :: f := h4 u (by simp)
      have ru : ∀ x, Edge js x u → Rest js n x := fun x hx => by
        rcases List.mem_cons.mp hu with rfl | hu
        · exact .one hx
        · exact .step (h3 u hu) hx
      obtain ⟨f', r, w1, w2, w3, w4, w5, w6, w7⟩ := ih (f ++ new) (l0 ++ new) (.sh (.lst (js.map Jt.d))) (.sh (.str u)) y6 (.inl rfl) (by simp at hm b2 ⊢; omega) (fun x hx => by
        rcases List.mem_append.mp hx with hx | hx
        · exact hf x hx
        · exact (g2 x hx).2) g1 (by simp; omega) (fun x hx => by
        rcases List.mem_append.mp hx with hx | hx
        · exact h3 x hx
        · exact ru x (g2 x hx).1) (fun x hx => by
        rcases List.mem_append.mp hx with hx | hx
        · have := h4 x (by simp [hx])
          simp at this ⊢
          rcases this with h | h
          · exact .inl h
          · exact .inr (.inl h)
        · simp [hx]) (fun y hy hyl => by
        by_cases c : y = u
        · subst c
          exact g3
        · intro x hx
          have hyf : y ∈ n :: f := by
            simp at hy hyl ⊢
            rcases hy with h | h | h
            · exact .inl h
            · exact .inr h
            · exact absurd h hyl.2
          exact List.mem_append_left _ (h5 y hyf (by simp at hyl ⊢; exact ⟨hyl.1, c⟩) x hx))
      refine ⟨f', r, ?_, w2, w3, w4, w5, w6, w7⟩
      have l0' : (0 : Nat) ≤ lim := by decide
      refine sWhile_step (r1 := [x0, x1, x2, .ow (.lst (f.map nmD)), .ow (.lst ((l0 ++ [u]).map nmD)), x5, x6]) (r2 := [x0, x1, .sh (.lst (js.map Jt.d)), .ow (.lst ((f ++ new).map nmD)), .ow (.lst ((l0 ++ new).map nmD)), .sh (.str u), y6]) ?_ ?_ w1
      · simp [-oNeX, ne_nil]
      · rcases h2 with rfl | rfl
        · simp [-forL, nmD]
          simp [-forL, nmD] at e
          exact e
        · simp [-forL, nmD]
          simp [-forL, nmD] at e
          exact e
/-- the joints of good parts lead downwards -/
theorem edge_parts {ps : List Prt} {l u : Str} (h : Edge (jointsOf ps) l u) : ∃ p ∈ ps, ∃ q ∈ ps, p.nm = l ∧ q.nm = u ∧ p.top = q.bot := by
  obtain ⟨j, hj, h1, h2, h3⟩ := h
  have hj := jointsOf_mem.mp hj
  unfold rawJ rawU at hj
  rw [List.mem_flatMap] at hj
  obtain ⟨q, hq, hj⟩ := hj
  rcases List.mem_append.mp hj with hj | hj
  · unfold floorJ at hj
    split at hj
    · obtain ⟨a, -, rfl⟩ := List.mem_map.mp hj
      exact absurd h1.symm h3
    · cases hj
  · rw [List.mem_flatMap] at hj
    obtain ⟨p, hp, hj⟩ := hj
    unfold betwJ at hj
    split at hj
    · rename_i c
      obtain ⟨a, -, rfl⟩ := List.mem_map.mp hj
      exact ⟨p, hp, q, hq, h1, h2, c⟩
    · cases hj
theorem Prt.ok.bot_top {p : Prt} (h : p.ok) : p.bot < p.top := by
  cases p with
  | pole n x y lo hi w hh =>
    obtain ⟨-, -, -, h4, -⟩ := h
    simp only [Prt.bot, Prt.top]
    omega
  | board n x y wx len ht w hh =>
    simp only [Prt.bot, Prt.top]
    omega
theorem nm_inj {ps : List Prt} (h : (ps.map Prt.nm).Nodup) {p q : Prt} (hp : p ∈ ps) (hq : q ∈ ps) (e : p.nm = q.nm) : p = q := by
  induction ps with
  | nil => cases hp
  | cons a ps ih =>
    rw [List.map_cons, List.nodup_cons] at h
    rcases List.mem_cons.mp hp with e1 | h1
    · rcases List.mem_cons.mp hq with e2 | h2
      · rw [e1, e2]
      · exact absurd (e1 ▸ e ▸ List.mem_map_of_mem h2) h.1
    · rcases List.mem_cons.mp hq with e2 | h2
      · exact absurd (e2 ▸ e ▸ List.mem_map_of_mem h1) h.1
      · exact ih h.2 h1 h2
theorem rest_low {ps : List Prt} (g : Good ps) {n l : Str} (h : Rest (jointsOf ps) n l) : ∃ p ∈ ps, ∃ q ∈ ps, p.nm = l ∧ q.nm = n ∧ p.bot < q.bot := by
  induction h with
  | one e =>
    obtain ⟨p, hp, q, hq, h1, h2, h3⟩ := edge_parts e
    exact ⟨p, hp, q, hq, h1, h2, by have := (g.ok p hp).bot_top; omega⟩
  | step _ e ih =>
    obtain ⟨p, hp, q, hq, h1, h2, h3⟩ := edge_parts e
    obtain ⟨p', hp', q', hq', k1, k2, k3⟩ := ih
    have : p' = q := nm_inj g.nm hp' hq (k1.trans h2.symm)
    subst this
    exact ⟨p, hp, q', hq', h1, k2, by have := (g.ok p hp).bot_top; omega⟩
theorem rest_irr {ps : List Prt} (g : Good ps) {n : Str} : ¬ Rest (jointsOf ps) n n := fun h => by
  obtain ⟨p, hp, q, hq, h1, h2, h3⟩ := rest_low g h
  have : p = q := nm_inj g.nm hp hq (h1.trans h2.symm)
  subst this
  omega
theorem lo_names {ps : List Prt} {j : Jt} (hj : j ∈ jointsOf ps) (h : j.lo ≠ Str.ofString "") : j.lo ∈ ps.map Prt.nm := by
  obtain ⟨p, hp, q, hq, h1, h2, h3⟩ := edge_parts ⟨j, hj, rfl, rfl, h⟩
  exact h1 ▸ List.mem_map_of_mem hp
/-- sorted names of what a part rests on: any list that has just these -/
theorem rests_prt {ps : List Prt} (fl : D) (g : Good ps) (hf : ps.length ≤ 100) {p : Prt} (hp : p ∈ ps) : ∃ f : List Str, f.Nodup ∧ (∀ x, x ∈ f ↔ Rest (jointsOf ps) p.nm x) ∧ (∀ x ∈ f, eqOk (.str x) = true) ∧ dn_rests_on [.sh (planD ps fl), .sh (.str p.nm)] = some (.ret (.ow (.lst ((sortS f).map nmD))) [.no, .no]) := by
  have j1 := joints_prt fl g.ok hf
  have q1 := part_in fl hp g.nm
  obtain ⟨f, r, w1, w2, w3, w4, w5, w6, w7⟩ := ro_while (js := jointsOf ps) (fun j hj => jointsOf_ok g.ok hj) (ps.map Prt.nm) (by rw [List.length_map]; omega) (fun j hj h => lo_names hj h) (.sh (planD ps fl)) p.nm (.sh (.str p.nm)) 3000 [] [p.nm] (.ow (.lst ((jointsOf ps).map Jt.d))) .no .no (.inr rfl) (by simp) (by simp) (by simp) (by simp) (by simp) (by simp) (by simp)
  have hs := sorted_names (ns := f) w5
  refine ⟨f, w4, fun x => ⟨w6 x, fun h => ?_⟩, w5, ?_⟩
  · induction h with
    | one e => exact w7 _ (.head _) _ e
    | step _ e ih => exact w7 _ (.tail _ ih) _ e
  · have l0 : (0 : Nat) ≤ lim := by decide
    match r, w3, w1, w2 with
    | [a, b, c, d, e], _, w1, w2 =>
      have : b = .ow (.lst (f.map nmD)) := by simpa using w2
      subst this
      rw [hd_rests_on]
      simp only [List.map_nil, List.map_cons] at w1
      have w1' : lw_rests_on_1 [.sh (planD ps fl), .sh (.str p.nm), .ow (.lst ((jointsOf ps).map Jt.d)), .ow (.lst []), .ow (.lst [.str p.nm]), .no, .no] = _ := w1
      simp [-oSorted, st_rests_on_0, st_rests_on_1, st_rests_on_2, st_rests_on_3, st_rests_on_4, st_rests_on_5, pt1, pt2, pt3, q1, j1, l0, l1, w1', hs]
/-! ### as the laws have it -/
theorem _root_.List.append_eq_append_iff_of_notMem {α : Type} {x : α} : ∀ {a b c d : List α}, x ∉ a → x ∉ c → a ++ x :: b = c ++ x :: d → a = c
  | [], _, [], _, _, _, _ => rfl
  | [], _, y :: c, _, _, h2, e => by
    simp at e
    exact absurd (e.1 ▸ .head _) h2
  | y :: a, _, [], _, h1, _, e => by
    simp at e
    exact absurd (e.1 ▸ .head _) h1
  | y :: a, b, z :: c, d, h1, h2, e => by
    simp at e
    rw [e.1, List.append_eq_append_iff_of_notMem (fun q => h1 (.tail _ q)) (fun q => h2 (.tail _ q)) e.2]
theorem lr_body (x0 x1 x3 x6 : Sl) {got : List Str} {l u : Str} (hl : eqOk (.str l) = true) (hu : eqOk (.str u) = true) (hg : ∀ x ∈ got, eqOk (.str x) = true) (lg : got.length < lim) :
    lb__law_rests_0 [x0, x1, .ow (.lst (got.map nmD)), x3, .sh (.str l), .sh (.str u), x6] = some (.nx [x0, x1, .ow (.lst ((if u ∈ got ∧ l ≠ Str.ofString "" ∧ l ∉ got then got ++ [l] else got).map nmD)), x3, .sh (.str l), .sh (.str u), x6]) := by
  obtain ⟨i1, -⟩ := in_lst (chk_strs hu hg)
  obtain ⟨i2, -⟩ := in_lst (chk_strs hl hg)
  by_cases c1 : u ∈ got
  · have z1 : got.contains u = true := by simpa using c1
    rw [z1] at i1
    by_cases c2 : l = Str.ofString ""
    · simp [-inD, -oNeX, lb__law_rests_0, ne_str_b, i1, c1, c2]
    · by_cases c3 : l ∈ got
      · have z2 : got.contains l = true := by simpa using c3
        rw [z2] at i2
        simp [-inD, -oNeX, lb__law_rests_0, ne_str_b, i1, i2, c1, c2, c3]
      · have z2 : got.contains l = false := by simpa using c3
        rw [z2] at i2
        simp [-inD, -oNeX, lb__law_rests_0, ne_str_b, i1, i2, c1, c2, c3, lg, nmD]
  · have z1 : got.contains u = false := by simpa using c1
    rw [z1] at i1
    simp [-inD, -oNeX, lb__law_rests_0, ne_str_b, i1, c1]
/-- one pass -/
theorem lr_inner (x0 x1 x3 : Sl) (ns : List Str) (hns : ns.length ≤ 1000) : ∀ (js : List Jt) (got : List Str) (x4 x5 x6 : Sl), (∀ j ∈ js, eqOk j.d = true ∧ (j.lo ≠ Str.ofString "" → j.lo ∈ ns)) → (∀ x ∈ got, eqOk (.str x) = true ∧ x ∈ ns) → got.Nodup →
    ∃ new y4 y5 y6, forL (gTup [(gN 4), (gN 5), (gN 6)]) lb__law_rests_0 (js.map Jt.d) [x0, x1, .ow (.lst (got.map nmD)), x3, x4, x5, x6] = some (.nx [x0, x1, .ow (.lst ((got ++ new).map nmD)), x3, y4, y5, y6]) ∧ (got ++ new).Nodup ∧ (∀ x ∈ new, eqOk (.str x) = true ∧ x ∈ ns) ∧
      (∀ x ∈ new, ∃ a b, got ++ new = a ++ x :: b ∧ ∃ u ∈ a, Edge js x u) ∧ (new = [] → ∀ y ∈ got, Lows js y got)
  | [], got, x4, x5, x6, _, _, hn => ⟨[], x4, x5, x6, by simp, by simpa using hn, by simp, by simp, fun _ y _ l ⟨j, hj, _⟩ => by cases hj⟩
  | j :: js, got, x4, x5, x6, hj, hf, hn => by
    have b : got.length ≤ 1000 := Nat.le_trans (sub_len hn fun x hx => (hf x hx).2) hns
    obtain ⟨s1, s2⟩ := jt_strs (hj j (.head _)).1
    have eg : gTup [(gN 4), (gN 5), (gN 6)] (.sh j.d) [x0, x1, .ow (.lst (got.map nmD)), x3, x4, x5, x6] = some (.nx [x0, x1, .ow (.lst (got.map nmD)), x3, .sh (.str j.lo), .sh (.str j.up), .sh (plD (j.x, j.y))]) := by simp [Jt.d, plD, pl]
    have eb := lr_body x0 x1 x3 (.sh (plD (j.x, j.y))) s1 s2 (fun x hx => (hf x hx).1) (Nat.lt_of_le_of_lt b (by decide))
    by_cases c : j.up ∈ got ∧ j.lo ≠ Str.ofString "" ∧ j.lo ∉ got
    · rw [if_pos c] at eb
      have o2 := (hj j (.head _)).2 c.2.1
      obtain ⟨new, y4, y5, y6, e, h1, h2, h3, h4⟩ := lr_inner x0 x1 x3 ns hns js (got ++ [j.lo]) (.sh (.str j.lo)) (.sh (.str j.up)) (.sh (plD (j.x, j.y))) (fun k hk => hj k (.tail _ hk)) (fun x hx => by
        rcases List.mem_append.mp hx with hx | hx
        · exact hf x hx
        · rw [List.mem_singleton.mp hx]
          exact ⟨s1, o2⟩) (by
        rw [List.nodup_append]
        refine ⟨hn, by simp, fun a ha b hb e => ?_⟩
        rw [List.mem_singleton.mp hb] at e
        exact c.2.2 (e ▸ ha))
      refine ⟨j.lo :: new, y4, y5, y6, ?_, by simpa using h1, fun x hx => ?_, fun x hx => ?_, fun z => by cases z⟩
      · rw [List.map_cons, forL, eg]
        simp only [eb, e]
        simp
      · rcases List.mem_cons.mp hx with rfl | hx
        · exact ⟨s1, o2⟩
        · exact h2 x hx
      · rcases List.mem_cons.mp hx with rfl | hx
        · exact ⟨got, new, rfl, j.up, c.1, j, .head _, rfl, rfl, c.2.1⟩
        · obtain ⟨a, b, k1, u, k2, k, k3, k4⟩ := h3 x hx
          exact ⟨a, b, by simpa using k1, u, k2, k, .tail _ k3, k4⟩
    · rw [if_neg c] at eb
      obtain ⟨new, y4, y5, y6, e, h1, h2, h3, h4⟩ := lr_inner x0 x1 x3 ns hns js got (.sh (.str j.lo)) (.sh (.str j.up)) (.sh (plD (j.x, j.y))) (fun k hk => hj k (.tail _ hk)) hf hn
      refine ⟨new, y4, y5, y6, ?_, h1, h2, fun x hx => ?_, fun z y hy l hl => ?_⟩
      · rw [List.map_cons, forL, eg]
        simp only [eb, e]
      · obtain ⟨a, b, k1, u, k2, k, k3, k4⟩ := h3 x hx
        exact ⟨a, b, k1, u, k2, k, .tail _ k3, k4⟩
      · obtain ⟨k, k1, k2, k3, k4⟩ := hl
        rcases List.mem_cons.mp k1 with rfl | k1
        · by_cases q : k.lo ∈ got
          · rw [← k2]
            exact q
          · exact absurd ⟨by rw [k3]; exact hy, by rw [k2]; exact k4, q⟩ c
        · exact h4 z y hy l ⟨k, k1, k2, k3, k4⟩
structure GotI (js : List Jt) (n : Str) (ns : List Str) (k : Nat) (got : List Str) : Prop where
  hd : ∃ t, got = n :: t
  nd : got.Nodup
  ok : ∀ x ∈ got, eqOk (.str x) = true ∧ x ∈ ns
  rs : ∀ x ∈ got, x = n ∨ Rest js n x
  go : (∀ y ∈ got, Lows js y got) ∨ k + 1 ≤ got.length
theorem lr_loop {js : List Jt} (hj : ∀ j ∈ js, eqOk j.d = true) (ns : List Str) (hns : ns.length ≤ 1000) (hjn : ∀ j ∈ js, j.lo ≠ Str.ofString "" → j.lo ∈ ns) (n : Str) (x1 : Sl) : ∀ (m k : Nat) (got : List Str) (x3 x4 x5 x6 : Sl), GotI js n ns k got → ∃ got' r, GotI js n ns (k + m) got' ∧ r.length = 4 ∧
    forL (gN 3) lb__law_rests_1 (rangeD k m) [.sh (.lst (js.map Jt.d)), x1, .ow (.lst (got.map nmD)), x3, x4, x5, x6] = some (.nx (.sh (.lst (js.map Jt.d)) :: x1 :: .ow (.lst (got'.map nmD)) :: r))
  | 0, k, got, x3, x4, x5, x6, h => ⟨got, [x3, x4, x5, x6], h, rfl, rfl⟩
  | m + 1, k, got, x3, x4, x5, x6, h => by
    obtain ⟨new, y4, y5, y6, e, h1, h2, h3, h4⟩ := lr_inner (.sh (.lst (js.map Jt.d))) x1 (.sh (.int k)) ns hns js got x4 x5 x6 (fun j q => ⟨hj j q, hjn j q⟩) h.ok h.nd
    have rs : ∀ x ∈ got ++ new, x = n ∨ Rest js n x := by
      have key : ∀ (t : Nat) (a b : List Str), a.length ≤ t → got ++ new = a ++ b → ∀ x ∈ a, x = n ∨ Rest js n x := by
        intro t
        induction t with
        | zero =>
          intro a b ha _ x hx
          have : a = [] := List.eq_nil_of_length_eq_zero (by omega)
          rw [this] at hx
          cases hx
        | succ t ih =>
          intro a b ha eab x hx
          have hx' : x ∈ got ++ new := by
            rw [eab]
            exact List.mem_append_left _ hx
          rcases List.mem_append.mp hx' with hg | hg
          · exact h.rs x hg
          · obtain ⟨a', b', k1, u, k2, k3⟩ := h3 x hg
            have la : a'.length < a.length := by
              -- x stands just once
              have e2 : a' ++ x :: b' = a ++ b := k1.symm.trans eab
              obtain ⟨a1, a2, rfl⟩ := List.append_of_mem hx
              have nd : (a' ++ x :: b').Nodup := k1 ▸ h1
              have : a' = a1 := by
                have e3 : a' ++ x :: b' = a1 ++ x :: (a2 ++ b) := by rw [e2]; simp
                have n1 : x ∉ a' := fun q => by
                  rw [List.nodup_append] at nd
                  exact nd.2.2 x q x (.head _) rfl
                have n2 : x ∉ a1 := fun q => by
                  rw [e3, List.nodup_append] at nd
                  exact nd.2.2 x q x (.head _) rfl
                exact (List.append_eq_append_iff_of_notMem n1 n2 e3)
              rw [this]
              simp
            have hu := ih a' (x :: b') (by omega) k1 u k2
            rcases hu with rfl | hu
            · exact .inr (.one k3)
            · exact .inr (.step hu k3)
      intro x hx
      exact key (got ++ new).length (got ++ new) [] (Nat.le_refl _) (by simp) x hx
    have hi : GotI js n ns (k + 1) (got ++ new) := ⟨by
      obtain ⟨t, ht⟩ := h.hd
      exact ⟨t ++ new, by rw [ht]; rfl⟩, h1, fun x hx => by
      rcases List.mem_append.mp hx with hx | hx
      · exact h.ok x hx
      · exact h2 x hx, rs, by
      by_cases c : new = []
      · subst c
        left
        simpa using h4 rfl
      · rcases h.go with z | z
        · exfalso
          obtain ⟨x, hx⟩ : ∃ x, x ∈ new := List.exists_mem_of_ne_nil _ c
          have nd := h1
          rw [List.nodup_append] at nd
          -- the first new one stands behind one of got
          cases new with
          | nil => exact c rfl
          | cons y new =>
            obtain ⟨a, b, k1, u, k2, k3⟩ := h3 y (.head _)
            have ny : y ∉ got := fun q => nd.2.2 y q y (.head _) rfl
            have na : y ∉ a := fun q => by
              have nd2 : (a ++ y :: b).Nodup := k1 ▸ h1
              rw [List.nodup_append] at nd2
              exact nd2.2.2 y q y (.head _) rfl
            have : got = a := List.append_eq_append_iff_of_notMem ny na k1
            exact ny (z u (this ▸ k2) y k3)
        · right
          have : 0 < new.length := List.length_pos_iff.mpr c
          simp
          omega⟩
    obtain ⟨got', r, g1, g2, g3⟩ := lr_loop hj ns hns hjn n x1 m (k + 1) (got ++ new) (.sh (.int k)) y4 y5 y6 hi
    refine ⟨got', r, by rw [show k + (m + 1) = k + 1 + m by omega]; exact g1, g2, ?_⟩
    rw [range_cons, forL]
    have eg : gN 3 (.sh (.int k)) [.sh (.lst (js.map Jt.d)), x1, .ow (.lst (got.map nmD)), x3, x4, x5, x6] = some (.nx [.sh (.lst (js.map Jt.d)), x1, .ow (.lst (got.map nmD)), .sh (.int k), x4, x5, x6]) := by simp
    have eb : lb__law_rests_1 [.sh (.lst (js.map Jt.d)), x1, .ow (.lst (got.map nmD)), .sh (.int k), x4, x5, x6] = some (.nx [.sh (.lst (js.map Jt.d)), x1, .ow (.lst ((got ++ new).map nmD)), .sh (.int k), y4, y5, y6]) := by
      simp [-forL, -gTup, lb__law_rests_1]
      simp [-forL, -gTup] at e
      exact e
    rw [eg]
    simp only [eb]
    exact g3
theorem got_done {js : List Jt} {n : Str} {ns : List Str} {got : List Str} (h : GotI js n ns (js.length + 1) got) (irr : ¬ Rest js n n) : ∃ t, got = n :: t ∧ t.Nodup ∧ (∀ x, x ∈ t ↔ Rest js n x) ∧ ∀ x ∈ t, eqOk (.str x) = true := by
  obtain ⟨t, rfl⟩ := h.hd
  have nd := List.nodup_cons.mp h.nd
  have ht : ∀ x ∈ t, Rest js n x := fun x hx => by
    rcases h.rs x (.tail _ hx) with rfl | z
    · exact absurd hx nd.1
    · exact z
  have hlo : ∀ x ∈ t, x ∈ js.map Jt.lo := fun x hx => by
    have hr := ht x hx
    have : ∃ u, Edge js x u := by
      cases hr with
      | one e => exact ⟨_, e⟩
      | step _ e => exact ⟨_, e⟩
    obtain ⟨u, j, hj, h1, -⟩ := this
    exact h1 ▸ List.mem_map_of_mem hj
  have hl := sub_len nd.2 hlo
  rw [List.length_map] at hl
  have cl : ∀ y ∈ n :: t, Lows js y (n :: t) := by
    rcases h.go with z | z
    · exact z
    · rw [List.length_cons] at z
      omega
  refine ⟨t, rfl, nd.2, fun x => ⟨ht x, fun hr => ?_⟩, fun x hx => (h.ok x (.tail _ hx)).1⟩
  have hm : x ∈ n :: t := by
    induction hr with
    | one e => exact cl _ (.head _) _ e
    | step _ e ih => exact cl _ ih _ e
  rcases List.mem_cons.mp hm with rfl | hm
  · exact absurd hr irr
  · exact hm
theorem wR1_of {a : A} {r r1 : Py.Env} {x : Py.Arg} {j : Int} (h : a r = some (.ok x r1)) (hd : Arg.dat r1 x = some (D.int j)) (hs : small62 j = true) : wR1 a r = some (.ok (rangeD 0 j.toNat, []) r1) := by
  simp only [wR1, asC, asN, M.bind, M.pure, h, M.get, dats, hd, hs, if_true]
theorem sForI_of {w : Wk} {g : G} {b : S} {r r1 : Py.Env} {ds : List D} {ks : List Sl} {x : Py.Flow} (h : w r = some (.ok (ds, ks) r1)) (hf : forL g b ds r1 = some x) : sForI w g b r = some x := by
  simp only [sForI, sE, h, hf]
theorem law_rests_run {js : List Jt} (hj : js.length ≤ 900) {n : Str} {t : List Str} (t3 : ∀ x ∈ t, eqOk (.str x) = true) {r : Py.Env} (h3 : forL (gN 3) lb__law_rests_1 (rangeD ((0 : Nat) : Int) (js.length + 1)) [.sh (.lst (js.map Jt.d)), .sh (.str n), .ow (.lst ([n].map nmD)), .no, .no, .no, .no] = some (.nx (.sh (.lst (js.map Jt.d)) :: .sh (.str n) :: .ow (.lst ((n :: t).map nmD)) :: r))) :
    dn__law_rests [.sh (.lst (js.map Jt.d)), .sh (.str n)] = some (.ret (.ow (.lst ((sortS t).map nmD))) [.no, .no]) := by
  have hs := sorted_names (ns := t) t3
  have hsm : small62 ((js.length : Int) + 1) = true := small_of (by omega) (by omega)
  have e : ((js.length : Int) + 1).toNat = js.length + 1 := by omega
  have ct : cutD (.str n :: t.map nmD) (some 1) none = t.map nmD := by
    have := cut_from (.str n :: t.map nmD) 1 (by simp)
    simpa using this
  have h3' : forL (gN 3) lb__law_rests_1 (rangeD 0 (js.length + 1)) [.sh (.lst (js.map Jt.d)), .sh (.str n), .ow (.lst [.str n]), .no, .no, .no, .no] = some (.nx (.sh (.lst (js.map Jt.d)) :: .sh (.str n) :: .ow (.lst (.str n :: t.map nmD)) :: r)) := h3
  generalize sortS t = st at hs ⊢
  have q0 : st__law_rests_0 [.sh (.lst (js.map Jt.d)), .sh (.str n), .no, .no, .no, .no, .no] = some (.nx [.sh (.lst (js.map Jt.d)), .sh (.str n), .ow (.lst [.str n]), .no, .no, .no, .no]) := by simp [st__law_rests_0, l1]
  have q1 : st__law_rests_1 [.sh (.lst (js.map Jt.d)), .sh (.str n), .ow (.lst [.str n]), .no, .no, .no, .no] = some (.nx (.sh (.lst (js.map Jt.d)) :: .sh (.str n) :: .ow (.lst (.str n :: t.map nmD)) :: r)) := by
    refine sForI_of (r1 := [.sh (.lst (js.map Jt.d)), .sh (.str n), .ow (.lst [.str n]), .no, .no, .no, .no]) (ks := []) (ds := rangeD 0 ((js.length : Int) + 1).toNat) (wR1_of (x := .v (.sh (.int ((js.length : Int) + 1)))) ?_ rfl hsm) ?_
    · simp
    · rw [e]
      exact h3'
  have q2 : st__law_rests_2 (.sh (.lst (js.map Jt.d)) :: .sh (.str n) :: .ow (.lst (.str n :: t.map nmD)) :: r) = some (.rt (.ow (.lst (st.map nmD))) (.sh (.lst (js.map Jt.d)) :: .sh (.str n) :: .ow (.lst (.str n :: t.map nmD)) :: r)) := by
    simp [-oSorted, st__law_rests_2, ct, hs]
  rw [hd__law_rests]
  have start : ([.sh (.lst (js.map Jt.d)), .sh (.str n)] : List Sl) ++ List.replicate (7 - 2) .no = [.sh (.lst (js.map Jt.d)), .sh (.str n), .no, .no, .no, .no, .no] := rfl
  simp only [mkFn, List.length_cons, List.length_nil, Nat.zero_add, if_true, start, sSeq, q0, q1, q2]
  simp
theorem law_rests_prt {ps : List Prt} (g : Good ps) (hf : ps.length ≤ 100) (hj : (jointsOf ps).length ≤ 900) {p : Prt} (hp : p ∈ ps) : ∃ f : List Str, f.Nodup ∧ (∀ x, x ∈ f ↔ Rest (jointsOf ps) p.nm x) ∧ (∀ x ∈ f, eqOk (.str x) = true) ∧ dn__law_rests [.sh (.lst ((jointsOf ps).map Jt.d)), .sh (.str p.nm)] = some (.ret (.ow (.lst ((sortS f).map nmD))) [.no, .no]) := by
  have on : eqOk (.str p.nm) = true := str_eqOk (name_ok (g.ok p hp))
  obtain ⟨got, r, h1, h2, h3⟩ := lr_loop (js := jointsOf ps) (fun j hj => jointsOf_ok g.ok hj) (ps.map Prt.nm) (by rw [List.length_map]; omega) (fun j hj h => lo_names hj h) p.nm (.sh (.str p.nm)) ((jointsOf ps).length + 1) 0 [p.nm] .no .no .no .no ⟨⟨[], rfl⟩, by simp, fun x hx => by
    rw [List.mem_singleton.mp hx]
    exact ⟨on, List.mem_map_of_mem hp⟩, fun x hx => .inl (List.mem_singleton.mp hx), .inr (by simp)⟩
  rw [Nat.zero_add] at h1
  obtain ⟨t, rfl, t1, t2, t3⟩ := got_done h1 (rest_irr g)
  refine ⟨t, t1, t2, t3, ?_⟩
  exact law_rests_run hj t3 h3
/-- both tell the same -/
theorem rests_same {js : List Jt} {n : Str} {f f' : List Str} (h1 : f.Nodup) (h2 : ∀ x, x ∈ f ↔ Rest js n x) (h3 : f'.Nodup) (h4 : ∀ x, x ∈ f' ↔ Rest js n x) : sortS f = sortS f' :=
  lin_S.sort_perm ((List.perm_ext_iff_of_nodup h1 h3).mpr fun x => (h2 x).trans (h4 x).symm)
end Sc

namespace L_k23
open PySem Py Sc
set_option maxRecDepth 10000
set_option linter.all false
noncomputable def st__law_is_list_0 : S := (sRet (eAnd (eOp (asC (aR 0) asN) (oIsi .list)) (eOp (asC (aR 0) (asC (aR 1) asN)) oEqX)))
theorem hd__law_is_list : dn__law_is_list = mkFn 2 [false, false] st__law_is_list_0 := rfl
noncomputable def lc_law_0 : E := (eLc (wSeq (eVar 1)) (gN 12) tYesE (eOp (asC (aR 12) (asC (aV (eC (.int 1))) asN)) oIx) [12])
noncomputable def lc_law_1 : E := (eLc (wSeq (eVar 4)) (gN 13) tYesE (eOp (asC (aR 13) (asC (aV (eC (.int 1))) asN)) oIx) [13])
noncomputable def lc_law_2 : E := (eLc (wSeq (eVar 5)) (gN 10) (tV (eOp (asC (aR 10) (asC (aR 6) asN)) oNotIn)) (eVar 10) [10])
noncomputable def lb_law_0 : S := (sSeq (sAsg (eCall Sc.dn_rests_on (asC (aV (eVar 3)) (asC (aV (eVar 10)) asN))) (gN 11)) (sSeq (sIf (tNot (tV (heldE 11 (eCall dn__law_is_list (asC (aR 11) (asC (aV (eCall Sc.dn__law_rests (asC (aV (eVar 4)) (asC (aV (eVar 10)) asN)))) asN)))))) (sRet (eC (.bl false))) sPass) (sSeq (sAppend 11 (eC (.str "more"))) (sIf (tNot (tV (eCall dn__law_is_list (asC (aV (eCall Sc.dn_rests_on (asC (aV (eVar 3)) (asC (aV (eVar 10)) asN)))) (asC (aV (eCall Sc.dn__law_rests (asC (aV (eVar 4)) (asC (aV (eVar 10)) asN)))) asN))))) (sRet (eC (.bl false))) sPass))))
noncomputable def st_law_0 : S := (sAsg (eCall Sc.dn__law_parts (asC (aV (eCall Sc.dn__law_purse (asC (aV (eCall Sc.dn__law_at (asC (aV (eVar 0)) (asC (aV (eC (.int 0))) asN)))) asN))) (asC (aV (eC (.int 16))) asN))) (gN 1))
noncomputable def st_law_1 : S := (sAsg (eCall Sc.dn__law_purse (asC (aV (eCall Sc.dn__law_at (asC (aV (eVar 0)) (asC (aV (eC (.int 1))) asN)))) asN)) (gN 2))
noncomputable def st_law_2 : S := (sAsg (eShr (eMake "Plan" Sc.dn_Plan___init__ (asC (aV (eVar 1)) (asC (aV (eCall Sc.dn__law_fraction (asC (aR 2) (asC (aV (eC (.int 0))) asN)))) asN)))) (gN 3))
noncomputable def st_law_3 : S := (sAsg (eCall Sc.dn__law_joints_v1 (asC (aV (eVar 1)) asN)) (gN 4))
noncomputable def st_law_4 : S := (sAsg lc_law_0 (gN 5))
noncomputable def st_law_5 : S := (sAsg lc_law_1 (gN 6))
noncomputable def st_law_6 : S := (sAsg (eOp (asC (aV lc_law_2) asN) oSorted) (gN 7))
noncomputable def st_law_7 : S := (sAsg (eCall Sc.dn_loose (asC (aV (eVar 3)) asN)) (gN 8))
noncomputable def st_law_8 : S := (sIf (tNot (tV (heldE 8 (eCall dn__law_is_list (asC (aR 8) (asC (aV (eVar 7)) asN)))))) (sRet (eC (.bl false))) sPass)
noncomputable def st_law_9 : S := (sAppend 8 (eC (.str "more")))
noncomputable def st_law_10 : S := (sAsg (eCall Sc.dn__law_take (asC (aR 2) (asC (aV (eOp (asC (aV (eC (.int 1))) (asC (aV (eOp (asC (aR 5) asN) oLen)) asN)) oAdd)) asN))) (gN 9))
noncomputable def st_law_11 : S := (sForI (wSeq (eOp (asC (aV (eSl (aR 5) (oaS (aR 9)) oaN oSlice)) (asC (aV (eSl (aR 5) oaN (oaS (aR 9)) oSlice)) asN)) oAdd)) (gN 10) lb_law_0)
noncomputable def st_law_12 : S := (sRet (eCall dn__law_is_list (asC (aV (eCall Sc.dn_loose (asC (aV (eVar 3)) asN))) (asC (aV (eVar 7)) asN))))
theorem hd_law : dn_law = mkFn 14 [false] (sSeq st_law_0 (sSeq st_law_1 (sSeq st_law_2 (sSeq st_law_3 (sSeq st_law_4 (sSeq st_law_5 (sSeq st_law_6 (sSeq st_law_7 (sSeq st_law_8 (sSeq st_law_9 (sSeq st_law_10 (sSeq st_law_11 st_law_12)))))))))))) := rfl
theorem L_cut_lo (xs : List D) {d : Int} (h0 : 0 ≤ d) (h1 : d ≤ xs.length) : cutD xs none (some d) = xs.take d.toNat := by
  unfold cutD
  simp only [slIx, List.drop_zero, Nat.sub_zero]
  rw [if_neg (by omega), Nat.min_eq_left (by omega)]
theorem L_cut_hi (xs : List D) {d : Int} (h0 : 0 ≤ d) (h1 : d ≤ xs.length) : cutD xs (some d) none = xs.drop d.toNat := by
  obtain ⟨n, rfl⟩ : ∃ n : Nat, d = n := ⟨d.toNat, by omega⟩
  exact cut_from xs n (by omega)
def Vw (x : Sl) (d : D) : Prop := x = .sh d ∨ x = .ow d ∨ x = .bw (.ow d)
theorem names_ok' {ns : List Str} (h : ∀ n ∈ ns, eqOk (.str n) = true) : eqOk (.lst (ns.map nmD)) = true := eqOk_lst (fun d hd => by
  obtain ⟨n, hn, rfl⟩ := List.mem_map.mp hd
  have := h n hn
  unfold eqOk at this
  exact (Bool.and_eq_true_iff.mp this).1) (fun d hd => by
  obtain ⟨n, hn, rfl⟩ := List.mem_map.mp hd
  simp [nmD])
theorem is_list_ok {x0 x1 : Sl} {ds : List D} (h0 : Vw x0 (.lst ds)) (h1 : Vw x1 (.lst ds)) (h : eqOk (.lst ds) = true) : dn__law_is_list [x0, x1] = some (.ret (.sh (.bl true)) [.no, .no]) := by
  have e := Sc.eq_self h
  rcases h0 with rfl | rfl | rfl <;> rcases h1 with rfl | rfl | rfl <;> simp [-oEqX, dn__law_is_list, e]
theorem sort_ok {ns : List Str} (h : ∀ n ∈ ns, eqOk (.str n) = true) : ∀ n ∈ sortS ns, eqOk (.str n) = true := fun n hn => h n ((List.mergeSort_perm ns leS).mem_iff.mp hn)
structure St where
  ps : List Prt
  fl : D
  g : Good ps
  l16 : ps.length ≤ 16
  j100 : (jointsOf ps).length ≤ 100
abbrev St.told (s : St) : D := .lst ((jointsOf s.ps).map Jt.d)
theorem loop_body (s : St) {p : Prt} (hp : p ∈ s.ps) (x0 x1 x2 x5 x6 x7 x8 x9 x11 : Sl) {x4 : Sl} (h4 : ShOw x4 s.told) : ∃ y11, lb_law_0 [x0, x1, x2, .sh (planD s.ps s.fl), x4, x5, x6, x7, x8, x9, .sh (.str p.nm), x11, .no, .no] = some (.nx [x0, x1, x2, .sh (planD s.ps s.fl), .sh s.told, x5, x6, x7, x8, x9, .sh (.str p.nm), y11, .no, .no]) := by
  obtain ⟨ps, fl, g, l16, j100⟩ := s
  have f100 : ps.length ≤ 100 := by omega
  obtain ⟨f, f1, f2, f3, e1⟩ := rests_prt fl g f100 hp
  obtain ⟨f', k1, k2, k3, e2⟩ := law_rests_prt g f100 (by omega) hp
  have es := rests_same f1 f2 k1 k2
  rw [← es] at e2
  have ok := names_ok' (sort_ok f3)
  have i1 := is_list_ok (x0 := .bw (.ow (.lst ((sortS f).map nmD)))) (x1 := .ow (.lst ((sortS f).map nmD))) (.inr (.inr rfl)) (.inr (.inl rfl)) ok
  have i2 := is_list_ok (x0 := .ow (.lst ((sortS f).map nmD))) (x1 := .ow (.lst ((sortS f).map nmD))) (.inr (.inl rfl)) (.inr (.inl rfl)) ok
  have hl : (sortS f).length < lim := by
    have : (sortS f).length = f.length := (List.mergeSort_perm f leS).length_eq
    have b := sub_len f1 (ys := ps.map Prt.nm) fun x hx => by
      obtain ⟨q, hq, -, -, h1, -⟩ := rest_low g ((f2 x).mp hx)
      exact h1 ▸ List.mem_map_of_mem hq
    rw [List.length_map] at b
    exact Nat.lt_of_le_of_lt (show _ ≤ 100 by omega) (by decide)
  refine ⟨.ow (.lst ((sortS f).map nmD ++ [.str "more"])), ?_⟩
  simp only [St.told] at h4 ⊢
  generalize jointsOf ps = js at e2 h4 ⊢
  generalize sortS f = sf at e1 e2 i1 i2 hl ⊢
  rcases h4 with rfl | rfl <;> simp [lb_law_0, e1, e2, i1, i2, hl]
theorem loop_all (s : St) (x0 x1 x2 x5 x6 x7 x8 x9 : Sl) : ∀ (qs : List Prt) (x4 x10 x11 : Sl), (∀ p ∈ qs, p ∈ s.ps) → ShOw x4 s.told → ∃ y4 y10 y11, ShOw y4 s.told ∧ forL (gN 10) lb_law_0 (qs.map fun p => .str p.nm) [x0, x1, x2, .sh (planD s.ps s.fl), x4, x5, x6, x7, x8, x9, x10, x11, .no, .no] = some (.nx [x0, x1, x2, .sh (planD s.ps s.fl), y4, x5, x6, x7, x8, x9, y10, y11, .no, .no])
  | [], x4, x10, x11, _, h4 => ⟨x4, x10, x11, h4, rfl⟩
  | p :: qs, x4, x10, x11, h, h4 => by
    obtain ⟨z11, e1⟩ := loop_body s (h p (.head _)) x0 x1 x2 x5 x6 x7 x8 x9 x11 h4
    obtain ⟨y4, y10, y11, g4, e2⟩ := loop_all s x0 x1 x2 x5 x6 x7 x8 x9 qs (.sh s.told) (.sh (.str p.nm)) z11 (fun q hq => h q (.tail _ hq)) (.inl rfl)
    refine ⟨y4, y10, y11, g4, ?_⟩
    rw [List.map_cons, forL]
    have eg : gN 10 (.sh (.str p.nm)) [x0, x1, x2, .sh (planD s.ps s.fl), x4, x5, x6, x7, x8, x9, x10, x11, .no, .no] = some (.nx [x0, x1, x2, .sh (planD s.ps s.fl), x4, x5, x6, x7, x8, x9, .sh (.str p.nm), x11, .no, .no]) := by simp
    rw [eg]
    simp only [e1, e2]
theorem st6_ok {r : Py.Env} {x0 x1 x2 x3 x4 x5 x6 : Sl} {F : List D} {du : Sl} (k : lc_law_2 r = some (.ok (.ow (.lst F)) [x0, x1, x2, x3, x4, x5, x6, .no, .no, .no, .no, .no, .no, .no])) (hs : oSorted [.lst F] = some du) : st_law_6 r = some (.nx [x0, x1, x2, x3, x4, x5, x6, du, .no, .no, .no, .no, .no, .no]) := by
  simp [-oSorted, st_law_6, k, hs]
theorem st7_ok (x0 x1 x2 x4 x5 x6 x7 : Sl) {p du : D} (lo : dn_loose [.sh p] = some (.ret (.ow du) [.no])) : st_law_7 [x0, x1, x2, .sh p, x4, x5, x6, x7, .no, .no, .no, .no, .no, .no] = some (.nx [x0, x1, x2, .sh p, x4, x5, x6, x7, .ow du, .no, .no, .no, .no, .no]) := by
  simp [st_law_7, lo]
theorem st8_ok (x0 x1 x2 x3 x4 x5 x6 : Sl) {du : D} (il : dn__law_is_list [.bw (.ow du), .sh du] = some (.ret (.sh (.bl true)) [.no, .no])) : st_law_8 [x0, x1, x2, x3, x4, x5, x6, .ow du, .ow du, .no, .no, .no, .no, .no] = some (.nx [x0, x1, x2, x3, x4, x5, x6, .sh du, .ow du, .no, .no, .no, .no, .no]) := by
  simp [st_law_8, il]
theorem st10_ok (x0 x1 x3 x4 x6 x7 x8 : Sl) {Q Q2 : D} {ds : List D} {d : Int} (e : dn__law_take [.ow Q, .sh (.int (1 + (ds.length : Int)))] = some (.ret (.sh (.int d)) [.ow Q2, .no])) : st_law_10 [x0, x1, .ow Q, x3, x4, .sh (.lst ds), x6, x7, x8, .no, .no, .no, .no, .no] = some (.nx [x0, x1, .ow Q2, x3, x4, .sh (.lst ds), x6, x7, x8, .sh (.int d), .no, .no, .no, .no]) := by
  simp [st_law_10, e]
theorem st12_ok (x0 x1 x2 x4 x5 x6 x8 x9 x10 x11 : Sl) {p du : D} (lo : dn_loose [.sh p] = some (.ret (.ow du) [.no])) (il : dn__law_is_list [.ow du, .sh du] = some (.ret (.sh (.bl true)) [.no, .no])) : st_law_12 [x0, x1, x2, .sh p, x4, x5, x6, .sh du, x8, x9, x10, x11, .no, .no] = some (.rt (.sh (.bl true)) [x0, x1, x2, .sh p, x4, x5, x6, .sh du, x8, x9, x10, x11, .no, .no]) := by
  simp [st_law_12, lo, il]
theorem law_true (ns : List Int) (hl : ns.length ≤ 63) : ∃ ps, dn_law [.sh (.scr (ns.map .int))] = some (.ret (.sh (.bl true)) ps) := by
  obtain ⟨c, hc⟩ := at_int ns 0
  obtain ⟨c2, hc2⟩ := at_int ns 1
  have hc' : dn__law_at [.sh (.scr (ns.map .int)), .sh (.int 0)] = _ := hc
  have hc2' : dn__law_at [.sh (.scr (ns.map .int)), .sh (.int 1)] = _ := hc2
  obtain ⟨P, p0, e0⟩ := purse_new c
  obtain ⟨ps, P1, p1, g, gl, gj, e1⟩ := parts_prt p0 (m := 16) (by decide)
  have e1' : dn__law_parts [.ow P, .sh (.int 16)] = _ := e1
  obtain ⟨Q, q0, e2⟩ := purse_new c2
  obtain ⟨fl, Q1, qp1, f1, f2, f3, f4, e3⟩ := frac_prt q0 (lo := 0) (by decide) (by decide)
  have f5 : isFloor fl = true := by simp [isFloor, f1, f3]
  have jv := joints_v1_prt (ps := ps) (x0 := .sh (.lst (ps.map Prt.d))) (.inr (.inl rfl)) g.ok (by omega)
  have i1 := plan_init g f2 f5 (.sh (.lst (ps.map Prt.d))) (.inr (.inl rfl))
  let s : St := ⟨ps, fl, g, gl, gj⟩
  let s0 : Sl := .sh (.scr (ns.map .int))
  let pl : Sl := .sh (planD ps fl)
  let pt : Sl := .sh (.lst (ps.map Prt.d))
  let nm : D := .lst (ps.map fun p => .str p.nm)
  have lo1 := loose_prt fl g.ok (by omega : ps.length ≤ 100)
  have lok := names_ok' (ns := looseOf ps) (sort_ok fun n hn => nm_eqOk g.ok (List.mem_filter.mp hn).1)
  have llen : (looseOf ps).length < lim := by
    have : (looseOf ps).length ≤ 16 := by
      unfold looseOf
      rw [show (sortS ((ps.map Prt.nm).filter fun n => !((jointsOf ps).map Jt.up).contains n)).length = ((ps.map Prt.nm).filter fun n => !((jointsOf ps).map Jt.up).contains n).length from (List.mergeSort_perm _ leS).length_eq]
      refine Nat.le_trans (List.length_filter_le _ _) ?_
      rw [List.length_map]
      exact gl
    exact Nat.lt_of_le_of_lt this (by decide)
  have q0 : st_law_0 [s0, .no, .no, .no, .no, .no, .no, .no, .no, .no, .no, .no, .no, .no] = some (.nx [s0, .ow (.lst (ps.map Prt.d)), .no, .no, .no, .no, .no, .no, .no, .no, .no, .no, .no, .no]) := by simp [st_law_0, s0, hc', e0, e1']
  have q1 : st_law_1 [s0, .ow (.lst (ps.map Prt.d)), .no, .no, .no, .no, .no, .no, .no, .no, .no, .no, .no, .no] = some (.nx [s0, .ow (.lst (ps.map Prt.d)), .ow Q, .no, .no, .no, .no, .no, .no, .no, .no, .no, .no, .no]) := by simp [st_law_1, s0, hc2', e2]
  have q2 : st_law_2 [s0, .ow (.lst (ps.map Prt.d)), .ow Q, .no, .no, .no, .no, .no, .no, .no, .no, .no, .no, .no] = some (.nx [s0, pt, .ow Q1, pl, .no, .no, .no, .no, .no, .no, .no, .no, .no, .no]) := by simp [st_law_2, e3, i1, pt, pl]
  have q3 : st_law_3 [s0, pt, .ow Q1, pl, .no, .no, .no, .no, .no, .no, .no, .no, .no, .no] = some (.nx [s0, pt, .ow Q1, pl, .ow s.told, .no, .no, .no, .no, .no, .no, .no, .no, .no]) := by simp [st_law_3, jv, pt, s]
  have k0 : lc_law_0 [s0, pt, .ow Q1, pl, .ow s.told, .no, .no, .no, .no, .no, .no, .no, .no, .no] = some (.ok (.ow nm) [s0, pt, .ow Q1, pl, .ow s.told, .no, .no, .no, .no, .no, .no, .no, .no, .no]) :=
    eLc_of (ks := [pt]) Prt.d (fun p => .str p.nm) ps (by simp [pt]) (by simp) (fun p _ => by simp [-oIx, ix_name]) (by exact Nat.le_trans gl (by decide))
  have q4 : st_law_4 [s0, pt, .ow Q1, pl, .ow s.told, .no, .no, .no, .no, .no, .no, .no, .no, .no] = some (.nx [s0, pt, .ow Q1, pl, .ow s.told, .ow nm, .no, .no, .no, .no, .no, .no, .no, .no]) := by simp [st_law_4, k0]
  have k1 : lc_law_1 [s0, pt, .ow Q1, pl, .ow s.told, .ow nm, .no, .no, .no, .no, .no, .no, .no, .no] = some (.ok (.ow (.lst (((jointsOf ps).map Jt.up).map nmD))) [s0, pt, .ow Q1, pl, .sh s.told, .ow nm, .no, .no, .no, .no, .no, .no, .no, .no]) := by
    have := eLc_of (n := gN 13) (m := eOp (asC (aR 13) (asC (aV (eC (.int 1))) asN)) oIx) (vs := [13]) (w := wSeq (eVar 4)) (r := [s0, pt, .ow Q1, pl, .ow s.told, .ow nm, .no, .no, .no, .no, .no, .no, .no, .no]) (r1 := [s0, pt, .ow Q1, pl, .sh s.told, .ow nm, .no, .no, .no, .no, .no, .no, .no, .no]) (ks := [.sh s.told]) Jt.d (fun j => nmD j.up) (jointsOf ps) (by simp [s]) (by simp) (fun j _ => by simp [-oIx, ix_up, nmD]) (Nat.le_trans gj (by decide))
    rw [List.map_map]
    exact this
  let br : Sl := .ow (.lst (((jointsOf ps).map Jt.up).map nmD))
  have q5 : st_law_5 [s0, pt, .ow Q1, pl, .ow s.told, .ow nm, .no, .no, .no, .no, .no, .no, .no, .no] = some (.nx [s0, pt, .ow Q1, pl, .sh s.told, .ow nm, br, .no, .no, .no, .no, .no, .no, .no]) := by simp only [st_law_5, sAsg, sE, k1]; rfl
  have k2 : lc_law_2 [s0, pt, .ow Q1, pl, .sh s.told, .ow nm, .ow (.lst (((jointsOf ps).map Jt.up).map nmD)), .no, .no, .no, .no, .no, .no, .no] = some (.ok (.ow (.lst (((ps.map Prt.nm).filter fun n => !((jointsOf ps).map Jt.up).contains n).map nmD))) [s0, pt, .ow Q1, pl, .sh s.told, .sh nm, .ow (.lst (((jointsOf ps).map Jt.up).map nmD)), .no, .no, .no, .no, .no, .no, .no]) := by
    have enm : (ps.map Prt.nm).map nmD = ps.map fun p => .str p.nm := by rw [List.map_map]; rfl
    exact eLc_filt (ks := [.sh nm]) nmD nmD (fun n => !((jointsOf ps).map Jt.up).contains n) (ps.map Prt.nm) (by rw [enm]; simp [nm]) (by simp) (fun n hn => by
      obtain ⟨i1, -⟩ := in_lst (chk_strs (nm_eqOk g.ok hn) fun u hu => ups_ok g.ok hu)
      generalize (jointsOf ps).map Jt.up = us at i1 ⊢
      cases c : us.contains n
      · rw [c] at i1
        simp [-inD, i1, nmD]
      · rw [c] at i1
        simp [-inD, i1, nmD]) (by rw [List.length_map]; exact Nat.le_trans gl (by decide))
  have hs := sorted_names (ns := (ps.map Prt.nm).filter fun n => !((jointsOf ps).map Jt.up).contains n) fun n hn => nm_eqOk g.ok (List.mem_filter.mp hn).1
  have hs' : oSorted [.lst (((ps.map Prt.nm).filter fun n => !((jointsOf ps).map Jt.up).contains n).map nmD)] = some (.ow (.lst ((looseOf ps).map nmD))) := hs
  let du : D := .lst ((looseOf ps).map nmD)
  have q6 : st_law_6 [s0, pt, .ow Q1, pl, .sh s.told, .ow nm, br, .no, .no, .no, .no, .no, .no, .no] = some (.nx [s0, pt, .ow Q1, pl, .sh s.told, .sh nm, br, .ow du, .no, .no, .no, .no, .no, .no]) := st6_ok k2 hs'
  have q7 : st_law_7 [s0, pt, .ow Q1, pl, .sh s.told, .sh nm, br, .ow du, .no, .no, .no, .no, .no, .no] = some (.nx [s0, pt, .ow Q1, pl, .sh s.told, .sh nm, br, .ow du, .ow du, .no, .no, .no, .no, .no]) := st7_ok _ _ _ _ _ _ _ lo1
  have il1 := is_list_ok (x0 := .bw (.ow du)) (x1 := .sh du) (.inr (.inr rfl)) (.inl rfl) lok
  have il2 := is_list_ok (x0 := .ow du) (x1 := .sh du) (.inr (.inl rfl)) (.inl rfl) lok
  have q8 : st_law_8 [s0, pt, .ow Q1, pl, .sh s.told, .sh nm, br, .ow du, .ow du, .no, .no, .no, .no, .no] = some (.nx [s0, pt, .ow Q1, pl, .sh s.told, .sh nm, br, .sh du, .ow du, .no, .no, .no, .no, .no]) := st8_ok _ _ _ _ _ _ _ il1
  let fs : Sl := .ow (.lst ((looseOf ps).map nmD ++ [.str "more"]))
  have q9 : st_law_9 [s0, pt, .ow Q1, pl, .sh s.told, .sh nm, br, .sh du, .ow du, .no, .no, .no, .no, .no] = some (.nx [s0, pt, .ow Q1, pl, .sh s.told, .sh nm, br, .sh du, fs, .no, .no, .no, .no, .no]) := by
    simp [st_law_9, du, llen, fs]
  obtain ⟨d1, Q2, q2', a1, b1, e5⟩   := take qp1 (1 + (ps.length : Int)) (by omega) (sm_few (by omega) (by omega))
  have q10 : st_law_10 [s0, pt, .ow Q1, pl, .sh s.told, .sh nm, br, .sh du, fs, .no, .no, .no, .no, .no] = some (.nx [s0, pt, .ow Q2, pl, .sh s.told, .sh nm, br, .sh du, fs, .sh (.int d1), .no, .no, .no, .no]) := st10_ok _ _ _ _ _ _ _ (by rw [List.length_map]; exact e5)
  obtain ⟨y4, y10, y11, g4, e6⟩ := loop_all s s0 pt (.ow Q2) (.sh nm) br (.sh du) fs (.sh (.int d1)) (ps.drop d1.toNat ++ ps.take d1.toNat) (.sh s.told) .no .no (fun p hp => by
    rcases List.mem_append.mp hp with hp | hp
    · exact List.mem_of_mem_drop hp
    · exact List.mem_of_mem_take hp) (.inl rfl)
  have q11 : st_law_11 [s0, pt, .ow Q2, pl, .sh s.told, .sh nm, br, .sh du, fs, .sh (.int d1), .no, .no, .no, .no] = some (.nx [s0, pt, .ow Q2, pl, y4, .sh nm, br, .sh du, fs, .sh (.int d1), y10, y11, .no, .no]) := by
    have c1 := L_cut_hi (ps.map fun p => D.str p.nm) a1 (by simp; omega)
    have c2 := L_cut_lo (ps.map fun p => D.str p.nm) a1 (by simp; omega)
    have w : wSeq (eOp (asC (aV (eSl (aR 5) (oaS (aR 9)) oaN oSlice)) (asC (aV (eSl (aR 5) oaN (oaS (aR 9)) oSlice)) asN)) oAdd) [s0, pt, .ow Q2, pl, .sh s.told, .sh nm, br, .sh du, fs, .sh (.int d1), .no, .no, .no, .no] = some (.ok ((ps.drop d1.toNat ++ ps.take d1.toNat).map (fun p => D.str p.nm), [.ow (.lst ((ps.drop d1.toNat ++ ps.take d1.toNat).map fun p => D.str p.nm))]) [s0, pt, .ow Q2, pl, .sh s.told, .sh nm, br, .sh du, fs, .sh (.int d1), .no, .no, .no, .no]) := by
      have lz : ps.length - d1.toNat + min d1.toNat ps.length ≤ lim := Nat.le_trans (show _ ≤ 100 by omega) (by decide)
      simp [nm, c1, c2, lz]
    exact sForI_of w e6
  have q12 : st_law_12 [s0, pt, .ow Q2, pl, y4, .sh nm, br, .sh du, fs, .sh (.int d1), y10, y11, .no, .no] = some (.rt (.sh (.bl true)) [s0, pt, .ow Q2, pl, y4, .sh nm, br, .sh du, fs, .sh (.int d1), y10, y11, .no, .no]) := st12_ok _ _ _ _ _ _ _ _ _ _ lo1 il2
  rw [hd_law]
  refine ⟨[.no], ?_⟩
  have start : ([.sh (.scr (ns.map .int))] : List Sl) ++ List.replicate (14 - 1) .no = [s0, .no, .no, .no, .no, .no, .no, .no, .no, .no, .no, .no, .no, .no] := rfl
  simp only [mkFn, List.length_cons, List.length_nil, Nat.zero_add, if_true, start, sSeq, q0, q1, q2, q3, q4, q5, q6, q7, q8, q9, q10, q11, q12]
  simp
end L_k23

set_option Elab.async false
set_option linter.all false
set_option maxRecDepth 100000
set_option maxHeartbeats 0
namespace L_k23
open PySem PySem.Spec PyProof.Rows L2 Py
def df (n : Str) (i : Nat) : He.DefD := ⟨(n, none), n, n, defArgs (top i), defBody (top i), defScope (top i), [], []⟩
def dm (c m qn : Str) (i j : Nat) : He.DefD := ⟨(c, some m), m, qn, defArgs (mt i j), defBody (mt i j), defScope (mt i j), [], []⟩
def fn : List He.DefD := ([df "is_whole" 7, df "common_part" 8, df "is_fraction" 9, df "is_less" 10, df "is_name" 18, df "is_within" 19, df "are_weights" 20, df "is_pole" 21, df "ends_within" 22, df "is_plank" 23, df "is_part" 24, df "is_board" 25, df "name_of" 26, df "bottom_of" 27, df "top_of" 28, df "places_of" 29, df "joints_between" 32, df "joints_with_floor" 33, dm "Plan" "parts" "Plan.parts" 42 1, df "joints" 34] : List He.DefD) ++ ([dm "Plan" "names" "Plan.names" 42 3, df "loose" 35, dm "Plan" "part" "Plan.part" 42 4, df "rests_on" 36, df "is_floor" 38, df "want_parts" 39, df "do_clash" 40, df "want_room" 41, dm "Plan" "__init__" "Plan.__init__" 42 0, dm "Plan" "floor" "Plan.floor" 42 2, df "_law_at" 44, df "_law_purse" 45, df "_law_take" 46, df "_law_fraction" 47, df "_law_name" 48, df "_law_places" 49, df "_law_bottom" 50, df "_law_top" 51, df "_law_joints" 52, df "_law_has_room" 53] : List He.DefD) ++ ([df "_law_start" 54, df "_law_part" 55, df "_law_parts" 56, df "_law_rests" 57, df "_law_is_list" 58, df "law" 59, dm "Clash" "__init__" "Clash.__init__" 3 0, dm "NoPart" "__init__" "NoPart.__init__" 2 0] : List He.DefD)
def fs : List FactK := ([fun K => (He.Fa.glo "is_whole").ok K,
  fun K => (He.Fa.glo "common_part").ok K,
  fun K => (He.Fa.glo "is_fraction").ok K,
  fun K => (He.Fa.glo "is_less").ok K,
  fun K => (He.Fa.glo "is_name").ok K,
  fun K => (He.Fa.glo "is_within").ok K,
  fun K => (He.Fa.glo "are_weights").ok K,
  fun K => (He.Fa.glo "is_pole").ok K,
  fun K => (He.Fa.glo "ends_within").ok K,
  fun K => (He.Fa.glo "is_plank").ok K,
  fun K => (He.Fa.glo "is_part").ok K,
  fun K => (He.Fa.glo "is_board").ok K,
  fun K => (He.Fa.glo "name_of").ok K,
  fun K => (He.Fa.glo "bottom_of").ok K,
  fun K => (He.Fa.glo "top_of").ok K,
  fun K => (He.Fa.glo "places_of").ok K,
  fun K => (He.Fa.glo "joints_between").ok K,
  fun K => (He.Fa.glo "joints_with_floor").ok K,
  fun K => (He.Fa.meth "Plan" "parts").ok K,
  fun K => (He.Fa.glo "joints").ok K] : List FactK) ++ ([fun K => (He.Fa.meth "Plan" "names").ok K,
  fun K => (He.Fa.glo "loose").ok K,
  fun K => (He.Fa.meth "Plan" "part").ok K,
  fun K => (He.Fa.glo "rests_on").ok K,
  fun K => (He.Fa.glo "is_floor").ok K,
  fun K => (He.Fa.glo "want_parts").ok K,
  fun K => (He.Fa.glo "do_clash").ok K,
  fun K => (He.Fa.glo "want_room").ok K,
  fun K => (He.Fa.mkr "Plan").ok K,
  fun K => (He.Fa.meth "Plan" "floor").ok K,
  fun K => (He.Fa.glo "_law_at").ok K,
  fun K => (He.Fa.glo "_law_purse").ok K,
  fun K => (He.Fa.glo "_law_take").ok K,
  fun K => (He.Fa.glo "_law_fraction").ok K,
  fun K => (He.Fa.glo "_law_name").ok K,
  fun K => (He.Fa.glo "_law_places").ok K,
  fun K => (He.Fa.glo "_law_bottom").ok K,
  fun K => (He.Fa.glo "_law_top").ok K,
  fun K => (He.Fa.glo "_law_joints").ok K,
  fun K => (He.Fa.glo "_law_has_room").ok K] : List FactK) ++ ([fun K => (He.Fa.glo "_law_start").ok K,
  fun K => (He.Fa.glo "_law_part").ok K,
  fun K => (He.Fa.glo "_law_parts").ok K,
  fun K => (He.Fa.glo "_law_rests").ok K,
  fun K => (He.Fa.glo "_law_is_list").ok K,
  fun K => (He.Fa.glo "law").ok K,
  fun K => (He.Fa.cls "Plan").ok K,
  fun K => (He.Fa.noat "Plan" "by_name").ok K,
  fun K => (He.Fa.noat "Plan" "own_floor").ok K,
  fun K => (He.Fa.noat "Plan" "own_parts").ok K,
  fun K => oexB K (He.ga K "Clash"),
  fun K => baseB K (He.ga K "ScaffoldError"),
  fun K => He.eqO (PySem.W.findIn K (.ref (He.ga K "Clash")) "one") (some none),
  fun K => He.eqO (PySem.W.findIn K (.ref (He.ga K "Clash")) "other") (some none),
  fun K => He.eqO (PySem.W.findIn K (.ref (He.ga K "Clash")) "__init__") (some (some (.ref (He.ma K (He.ga K "Clash") "__init__")))) && decide (PySem.W.typeIn K (.ref (He.ma K (He.ga K "Clash") "__init__")) = some (.type "function")),
  fun K => oexB K (He.ga K "NoPart"),
  fun K => baseB K (He.ga K "ScaffoldError"),
  fun K => He.eqO (PySem.W.findIn K (.ref (He.ga K "NoPart")) "number") (some none),
  fun K => He.eqO (PySem.W.findIn K (.ref (He.ga K "NoPart")) "__init__") (some (some (.ref (He.ma K (He.ga K "NoPart") "__init__")))) && decide (PySem.W.typeIn K (.ref (He.ma K (He.ga K "NoPart") "__init__")) = some (.type "function")),
  fun K => (He.Fa.free "abs").ok K] : List FactK) ++ ([fun K => (He.Fa.free "all").ok K,
  fun K => (He.Fa.free "any").ok K,
  fun K => (He.Fa.free "bool").ok K,
  fun K => (He.Fa.free "enumerate").ok K,
  fun K => (He.Fa.free "int").ok K,
  fun K => (He.Fa.free "isinstance").ok K,
  fun K => (He.Fa.free "len").ok K,
  fun K => (He.Fa.free "list").ok K,
  fun K => (He.Fa.free "max").ok K,
  fun K => (He.Fa.free "min").ok K,
  fun K => (He.Fa.free "range").ok K,
  fun K => (He.Fa.free "sorted").ok K,
  fun K => (He.Fa.free "str").ok K,
  fun K => (He.Fa.free "tuple").ok K,
  fun K => (He.Fa.glo "ScaffoldError").ok K,
  fun K => (He.Fa.glo "NoPart").ok K,
  fun K => (He.Fa.glo "Clash").ok K,
  fun K => (He.Fa.glo "NoName").ok K,
  fun K => (He.Fa.glo "Plan").ok K,
  fun K => conK "BOARD" (.str "board") K] : List FactK) ++ ([fun K => conK "FLOOR" (.str "") K,
  fun K => conK "LETTERS" (.str "abcdefghijklmnopqrstuvwxyz") K,
  fun K => conK "MOST" (.int 20) K,
  fun K => conK "MOST_LETTERS" (.int 8) K,
  fun K => conK "NOUGHT" (.tup [(.int 0), (.int 1)]) K,
  fun K => conK "POLE" (.str "pole") K,
  fun K => conK "WAYS" (.tup [(.str "x"), (.str "y")]) K,
  fun K => (He.Fa.exc "NoName").ok K] : List FactK)
abbrev Rw : PySem.W.OpenRow := PySem.W.OpenLaw.row PySem.Challenge.rw_scaffold_k23_loose_rests_on
abbrev hk : PySem.W.Hook := hookZ 5 fs fn
def ob (s : PySem.W.SharedT) : He.AlD := obsZG 5 fs fn (HandSHeadRun.getT s)
theorem ob_eq (s : PySem.W.SharedT) : ob s = hk.obs s.abs := obsZG_eq (HandSHeadRun.getT_eq s)
def loose : List PySem.Str := (["ScaffoldError", "NoPart", "Clash", "NoName", "NOUGHT", "is_whole", "common_part", "is_fraction", "is_less", "POLE", "BOARD", "WAYS", "LETTERS", "MOST_LETTERS", "MOST", "is_name", "is_within", "are_weights", "is_pole", "ends_within"] : List PySem.Str) ++ (["is_plank", "is_part", "is_board", "name_of", "bottom_of", "top_of", "places_of", "FLOOR", "joints_between", "joints_with_floor", "joints", "loose", "rests_on", "is_floor", "want_parts", "do_clash", "want_room", "Plan", "_law_at", "_law_purse"] : List PySem.Str) ++ (["_law_take", "_law_fraction", "_law_name", "_law_places", "_law_bottom", "_law_top", "_law_joints", "_law_has_room", "_law_start", "_law_part", "_law_parts", "_law_rests", "_law_is_list"] : List PySem.Str)
theorem run (w : World) : HandSHeadRun.RunEq Rw (PySem.W.view Rw.prog [59]) hk ob 40000 loose w := by
  intro os
  kernel_rfl
/-- the classes that may be raised -/
def clK (K : PySem.W.Frag) : Str → Option Addr := fun x => if x = ("Clash" : Str) then some (He.ga K "Clash") else if x = ("NoName" : Str) then some (He.ga K "NoName") else if x = ("NoPart" : Str) then some (He.ga K "NoPart") else if x = ("Plan" : Str) then some (He.ga K "Plan") else  none
theorem clK_some {K : PySem.W.Frag} {c : Str} {C : Addr} (h : clK K c = some C) : (c = ("Clash" : Str) ∧ C = He.ga K "Clash") ∨ (c = ("NoName" : Str) ∧ C = He.ga K "NoName") ∨ (c = ("NoPart" : Str) ∧ C = He.ga K "NoPart") ∨ (c = ("Plan" : Str) ∧ C = He.ga K "Plan") := by
  unfold clK at h
  by_cases e0 : c = ("Clash" : Str)
  · rw [if_pos e0] at h
    exact .inl ⟨e0, (Option.some.inj h).symm⟩
  rw [if_neg e0] at h
  by_cases e1 : c = ("NoName" : Str)
  · rw [if_pos e1] at h
    exact .inr (.inl ⟨e1, (Option.some.inj h).symm⟩)
  rw [if_neg e1] at h
  by_cases e2 : c = ("NoPart" : Str)
  · rw [if_pos e2] at h
    exact .inr (.inr (.inl ⟨e2, (Option.some.inj h).symm⟩))
  rw [if_neg e2] at h
  by_cases e3 : c = ("Plan" : Str)
  · rw [if_pos e3] at h
    exact .inr (.inr (.inr (⟨e3, (Option.some.inj h).symm⟩)))
  rw [if_neg e3] at h
  cases h
section
variable {P : Program} {w : World} {K : PySem.W.Frag} {h : Heap} {mg : Str → Option Value}
theorem tx (X : K.In h) (G : h.Ns mainGlobals mg) (c : SaysX fs fn K) : Tx K mg (clK K) where
  n_abs := He.free_ok X G (c.fact 59 rfl)
  n_all := He.free_ok X G (c.fact 60 rfl)
  n_any := He.free_ok X G (c.fact 61 rfl)
  n_bool := He.free_ok X G (c.fact 62 rfl)
  n_enumerate := He.free_ok X G (c.fact 63 rfl)
  n_int := He.free_ok X G (c.fact 64 rfl)
  n_isinstance := He.free_ok X G (c.fact 65 rfl)
  n_len := He.free_ok X G (c.fact 66 rfl)
  n_list := He.free_ok X G (c.fact 67 rfl)
  n_max := He.free_ok X G (c.fact 68 rfl)
  n_min := He.free_ok X G (c.fact 69 rfl)
  n_range := He.free_ok X G (c.fact 70 rfl)
  n_sorted := He.free_ok X G (c.fact 71 rfl)
  n_str := He.free_ok X G (c.fact 72 rfl)
  n_tuple := He.free_ok X G (c.fact 73 rfl)
  g_ScaffoldError := He.glo_ok X G (c.fact 74 rfl)
  g_NoPart := He.glo_ok X G (c.fact 75 rfl)
  g_Clash := He.glo_ok X G (c.fact 76 rfl)
  g_NoName := He.glo_ok X G (c.fact 77 rfl)
  g_Plan := He.glo_ok X G (c.fact 78 rfl)
  k_BOARD := con_ok X G (c.fact 79 rfl)
  k_FLOOR := con_ok X G (c.fact 80 rfl)
  k_LETTERS := con_ok X G (c.fact 81 rfl)
  k_MOST := con_ok X G (c.fact 82 rfl)
  k_MOST_LETTERS := con_ok X G (c.fact 83 rfl)
  k_NOUGHT := con_ok X G (c.fact 84 rfl)
  k_POLE := con_ok X G (c.fact 85 rfl)
  k_WAYS := con_ok X G (c.fact 86 rfl)
  c_Clash := by unfold clK;  rw [if_pos rfl]
  c_NoName := by unfold clK; rw [if_neg (by decide)]; rw [if_pos rfl]
  e_NoName := He.exc_ok (c.fact 87 rfl)
  c_NoPart := by unfold clK; rw [if_neg (by decide)]; rw [if_neg (by decide)]; rw [if_pos rfl]
  c_Plan := by unfold clK; rw [if_neg (by decide)]; rw [if_neg (by decide)]; rw [if_neg (by decide)]; rw [if_pos rfl]
  o_Plan := He.cls_ok (c.fact 46 rfl)
  a_Plan_by_name := He.noat_ok (c.fact 47 rfl)
  a_Plan_own_floor := He.noat_ok (c.fact 48 rfl)
  a_Plan_own_parts := He.noat_ok (c.fact 49 rfl)
theorem facts {fa : Addr} (X : K.In h) (G : h.Ns mainGlobals mg) (hfa : mg ("law" : Str) = some (.ref fa)) (c : SaysX fs fn K) :
    ∃ fd : FuncData, (∀ (s : Shared) (v : Value), BindsTo s fd ⟨[v], []⟩ [("_law_script", v)]) ∧ ∀ base : Heap, K.In base → base.Ns mainGlobals mg → FnOk P w K mg base (L2.CX P w) 9 fa fd ["_law_script"] (spF ⟨K, clK K⟩ 1 dn_law) := by
  have T := tx X G c
  obtain ⟨fd_is_whole, D_is_whole⟩ := c.def_ 0 (d := df "is_whole" 7) rfl
  have F_is_whole := fun_of_D (st := (top 7)) D_is_whole
  have g_is_whole := He.glo_ok X G (c.fact 0 rfl)
  have b_is_whole := F_is_whole.binds (ps := ["thing"]) fun _ _ _ _ _ _ us hl => match us, hl with | [_], _ => rfl
  obtain ⟨fd_common_part, D_common_part⟩ := c.def_ 1 (d := df "common_part" 8) rfl
  have F_common_part := fun_of_D (st := (top 8)) D_common_part
  have g_common_part := He.glo_ok X G (c.fact 1 rfl)
  have b_common_part := F_common_part.binds (ps := ["one", "other"]) fun _ _ _ _ _ _ us hl => match us, hl with | [_, _], _ => rfl
  obtain ⟨fd_is_fraction, D_is_fraction⟩ := c.def_ 2 (d := df "is_fraction" 9) rfl
  have F_is_fraction := fun_of_D (st := (top 9)) D_is_fraction
  have g_is_fraction := He.glo_ok X G (c.fact 2 rfl)
  have b_is_fraction := F_is_fraction.binds (ps := ["thing"]) fun _ _ _ _ _ _ us hl => match us, hl with | [_], _ => rfl
  obtain ⟨fd_is_less, D_is_less⟩ := c.def_ 3 (d := df "is_less" 10) rfl
  have F_is_less := fun_of_D (st := (top 10)) D_is_less
  have g_is_less := He.glo_ok X G (c.fact 3 rfl)
  have b_is_less := F_is_less.binds (ps := ["one", "other"]) fun _ _ _ _ _ _ us hl => match us, hl with | [_, _], _ => rfl
  obtain ⟨fd_is_name, D_is_name⟩ := c.def_ 4 (d := df "is_name" 18) rfl
  have F_is_name := fun_of_D (st := (top 18)) D_is_name
  have g_is_name := He.glo_ok X G (c.fact 4 rfl)
  have b_is_name := F_is_name.binds (ps := ["thing"]) fun _ _ _ _ _ _ us hl => match us, hl with | [_], _ => rfl
  obtain ⟨fd_is_within, D_is_within⟩ := c.def_ 5 (d := df "is_within" 19) rfl
  have F_is_within := fun_of_D (st := (top 19)) D_is_within
  have g_is_within := He.glo_ok X G (c.fact 5 rfl)
  have b_is_within := F_is_within.binds (ps := ["thing", "least"]) fun _ _ _ _ _ _ us hl => match us, hl with | [_, _], _ => rfl
  obtain ⟨fd_are_weights, D_are_weights⟩ := c.def_ 6 (d := df "are_weights" 20) rfl
  have F_are_weights := fun_of_D (st := (top 20)) D_are_weights
  have g_are_weights := He.glo_ok X G (c.fact 6 rfl)
  have b_are_weights := F_are_weights.binds (ps := ["weight", "hold"]) fun _ _ _ _ _ _ us hl => match us, hl with | [_, _], _ => rfl
  obtain ⟨fd_is_pole, D_is_pole⟩ := c.def_ 7 (d := df "is_pole" 21) rfl
  have F_is_pole := fun_of_D (st := (top 21)) D_is_pole
  have g_is_pole := He.glo_ok X G (c.fact 7 rfl)
  have b_is_pole := F_is_pole.binds (ps := ["thing"]) fun _ _ _ _ _ _ us hl => match us, hl with | [_], _ => rfl
  obtain ⟨fd_ends_within, D_ends_within⟩ := c.def_ 8 (d := df "ends_within" 22) rfl
  have F_ends_within := fun_of_D (st := (top 22)) D_ends_within
  have g_ends_within := He.glo_ok X G (c.fact 8 rfl)
  have b_ends_within := F_ends_within.binds (ps := ["x", "y", "way", "length"]) fun _ _ _ _ _ _ us hl => match us, hl with | [_, _, _, _], _ => rfl
  obtain ⟨fd_is_plank, D_is_plank⟩ := c.def_ 9 (d := df "is_plank" 23) rfl
  have F_is_plank := fun_of_D (st := (top 23)) D_is_plank
  have g_is_plank := He.glo_ok X G (c.fact 9 rfl)
  have b_is_plank := F_is_plank.binds (ps := ["thing"]) fun _ _ _ _ _ _ us hl => match us, hl with | [_], _ => rfl
  obtain ⟨fd_is_part, D_is_part⟩ := c.def_ 10 (d := df "is_part" 24) rfl
  have F_is_part := fun_of_D (st := (top 24)) D_is_part
  have g_is_part := He.glo_ok X G (c.fact 10 rfl)
  have b_is_part := F_is_part.binds (ps := ["thing"]) fun _ _ _ _ _ _ us hl => match us, hl with | [_], _ => rfl
  obtain ⟨fd_is_board, D_is_board⟩ := c.def_ 11 (d := df "is_board" 25) rfl
  have F_is_board := fun_of_D (st := (top 25)) D_is_board
  have g_is_board := He.glo_ok X G (c.fact 11 rfl)
  have b_is_board := F_is_board.binds (ps := ["part"]) fun _ _ _ _ _ _ us hl => match us, hl with | [_], _ => rfl
  obtain ⟨fd_name_of, D_name_of⟩ := c.def_ 12 (d := df "name_of" 26) rfl
  have F_name_of := fun_of_D (st := (top 26)) D_name_of
  have g_name_of := He.glo_ok X G (c.fact 12 rfl)
  have b_name_of := F_name_of.binds (ps := ["part"]) fun _ _ _ _ _ _ us hl => match us, hl with | [_], _ => rfl
  obtain ⟨fd_bottom_of, D_bottom_of⟩ := c.def_ 13 (d := df "bottom_of" 27) rfl
  have F_bottom_of := fun_of_D (st := (top 27)) D_bottom_of
  have g_bottom_of := He.glo_ok X G (c.fact 13 rfl)
  have b_bottom_of := F_bottom_of.binds (ps := ["part"]) fun _ _ _ _ _ _ us hl => match us, hl with | [_], _ => rfl
  obtain ⟨fd_top_of, D_top_of⟩ := c.def_ 14 (d := df "top_of" 28) rfl
  have F_top_of := fun_of_D (st := (top 28)) D_top_of
  have g_top_of := He.glo_ok X G (c.fact 14 rfl)
  have b_top_of := F_top_of.binds (ps := ["part"]) fun _ _ _ _ _ _ us hl => match us, hl with | [_], _ => rfl
  obtain ⟨fd_places_of, D_places_of⟩ := c.def_ 15 (d := df "places_of" 29) rfl
  have F_places_of := fun_of_D (st := (top 29)) D_places_of
  have g_places_of := He.glo_ok X G (c.fact 15 rfl)
  have b_places_of := F_places_of.binds (ps := ["part"]) fun _ _ _ _ _ _ us hl => match us, hl with | [_], _ => rfl
  obtain ⟨fd_joints_between, D_joints_between⟩ := c.def_ 16 (d := df "joints_between" 32) rfl
  have F_joints_between := fun_of_D (st := (top 32)) D_joints_between
  have g_joints_between := He.glo_ok X G (c.fact 16 rfl)
  have b_joints_between := F_joints_between.binds (ps := ["lower", "upper"]) fun _ _ _ _ _ _ us hl => match us, hl with | [_, _], _ => rfl
  obtain ⟨fd_joints_with_floor, D_joints_with_floor⟩ := c.def_ 17 (d := df "joints_with_floor" 33) rfl
  have F_joints_with_floor := fun_of_D (st := (top 33)) D_joints_with_floor
  have g_joints_with_floor := He.glo_ok X G (c.fact 17 rfl)
  have b_joints_with_floor := F_joints_with_floor.binds (ps := ["part"]) fun _ _ _ _ _ _ us hl => match us, hl with | [_], _ => rfl
  obtain ⟨fd_Plan_parts, D_Plan_parts⟩ := c.def_ 18 (d := dm "Plan" "parts" "Plan.parts" 42 1) rfl
  have F_Plan_parts := fun_of_D (st := (mt 42 1)) D_Plan_parts
  have g_Plan_parts := He.meth_ok (c.fact 18 rfl)
  have b_Plan_parts := F_Plan_parts.binds (ps := ["self"]) fun _ _ _ _ _ _ us hl => match us, hl with | [_], _ => rfl
  obtain ⟨fd_joints, D_joints⟩ := c.def_ 19 (d := df "joints" 34) rfl
  have F_joints := fun_of_D (st := (top 34)) D_joints
  have g_joints := He.glo_ok X G (c.fact 19 rfl)
  have b_joints := F_joints.binds (ps := ["plan"]) fun _ _ _ _ _ _ us hl => match us, hl with | [_], _ => rfl
  obtain ⟨fd_Plan_names, D_Plan_names⟩ := c.def_ 20 (d := dm "Plan" "names" "Plan.names" 42 3) rfl
  have F_Plan_names := fun_of_D (st := (mt 42 3)) D_Plan_names
  have g_Plan_names := He.meth_ok (c.fact 20 rfl)
  have b_Plan_names := F_Plan_names.binds (ps := ["self"]) fun _ _ _ _ _ _ us hl => match us, hl with | [_], _ => rfl
  obtain ⟨fd_loose, D_loose⟩ := c.def_ 21 (d := df "loose" 35) rfl
  have F_loose := fun_of_D (st := (top 35)) D_loose
  have g_loose := He.glo_ok X G (c.fact 21 rfl)
  have b_loose := F_loose.binds (ps := ["plan"]) fun _ _ _ _ _ _ us hl => match us, hl with | [_], _ => rfl
  obtain ⟨fd_Plan_part, D_Plan_part⟩ := c.def_ 22 (d := dm "Plan" "part" "Plan.part" 42 4) rfl
  have F_Plan_part := fun_of_D (st := (mt 42 4)) D_Plan_part
  have g_Plan_part := He.meth_ok (c.fact 22 rfl)
  have b_Plan_part := F_Plan_part.binds (ps := ["self", "name"]) fun _ _ _ _ _ _ us hl => match us, hl with | [_, _], _ => rfl
  obtain ⟨fd_rests_on, D_rests_on⟩ := c.def_ 23 (d := df "rests_on" 36) rfl
  have F_rests_on := fun_of_D (st := (top 36)) D_rests_on
  have g_rests_on := He.glo_ok X G (c.fact 23 rfl)
  have b_rests_on := F_rests_on.binds (ps := ["plan", "name"]) fun _ _ _ _ _ _ us hl => match us, hl with | [_, _], _ => rfl
  obtain ⟨fd_is_floor, D_is_floor⟩ := c.def_ 24 (d := df "is_floor" 38) rfl
  have F_is_floor := fun_of_D (st := (top 38)) D_is_floor
  have g_is_floor := He.glo_ok X G (c.fact 24 rfl)
  have b_is_floor := F_is_floor.binds (ps := ["thing"]) fun _ _ _ _ _ _ us hl => match us, hl with | [_], _ => rfl
  obtain ⟨fd_want_parts, D_want_parts⟩ := c.def_ 25 (d := df "want_parts" 39) rfl
  have F_want_parts := fun_of_D (st := (top 39)) D_want_parts
  have g_want_parts := He.glo_ok X G (c.fact 25 rfl)
  have b_want_parts := F_want_parts.binds (ps := ["parts"]) fun _ _ _ _ _ _ us hl => match us, hl with | [_], _ => rfl
  obtain ⟨fd_do_clash, D_do_clash⟩ := c.def_ 26 (d := df "do_clash" 40) rfl
  have F_do_clash := fun_of_D (st := (top 40)) D_do_clash
  have g_do_clash := He.glo_ok X G (c.fact 26 rfl)
  have b_do_clash := F_do_clash.binds (ps := ["one", "other"]) fun _ _ _ _ _ _ us hl => match us, hl with | [_, _], _ => rfl
  obtain ⟨fd_want_room, D_want_room⟩ := c.def_ 27 (d := df "want_room" 41) rfl
  have F_want_room := fun_of_D (st := (top 41)) D_want_room
  have g_want_room := He.glo_ok X G (c.fact 27 rfl)
  have b_want_room := F_want_room.binds (ps := ["parts"]) fun _ _ _ _ _ _ us hl => match us, hl with | [_], _ => rfl
  obtain ⟨fd_Plan___init__, D_Plan___init__⟩ := c.def_ 28 (d := dm "Plan" "__init__" "Plan.__init__" 42 0) rfl
  have F_Plan___init__ := fun_of_D (st := (mt 42 0)) D_Plan___init__
  have g_Plan___init__ := He.mkr_ok (c.fact 28 rfl)
  have b_Plan___init__ := F_Plan___init__.binds (ps := ["self", "parts", "floor"]) fun _ _ _ _ _ _ us hl => match us, hl with | [_, _, _], _ => rfl
  obtain ⟨fd_Plan_floor, D_Plan_floor⟩ := c.def_ 29 (d := dm "Plan" "floor" "Plan.floor" 42 2) rfl
  have F_Plan_floor := fun_of_D (st := (mt 42 2)) D_Plan_floor
  have g_Plan_floor := He.meth_ok (c.fact 29 rfl)
  have b_Plan_floor := F_Plan_floor.binds (ps := ["self"]) fun _ _ _ _ _ _ us hl => match us, hl with | [_], _ => rfl
  obtain ⟨fd__law_at, D__law_at⟩ := c.def_ 30 (d := df "_law_at" 44) rfl
  have F__law_at := fun_of_D (st := (top 44)) D__law_at
  have g__law_at := He.glo_ok X G (c.fact 30 rfl)
  have b__law_at := F__law_at.binds (ps := ["_law_script", "_law_k"]) fun _ _ _ _ _ _ us hl => match us, hl with | [_, _], _ => rfl
  obtain ⟨fd__law_purse, D__law_purse⟩ := c.def_ 31 (d := df "_law_purse" 45) rfl
  have F__law_purse := fun_of_D (st := (top 45)) D__law_purse
  have g__law_purse := He.glo_ok X G (c.fact 31 rfl)
  have b__law_purse := F__law_purse.binds (ps := ["_law_cell"]) fun _ _ _ _ _ _ us hl => match us, hl with | [_], _ => rfl
  obtain ⟨fd__law_take, D__law_take⟩ := c.def_ 32 (d := df "_law_take" 46) rfl
  have F__law_take := fun_of_D (st := (top 46)) D__law_take
  have g__law_take := He.glo_ok X G (c.fact 32 rfl)
  have b__law_take := F__law_take.binds (ps := ["_law_purse_here", "_law_many"]) fun _ _ _ _ _ _ us hl => match us, hl with | [_, _], _ => rfl
  obtain ⟨fd__law_fraction, D__law_fraction⟩ := c.def_ 33 (d := df "_law_fraction" 47) rfl
  have F__law_fraction := fun_of_D (st := (top 47)) D__law_fraction
  have g__law_fraction := He.glo_ok X G (c.fact 33 rfl)
  have b__law_fraction := F__law_fraction.binds (ps := ["_law_purse_here", "_law_least"]) fun _ _ _ _ _ _ us hl => match us, hl with | [_, _], _ => rfl
  obtain ⟨fd__law_name, D__law_name⟩ := c.def_ 34 (d := df "_law_name" 48) rfl
  have F__law_name := fun_of_D (st := (top 48)) D__law_name
  have g__law_name := He.glo_ok X G (c.fact 34 rfl)
  have b__law_name := F__law_name.binds (ps := ["_law_purse_here", "_law_used"]) fun _ _ _ _ _ _ us hl => match us, hl with | [_, _], _ => rfl
  obtain ⟨fd__law_places, D__law_places⟩ := c.def_ 35 (d := df "_law_places" 49) rfl
  have F__law_places := fun_of_D (st := (top 49)) D__law_places
  have g__law_places := He.glo_ok X G (c.fact 35 rfl)
  have b__law_places := F__law_places.binds (ps := ["_law_part_here"]) fun _ _ _ _ _ _ us hl => match us, hl with | [_], _ => rfl
  obtain ⟨fd__law_bottom, D__law_bottom⟩ := c.def_ 36 (d := df "_law_bottom" 50) rfl
  have F__law_bottom := fun_of_D (st := (top 50)) D__law_bottom
  have g__law_bottom := He.glo_ok X G (c.fact 36 rfl)
  have b__law_bottom := F__law_bottom.binds (ps := ["_law_part_here"]) fun _ _ _ _ _ _ us hl => match us, hl with | [_], _ => rfl
  obtain ⟨fd__law_top, D__law_top⟩ := c.def_ 37 (d := df "_law_top" 51) rfl
  have F__law_top := fun_of_D (st := (top 51)) D__law_top
  have g__law_top := He.glo_ok X G (c.fact 37 rfl)
  have b__law_top := F__law_top.binds (ps := ["_law_part_here"]) fun _ _ _ _ _ _ us hl => match us, hl with | [_], _ => rfl
  obtain ⟨fd__law_joints, D__law_joints⟩ := c.def_ 38 (d := df "_law_joints" 52) rfl
  have F__law_joints := fun_of_D (st := (top 52)) D__law_joints
  have g__law_joints := He.glo_ok X G (c.fact 38 rfl)
  have b__law_joints := F__law_joints.binds (ps := ["_law_parts_here"]) fun _ _ _ _ _ _ us hl => match us, hl with | [_], _ => rfl
  obtain ⟨fd__law_has_room, D__law_has_room⟩ := c.def_ 39 (d := df "_law_has_room" 53) rfl
  have F__law_has_room := fun_of_D (st := (top 53)) D__law_has_room
  have g__law_has_room := He.glo_ok X G (c.fact 39 rfl)
  have b__law_has_room := F__law_has_room.binds (ps := ["_law_parts_here", "_law_new"]) fun _ _ _ _ _ _ us hl => match us, hl with | [_, _], _ => rfl
  obtain ⟨fd__law_start, D__law_start⟩ := c.def_ 40 (d := df "_law_start" 54) rfl
  have F__law_start := fun_of_D (st := (top 54)) D__law_start
  have g__law_start := He.glo_ok X G (c.fact 40 rfl)
  have b__law_start := F__law_start.binds (ps := ["_law_purse_here", "_law_parts_here"]) fun _ _ _ _ _ _ us hl => match us, hl with | [_, _], _ => rfl
  obtain ⟨fd__law_part, D__law_part⟩ := c.def_ 41 (d := df "_law_part" 55) rfl
  have F__law_part := fun_of_D (st := (top 55)) D__law_part
  have g__law_part := He.glo_ok X G (c.fact 41 rfl)
  have b__law_part := F__law_part.binds (ps := ["_law_purse_here", "_law_parts_here", "_law_name_here"]) fun _ _ _ _ _ _ us hl => match us, hl with | [_, _, _], _ => rfl
  obtain ⟨fd__law_parts, D__law_parts⟩ := c.def_ 42 (d := df "_law_parts" 56) rfl
  have F__law_parts := fun_of_D (st := (top 56)) D__law_parts
  have g__law_parts := He.glo_ok X G (c.fact 42 rfl)
  have b__law_parts := F__law_parts.binds (ps := ["_law_purse_here", "_law_most"]) fun _ _ _ _ _ _ us hl => match us, hl with | [_, _], _ => rfl
  obtain ⟨fd__law_rests, D__law_rests⟩ := c.def_ 43 (d := df "_law_rests" 57) rfl
  have F__law_rests := fun_of_D (st := (top 57)) D__law_rests
  have g__law_rests := He.glo_ok X G (c.fact 43 rfl)
  have b__law_rests := F__law_rests.binds (ps := ["_law_told", "_law_name_here"]) fun _ _ _ _ _ _ us hl => match us, hl with | [_, _], _ => rfl
  obtain ⟨fd__law_is_list, D__law_is_list⟩ := c.def_ 44 (d := df "_law_is_list" 58) rfl
  have F__law_is_list := fun_of_D (st := (top 58)) D__law_is_list
  have g__law_is_list := He.glo_ok X G (c.fact 44 rfl)
  have b__law_is_list := F__law_is_list.binds (ps := ["_law_told", "_law_due"]) fun _ _ _ _ _ _ us hl => match us, hl with | [_, _], _ => rfl
  obtain ⟨fd_law, D_law⟩ := c.def_ 45 (d := df "law" 59) rfl
  have F_law := fun_of_D (st := (top 59)) D_law
  have g_law := He.glo_ok X G (c.fact 45 rfl)
  have b_law := F_law.binds (ps := ["_law_script"]) fun _ _ _ _ _ _ us hl => match us, hl with | [_], _ => rfl
  obtain ⟨fdx_Clash, DX_Clash⟩ := c.def_ 46 (d := dm "Clash" "__init__" "Clash.__init__" 3 0) rfl
  have FX_Clash := fun_of_D (st := mt 3 0) DX_Clash
  have bx_Clash := FX_Clash.binds (ps := ["self", "one", "other"]) fun _ _ _ _ _ _ us hl => match us, hl with | [_, _, _], _ => rfl
  obtain ⟨xq_Clash, xj_Clash⟩ := Bool.and_eq_true_iff.mp (c.fact 54 rfl)
  obtain ⟨fdx_NoPart, DX_NoPart⟩ := c.def_ 47 (d := dm "NoPart" "__init__" "NoPart.__init__" 2 0) rfl
  have FX_NoPart := fun_of_D (st := mt 2 0) DX_NoPart
  have bx_NoPart := FX_NoPart.binds (ps := ["self", "number"]) fun _ _ _ _ _ _ us hl => match us, hl with | [_, _], _ => rfl
  obtain ⟨xq_NoPart, xj_NoPart⟩ := Bool.and_eq_true_iff.mp (c.fact 58 rfl)
  have e := hfa.symm.trans g_law
  cases e
  refine ⟨fd_law, fun s v => bind1 F_law (fun _ _ _ _ _ _ us hl => match us, hl with | [_], _ => rfl) s v, fun base _ _ => ?_⟩
  have G_Clash : MeansX P w K mg base (clK K) "Clash" ["one", "other"] .t := ⟨_, fdx_Clash, _, xi_Clash T FX_Clash (baseB_ok T.g_ScaffoldError (c.fact 51 rfl)) (oexB_ok (c.fact 50 rfl)) (He.eqO_ok (c.fact 52 rfl)) (He.eqO_ok (c.fact 53 rfl)), T.c_Clash, T.g_Clash, oexB_ok (c.fact 50 rfl), He.eqO_ok xq_Clash, of_decide_eq_true xj_Clash, bx_Clash⟩
  have G_NoPart : MeansX P w K mg base (clK K) "NoPart" ["number"] .n := ⟨_, fdx_NoPart, _, xi_NoPart T FX_NoPart (baseB_ok T.g_ScaffoldError (c.fact 56 rfl)) (oexB_ok (c.fact 55 rfl)) (He.eqO_ok (c.fact 57 rfl)), T.c_NoPart, T.g_NoPart, oexB_ok (c.fact 55 rfl), He.eqO_ok xq_NoPart, of_decide_eq_true xj_NoPart, bx_NoPart⟩
  have G_is_whole : Means P w K mg base (clK K) 1 "is_whole" ["thing"] Sc.dn_is_whole := ok_is_whole T F_is_whole g_is_whole b_is_whole   
  have G_common_part : Means P w K mg base (clK K) 1 "common_part" ["one", "other"] Sc.dn_common_part := ok_common_part T F_common_part g_common_part b_common_part   
  have G_is_fraction : Means P w K mg base (clK K) 2 "is_fraction" ["thing"] Sc.dn_is_fraction := ok_is_fraction T F_is_fraction g_is_fraction b_is_fraction G_is_whole G_common_part  
  have G_is_less : Means P w K mg base (clK K) 1 "is_less" ["one", "other"] Sc.dn_is_less := ok_is_less T F_is_less g_is_less b_is_less   
  have G_is_name : Means P w K mg base (clK K) 1 "is_name" ["thing"] Sc.dn_is_name := ok_is_name T F_is_name g_is_name b_is_name   
  have G_is_within : Means P w K mg base (clK K) 2 "is_within" ["thing", "least"] Sc.dn_is_within := ok_is_within T F_is_within g_is_within b_is_within G_is_whole  
  have G_are_weights : Means P w K mg base (clK K) 3 "are_weights" ["weight", "hold"] Sc.dn_are_weights := ok_are_weights T F_are_weights g_are_weights b_are_weights G_is_fraction G_is_less  
  have G_is_pole : Means P w K mg base (clK K) 4 "is_pole" ["thing"] Sc.dn_is_pole := ok_is_pole T F_is_pole g_is_pole b_is_pole G_is_name G_are_weights G_is_within  
  have G_ends_within : Means P w K mg base (clK K) 1 "ends_within" ["x", "y", "way", "length"] Sc.dn_ends_within := ok_ends_within T F_ends_within g_ends_within b_ends_within   
  have G_is_plank : Means P w K mg base (clK K) 4 "is_plank" ["thing"] Sc.dn_is_plank := ok_is_plank T F_is_plank g_is_plank b_is_plank G_is_name G_are_weights G_is_within G_ends_within  
  have G_is_part : Means P w K mg base (clK K) 5 "is_part" ["thing"] Sc.dn_is_part := ok_is_part T F_is_part g_is_part b_is_part G_is_pole G_is_plank  
  have G_is_board : Means P w K mg base (clK K) 1 "is_board" ["part"] Sc.dn_is_board := ok_is_board T F_is_board g_is_board b_is_board   
  have G_name_of : Means P w K mg base (clK K) 1 "name_of" ["part"] Sc.dn_name_of := ok_name_of T F_name_of g_name_of b_name_of   
  have G_bottom_of : Means P w K mg base (clK K) 2 "bottom_of" ["part"] Sc.dn_bottom_of := ok_bottom_of T F_bottom_of g_bottom_of b_bottom_of G_is_board  
  have G_top_of : Means P w K mg base (clK K) 2 "top_of" ["part"] Sc.dn_top_of := ok_top_of T F_top_of g_top_of b_top_of G_is_board  
  have G_places_of : Means P w K mg base (clK K) 2 "places_of" ["part"] Sc.dn_places_of := ok_places_of T F_places_of g_places_of b_places_of G_is_board  
  have G_joints_between : Means P w K mg base (clK K) 3 "joints_between" ["lower", "upper"] Sc.dn_joints_between := ok_joints_between T F_joints_between g_joints_between b_joints_between G_top_of G_bottom_of G_places_of G_name_of  
  have G_joints_with_floor : Means P w K mg base (clK K) 3 "joints_with_floor" ["part"] Sc.dn_joints_with_floor := ok_joints_with_floor T F_joints_with_floor g_joints_with_floor b_joints_with_floor G_bottom_of G_places_of G_name_of  
  have G_Plan_parts : MeansM P w K mg base (clK K) 1 "Plan" "parts" ["self"] Sc.dn_Plan_parts := ok_Plan_parts T F_Plan_parts g_Plan_parts b_Plan_parts   
  have G_joints : Means P w K mg base (clK K) 4 "joints" ["plan"] Sc.dn_joints := ok_joints T F_joints g_joints b_joints G_joints_with_floor G_joints_between G_Plan_parts  
  have G_Plan_names : MeansM P w K mg base (clK K) 2 "Plan" "names" ["self"] Sc.dn_Plan_names := ok_Plan_names T F_Plan_names g_Plan_names b_Plan_names G_name_of  
  have G_loose : Means P w K mg base (clK K) 5 "loose" ["plan"] Sc.dn_loose := ok_loose T F_loose g_loose b_loose G_joints G_Plan_names  
  have G_Plan_part : MeansM P w K mg base (clK K) 1 "Plan" "part" ["self", "name"] Sc.dn_Plan_part := ok_Plan_part T F_Plan_part g_Plan_part b_Plan_part   
  have G_rests_on : Means P w K mg base (clK K) 5 "rests_on" ["plan", "name"] Sc.dn_rests_on := ok_rests_on T F_rests_on g_rests_on b_rests_on G_Plan_part G_joints  
  have G_is_floor : Means P w K mg base (clK K) 3 "is_floor" ["thing"] Sc.dn_is_floor := ok_is_floor T F_is_floor g_is_floor b_is_floor G_is_fraction G_is_less  
  have G_want_parts : Means P w K mg base (clK K) 6 "want_parts" ["parts"] Sc.dn_want_parts := ok_want_parts T F_want_parts g_want_parts b_want_parts G_is_part G_name_of  G_NoPart
  have G_do_clash : Means P w K mg base (clK K) 3 "do_clash" ["one", "other"] Sc.dn_do_clash := ok_do_clash T F_do_clash g_do_clash b_do_clash G_bottom_of G_top_of G_places_of  
  have G_want_room : Means P w K mg base (clK K) 4 "want_room" ["parts"] Sc.dn_want_room := ok_want_room T F_want_room g_want_room b_want_room G_do_clash G_name_of  G_Clash
  have G_Plan___init__ : MeansC P w K mg base (clK K) 7 "Plan" ["self", "parts", "floor"] Sc.dn_Plan___init__ := ok_Plan___init__ T F_Plan___init__ g_Plan___init__ b_Plan___init__ G_is_floor G_want_parts G_want_room G_name_of  G_NoPart
  have G_Plan_floor : MeansM P w K mg base (clK K) 1 "Plan" "floor" ["self"] Sc.dn_Plan_floor := ok_Plan_floor T F_Plan_floor g_Plan_floor b_Plan_floor   
  have G__law_at : Means P w K mg base (clK K) 1 "_law_at" ["_law_script", "_law_k"] Sc.dn__law_at := ok__law_at T F__law_at g__law_at b__law_at   
  have G__law_purse : Means P w K mg base (clK K) 1 "_law_purse" ["_law_cell"] Sc.dn__law_purse := ok__law_purse T F__law_purse g__law_purse b__law_purse   
  have G__law_take : Means P w K mg base (clK K) 1 "_law_take" ["_law_purse_here", "_law_many"] Sc.dn__law_take := ok__law_take T F__law_take g__law_take b__law_take   
  have G__law_fraction : Means P w K mg base (clK K) 2 "_law_fraction" ["_law_purse_here", "_law_least"] Sc.dn__law_fraction := ok__law_fraction T F__law_fraction g__law_fraction b__law_fraction G__law_take  
  have G__law_name : Means P w K mg base (clK K) 2 "_law_name" ["_law_purse_here", "_law_used"] Sc.dn__law_name_v1 := ok__law_name T F__law_name g__law_name b__law_name G__law_take  
  have G__law_places : Means P w K mg base (clK K) 1 "_law_places" ["_law_part_here"] Sc.dn__law_places_v1 := ok__law_places T F__law_places g__law_places b__law_places   
  have G__law_bottom : Means P w K mg base (clK K) 1 "_law_bottom" ["_law_part_here"] Sc.dn__law_bottom_v1 := ok__law_bottom T F__law_bottom g__law_bottom b__law_bottom   
  have G__law_top : Means P w K mg base (clK K) 1 "_law_top" ["_law_part_here"] Sc.dn__law_top_v1 := ok__law_top T F__law_top g__law_top b__law_top   
  have G__law_joints : Means P w K mg base (clK K) 2 "_law_joints" ["_law_parts_here"] Sc.dn__law_joints_v1 := ok__law_joints T F__law_joints g__law_joints b__law_joints G__law_places G__law_bottom G__law_top  
  have G__law_has_room : Means P w K mg base (clK K) 3 "_law_has_room" ["_law_parts_here", "_law_new"] Sc.dn__law_has_room := ok__law_has_room T F__law_has_room g__law_has_room b__law_has_room G__law_places G__law_bottom G__law_top G__law_joints  
  have G__law_start : Means P w K mg base (clK K) 2 "_law_start" ["_law_purse_here", "_law_parts_here"] Sc.dn__law_start := ok__law_start T F__law_start g__law_start b__law_start G__law_take G__law_places G__law_top  
  have G__law_part : Means P w K mg base (clK K) 3 "_law_part" ["_law_purse_here", "_law_parts_here", "_law_name_here"] Sc.dn__law_part := ok__law_part T F__law_part g__law_part b__law_part G__law_start G__law_fraction G__law_take  
  have G__law_parts : Means P w K mg base (clK K) 4 "_law_parts" ["_law_purse_here", "_law_most"] Sc.dn__law_parts := ok__law_parts T F__law_parts g__law_parts b__law_parts G__law_part G__law_name G__law_has_room G__law_take  
  have G__law_rests : Means P w K mg base (clK K) 1 "_law_rests" ["_law_told", "_law_name_here"] Sc.dn__law_rests := ok__law_rests T F__law_rests g__law_rests b__law_rests   
  have G__law_is_list : Means P w K mg base (clK K) 1 "_law_is_list" ["_law_told", "_law_due"] dn__law_is_list := ok__law_is_list T F__law_is_list g__law_is_list b__law_is_list   
  exact ok_law T F_law G__law_parts G__law_purse G__law_at G_Plan___init__ G__law_fraction G__law_joints G_loose G__law_is_list G__law_take G_rests_on G__law_rests  
end
end L_k23
open PySem PySem.W PySem.Calls PyProof.Rows in
set_option maxRecDepth 100000 in
set_option maxHeartbeats 0 in
theorem PySem.Challenge.cw_scaffold_k23_loose_rests_on_holds : PySem.Challenge.rw_scaffold_k23_loose_rests_on.Holds := by
  w_on; o_law
  refine HandSHeadRun.head_any (r := OpenLaw.row PySem.Challenge.rw_scaffold_k23_loose_rests_on) (q := view (OpenLaw.row PySem.Challenge.rw_scaffold_k23_loose_rests_on).prog [59]) (H := L_k23.hk) (ob := L_k23.ob) (M := 40000) (loose := L_k23.loose) (d := HandSHeadRun.topDef (OpenLaw.row PySem.Challenge.rw_scaffold_k23_loose_rests_on).prog 59) (kwd := []) L_k23.ob_eq
    (by kernel_rfl) (fun s => by kernel_rfl) L_k23.run (by kernel_rfl) (by kernel_rfl) (by kernel_rfl) (by rfl) (by first | assumption | decide +kernel) (by decide +kernel) ⟨rfl, rfl, rfl, rfl, rfl, by decide +kernel⟩ ?hw ?hc
  case hw => w_witness2
  case hc =>
    refine L2.walk_ofE (l := PySem.Challenge.rw_scaffold_k23_loose_rests_on) (n := 63) (k := 9) (x := "_law_script") (CX := L2.CX0) rfl (by decide) (by kernel_rfl) ⟨rfl, by decide, by decide⟩ ?F (fun _ _ _ _ z => z)
    intro w mg fa h Y G hmg0
    obtain ⟨K, KX, c⟩ := Y
    have hmg : mg ("law" : PySem.Str) = some (.ref fa) := by
      have e : (HandSHeadRun.topDef (OpenLaw.row PySem.Challenge.rw_scaffold_k23_loose_rests_on).prog 59).name = ("law" : PySem.Str) := by kernel_rfl
      rw [← e]
      exact hmg0
    obtain ⟨fd, hb, hF⟩ := L_k23.facts (P := (PySem.Challenge.rw_scaffold_k23_loose_rests_on).prog) (w := w) KX G hmg c
    refine ⟨K, fd, _, KX, hb, fun H a ns hl _ hS => ?_, fun base b1 b2 => Py.fnok_calm (hF base b1 b2)⟩
    obtain ⟨ps, hps⟩ := L_k23.law_true ns hl
    exact Py.sp_law hps hS
