import PyProof.Rows.All
import Wide.All
import OpenK.AllK
import Wide.FinOn
import HandS.ForMost
import HandS.ForExc
import HandS.Style
import HandS.IsInst
import HandS.Wide
import HandS.Flow
import HandS.HeadHook1
import HandS.HotCalls
import HandS.ExcIs
import HandS.HeadHook2
import HandS.HeadEnd
import HandS.Head2
import HandS.WideBits
import HandS.TupAny
import HandS.Comp
import HandS.Iter
import HandS.Deep
import HandS.Dict
import HandS.Text
import HandS.Steps
import PyProof.EqKinds
import PyProof.NeKinds
import PySem.Challenge.RW_scaffold_k12_parts_judged
import HandS.Head0
import HandS.Head1
/-! Core: data, slots, the meaning of a piece of Python as a partial function over data. No program, no heap here. -/
namespace Py
open PySem

/-- data -/
inductive D where
  | non | bl (b : Bool) | int (i : Int) | str (x : Str)
  | tup (ds : List D) | lst (ds : List D) | scr (ds : List D)
  | dic (ks : List (Sum Int Str)) (ds : List D)
  | obj (c : Str) (fs : List Str) (ds : List D)
  | exc (c : Str) (fs : List Str) (ds : List D)

/-- what a slot holds: nothing known; shared data; a thing that it alone owns; such a thing while it is locked; a thing that the caller owns -/
inductive Sl where
  | no | sh (d : D) | ow (d : D) | lk (d : D) | bw (d : D)

@[simp] def Sl.get : Sl → Option D
  | .no => none
  | .sh d => some d
  | .ow d => some d
  | .lk d => some d
  | .bw d => some d
/-- owned things become shared -/
@[simp] def Sl.dem : Sl → Sl
  | .ow d => .sh d
  | s => s
/-- as a shared value -/
@[simp] def Sl.val : Sl → Option D
  | .sh d => some d
  | .ow d => some d
  | _ => none

abbrev Env := List Sl

/-- an exception: its class by name, its own attributes -/
structure Exc where
  cls : Str
  fs : List (Str × D)

inductive Out (α : Type) where
  | ok (a : α) (r : Env)
  | ex (e : Exc) (r : Env)
abbrev Out.map {α β : Type} (f : α → β) : Out α → Out β
  | .ok a r => .ok (f a) r
  | .ex e r => .ex e r

/-- the meaning of an expression; none: nothing is said -/
abbrev M (α : Type) := Env → Option (Out α)
abbrev E := M Sl
/-- an operand: a slot by reference, or a value -/
inductive Arg where
  | r (i : Nat)
  | v (s : Sl)
abbrev A := M Arg
abbrev As := M (List Arg)
abbrev T := M Bool

@[simp] def M.pure {α : Type} (a : α) : M α := fun r => some (.ok a r)
@[simp] def M.bind {α β : Type} (m : M α) (f : α → M β) : M β := fun r =>
  match m r with
  | none => none
  | some (.ok a r') => f a r'
  | some (.ex e r') => some (.ex e r')
/-- a step that cannot raise, over the slots as they are -/
@[simp] def M.get {α : Type} (f : Env → Option α) : M α := fun r =>
  match f r with
  | none => none
  | some a => some (.ok a r)

@[simp] def Arg.sl (r : Env) : Arg → Sl
  | .r i => (r[i]?).getD .no
  | .v s => s
/-- the data of an operand -/
@[simp] def Arg.dat (r : Env) (a : Arg) : Option D := (a.sl r).get
@[simp] def dats (r : Env) : List Arg → Option (List D)
  | [] => some []
  | a :: as => match a.dat r, dats r as with
    | some d, some ds => some (d :: ds)
    | _, _ => none
/-- the data of an operand that is shared (a fresh thing becomes shared) -/
@[simp] def Arg.shd (r : Env) : Arg → Option D
  | .r i => match r[i]? with
    | some (.sh d) => some d
    | _ => none
  | .v s => s.val
@[simp] def shds (r : Env) : List Arg → Option (List D)
  | [] => some []
  | a :: as => match a.shd r, shds r as with
    | some d, some ds => some (d :: ds)
    | _, _ => none

/-- the greatest length -/
def lim : Nat := 16777216

/-! ### expressions -/
@[simp] def eC (d : D) : E := M.pure (.sh d)
/-- a name as a value: an owned thing becomes shared -/
@[simp] def eVar (i : Nat) : E := fun r => match r[i]? with
  | some (.sh d) => some (.ok (.sh d) r)
  | some (.ow d) => some (.ok (.sh d) (r.set i (.sh d)))
  | _ => none
/-- a name at its end: what it owns goes with it -/
@[simp] def eMov (i : Nat) : E := fun r => match r[i]? with
  | some (.sh d) => some (.ok (.sh d) r)
  | some (.ow d) => some (.ok (.ow d) (r.set i .no))
  | _ => none
@[simp] def aR (i : Nat) : A := fun r => match (r[i]?).bind Sl.get with
  | none => none
  | some _ => some (.ok (.r i) r)
@[simp] def aV (e : E) : A := M.bind e fun s => M.pure (.v s)
@[simp] def asN : As := M.pure []
@[simp] def asC (a : A) (as : As) : As := M.bind a fun x => M.bind as fun xs => M.pure (x :: xs)
/-- an operation that reads data: a shared value, or a new list that is owned -/
@[simp] def eOp (as : As) (f : List D → Option Sl) : E := M.bind as fun xs => M.get fun r => (dats r xs).bind f
/-- a tuple, a list of shared things -/
@[simp] def eTup (as : As) : E := M.bind as fun xs => M.get fun r => (shds r xs).bind fun ds => if ds.length ≤ lim then some (.sh (.tup ds)) else none
@[simp] def eLst (as : As) : E := M.bind as fun xs => M.get fun r => (shds r xs).bind fun ds => if ds.length ≤ lim then some (.ow (.lst ds)) else none

/-! ### tests -/
@[simp] def tV (e : E) : T := M.bind e fun s => M.get fun _ => match s with
  | .sh (.bl b) => some b
  | _ => none
@[simp] def tNot (t : T) : T := M.bind t fun b => M.pure (!b)
@[simp] def tAnd (t u : T) : T := M.bind t fun b => if b = true then u else M.pure false
@[simp] def tOr (t u : T) : T := M.bind t fun b => if b = true then M.pure true else u
/-- and, or, not as values -/
@[simp] def eAnd (a b : E) : E := M.bind a fun s => match s with
  | .sh (.bl true) => b
  | .sh (.bl false) => M.pure (.sh (.bl false))
  | _ => fun _ => none
@[simp] def eOr (a b : E) : E := M.bind a fun s => match s with
  | .sh (.bl true) => M.pure (.sh (.bl true))
  | .sh (.bl false) => b
  | _ => fun _ => none
@[simp] def eNot (a : E) : E := M.bind a fun s => match s with
  | .sh (.bl b) => M.pure (.sh (.bl !b))
  | _ => fun _ => none
@[simp] def eIf (t : T) (a b : E) : E := M.bind t fun c => if c = true then a else b

/-! ### functions -/
inductive FOut where
  | ret (s : Sl) (ps : List Sl)
  | ex (e : Exc) (ps : List Sl)
abbrev Fn := List Sl → Option FOut

/-- how a slot is handed on by reference -/
@[simp] def Sl.lend : Sl → Sl
  | .lk d => .bw d
  | s => s
/-- the state that a slot comes back in -/
@[simp] def Sl.isV : Sl → Bool
  | .sh _ => true
  | .ow _ => true
  | _ => false
@[simp] def Sl.back (a b : Sl) : Sl := match a with
  | .ow _ => if b.isV = true then b else .no
  | _ => a
@[simp] def Arg.hand (r : Env) : Arg → Sl
  | .r i => ((r[i]?).getD .no).lend
  | .v s => s
@[simp] def refs : List Arg → List Nat
  | [] => []
  | .r i :: as => i :: refs as
  | .v _ :: as => refs as
/-- what is lent comes back -/
@[simp] def comeBack (r : Env) : List Arg → List Sl → Env
  | .r i :: as, p :: ps => (comeBack r as ps).set i (((r[i]?).getD .no).back p)
  | .v _ :: as, _ :: ps => comeBack r as ps
  | _, _ => r
@[simp] def eCall (f : Fn) (as : As) : E := M.bind as fun xs r =>
  if (refs xs).Nodup then
    match f (xs.map (Arg.hand r)) with
    | none => none
    | some (.ret s ps) => if s.isV = true then some (.ok s (comeBack r xs ps)) else none
    | some (.ex e ps) => some (.ex e (comeBack r xs ps))
  else none

/-! ### statements -/
inductive Flow where
  | nx (r : Env) | bk (r : Env) | ct (r : Env)
  | rt (s : Sl) (r : Env)
  | ex (e : Exc) (r : Env)
abbrev S := Env → Option Flow
@[simp] def sPass : S := fun r => some (.nx r)
@[simp] def sSeq (a b : S) : S := fun r => match a r with
  | some (.nx r') => b r'
  | x => x
@[simp] def sE {α : Type} (m : M α) (k : α → S) : S := fun r => match m r with
  | none => none
  | some (.ok a r') => k a r'
  | some (.ex e r') => some (.ex e r')
@[simp] def sRet (e : E) : S := sE e fun s r => some (.rt s r)
@[simp] def sRetN : S := fun r => some (.rt (.sh .non) r)
@[simp] def sIf (t : T) (a b : S) : S := sE t fun c => if c = true then a else b
@[simp] def sDrop (e : E) : S := sE e fun _ r => some (.nx r)
/-- a target of an assignment -/
abbrev G := Sl → S
@[simp] def gN (i : Nat) : G := fun s r => if i < r.length then some (.nx (r.set i s)) else none
@[simp] def sAsg (e : E) (g : G) : S := sE e g
@[simp] def sBreak : S := fun r => some (.bk r)
@[simp] def sCont : S := fun r => some (.ct r)
@[simp] def sRaise (c : Str) : S := fun r => some (.ex ⟨c, []⟩ r)

/-- the parameters that come back -/
@[simp] def mkBack : List Bool → Env → List Sl
  | [], _ => []
  | _ :: bs, [] => .no :: mkBack bs []
  | b :: bs, x :: r => (if b = true then x else .no) :: mkBack bs r
/-- a function's meaning from its body: n slots, the first of them the parameters; mask: which parameters come back -/
@[simp] def mkFn (n : Nat) (mask : List Bool) (body : S) : Fn := fun ps =>
  if ps.length = mask.length then
    match body (ps ++ List.replicate (n - ps.length) .no) with
    | none => none
    | some (.nx r) => some (.ret (.sh .non) (mkBack mask r))
    | some (.rt s r) => some (.ret s (mkBack mask r))
    | some (.ex e r) => some (.ex e (mkBack mask r))
    | some _ => none
  else none

/-- where an index stands -/
@[simp] def ixAt (n : Nat) (i : Int) : Option Nat := if 0 ≤ i then (if i < n then some i.toNat else none) else if -(n : Int) ≤ i then some (i + n).toNat else none
/-- xs[k] = v, where slot i owns the list xs -/
@[simp] def gSet (i : Nat) (mi : A) : G := fun x r => match (r[i]?).bind Sl.get with
  | none => none
  | some _ => match mi r with
    | some (.ok a r1) => match r1[i]?, a.dat r1, x.val with
      | some (.ow (.lst ds)), some (.int z), some d => (ixAt ds.length z).map fun j => .nx (r1.set i (.ow (.lst (ds.set j d))))
      | _, _, _ => none
    | _ => none
/-- a tuple is taken apart -/
@[simp] def gUn : List G → List D → S
  | [], [], r => some (.nx r)
  | g :: gs, d :: ds, r => match g (.sh d) r with
    | some (.nx r1) => gUn gs ds r1
    | _ => none
  | _, _, _ => none
@[simp] def gTup (gs : List G) : G := fun x => match x with
  | .sh (.tup ds) => gUn gs ds
  | _ => fun _ => none
/-- a, b = e, f -/
@[simp] def sPar (i j : Nat) (as : As) : S := sE as fun xs r => match xs with
  | [.v x, .v y] => if i < r.length ∧ j < r.length then some (.nx ((r.set i x).set j y)) else none
  | _ => none

/-! ### loops -/
/-- a while, n turns at most -/
def whileN (t : T) (b : S) : Nat → S
  | 0, _ => none
  | n + 1, r => match t r with
    | none => none
    | some (.ex e r') => some (.ex e r')
    | some (.ok false r') => some (.nx r')
    | some (.ok true r') => match b r' with
      | some (.nx r2) => whileN t b n r2
      | some (.ct r2) => whileN t b n r2
      | some (.bk r2) => some (.nx r2)
      | x => x
open Classical in
/-- a while -/
noncomputable def sWhile (t : T) (b : S) : S := fun r => if h : ∃ n x, whileN t b n r = some x then some (Classical.choose (Classical.choose_spec h)) else none
/-- a for over things that are shared -/
@[simp] def forL (g : G) (b : S) : List D → S
  | [], r => some (.nx r)
  | d :: ds, r => match g (.sh d) r with
    | some (.nx r1) => match b r1 with
      | some (.nx r2) => forL g b ds r2
      | some (.ct r2) => forL g b ds r2
      | some (.bk r2) => some (.nx r2)
      | x => x
    | x => x
/-- a for over a list or tuple that an expression gives -/
def seqOf : D → Option (List D)
  | .lst ds => some ds
  | .tup ds => some ds
  | _ => none
@[simp] def sFor (e : E) (g : G) (b : S) : S := sE e fun x r => match x.get with
  | some (.lst ds) => forL g b ds r
  | _ => none
@[simp] def sForT (e : E) (g : G) (b : S) : S := sE e fun x r => match x.get with
  | some (.tup ds) => forL g b ds r
  | _ => none
/-- the numbers of a range -/
def rangeD (lo : Int) (n : Nat) : List D := (List.range n).map fun (k : Nat) => D.int (lo + (k : Int))
def small62 (i : Int) : Bool := decide (-(2 ^ 62) ≤ i ∧ i < 2 ^ 62)
@[simp] def sForR1 (a : A) (g : G) (b : S) : S := sE (asC a asN) fun xs r => match dats r xs with
  | some [.int j] => if small62 j = true then forL g b (rangeD 0 j.toNat) r else none
  | _ => none
@[simp] def sForR2 (a c : A) (g : G) (b : S) : S := sE (asC a (asC c asN)) fun xs r => match dats r xs with
  | some [.int i, .int j] => if small62 i = true ∧ small62 j = true then forL g b (rangeD i (j - i).toNat) r else none
  | _ => none

/-- try: b, except a class as slot i: su -/
@[simp] def sTry (i : Nat) (sub : Str → Bool) (b : S) (su : Exc → S) : S := fun r => match b r with
  | some (.ex e r1) => if sub e.cls = true then
      if i < r1.length then
        match su e (r1.set i .no) with
        | some (.nx r2) => some (.nx (r2.set i .no))
        | some (.bk r2) => some (.bk (r2.set i .no))
        | some (.ct r2) => some (.ct (r2.set i .no))
        | some (.rt x r2) => some (.rt x (r2.set i .no))
        | _ => none
      else none
    else some (.ex e r1)
  | x => x

/-- what a def tells of the exception it is handed -/
@[simp] def eFl (e : Exc) (b : Bool) : E := match e.fs with
  | [] => eC (.bl b)
  | _ => fun _ => none

theorem whileN_mono (t : T) (b : S) : ∀ (n : Nat) (r : Env) (x : Flow), whileN t b n r = some x → ∀ k, whileN t b (n + k) r = some x
  | 0, _, _, h, _ => by cases h
  | n + 1, r, x, h, k => by
    have e : n + 1 + k = (n + k) + 1 := by omega
    rw [e]
    unfold whileN at h ⊢
    cases q : t r with
    | none =>
      rw [q] at h
      cases h
    | some u =>
      rw [q] at h
      cases u with
      | ex e r' => exact h
      | ok c r' =>
        cases c with
        | false => exact h
        | true =>
          dsimp only at h ⊢
          cases q2 : b r' with
          | none =>
            rw [q2] at h
            cases h
          | some f =>
            rw [q2] at h
            cases f with
            | nx r2 => exact whileN_mono t b n r2 x h k
            | ct r2 => exact whileN_mono t b n r2 x h k
            | bk r2 => exact h
            | rt s r2 => exact h
            | ex e r2 => exact h
theorem whileN_det {t : T} {b : S} {n m : Nat} {r : Env} {x y : Flow} (h1 : whileN t b n r = some x) (h2 : whileN t b m r = some y) : x = y := by
  have a := whileN_mono t b n r x h1 m
  have c := whileN_mono t b m r y h2 n
  rw [Nat.add_comm] at c
  rw [a] at c
  exact Option.some.inj c
theorem sWhile_iff {t : T} {b : S} {r : Env} {x : Flow} : sWhile t b r = some x ↔ ∃ n, whileN t b n r = some x := by
  unfold sWhile
  constructor
  · intro h
    split at h
    · rename_i hh
      refine ⟨Classical.choose hh, ?_⟩
      have := Classical.choose_spec (Classical.choose_spec hh)
      rw [this]
      exact h
    · cases h
  · rintro ⟨n, h⟩
    have hh : ∃ n x, whileN t b n r = some x := ⟨n, x, h⟩
    rw [dif_pos hh]
    have := Classical.choose_spec (Classical.choose_spec hh)
    exact congrArg some (whileN_det this h)
theorem sWhile_stop {t : T} {b : S} {r r1 : Env} (h : t r = some (.ok false r1)) : sWhile t b r = some (.nx r1) := sWhile_iff.mpr ⟨1, by simp only [whileN, h]⟩
theorem sWhile_step {t : T} {b : S} {r r1 r2 : Env} {x : Flow} (h : t r = some (.ok true r1)) (hb : b r1 = some (.nx r2)) (hw : sWhile t b r2 = some x) : sWhile t b r = some x := by
  obtain ⟨n, hn⟩ := sWhile_iff.mp hw
  exact sWhile_iff.mpr ⟨n + 1, by simp only [whileN, h, hb, hn]⟩
end Py

set_option Elab.async false
set_option linter.all false
set_option maxRecDepth 100000
/-! Rep: how data stand in the heap; who owns what. -/
namespace Py
open PySem L2
open Classical

/-- the written part, the classes' addresses by name -/
structure Gm where
  K : PySem.W.Frag
  cl : Str → Option Addr

/-- an exception's object that is known by its class and its own dict -/
def xHO (a C : Addr) (d : Option Addr) : HO := .ext fun h => ∃ (oe : Obj) (vs : Array Value), h.get? a = some oe ∧ oe.cls = .ref C ∧ oe.dict = d ∧ oe.data = .fields vs
mutual
inductive R (g : Gm) (H : Hp) : V → D → Prop
  | non : R g H .non .non
  | bl (b : Bool) : R g H (.bl b) (.bl b)
  | int (i : Int) : R g H (.int i) (.int i)
  | str (x : Str) : R g H (.str x) (.str x)
  | tup {a : Addr} {xs : List V} {ds : List D} : SqT g.K H a xs → RA g H xs ds → R g H (.ref a) (.tup ds)
  | lst {a : Addr} {xs : List V} {ds : List D} : H a = some (.lst xs) → RA g H xs ds → R g H (.ref a) (.lst ds)
  | scr {a : Addr} {xs : List V} {ds : List D} : SqL g.K H a xs → RA g H xs ds → R g H (.ref a) (.scr ds)
  | dic {a : Addr} {ks : List Key} {xs : List V} {ds : List D} : H a = some (.dK (ks.zip xs)) → ks.length = xs.length → RA g H xs ds → R g H (.ref a) (.dic ks ds)
  | obj {a C dx : Addr} {c : Str} {fs : List Str} {xs : List V} {ds : List D} : g.cl c = some C → H a = some (.ins C dx (fs.zip xs)) → fs.length = xs.length → RA g H xs ds → R g H (.ref a) (.obj c fs ds)
  | exc0 {a C : Addr} {c : Str} : g.cl c = some C → H a = some (xHO a C none) → R g H (.ref a) (.exc c [] [])
  | exc {a C q : Addr} {c : Str} {fs : List Str} {xs : List V} {ds : List D} : g.cl c = some C → H a = some (xHO a C (some q)) → H q = some (.xd (fs.zip xs)) → fs.length = xs.length → RA g H xs ds → R g H (.ref a) (.exc c fs ds)
inductive RA (g : Gm) (H : Hp) : List V → List D → Prop
  | nil : RA g H [] []
  | cons {v : V} {vs : List V} {d : D} {ds : List D} : R g H v d → RA g H vs ds → RA g H (v :: vs) (d :: ds)
end

theorem sqT_mono {K : PySem.W.Frag} {H H' : Hp} {a : Addr} {xs : List V} (e : Same H H') (h : SqT K H a xs) : SqT K H' a xs := by
  rcases h with (h | ⟨o, h⟩) | h
  · exact .inl (.inl (e _ _ h))
  · exact .inl (.inr ⟨o, e _ _ h⟩)
  · exact .inr h
section
variable {g : Gm} {H H' : Hp}
mutual
theorem R.mono (e : Same H H') : ∀ {v : V} {d : D}, R g H v d → R g H' v d
  | _, _, .non => .non
  | _, _, .bl b => .bl b
  | _, _, .int i => .int i
  | _, _, .str x => .str x
  | _, _, .tup h r => .tup (sqT_mono e h) (RA.mono e r)
  | _, _, .lst h r => .lst (e _ _ h) (RA.mono e r)
  | _, _, .scr h r => .scr (e.seq h) (RA.mono e r)
  | _, _, .dic h l r => .dic (e _ _ h) l (RA.mono e r)
  | _, _, .obj c h l r => .obj c (e _ _ h) l (RA.mono e r)
  | _, _, .exc0 c h => .exc0 c (e _ _ h)
  | _, _, .exc c h q l r => .exc c (e _ _ h) (e _ _ q) l (RA.mono e r)
theorem RA.mono (e : Same H H') : ∀ {vs : List V} {ds : List D}, RA g H vs ds → RA g H' vs ds
  | _, _, .nil => .nil
  | _, _, .cons r t => .cons (R.mono e r) (RA.mono e t)
end
theorem RA.length : ∀ {vs : List V} {ds : List D}, RA g H vs ds → vs.length = ds.length
  | _, _, .nil => rfl
  | _, _, .cons _ t => by simp [RA.length t]
theorem RA.get : ∀ {vs : List V} {ds : List D} {i : Nat} {d : D}, RA g H vs ds → ds[i]? = some d → ∃ v, vs[i]? = some v ∧ R g H v d
  | _, _, _, _, .nil, e => by simp at e
  | _, _, 0, _, .cons r _, e => by
    simp at e
    subst e
    exact ⟨_, rfl, r⟩
  | _, _, i + 1, d, .cons _ t, e => by
    obtain ⟨v, h1, h2⟩ := RA.get (i := i) (d := d) t (by simpa using e)
    exact ⟨v, by simpa using h1, h2⟩
theorem RA.getV : ∀ {vs : List V} {ds : List D} {i : Nat} {v : V}, RA g H vs ds → vs[i]? = some v → ∃ d, ds[i]? = some d ∧ R g H v d
  | _, _, _, _, .nil, e => by simp at e
  | _, _, 0, _, .cons r _, e => by
    simp at e
    subst e
    exact ⟨_, rfl, r⟩
  | _, _, i + 1, d, .cons _ t, e => by
    obtain ⟨v, h1, h2⟩ := RA.getV (i := i) (v := d) t (by simpa using e)
    exact ⟨v, by simpa using h1, h2⟩
theorem RA.append : ∀ {vs ws : List V} {ds es : List D}, RA g H vs ds → RA g H ws es → RA g H (vs ++ ws) (ds ++ es)
  | _, _, _, _, .nil, s => s
  | _, _, _, _, .cons r t, s => .cons r (RA.append t s)
theorem RA.take : ∀ {vs : List V} {ds : List D} (n : Nat), RA g H vs ds → RA g H (vs.take n) (ds.take n)
  | _, _, 0, _ => .nil
  | _, _, _ + 1, .nil => .nil
  | _, _, n + 1, .cons r t => .cons r (RA.take n t)
theorem RA.drop : ∀ {vs : List V} {ds : List D} (n : Nat), RA g H vs ds → RA g H (vs.drop n) (ds.drop n)
  | _, _, 0, h => h
  | _, _, _ + 1, .nil => .nil
  | _, _, n + 1, .cons _ t => RA.drop n t
theorem RA.set {v : V} {d : D} (h : R g H v d) : ∀ {vs : List V} {ds : List D} (i : Nat), RA g H vs ds → RA g H (vs.set i v) (ds.set i d)
  | _, _, _, .nil => .nil
  | _, _, 0, .cons _ t => .cons h t
  | _, _, i + 1, .cons r t => .cons r (RA.set h i t)
theorem RA.reverse : ∀ {vs : List V} {ds : List D}, RA g H vs ds → RA g H vs.reverse ds.reverse
  | _, _, .nil => .nil
  | _, _, .cons r t => by
    rw [List.reverse_cons, List.reverse_cons]
    exact (RA.reverse t).append (.cons r .nil)
end

/-- the heap without what is protected -/
noncomputable def Hd (P : Addr → Prop) (H : Hp) : Hp := fun a => if P a then none else H a
theorem Hd_ne {P : Addr → Prop} {H : Hp} {a : Addr} (h : ¬ P a) : Hd P H a = H a := if_neg h
theorem Hd_le {P : Addr → Prop} {H : Hp} : Same (Hd P H) H := fun a o e => by
  unfold Hd at e
  split at e
  · cases e
  · exact e
theorem Hd_some {P : Addr → Prop} {H : Hp} {a : Addr} {o : HO} (e : Hd P H a = some o) : ¬ P a ∧ H a = some o := by
  unfold Hd at e
  split at e
  · cases e
  · rename_i h
    exact ⟨h, e⟩
theorem Hd_same {P P' : Addr → Prop} {H H' : Hp} (h : ∀ a o, ¬ P a → H a = some o → ¬ P' a ∧ H' a = some o) : Same (Hd P H) (Hd P' H') := fun a o e => by
  obtain ⟨h1, h2⟩ := Hd_some e
  obtain ⟨h3, h4⟩ := h a o h1 h2
  rw [Hd_ne h3]
  exact h4

/-- an owned thing at p: what is within it is shared -/
def Node (g : Gm) (Hs H : Hp) (p : Addr) : D → Prop
  | .lst ds => ∃ xs, H p = some (.lst xs) ∧ RA g Hs xs ds
  | .dic ks ds => ∃ xs, H p = some (.dK (ks.zip xs)) ∧ ks.length = xs.length ∧ RA g Hs xs ds
  | .obj c fs ds => ∃ C dx xs, g.cl c = some C ∧ H p = some (.ins C dx (fs.zip xs)) ∧ fs.length = xs.length ∧ RA g Hs xs ds
  | _ => False
theorem Node.mono {g : Gm} {Hs Hs' H H' : Hp} {p : Addr} {d : D} (e : Same Hs Hs') (hp : ∀ o, H p = some o → H' p = some o) (h : Node g Hs H p d) : Node g Hs' H' p d := by
  cases d with
  | lst ds =>
    obtain ⟨xs, h1, h2⟩ := h
    exact ⟨xs, hp _ h1, h2.mono e⟩
  | dic ks ds =>
    obtain ⟨xs, h1, h2, h3⟩ := h
    exact ⟨xs, hp _ h1, h2, h3.mono e⟩
  | obj c fs ds =>
    obtain ⟨C, dx, xs, h1, h2, h3, h4⟩ := h
    exact ⟨C, dx, xs, h1, hp _ h2, h3, h4.mono e⟩
  | _ => exact h
theorem Node.dom {g : Gm} {Hs H : Hp} {p : Addr} {d : D} (h : Node g Hs H p d) : ∃ o, H p = some o := by
  cases d with
  | lst ds =>
    obtain ⟨xs, h1, h2⟩ := h
    exact ⟨_, h1⟩
  | dic ks ds =>
    obtain ⟨xs, h1, h2, h3⟩ := h
    exact ⟨_, h1⟩
  | obj c fs ds =>
    obtain ⟨C, dx, xs, h1, h2, h3, h4⟩ := h
    exact ⟨_, h2⟩
  | _ => exact False.elim h
/-- .. is shared where nothing protects it -/
theorem Node.toR {g : Gm} {Hs H : Hp} {p : Addr} {d : D} (h : Node g Hs H p d) {H2 : Hp} (e : Same Hs H2) (hp : ∀ o, H p = some o → H2 p = some o) : R g H2 (.ref p) d := by
  cases d with
  | lst ds =>
    obtain ⟨xs, h1, h2⟩ := h
    exact .lst (hp _ h1) (h2.mono e)
  | dic ks ds =>
    obtain ⟨xs, h1, h2, h3⟩ := h
    exact .dic (hp _ h1) h2 (h3.mono e)
  | obj c fs ds =>
    obtain ⟨C, dx, xs, h1, h2, h3, h4⟩ := h
    exact .obj h1 (hp _ h2) h3 (h4.mono e)
  | _ => exact False.elim h

/-- what is fixed while a body runs: how many slots, what is protected, what may be changed, the heap ahead, slots that stay -/
structure Bs where
  n : Nat
  S0 : Addr → Prop
  M0 : Addr → Prop
  H0 : Hp
  fx : Nat → Bool
  s0 : St

def SlOk (g : Gm) (S0 : Addr → Prop) (Hs H : Hp) : Sl → Option V → Prop
  | .no, _ => True
  | .sh d, o => ∃ v, o = some v ∧ R g Hs v d
  | .ow d, o => ∃ p, o = some (.ref p) ∧ Node g Hs H p d
  | .lk d, o => ∃ p, o = some (.ref p) ∧ Node g Hs H p d
  | .bw d, o => ∃ p, o = some (.ref p) ∧ S0 p ∧ Node g Hs H p d
/-- the address that a slot owns -/
def ownS : Sl → Option V → Option Addr
  | .ow _, some (.ref p) => some p
  | .lk _, some (.ref p) => some p
  | _, _ => none
def own (r : Env) (s : St) (i : Nat) : Option Addr := match r[i]?, s[i]? with
  | some x, some o => ownS x o
  | _, _ => none
theorem own_eq {r : Env} {s : St} {i : Nat} {x : Sl} {o : Option V} (h1 : r[i]? = some x) (h2 : s[i]? = some o) : own r s i = ownS x o := by
  unfold own
  rw [h1, h2]
theorem own_some {r : Env} {s : St} {i : Nat} {p : Addr} (h : own r s i = some p) : ∃ x o, r[i]? = some x ∧ s[i]? = some o ∧ ownS x o = some p := by
  unfold own at h
  cases h1 : r[i]? with
  | none =>
    rw [h1] at h
    cases h
  | some x =>
    cases h2 : s[i]? with
    | none =>
      rw [h1, h2] at h
      cases h
    | some o =>
      rw [h1, h2] at h
      exact ⟨x, o, rfl, rfl, h⟩
theorem ownS_ref {x : Sl} {o : Option V} {p : Addr} (h : ownS x o = some p) : o = some (.ref p) := by
  unfold ownS at h
  split at h
  · cases h
    rfl
  · cases h
    rfl
  · cases h
theorem SlOk.mono {g : Gm} {S0 S0' : Addr → Prop} {Hs Hs' H H' : Hp} {x : Sl} {o : Option V} (e : Same Hs Hs') (hS : ∀ p, S0 p → S0' p) (hp : ∀ p u, (S0 p ∨ ownS x o = some p) → H p = some u → H' p = some u) (h : SlOk g S0 Hs H x o) : SlOk g S0' Hs' H' x o := by
  cases x with
  | no => trivial
  | sh d =>
    obtain ⟨v, h2, h3⟩ := h
    exact ⟨v, h2, h3.mono e⟩
  | ow d =>
    obtain ⟨p, h2, h3⟩ := h
    subst h2
    exact ⟨p, rfl, h3.mono e fun o => hp p o (.inr rfl)⟩
  | lk d =>
    obtain ⟨p, h2, h3⟩ := h
    subst h2
    exact ⟨p, rfl, h3.mono e fun o => hp p o (.inr rfl)⟩
  | bw d =>
    obtain ⟨p, h2, h3, h4⟩ := h
    exact ⟨p, h2, hS p h3, h4.mono e fun o => hp p o (.inl h3)⟩
theorem SlOk.dom {g : Gm} {S0 : Addr → Prop} {Hs H : Hp} {x : Sl} {o : Option V} {p : Addr} (h : SlOk g S0 Hs H x o) (q : ownS x o = some p) : ∃ u, H p = some u := by
  cases x with
  | ow d =>
    obtain ⟨p', rfl, h3⟩ := h
    cases q
    exact h3.dom
  | lk d =>
    obtain ⟨p', rfl, h3⟩ := h
    cases q
    exact h3.dom
  | no => cases q
  | sh d => cases q
  | bw d => cases q

def Pr (B : Bs) (r : Env) (s : St) (a : Addr) : Prop := B.S0 a ∨ ∃ i, own r s i = some a
/-- the shared heap -/
noncomputable abbrev Sh (B : Bs) (r : Env) (s : St) (H : Hp) : Hp := Hd (Pr B r s) H
structure Rep (g : Gm) (B : Bs) (r : Env) (s : St) (H : Hp) : Prop where
  len : r.length = s.length
  big : B.n ≤ s.length
  ok : ∀ (i : Nat) (x : Sl) (o : Option V), r[i]? = some x → s[i]? = some o → SlOk g B.S0 (Sh B r s H) H x o
  inj : ∀ i j p, own r s i = some p → own r s j = some p → i = j
  sep : ∀ i p, own r s i = some p → ¬ B.S0 p ∧ (B.M0 p ∨ B.H0 p = none)
  prot : ∀ p, B.S0 p → ¬ B.M0 p ∧ ∃ o, B.H0 p = some o
  keep : ∀ a o, B.H0 a = some o → ¬ B.M0 a → H a = some o
  mdom : ∀ p, B.M0 p → ∃ o, H p = some o
  fix : ∀ i : Nat, B.fx i = true → i < B.n ∧ s[i]? = B.s0[i]?

section
variable {g : Gm} {B : Bs} {r r' : Env} {s s' : St} {H H' : Hp}
theorem Rep.dom (h : Rep g B r s H) {i : Nat} {p : Addr} (q : own r s i = some p) : ∃ o, H p = some o := by
  obtain ⟨x, o, h1, h2, h3⟩ := own_some q
  exact (h.ok i x o h1 h2).dom h3
theorem Rep.free (h : Rep g B r s H) {p : Addr} (hp : H p = none) : ¬ Pr B r s p := by
  rintro (h1 | ⟨i, h1⟩)
  · obtain ⟨h2, o, h3⟩ := h.prot p h1
    rw [h.keep p o h3 h2] at hp
    cases hp
  · obtain ⟨o, h2⟩ := h.dom h1
    rw [h2] at hp
    cases hp
theorem Rep.freeH0 (h : Rep g B r s H) {p : Addr} (hp : H p = none) : B.H0 p = none := by
  cases q : B.H0 p with
  | none => rfl
  | some o =>
    by_cases hM : B.M0 p
    · obtain ⟨o', z⟩ := h.mdom p hM
      rw [z] at hp
      cases hp
    · rw [h.keep p o q hM] at hp
      cases hp
theorem same_upd {H : Hp} {p : Addr} {o : HO} (hp : H p = none) : Same H (upd H p o) := fun b u e => by
  rw [upd_ne (ne_of_none e hp)]
  exact e
/-- the heap grows -/
theorem Rep.grow (h : Rep g B r s H) (e : Same H H') : Rep g B r s H' where
  len := h.len
  big := h.big
  ok := fun i x o h1 h2 => (h.ok i x o h1 h2).mono (Hd_same fun a u n q => ⟨n, e a u q⟩) (fun _ z => z) fun p u _ q => e p u q
  inj := h.inj
  sep := h.sep
  prot := h.prot
  keep := fun a o q n => e a o (h.keep a o q n)
  mdom := fun p q => let ⟨o, z⟩ := h.mdom p q; ⟨o, e p o z⟩
  fix := h.fix
/-- slots from elder slots: each new one is unknown, or one of the elder ones -/
theorem Rep.sub (h : Rep g B r s H) (f : Nat → Nat) (len : r'.length = s'.length) (big : B.n ≤ s'.length) (fix : ∀ i : Nat, B.fx i = true → s'[i]? = s[i]?)
    (src : ∀ (i : Nat) (x : Sl) (o : Option V), r'[i]? = some x → s'[i]? = some o → x = .no ∨ (r[f i]? = some x ∧ s[f i]? = some o)) (finj : ∀ i j : Nat, i < r'.length → j < r'.length → f i = f j → i = j ∨ r'[i]? = some .no ∨ r'[j]? = some .no) : Rep g B r' s' H := by
  have ow : ∀ i p, own r' s' i = some p → own r s (f i) = some p ∧ i < r'.length := fun i p q => by
    obtain ⟨x, o, h1, h2, h3⟩ := own_some q
    refine ⟨?_, (List.getElem?_eq_some_iff.mp h1).1⟩
    rcases src i x o h1 h2 with e | ⟨e1, e2⟩
    · subst e
      cases h3
    · rw [own_eq e1 e2]
      exact h3
  have sm : Same (Sh B r s H) (Sh B r' s' H) := Hd_same fun a u n q => ⟨by
    rintro (z | ⟨i, z⟩)
    · exact n (.inl z)
    · exact n (.inr ⟨f i, (ow i a z).1⟩), q⟩
  refine ⟨len, big, fun i x o h1 h2 => ?_, fun i j p q1 q2 => ?_, fun i p q => h.sep (f i) p (ow i p q).1, h.prot, h.keep, h.mdom, fun i hi => ⟨(h.fix i hi).1, (fix i hi).trans (h.fix i hi).2⟩⟩
  · rcases src i x o h1 h2 with e | ⟨e1, e2⟩
    · subst e
      trivial
    · exact (h.ok _ x o e1 e2).mono sm (fun _ z => z) fun p u _ z => z
  · obtain ⟨a1, a2⟩ := ow i p q1
    obtain ⟨b1, b2⟩ := ow j p q2
    have nn : ∀ j p, own r' s' j = some p → r'[j]? ≠ some .no := fun j p q z => by
      obtain ⟨x, o, h1, h2, h3⟩ := own_some q
      rw [z] at h1
      cases h1
      cases h3
    rcases finj i j a2 b2 (h.inj _ _ p a1 b1) with z | z | z
    · exact z
    · exact absurd z (nn i p q1)
    · exact absurd z (nn j p q2)
/-- the last ones are dropped -/
theorem Rep.drop {t : Env} {k : St} (h : Rep g B (r ++ t) (s ++ k) H) (hl : r.length = s.length) (hb : B.n ≤ s.length) : Rep g B r s H := by
  refine h.sub (fun i => i) hl hb (fun i hi => ?_) (fun i x o h1 h2 => .inr ⟨?_, ?_⟩) fun _ _ _ _ e => .inl e
  · rw [List.getElem?_append_left (Nat.lt_of_lt_of_le (h.fix i hi).1 hb)]
  · rw [List.getElem?_append_left (List.getElem?_eq_some_iff.mp h1).1]
    exact h1
  · rw [List.getElem?_append_left (List.getElem?_eq_some_iff.mp h2).1]
    exact h2
/-- what is owned next to nothing new -/
theorem own_append {t : Env} {k : St} (hl : r.length = s.length) (i : Nat) (hi : i < r.length) : own (r ++ t) (s ++ k) i = own r s i := by
  unfold own
  rw [List.getElem?_append_left hi, List.getElem?_append_left (hl ▸ hi)]
theorem own_last {x : Sl} {o : Option V} (hl : r.length = s.length) {i : Nat} {p : Addr} (q : own (r ++ [x]) (s ++ [o]) i = some p) : (i < r.length ∧ own r s i = some p) ∨ (i = r.length ∧ ownS x o = some p) := by
  by_cases hi : i < r.length
  · rw [own_append hl i hi] at q
    exact .inl ⟨hi, q⟩
  · obtain ⟨y, u, h1, h2, h3⟩ := own_some q
    have hi' : i = r.length := by
      obtain ⟨q, _⟩ := List.getElem?_eq_some_iff.mp h1
      simp at q
      omega
    subst hi'
    rw [List.getElem?_append_right (Nat.le_refl _)] at h1
    rw [hl, List.getElem?_append_right (Nat.le_refl _)] at h2
    simp at h1 h2
    subst h1
    subst h2
    exact .inr ⟨rfl, h3⟩
theorem get_last {α : Type} {l : List α} {x y : α} {i : Nat} (h : (l ++ [x])[i]? = some y) : (i < l.length ∧ l[i]? = some y) ∨ (i = l.length ∧ y = x) := by
  by_cases hi : i < l.length
  · rw [List.getElem?_append_left hi] at h
    exact .inl ⟨hi, h⟩
  · have hi' : i = l.length := by
      obtain ⟨q, _⟩ := List.getElem?_eq_some_iff.mp h
      simp at q
      omega
    subst hi'
    rw [List.getElem?_append_right (Nat.le_refl _)] at h
    simp at h
    exact .inr ⟨rfl, h.symm⟩
/-- one more, that owns nothing -/
theorem Rep.push (h : Rep g B r s H) {x : Sl} {o : Option V} (hx : SlOk g B.S0 (Sh B r s H) H x o) (hn : ownS x o = none) : Rep g B (r ++ [x]) (s ++ [o]) H := by
  have hl := h.len
  have ow : ∀ i p, own (r ++ [x]) (s ++ [o]) i = some p → own r s i = some p := fun i p q => by
    rcases own_last hl q with ⟨_, z⟩ | ⟨_, z⟩
    · exact z
    · rw [hn] at z
      cases z
  have sm : Same (Sh B r s H) (Sh B (r ++ [x]) (s ++ [o]) H) := Hd_same fun a u n q => ⟨by
    rintro (z | ⟨i, z⟩)
    · exact n (.inl z)
    · exact n (.inr ⟨i, ow i a z⟩), q⟩
  refine ⟨by simp [hl], by have := h.big; simp; omega, fun i y u h1 h2 => ?_, fun i j p q1 q2 => h.inj i j p (ow i p q1) (ow j p q2), fun i p q => h.sep i p (ow i p q), h.prot, h.keep, h.mdom, fun i hi => ⟨(h.fix i hi).1, ?_⟩⟩
  · rcases get_last h1 with ⟨a1, a2⟩ | ⟨a1, a2⟩
    · rw [List.getElem?_append_left (hl ▸ a1)] at h2
      exact (h.ok i y u a2 h2).mono sm (fun _ z => z) fun _ _ _ z => z
    · subst a1
      rw [hl, List.getElem?_append_right (Nat.le_refl _)] at h2
      simp at h2
      subst a2
      subst h2
      exact hx.mono sm (fun _ z => z) fun _ _ _ z => z
  · rw [List.getElem?_append_left (Nat.lt_of_lt_of_le (h.fix i hi).1 h.big)]
    exact (h.fix i hi).2
theorem Rep.pushSh (h : Rep g B r s H) {d : D} {v : V} (hv : R g (Sh B r s H) v d) : Rep g B (r ++ [.sh d]) (s ++ [some v]) H := h.push ⟨v, rfl, hv⟩ rfl
/-- a new thing that its holder owns -/
theorem Rep.pushOw {p : Addr} (h : Rep g B r s H) {d : D} {o : HO} (hp : H p = none) (hn : Node g (Sh B r s H) (upd H p o) p d) : Rep g B (r ++ [.ow d]) (s ++ [some (.ref p)]) (upd H p o) := by
  have hl := h.len
  have np := h.free hp
  have e := same_upd (o := o) hp
  have h' := h.grow e
  have ow : ∀ i q, own (r ++ [.ow d]) (s ++ [some (.ref p)]) i = some q → (i < r.length ∧ own r s i = some q) ∨ (i = r.length ∧ q = p) := fun i q z => by
    rcases own_last hl z with z | ⟨z1, z2⟩
    · exact .inl z
    · cases z2
      exact .inr ⟨z1, rfl⟩
  have sm : Same (Sh B r s H) (Sh B (r ++ [.ow d]) (s ++ [some (.ref p)]) (upd H p o)) := Hd_same fun a u n q => by
    have nap : a ≠ p := ne_of_none q hp
    refine ⟨?_, e a u q⟩
    rintro (z | ⟨i, z⟩)
    · exact n (.inl z)
    · rcases ow i a z with ⟨_, z⟩ | ⟨_, z⟩
      · exact n (.inr ⟨i, z⟩)
      · exact nap z
  refine ⟨by simp [hl], by have := h.big; simp; omega, fun i y u h1 h2 => ?_, fun i j q q1 q2 => ?_, fun i q z => ?_, h.prot, h'.keep, h'.mdom, fun i hi => ⟨(h.fix i hi).1, ?_⟩⟩
  · rcases get_last h1 with ⟨a1, a2⟩ | ⟨a1, a2⟩
    · rw [List.getElem?_append_left (hl ▸ a1)] at h2
      exact (h.ok i y u a2 h2).mono sm (fun _ z => z) fun q w _ z => e q w z
    · subst a1
      rw [hl, List.getElem?_append_right (Nat.le_refl _)] at h2
      simp at h2
      subst a2
      subst h2
      exact ⟨p, rfl, hn.mono sm fun _ z => z⟩
  · rcases ow i q q1 with ⟨a1, a2⟩ | ⟨a1, a2⟩
    · rcases ow j q q2 with ⟨b1, b2⟩ | ⟨b1, b2⟩
      · exact h.inj i j q a2 b2
      · subst b2
        exact absurd (.inr ⟨i, a2⟩) np
    · rcases ow j q q2 with ⟨b1, b2⟩ | ⟨b1, b2⟩
      · subst a2
        exact absurd (.inr ⟨j, b2⟩) np
      · rw [a1, b1]
  · rcases ow i q z with ⟨a1, a2⟩ | ⟨a1, a2⟩
    · exact h.sep i q a2
    · subst a2
      exact ⟨fun w => np (.inl w), .inr (h.freeH0 hp)⟩
  · rw [List.getElem?_append_left (Nat.lt_of_lt_of_le (h.fix i hi).1 h.big)]
    exact (h.fix i hi).2

/-- an owned thing is changed -/
theorem Rep.write {i : Nat} {d d' : D} {p : Addr} {o' : HO} (h : Rep g B r s H) (hi : r[i]? = some (.ow d)) (hs : s[i]? = some (some (.ref p))) (hn : Node g (Sh B r s H) (upd H p o') p d') : Rep g B (r.set i (.ow d')) s (upd H p o') := by
  have hil : i < r.length := (List.getElem?_eq_some_iff.mp hi).1
  have hp : own r s i = some p := by rw [own_eq hi hs]; rfl
  have ow : ∀ j, own (r.set i (.ow d')) s j = own r s j := fun j => by
    by_cases hj : j = i
    · subst hj
      unfold own
      rw [List.getElem?_set_self hil, hi, hs]
      rfl
    · unfold own
      rw [List.getElem?_set_ne (Ne.symm hj)]
  have pr : ∀ a, Pr B (r.set i (.ow d')) s a ↔ Pr B r s a := fun a => by
    unfold Pr
    simp only [ow]
  have sm : Same (Sh B r s H) (Sh B (r.set i (.ow d')) s (upd H p o')) := Hd_same fun a u n q => by
    have nap : a ≠ p := fun z => n (.inr ⟨i, z ▸ hp⟩)
    exact ⟨fun z => n ((pr a).mp z), by rw [upd_ne nap]; exact q⟩
  refine ⟨by simp [h.len], h.big, fun j x o h1 h2 => ?_, fun j k q q1 q2 => h.inj j k q (ow j ▸ q1) (ow k ▸ q2), fun j q z => h.sep j q (ow j ▸ z), h.prot, fun a o q n => ?_, fun q z => ?_, h.fix⟩
  · by_cases hj : j = i
    · subst hj
      rw [List.getElem?_set_self hil] at h1
      cases h1
      rw [hs] at h2
      cases h2
      exact ⟨p, rfl, hn.mono sm fun _ z => z⟩
    · rw [List.getElem?_set_ne (Ne.symm hj)] at h1
      refine (h.ok j x o h1 h2).mono sm (fun _ z => z) fun q u hq z => ?_
      have nqp : q ≠ p := by
        intro e
        subst e
        rcases hq with hq | hq
        · exact (h.sep i q hp).1 hq
        · exact hj (h.inj j i q (by rw [own_eq h1 h2]; exact hq) hp)
      rw [upd_ne nqp]
      exact z
  · have nap : a ≠ p := by
      intro e
      subst e
      rcases (h.sep i a hp).2 with z | z
      · exact n z
      · rw [z] at q
        cases q
    rw [upd_ne nap]
    exact h.keep a o q n
  · by_cases e : q = p
    · subst e
      exact ⟨_, upd_same⟩
    · rw [upd_ne e]
      exact h.mdom q z
/-- an owned thing becomes shared -/
theorem Rep.demote {i : Nat} {d : D} (h : Rep g B r s H) (hi : r[i]? = some (.ow d)) : Rep g B (r.set i (.sh d)) s H := by
  have hil : i < r.length := (List.getElem?_eq_some_iff.mp hi).1
  obtain ⟨o, hs⟩ : ∃ o, s[i]? = some o := ⟨s[i]'(h.len ▸ hil), List.getElem?_eq_getElem (h.len ▸ hil)⟩
  obtain ⟨p, rfl, hn⟩ := h.ok i _ _ hi hs
  have hp : own r s i = some p := by rw [own_eq hi hs]; rfl
  have ow : ∀ j q, own (r.set i (.sh d)) s j = some q → own r s j = some q ∧ j ≠ i := fun j q z => by
    by_cases hj : j = i
    · subst hj
      rw [own_eq (List.getElem?_set_self hil) hs] at z
      cases z
    · unfold own at z
      rw [List.getElem?_set_ne (Ne.symm hj)] at z
      exact ⟨z, hj⟩
  have np : ¬ Pr B (r.set i (.sh d)) s p := by
    rintro (z | ⟨j, z⟩)
    · exact (h.sep i p hp).1 z
    · obtain ⟨z1, z2⟩ := ow j p z
      exact z2 (h.inj j i p z1 hp)
  have sm : Same (Sh B r s H) (Sh B (r.set i (.sh d)) s H) := Hd_same fun a u n q => ⟨by
    rintro (z | ⟨j, z⟩)
    · exact n (.inl z)
    · exact n (.inr ⟨j, (ow j a z).1⟩), q⟩
  refine ⟨by simp [h.len], h.big, fun j x o h1 h2 => ?_, fun j k q q1 q2 => h.inj j k q (ow j q q1).1 (ow k q q2).1, fun j q z => h.sep j q (ow j q z).1, h.prot, h.keep, h.mdom, h.fix⟩
  by_cases hj : j = i
  · subst hj
    rw [List.getElem?_set_self hil] at h1
    cases h1
    rw [hs] at h2
    cases h2
    exact ⟨_, rfl, hn.toR sm fun o z => (Hd_ne np).trans z⟩
  · rw [List.getElem?_set_ne (Ne.symm hj)] at h1
    exact (h.ok j x o h1 h2).mono sm (fun _ z => z) fun _ _ _ z => z
/-- as shared data, in the whole heap -/
theorem SlOk.toR {S0 : Addr → Prop} {Hs : Hp} {x : Sl} {o : Option V} {d : D} (h : SlOk g S0 Hs H x o) (e : Same Hs H) (hg : x.get = some d) : ∃ v, o = some v ∧ R g H v d := by
  cases x with
  | no => cases hg
  | sh d' =>
    cases hg
    obtain ⟨v, h1, h2⟩ := h
    exact ⟨v, h1, h2.mono e⟩
  | ow d' =>
    cases hg
    obtain ⟨p, h1, h2⟩ := h
    exact ⟨_, h1, h2.toR e fun _ z => z⟩
  | lk d' =>
    cases hg
    obtain ⟨p, h1, h2⟩ := h
    exact ⟨_, h1, h2.toR e fun _ z => z⟩
  | bw d' =>
    cases hg
    obtain ⟨p, h1, _, h2⟩ := h
    exact ⟨_, h1, h2.toR e fun _ z => z⟩
/-- what is within is shared -/
inductive RC (g : Gm) (Hs H : Hp) : V → D → Prop
  | sh {v : V} {d : D} : R g Hs v d → RC g Hs H v d
  | nd {p : Addr} {d : D} : Node g Hs H p d → RC g Hs H (.ref p) d
theorem SlOk.toRC {S0 : Addr → Prop} {Hs : Hp} {x : Sl} {o : Option V} {d : D} (h : SlOk g S0 Hs H x o) (hg : x.get = some d) : ∃ v, o = some v ∧ RC g Hs H v d := by
  cases x with
  | no => cases hg
  | sh d' =>
    cases hg
    obtain ⟨v, h1, h2⟩ := h
    exact ⟨v, h1, .sh h2⟩
  | ow d' =>
    cases hg
    obtain ⟨p, h1, h2⟩ := h
    exact ⟨_, h1, .nd h2⟩
  | lk d' =>
    cases hg
    obtain ⟨p, h1, h2⟩ := h
    exact ⟨_, h1, .nd h2⟩
  | bw d' =>
    cases hg
    obtain ⟨p, h1, _, h2⟩ := h
    exact ⟨_, h1, .nd h2⟩
theorem RC.lst {Hs : Hp} {v : V} {ds : List D} (h : RC g Hs H v (.lst ds)) (e : Same Hs H) : ∃ a xs, v = .ref a ∧ H a = some (.lst xs) ∧ RA g Hs xs ds := by
  cases h with
  | sh h =>
    cases h with
    | lst h1 h2 => exact ⟨_, _, rfl, e _ _ h1, h2⟩
  | nd h =>
    obtain ⟨xs, h1, h2⟩ := h
    exact ⟨_, xs, rfl, h1, h2⟩
theorem RC.scr {Hs : Hp} {v : V} {ds : List D} (h : RC g Hs H v (.scr ds)) (e : Same Hs H) : ∃ a xs, v = .ref a ∧ SqL g.K H a xs ∧ RA g Hs xs ds := by
  cases h with
  | sh h =>
    cases h with
    | scr h1 h2 => exact ⟨_, _, rfl, e.seq h1, h2⟩
  | nd h => exact False.elim h
theorem RC.tup {Hs : Hp} {v : V} {ds : List D} (h : RC g Hs H v (.tup ds)) (e : Same Hs H) : ∃ a xs, v = .ref a ∧ SqT g.K H a xs ∧ RA g Hs xs ds := by
  cases h with
  | sh h =>
    cases h with
    | tup h1 h2 => exact ⟨_, _, rfl, sqT_mono e h1, h2⟩
  | nd h => exact False.elim h
theorem RC.toR {Hs : Hp} {v : V} {d : D} (h : RC g Hs H v d) (e : Same Hs H) : R g H v d := by
  cases h with
  | sh h => exact h.mono e
  | nd h => exact h.toR e fun _ z => z
theorem Rep.slot (h : Rep g B r s H) {i : Nat} {x : Sl} (hi : r[i]? = some x) : ∃ o, s[i]? = some o ∧ SlOk g B.S0 (Sh B r s H) H x o := by
  have hil : i < r.length := (List.getElem?_eq_some_iff.mp hi).1
  obtain ⟨o, hs⟩ : ∃ o, s[i]? = some o := ⟨s[i]'(h.len ▸ hil), List.getElem?_eq_getElem (h.len ▸ hil)⟩
  exact ⟨o, hs, h.ok i x o hi hs⟩
/-- the last one goes to slot i -/
theorem Rep.store {i : Nat} {x : Sl} {o : Option V} {t : Env} {k : St} (h : Rep g B ((r ++ t) ++ [x]) ((s ++ k) ++ [o]) H) (hl : r.length = s.length) (hk : t.length = k.length) (hb : B.n ≤ s.length) (hi : i < r.length) (hf : B.fx i = false) : Rep g B (r.set i x ++ t) (s.set i o ++ k) H := by
  have hlt : (r ++ t).length = (s ++ k).length := by simp [hl, hk]
  refine h.sub (fun j => if j = i then (r ++ t).length else j) (by simp [hl, hk]) (by simp; omega) (fun j hj => ?_) (fun j y u h1 h2 => ?_) fun a b ha hb e => ?_
  · have ne : j ≠ i := fun z => by rw [z, hf] at hj; cases hj
    have hj2 := Nat.lt_of_lt_of_le (h.fix j hj).1 hb
    rw [List.getElem?_append_left (by simpa using hj2), List.getElem?_set_ne (Ne.symm ne), List.getElem?_append_left (by simp; omega), List.getElem?_append_left hj2]
  · right
    have hjl : j < (r ++ t).length := by
      have := (List.getElem?_eq_some_iff.mp h1).1
      simpa using this
    by_cases hj : j = i
    · subst hj
      rw [if_pos rfl]
      rw [List.getElem?_append_left (by simpa using hi), List.getElem?_set_self hi] at h1
      rw [List.getElem?_append_left (by simpa using hl ▸ hi), List.getElem?_set_self (hl ▸ hi)] at h2
      rw [List.getElem?_append_right (Nat.le_refl _), hlt, List.getElem?_append_right (Nat.le_refl _)]
      simpa using ⟨Option.some.inj h1, Option.some.inj h2⟩
    · have e1 : ((r ++ t) ++ [x])[j]? = (r ++ t)[j]? := List.getElem?_append_left hjl
      have e2 : ((s ++ k) ++ [o])[j]? = (s ++ k)[j]? := List.getElem?_append_left (by omega)
      rw [if_neg hj, e1, e2]
      by_cases hjr : j < r.length
      · rw [List.getElem?_append_left (by simpa using hjr), List.getElem?_set_ne (Ne.symm hj)] at h1
        rw [List.getElem?_append_left (by simpa using hl ▸ hjr), List.getElem?_set_ne (Ne.symm hj)] at h2
        exact ⟨(List.getElem?_append_left hjr).trans h1, (List.getElem?_append_left (hl ▸ hjr)).trans h2⟩
      · rw [List.getElem?_append_right (by simp; omega)] at h1
        rw [List.getElem?_append_right (by simp; omega)] at h2
        simp at h1 h2
        exact ⟨(List.getElem?_append_right (by omega)).trans h1, (List.getElem?_append_right (by omega)).trans h2⟩
  · have ha' : a < (r ++ t).length := by simpa using ha
    have hb' : b < (r ++ t).length := by simpa using hb
    left
    split at e <;> split at e <;> omega
end
end Py

set_option Elab.async false
set_option linter.all false
set_option maxRecDepth 100000
/-! Sd: judgements that a piece of the text means a partial function over data; the rules of expressions. -/
namespace Py
open PySem L2

/-- .. and the slot that holds a known thing (an exception that is handled) -/
structure Gam where
  m : Gm
  sx : Option (Nat × V)
instance : Coe Gam Gm := ⟨Gam.m⟩
structure Cs where
  c : Str → Option Addr
  sx : Option (Nat × V)
abbrev gm (X : Cx) (cl : Cs) : Gam := ⟨⟨X.K, cl.c⟩, cl.sx⟩

structure RepT (g : Gam) (B : Bs) (r : Env) (s : St) (t : Env) (k : St) (H : Hp) : Prop where
  rn : r.length = B.n
  sn : s.length = B.n
  tk : t.length = k.length
  rep : Rep g B (r ++ t) (s ++ k) H
  sx : ∀ i v, g.sx = some (i, v) → B.fx i = true ∧ B.s0[i]? = some (some v)

/-- an exception's own attributes -/
def XOk (g : Gm) (Hs : Hp) (e : Exc) (d : Option Addr) : Prop := match e.fs with
  | [] => d = none
  | fs => ∃ (q : Addr) (xs : List V), d = some q ∧ Hs q = some (.xd ((fs.map (·.1)).zip xs)) ∧ fs.length = xs.length ∧ RA g Hs xs (fs.map (·.2))
theorem XOk.mono {g : Gm} {Hs Hs' : Hp} {e : Exc} {d : Option Addr} (q : Same Hs Hs') (h : XOk g Hs e d) : XOk g Hs' e d := by
  unfold XOk at h ⊢
  split
  · rename_i z
    rw [z] at h
    exact h
  · rename_i z1
    split at h
    · rename_i z2
      exact absurd z2 z1
    · obtain ⟨a, xs, h1, h2, h3, h4⟩ := h
      exact ⟨a, xs, h1, q _ _ h2, h3, h4.mono q⟩

/-- what is wanted of an exception -/
def PostX (g : Gam) (B : Bs) (t : Env) (k : St) (W : WX) (e : Exc) (r : Env) (s : St) : Prop :=
  ∀ (C : Addr) (d : Option Addr) (H : Hp), g.m.cl e.cls = some C → RepT g B r s t k H → XOk g (Sh B (r ++ t) (s ++ k) H) e d → W (.ref C) d s H
def PostE (g : Gam) (B : Bs) (s : St) (t : Env) (k : St) (W : WX) (Q : VK) : Out Sl → Prop
  | .ok x r' => ∀ v H', RepT g B r' s (t ++ [x]) (k ++ [some v]) H' → Q v H'
  | .ex e r' => PostX g B t k W e r' s
def DE (g : Gam) (te : TE) (m : E) (W : WX) : Prop := ∀ B r s t k H Q o, RepT g B r s t k H → m r = some o → PostE g B s t k W Q o → te s H Q
/-- an expression means m -/
def PD (X : Cx) (cl : Cs) (W : WX) (e : Expr) (m : E) : Prop := ∃ te, PE X e te ∧ DE (gm X cl) te m W

/-- how an operand lies -/
def ArgOk (g : Gam) (B : Bs) (r : Env) (s : St) (t : Env) (k : St) (H : Hp) (v : V) : Arg → Prop
  | .r i => s[i]? = some (some v) ∧ RepT g B r s t k H
  | .v x => RepT g B r s (t ++ [x]) (k ++ [some v]) H
def PostO (g : Gam) (B : Bs) (s : St) (t : Env) (k : St) (W : WX) (Q : VK) : Out Arg → Prop
  | .ok a r' => ∀ v H', ArgOk g B r' s t k H' v a → Q v H'
  | .ex e r' => PostX g B t k W e r' s
def DO (g : Gam) (te : TE) (m : A) (W : WX) : Prop := ∀ B r s t k H Q o, RepT g B r s t k H → m r = some o → PostO g B s t k W Q o → te s H Q
def PO (X : Cx) (cl : Cs) (W : WX) (e : Expr) (m : A) : Prop := ∃ te, PE X e te ∧ DO (gm X cl) te m W

/-- operands, their values, the values among them that are no slots -/
inductive AV (s : St) : List Arg → List V → St → Prop
  | nil : AV s [] [] []
  | r {i : Nat} {v : V} {as : List Arg} {vs : List V} {k : St} : s[i]? = some (some v) → AV s as vs k → AV s (.r i :: as) (v :: vs) k
  | v {x : Sl} {v : V} {as : List Arg} {vs : List V} {k : St} : AV s as vs k → AV s (.v x :: as) (v :: vs) (some v :: k)
def tms : List Arg → Env
  | [] => []
  | .r _ :: as => tms as
  | .v x :: as => x :: tms as
def PostAs (g : Gam) (B : Bs) (s : St) (t : Env) (k : St) (W : WX) (Q : List V → Hp → Prop) : Out (List Arg) → Prop
  | .ok as r' => ∀ vs kv H', AV s as vs kv → RepT g B r' s (t ++ tms as) (k ++ kv) H' → Q vs H'
  | .ex e r' => PostX g B t k W e r' s
def DAs (g : Gam) (ta : TA) (m : As) (W : WX) : Prop := ∀ B r s t k H Q o, RepT g B r s t k H → m r = some o → PostAs g B s t k W Q o → ta s H Q
def PAs (X : Cx) (cl : Cs) (W : WX) (es : List Expr) (m : As) : Prop := ∃ ta, PA X es ta ∧ DAs (gm X cl) ta m W

def PostT (g : Gam) (B : Bs) (s : St) (t : Env) (k : St) (W : WX) (Q : Bool → Hp → Prop) : Out Bool → Prop
  | .ok b r' => ∀ H', RepT g B r' s t k H' → Q b H'
  | .ex e r' => PostX g B t k W e r' s
def DT (g : Gam) (tt : TT) (m : T) (W : WX) : Prop := ∀ B r s t k H Q o, RepT g B r s t k H → m r = some o → PostT g B s t k W Q o → tt s H Q
def PTd (X : Cx) (cl : Cs) (W : WX) (e : Expr) (m : T) : Prop := ∃ tt, PT X e tt ∧ DT (gm X cl) tt m W
def PWd (X : Cx) (cl : Cs) (W : WX) (e : Expr) (m : T) : Prop := ∃ tt, PW X e tt ∧ DT (gm X cl) tt m W

section
variable {g : Gam} {B : Bs} {r r' : Env} {s : St} {t t' : Env} {k k' : St} {H : Hp} {W : WX}
theorem RepT.dropped (h : RepT g B r s (t ++ t') (k ++ k') H) (hl : t.length = k.length) : RepT g B r s t k H := by
  refine ⟨h.rn, h.sn, hl, ?_, h.sx⟩
  have q := h.rep
  rw [← List.append_assoc, ← List.append_assoc] at q
  exact q.drop (by simp [h.rn, h.sn, hl]) (by simp [h.sn])
theorem sh_mono_drop (h : RepT g B r s (t ++ t') (k ++ k') H) (hl : t.length = k.length) : Same (Sh B (r ++ (t ++ t')) (s ++ (k ++ k')) H) (Sh B (r ++ t) (s ++ k) H) := Hd_same fun a u n q => ⟨by
  rintro (z | ⟨i, z⟩)
  · exact n (.inl z)
  · refine n (.inr ⟨i, ?_⟩)
    rw [← List.append_assoc, ← List.append_assoc, own_append (by simp [h.rn, h.sn, hl]) i ?_]
    · exact z
    · obtain ⟨x, o, h1, _⟩ := own_some z
      exact (List.getElem?_eq_some_iff.mp h1).1, q⟩
theorem PostX.drop (hl : t.length = k.length) {e : Exc} (h : PostX g B t k W e r s) : PostX g B (t ++ t') (k ++ k') W e r s := fun C d H hc hr hx =>
  h C d H hc (hr.dropped hl) (hx.mono (sh_mono_drop hr hl))
end

/-! ### operands -/
section
variable {X : Cx} {cl : Cs} {W : WX} {e : Expr} {es : List Expr}
theorem po_v {m : E} (h : PD X cl W e m) : PO X cl W e (aV m) := by
  obtain ⟨te, h1, h2⟩ := h
  refine ⟨te, h1, fun B r s t k H Q o hr hm hp => ?_⟩
  unfold aV M.bind at hm
  cases q : m r with
  | none =>
    rw [q] at hm
    cases hm
  | some u =>
    rw [q] at hm
    cases u with
    | ok x r' =>
      cases hm
      exact h2 B r s t k H Q _ hr q hp
    | ex e r' =>
      cases hm
      exact h2 B r s t k H Q _ hr q hp
theorem pas_nil : PAs X cl W [] asN := ⟨_, pa_nil, fun B r s t k H Q o hr hm hp => by
  cases hm
  exact hp [] [] H .nil (by show RepT _ B r s (t ++ []) (k ++ []) H; rw [List.append_nil, List.append_nil]; exact hr)⟩
theorem pas_cons {a : A} {as : As} (h : PO X cl W e a) (hs : PAs X cl W es as) (hst : starEach (e :: es) X.env = (false, eval e X.env) :: starEach es X.env := by rfl) : PAs X cl W (e :: es) (asC a as) := by
  obtain ⟨te, h1, h2⟩ := h
  obtain ⟨ta, h3, h4⟩ := hs
  refine ⟨_, pa_cons h1 h3 hst, fun B r s t k H Q o hr hm hp => ?_⟩
  unfold asC M.bind at hm
  show te s H fun x H1 => ta s H1 fun xs H2 => Q (x :: xs) H2
  cases q : a r with
  | none =>
    rw [q] at hm
    cases hm
  | some u =>
    rw [q] at hm
    cases u with
    | ex e r1 =>
      cases hm
      exact h2 B r s t k H _ _ hr q hp
    | ok x r1 =>
      dsimp only at hm
      cases q2 : as r1 with
      | none =>
        rw [q2] at hm
        cases hm
      | some u2 =>
        rw [q2] at hm
        refine h2 B r s t k H _ _ hr q fun v H1 ha => ?_
        cases x with
        | r i =>
          obtain ⟨ha1, ha2⟩ := ha
          refine h4 B r1 s t k H1 _ _ ha2 q2 ?_
          cases u2 with
          | ex e r2 =>
            cases hm
            exact hp
          | ok xs r2 =>
            cases hm
            exact fun vs kv H2 av hr2 => hp (v :: vs) kv H2 (.r ha1 av) hr2
        | v x =>
          refine h4 B r1 s (t ++ [x]) (k ++ [some v]) H1 _ _ ha q2 ?_
          cases u2 with
          | ex e r2 =>
            cases hm
            exact PostX.drop hr.tk hp
          | ok xs r2 =>
            cases hm
            refine fun vs kv H2 av hr2 => hp (v :: vs) (some v :: kv) H2 (.v av) ?_
            rw [List.append_assoc, List.append_assoc] at hr2
            exact hr2
end

/-! ### what operands are -/
inductive RCA (g : Gm) (Hs H : Hp) : List V → List D → Prop
  | nil : RCA g Hs H [] []
  | cons {v : V} {vs : List V} {d : D} {ds : List D} : RC g Hs H v d → RCA g Hs H vs ds → RCA g Hs H (v :: vs) (d :: ds)
theorem RCA.toRA {g : Gm} {Hs H : Hp} (e : Same Hs H) : ∀ {vs : List V} {ds : List D}, RCA g Hs H vs ds → RA g H vs ds
  | _, _, .nil => .nil
  | _, _, .cons r t => .cons (r.toR e) (RCA.toRA e t)
section
variable {g : Gam} {B : Bs} {r r' : Env} {s : St} {t t' : Env} {k k' : St} {H : Hp} {W : WX}
theorem RepT.lt (h : RepT g B r s t k H) {i : Nat} {x : Sl} (hi : r[i]? = some x) : i < s.length := by
  have := (List.getElem?_eq_some_iff.mp hi).1
  rw [h.sn, ← h.rn]
  exact this
theorem RepT.slot (h : RepT g B r s t k H) {i : Nat} {x : Sl} (hi : r[i]? = some x) : ∃ o, s[i]? = some o ∧ SlOk g B.S0 (Sh B (r ++ t) (s ++ k) H) H x o := by
  have hil := (List.getElem?_eq_some_iff.mp hi).1
  obtain ⟨o, h1, h2⟩ := h.rep.slot (i := i) (x := x) (by rw [List.getElem?_append_left hil]; exact hi)
  rw [List.getElem?_append_left (h.lt hi)] at h1
  exact ⟨o, h1, h2⟩
theorem RepT.temp {x : Sl} {o : Option V} (h : RepT g B r s (t ++ x :: t') (k ++ o :: k') H) (hl : t.length = k.length) : SlOk g B.S0 (Sh B (r ++ (t ++ x :: t')) (s ++ (k ++ o :: k')) H) H x o := by
  refine h.rep.ok (r.length + t.length) x o ?_ ?_
  · rw [List.getElem?_append_right (by omega), List.getElem?_append_right (by omega)]
    simp
  · have e : r.length = s.length := h.rn.trans h.sn.symm
    rw [List.getElem?_append_right (by omega), List.getElem?_append_right (by omega), e, hl]
    simp
theorem AV.rca : ∀ {as : List Arg} {vs : List V} {kv : St} {ds : List D} {t : Env} {k : St}, AV s as vs kv → RepT g B r s (t ++ tms as) (k ++ kv) H → t.length = k.length → dats r as = some ds →
    RCA g (Sh B (r ++ (t ++ tms as)) (s ++ (k ++ kv)) H) H vs ds
  | _, _, _, _, _, _, .nil, _, _, hd => by
    cases hd
    exact .nil
  | .r i :: as, _, _, ds, t, k, .r hi av, hr, hl, hd => by
    unfold dats at hd
    cases q1 : (Arg.r i).dat r with
    | none =>
      rw [q1] at hd
      cases hd
    | some d =>
      cases q2 : dats r as with
      | none =>
        rw [q1, q2] at hd
        cases hd
      | some ds2 =>
        rw [q1, q2] at hd
        cases hd
        have ih := AV.rca (t := t) (k := k) av hr hl q2
        refine .cons ?_ ih
        unfold Arg.dat Arg.sl at q1
        dsimp only at q1
        cases q3 : r[i]? with
        | none =>
          rw [q3] at q1
          cases q1
        | some x =>
          rw [q3] at q1
          obtain ⟨o, e1, e2⟩ := hr.slot q3
          rw [hi] at e1
          cases e1
          obtain ⟨v', e3, e4⟩ := e2.toRC q1
          cases e3
          exact e4
  | .v x :: as, _, _, ds, t, k, @AV.v _ _ w _ _ kv av, hr, hl, hd => by
    unfold dats at hd
    cases q1 : (Arg.v x).dat r with
    | none =>
      rw [q1] at hd
      cases hd
    | some d =>
      cases q2 : dats r as with
      | none =>
        rw [q1, q2] at hd
        cases hd
      | some ds2 =>
        rw [q1, q2] at hd
        cases hd
        have hr2 : RepT g B r s ((t ++ [x]) ++ tms as) ((k ++ [some w]) ++ kv) H := by
          rw [List.append_assoc, List.append_assoc]
          exact hr
        have ih := AV.rca (t := t ++ [x]) (k := k ++ [some w]) av hr2 (by simp [hl]) q2
        have e1 : (t ++ [x]) ++ tms as = t ++ tms (.v x :: as) := by rw [List.append_assoc]; rfl
        have e2 : (k ++ [some w]) ++ kv = k ++ some w :: kv := by rw [List.append_assoc]; rfl
        rw [e1, e2] at ih
        refine .cons ?_ ih
        obtain ⟨v', e3, e4⟩ := (RepT.temp (t := t) (t' := tms as) (k := k) (k' := kv) hr hl).toRC (d := d) q1
        cases e3
        exact e4
/-- behind an operation: the operands are dropped, a shared result is pushed -/
theorem RepT.result {d : D} {v : V} (h : RepT g B r s (t ++ t') (k ++ k') H) (hl : t.length = k.length) (hv : R g (Sh B (r ++ (t ++ t')) (s ++ (k ++ k')) H) v d) : RepT g B r s (t ++ [.sh d]) (k ++ [some v]) H := by
  have h2 := h.dropped hl
  refine ⟨h.rn, h.sn, by simp [hl], ?_, h.sx⟩
  rw [← List.append_assoc, ← List.append_assoc]
  exact h2.rep.pushSh (hv.mono (sh_mono_drop h hl))
/-- operands that are shared, or new things that become so -/
theorem AV.ra : ∀ {as : List Arg} {vs : List V} {kv : St} {ds : List D} {t : Env} {k : St}, AV s as vs kv → RepT g B r s (t ++ tms as) (k ++ kv) H → t.length = k.length → shds r as = some ds →
    ∀ (Hs : Hp), Same (Sh B (r ++ (t ++ tms as)) (s ++ (k ++ kv)) H) Hs → (∀ p o i, r.length + t.length ≤ i → own (r ++ (t ++ tms as)) (s ++ (k ++ kv)) i = some p → H p = some o → Hs p = some o) → RA g Hs vs ds
  | _, _, _, _, _, _, .nil, _, _, hd, _, _, _ => by
    cases hd
    exact .nil
  | .r i :: as, _, _, ds, t, k, .r hi av, hr, hl, hd, Hs, hs, ho => by
    unfold shds at hd
    cases q1 : (Arg.r i).shd r with
    | none =>
      rw [q1] at hd
      cases hd
    | some d =>
      cases q2 : shds r as with
      | none =>
        rw [q1, q2] at hd
        cases hd
      | some ds2 =>
        rw [q1, q2] at hd
        cases hd
        have ih := AV.ra (t := t) (k := k) av hr hl q2 Hs hs ho
        refine .cons ?_ ih
        unfold Arg.shd at q1
        dsimp only at q1
        cases q3 : r[i]? with
        | none =>
          rw [q3] at q1
          cases q1
        | some x =>
          rw [q3] at q1
          cases x with
          | sh d' =>
            cases q1
            obtain ⟨o, e1, v', e2, e3⟩ := hr.slot q3
            rw [hi] at e1
            cases e1
            cases e2
            exact e3.mono hs
          | _ => cases q1
  | .v x :: as, _, _, ds, t, k, @AV.v _ _ w _ _ kv av, hr, hl, hd, Hs, hs, ho => by
    unfold shds at hd
    cases q1 : (Arg.v x).shd r with
    | none =>
      rw [q1] at hd
      cases hd
    | some d =>
      cases q2 : shds r as with
      | none =>
        rw [q1, q2] at hd
        cases hd
      | some ds2 =>
        rw [q1, q2] at hd
        cases hd
        have hr2 : RepT g B r s ((t ++ [x]) ++ tms as) ((k ++ [some w]) ++ kv) H := by
          rw [List.append_assoc, List.append_assoc]
          exact hr
        have e1 : (t ++ [x]) ++ tms as = t ++ tms (.v x :: as) := by rw [List.append_assoc]; rfl
        have e2 : (k ++ [some w]) ++ kv = k ++ some w :: kv := by rw [List.append_assoc]; rfl
        have ih := AV.ra (t := t ++ [x]) (k := k ++ [some w]) av hr2 (by simp [hl]) q2 Hs (by rw [e1, e2]; exact hs) (fun p o i hi q z => ho p o i (by simp at hi; omega) (by rw [← e1, ← e2]; exact q) z)
        refine .cons ?_ ih
        have ok := RepT.temp (t := t) (t' := tms as) (k := k) (k' := kv) hr hl
        have ix1 : (r ++ (t ++ tms (.v x :: as)))[r.length + t.length]? = some x := by
          rw [List.getElem?_append_right (by omega), List.getElem?_append_right (by omega)]
          simp [tms]
        have ix2 : (s ++ (k ++ some w :: kv))[r.length + t.length]? = some (some w) := by
          have e : r.length = s.length := hr.rn.trans hr.sn.symm
          rw [List.getElem?_append_right (by omega), List.getElem?_append_right (by omega), e, hl]
          simp
        cases x with
        | sh d' =>
          cases q1
          obtain ⟨v', e3, e4⟩ := ok
          cases e3
          exact e4.mono hs
        | ow d' =>
          cases q1
          obtain ⟨p, e3, e4⟩ := ok
          cases e3
          exact e4.toR hs fun o z => ho p o (r.length + t.length) (Nat.le_refl _) (by rw [own_eq ix1 ix2]; rfl) z
        | no => cases q1
        | lk d' => cases q1
        | bw d' => cases q1
/-- .. over the shared heap behind them -/
theorem AV.shared {as : List Arg} {vs : List V} {kv : St} {ds : List D} (av : AV s as vs kv) (hr : RepT g B r s (t ++ tms as) (k ++ kv) H) (hl : t.length = k.length) (hd : shds r as = some ds) : RA g (Sh B (r ++ t) (s ++ k) H) vs ds := by
  refine av.ra hr hl hd _ (sh_mono_drop hr hl) fun p o i hi q z => ?_
  have e : r.length = s.length := hr.rn.trans hr.sn.symm
  have np : ¬ Pr B (r ++ t) (s ++ k) p := by
    rintro (w | ⟨j, w⟩)
    · exact (hr.rep.sep i p q).1 w
    · have hj : j < (r ++ t).length := by
        obtain ⟨x, o, h1, _⟩ := own_some w
        exact (List.getElem?_eq_some_iff.mp h1).1
      have w2 : own (r ++ (t ++ tms as)) (s ++ (k ++ kv)) j = some p := by
        rw [← List.append_assoc, ← List.append_assoc, own_append (by simp [e, hl]) j hj]
        exact w
      have := hr.rep.inj i j p q w2
      simp at hj
      omega
  exact (Hd_ne np).trans z
end
end Py

set_option Elab.async false
set_option linter.all false
set_option maxRecDepth 100000
/-! Se: names, constants, operations, displays, tests. -/
namespace Py
open PySem L2

section
variable {g : Gam} {B : Bs} {r r' : Env} {s : St} {t t' : Env} {k k' : St} {H : Hp} {W : WX}
theorem RepT.push (h : RepT g B r s t k H) {d : D} {v : V} (hv : R g (Sh B (r ++ t) (s ++ k) H) v d) : RepT g B r s (t ++ [.sh d]) (k ++ [some v]) H :=
  ⟨h.rn, h.sn, by simp [h.tk], by rw [← List.append_assoc, ← List.append_assoc]; exact h.rep.pushSh hv, h.sx⟩
theorem RepT.pushOw (h : RepT g B r s t k H) {d : D} {p : Addr} {o : HO} (hp : H p = none) (hn : Node g (Sh B (r ++ t) (s ++ k) H) (upd H p o) p d) : RepT g B r s (t ++ [.ow d]) (k ++ [some (.ref p)]) (upd H p o) :=
  ⟨h.rn, h.sn, by simp [h.tk], by rw [← List.append_assoc, ← List.append_assoc]; exact h.rep.pushOw hp hn, h.sx⟩
theorem RepT.grow {H' : Hp} (h : RepT g B r s t k H) (e : Same H H') : RepT g B r s t k H' := ⟨h.rn, h.sn, h.tk, h.rep.grow e, h.sx⟩
theorem sh_grow {H' : Hp} {r : Env} {s : St} (e : Same H H') : Same (Sh B r s H) (Sh B r s H') := Hd_same fun a u n q => ⟨n, e a u q⟩
theorem RepT.pushTup (h : RepT g B r s t k H) {l : List D} {xs : List V} {p : Addr} (hp : H p = none) (hl : RA g (Sh B (r ++ t) (s ++ k) H) xs l) : RepT g B r s (t ++ [.sh (.tup l)]) (k ++ [some (.ref p)]) (upd H p (.tup xs)) := by
  have e := same_upd (o := .tup xs) hp
  refine (h.grow e).push ?_
  have np := h.rep.free hp
  exact .tup (SqT.of ((Hd_ne np).trans upd_same)) (hl.mono (sh_grow e))
theorem RepT.pushLst (h : RepT g B r s t k H) {l : List D} {xs : List V} {p : Addr} (hp : H p = none) (hl : RA g (Sh B (r ++ t) (s ++ k) H) xs l) : RepT g B r s (t ++ [.ow (.lst l)]) (k ++ [some (.ref p)]) (upd H p (.lst xs)) :=
  h.pushOw hp ⟨xs, upd_same, hl⟩
theorem RA.pv {H : Hp} {v : V} {d : D} (h : R g H v d) : R g H v d := h
end

/-! ### names, constants -/
section
variable {X : Cx} {cl : Cs} {W : WX}
theorem pd_pure {e : Expr} {v : V} {d : D} (h : PE X e (tC v)) (hv : ∀ (g : Gm) H, R g H v d) : PD X cl W e (eC d) := by
  refine ⟨_, h, fun B r s t k H Q o hr hm hp => ?_⟩
  cases hm
  exact hp v H (hr.push (hv _ _))
theorem pd_int {i j pos} : PD X cl W (.Constant (.int i) j pos) (eC (.int i)) := pd_pure pe_int fun _ _ => .int i
theorem pd_str {i j pos} : PD X cl W (.Constant (.str i) j pos) (eC (.str i)) := pd_pure pe_str fun _ _ => .str i
theorem pd_bl {i j pos} : PD X cl W (.Constant (.bool i) j pos) (eC (.bl i)) := pd_pure pe_bl fun _ _ => .bl i
theorem pd_non {j pos} : PD X cl W (.Constant .none j pos) (eC .non) := pd_pure pe_non fun _ _ => .non
variable {x : Str} {pos : Pos}
theorem po_r (i : Nat) (h : PE X (.Name x pos) (tVar i)) : PO X cl W (.Name x pos) (aR i) := by
  refine ⟨_, h, fun B r s t k H Q o hr hm hp => ?_⟩
  unfold aR at hm
  cases q : (r[i]?).bind Sl.get with
  | none =>
    rw [q] at hm
    cases hm
  | some d =>
    rw [q] at hm
    cases hm
    obtain ⟨y, q1, q2⟩ := Option.bind_eq_some_iff.mp q
    obtain ⟨o, e1, e2⟩ := hr.slot q1
    obtain ⟨v, e3, _⟩ := e2.toRC q2
    subst e3
    exact ⟨v, e1, hp v H ⟨e1, hr⟩⟩
theorem RepT.set {g : Gam} {B : Bs} {r r2 : Env} {s : St} {t : Env} {k : St} {H : Hp} (h : RepT g B r s t k H) (hl : r2.length = r.length) (q : Rep g B (r2 ++ t) (s ++ k) H) : RepT g B r2 s t k H := ⟨hl.trans h.rn, h.sn, h.tk, q, h.sx⟩
theorem RepT.demote {g : Gam} {B : Bs} {r : Env} {s : St} {t : Env} {k : St} {H : Hp} {i : Nat} {d : D} (h : RepT g B r s t k H) (hi : r[i]? = some (.ow d)) : RepT g B (r.set i (.sh d)) s t k H := by
  have hil := (List.getElem?_eq_some_iff.mp hi).1
  refine h.set (by simp) ?_
  have q := h.rep.demote (i := i) (d := d) (by rw [List.getElem?_append_left hil]; exact hi)
  rw [List.set_append_left _ _ hil] at q
  exact q
theorem pd_var (i : Nat) (h : PE X (.Name x pos) (tVar i)) : PD X cl W (.Name x pos) (eVar i) := by
  refine ⟨_, h, fun B r s t k H Q o hr hm hp => ?_⟩
  unfold eVar at hm
  cases q : r[i]? with
  | none =>
    rw [q] at hm
    cases hm
  | some y =>
    rw [q] at hm
    cases y with
    | sh d =>
      cases hm
      obtain ⟨o, e1, v, rfl, e3⟩ := hr.slot q
      exact ⟨v, e1, hp v H (hr.push e3)⟩
    | ow d =>
      cases hm
      have hil := (List.getElem?_eq_some_iff.mp q).1
      have hr2 := hr.demote q
      have q2 : (r.set i (.sh d))[i]? = some (.sh d) := List.getElem?_set_self hil
      obtain ⟨o, e1, v, rfl, e3⟩ := hr2.slot q2
      exact ⟨v, e1, hp v H (hr2.push e3)⟩
    | no => cases hm
    | lk d => cases hm
    | bw d => cases hm
/-- the name goes, its thing is the value -/
theorem pd_mov (i : Nat) (h : PE X (.Name x pos) (tVar i)) : PD X cl W (.Name x pos) (eMov i) := by
  refine ⟨_, h, fun B r s t k H Q o hr hm hp => ?_⟩
  unfold eMov at hm
  cases q : r[i]? with
  | none =>
    rw [q] at hm
    cases hm
  | some y =>
    rw [q] at hm
    cases y with
    | sh d =>
      cases hm
      obtain ⟨o, e1, v, rfl, e3⟩ := hr.slot q
      exact ⟨v, e1, hp v H (hr.push e3)⟩
    | ow d =>
      cases hm
      have hil := (List.getElem?_eq_some_iff.mp q).1
      obtain ⟨o, e1, p, rfl, e3⟩ := hr.slot q
      refine ⟨_, e1, hp _ H ⟨by simp [hr.rn], hr.sn, by simp [hr.tk], ?_, hr.sx⟩⟩
      have hl : (r ++ t).length = (s ++ k).length := hr.rep.len
      have hsl := hr.lt q
      have el : r.length = s.length := hr.rn.trans hr.sn.symm
      refine hr.rep.sub (fun j => if j = (r ++ t).length then i else j) (by simp [el, hr.tk]) (by simp [hr.sn]) (fun j hj => ?_) (fun j x o h1 h2 => ?_) fun a b ha hb e => ?_
      · have := (hr.rep.fix j hj).1
        rw [List.getElem?_append_left (by rw [hr.sn]; exact this), List.getElem?_append_left (by rw [hr.sn]; exact this)]
      · by_cases hj : j = (r ++ t).length
        · right
          rw [if_pos hj]
          rw [← List.append_assoc] at h1 h2
          rw [hj, List.getElem?_append_right (by simp)] at h1
          rw [hj, hl, List.getElem?_append_right (by simp)] at h2
          simp at h1 h2
          subst h1
          subst h2
          exact ⟨by rw [List.getElem?_append_left hil]; exact q, by rw [List.getElem?_append_left hsl]; exact e1⟩
        · rw [if_neg hj]
          have hj2 : j < (r ++ t).length := by
            have := (List.getElem?_eq_some_iff.mp h1).1
            simp at this hj ⊢
            omega
          have f1 : (r.set i .no ++ (t ++ [.ow d]))[j]? = (r.set i .no ++ t)[j]? := by
            rw [← List.append_assoc]
            exact List.getElem?_append_left (by simpa using hj2)
          have f2 : (s ++ (k ++ [some (V.ref p)]))[j]? = (s ++ k)[j]? := by
            rw [← List.append_assoc]
            exact List.getElem?_append_left (by omega)
          rw [f1] at h1
          rw [f2] at h2
          by_cases hji : j = i
          · left
            subst hji
            rw [List.getElem?_append_left (by simpa using hil), List.getElem?_set_self hil] at h1
            exact (Option.some.inj h1).symm
          · right
            refine ⟨?_, h2⟩
            rw [← List.set_append_left _ _ hil, List.getElem?_set_ne (Ne.symm hji)] at h1
            exact h1
      · have ha2 : a < (r ++ t).length + 1 := by simp at ha ⊢; omega
        have hb2 : b < (r ++ t).length + 1 := by simp at hb ⊢; omega
        have hno : (r.set i .no ++ (t ++ [.ow d]))[i]? = some .no := by
          rw [List.getElem?_append_left (by simpa using hil), List.getElem?_set_self hil]
        split at e <;> split at e
        · left
          omega
        · right; right
          rw [← e]
          exact hno
        · right; left
          rw [e]
          exact hno
        · exact .inl e
    | no => cases hm
    | lk d => cases hm
    | bw d => cases hm
end
end Py

set_option Elab.async false
set_option linter.all false
set_option maxRecDepth 100000
/-! Sf: operations, displays, tests. -/
namespace Py
open PySem L2

/-- what may come of an operation -/
structure Cont (g : Gm) (Hs H : Hp) (Q : VK) (x : Sl) : Prop where
  val : ∀ v d, x = .sh d → R g Hs v d → Q v H
  tup : ∀ p xs l, x = .sh (.tup l) → H p = none → RA g Hs xs l → Q (.ref p) (upd H p (.tup xs))
  lst : ∀ p xs l, x = .ow (.lst l) → H p = none → RA g Hs xs l → Q (.ref p) (upd H p (.lst xs))
/-- an operation on values reads as f on data -/
def OpD (g : Gm) (rr : List V → Hp → VK → Prop) (f : List D → Option Sl) : Prop :=
  ∀ Hs H vs ds x Q, Same Hs H → RCA g Hs H vs ds → f ds = some x → Cont g Hs H Q x → rr vs H Q

section
variable {g : Gam} {W : WX}
theorem op_den {ta : TA} {as : As} {rr : List V → Hp → VK → Prop} {f : List D → Option Sl} (h : DAs g ta as W) (hf : OpD g rr f) : DE g (fun s H Q => ta s H fun vs H1 => rr vs H1 Q) (eOp as f) W := by
  intro B r s t k H Q o hr hm hp
  unfold eOp M.bind at hm
  cases q : as r with
  | none =>
    rw [q] at hm
    cases hm
  | some u =>
    rw [q] at hm
    refine h B r s t k H _ _ hr q ?_
    cases u with
    | ex e r1 =>
      cases hm
      exact hp
    | ok xs r1 =>
      intro vs kv H1 av hr1
      unfold M.get at hm
      dsimp only at hm
      cases q1 : dats r1 xs with
      | none =>
        rw [q1] at hm
        cases hm
      | some ds =>
        rw [q1] at hm
        dsimp only [Option.bind_some] at hm
        cases q2 : f ds with
        | none =>
          rw [q2] at hm
          cases hm
        | some x =>
          rw [q2] at hm
          cases hm
          have hrd := hr1.dropped hr.tk
          have sm := sh_mono_drop hr1 hr.tk
          refine hf _ H1 vs ds x Q Hd_le (av.rca hr1 hr.tk q1) q2 ⟨fun v d e hv => ?_, fun p xs l e hn hv => ?_, fun p xs l e hn hv => ?_⟩
          · subst e
            exact hp v H1 (hrd.push (hv.mono sm))
          · subst e
            exact hp _ _ (hrd.pushTup hn (hv.mono sm))
          · subst e
            exact hp _ _ (hrd.pushLst hn (hv.mono sm))
theorem das_nil : DAs g tNil asN W := fun B r s t k H Q o hr hm hp => by
  cases hm
  exact hp [] [] H .nil (by show RepT _ B r s (t ++ []) (k ++ []) H; rw [List.append_nil, List.append_nil]; exact hr)
theorem das_cons {te : TE} {ta : TA} {a : A} {as : As} (h2 : DO g te a W) (h4 : DAs g ta as W) : DAs g (tCons te ta) (asC a as) W := by
  intro B r s t k H Q o hr hm hp
  unfold asC M.bind at hm
  show te s H fun x H1 => ta s H1 fun xs H2 => Q (x :: xs) H2
  cases q : a r with
  | none =>
    rw [q] at hm
    cases hm
  | some u =>
    rw [q] at hm
    cases u with
    | ex e r1 =>
      cases hm
      exact h2 B r s t k H _ _ hr q hp
    | ok x r1 =>
      dsimp only at hm
      cases q2 : as r1 with
      | none =>
        rw [q2] at hm
        cases hm
      | some u2 =>
        rw [q2] at hm
        refine h2 B r s t k H _ _ hr q fun v H1 ha => ?_
        cases x with
        | r i =>
          obtain ⟨ha1, ha2⟩ := ha
          refine h4 B r1 s t k H1 _ _ ha2 q2 ?_
          cases u2 with
          | ex e r2 =>
            cases hm
            exact hp
          | ok xs r2 =>
            cases hm
            exact fun vs kv H2 av hr2 => hp (v :: vs) kv H2 (.r ha1 av) hr2
        | v x =>
          refine h4 B r1 s (t ++ [x]) (k ++ [some v]) H1 _ _ ha q2 ?_
          cases u2 with
          | ex e r2 =>
            cases hm
            exact PostX.drop hr.tk hp
          | ok xs r2 =>
            cases hm
            refine fun vs kv H2 av hr2 => hp (v :: vs) (some v :: kv) H2 (.v av) ?_
            rw [List.append_assoc, List.append_assoc] at hr2
            exact hr2
end

/-- a two-place reading over a list of values -/
def r2L (r : R2) : List V → Hp → VK → Prop
  | [x, y], H, Q => r x y H Q
  | _, _, _ => True
def r1L (r : V → Hp → VK → Prop) : List V → Hp → VK → Prop
  | [x], H, Q => r x H Q
  | _, _, _ => True

section
variable {X : Cx} {cl : Cs} {W : WX} {a b e : Expr} {es : List Expr} {ma mb : A} {as : As} {pos : Pos} {f : List D → Option Sl}
theorem pd_bin {op : Operator} {r : R2} (ho : OpR X (binaryOp op) r) (hf : OpD (gm X cl) (r2L r) f) (ha : PO X cl W a ma) (hb : PO X cl W b mb) : PD X cl W (.BinOp a op b pos) (eOp (asC ma (asC mb asN)) f) := by
  obtain ⟨ta, h1, h2⟩ := ha
  obtain ⟨tb, h3, h4⟩ := hb
  exact ⟨_, pe_op ho h1 h3, op_den (das_cons h2 (das_cons h4 das_nil)) hf⟩
theorem pd_cmp {op : CmpOp} {r : R2} (ho : OpR X (compareOp op) r) (hf : OpD (gm X cl) (r2L r) f) (ha : PO X cl W a ma) (hb : PO X cl W b mb) (hm : behindInMarks op b = false) : PD X cl W (.Compare a [op] [b] pos) (eOp (asC ma (asC mb asN)) f) := by
  obtain ⟨ta, h1, h2⟩ := ha
  obtain ⟨tb, h3, h4⟩ := hb
  exact ⟨_, pe_cmpR ho h1 h3 hm, op_den (das_cons h2 (das_cons h4 das_nil)) hf⟩
theorem pd_ix {r : R2} (ho : IxR X r) (hf : OpD (gm X cl) (r2L r) f) (ha : PO X cl W a ma) (hb : PO X cl W b mb) (hs : PlainIx b) : PD X cl W (.Subscript a b pos) (eOp (asC ma (asC mb asN)) f) := by
  obtain ⟨ta, h1, h2⟩ := ha
  obtain ⟨tb, h3, h4⟩ := hb
  exact ⟨_, pe_ix ho h1 h3 hs, op_den (das_cons h2 (das_cons h4 das_nil)) hf⟩
theorem pd_un {op : UnaryOp} {r : V → Hp → VK → Prop} (ho : UnR X (unaryOp op) r) (hf : OpD (gm X cl) (r1L r) f) (ha : PO X cl W a ma) : PD X cl W (.UnaryOp op a pos) (eOp (asC ma asN) f) := by
  obtain ⟨ta, h1, h2⟩ := ha
  exact ⟨_, pe_un ho h1, op_den (das_cons h2 das_nil) hf⟩
theorem pd_callB {id : String} {x : Str} {p : Pos} {r : List V → Hp → VK → Prop} (ho : CallR X (.builtin id) r) (hf : OpD (gm X cl) r f) (hg : Gl X x) (hm : X.mg x = none) (hv : bootBuiltins x = some (.builtin id)) (ha : PAs X cl W (e :: es) as)
    (hn : x ≠ "__name__" := by decide) (hdb : (x == ("__debug__" : Str)) = false := by decide) (he : starEach (e :: es) X.env = (false, eval e X.env) :: starEach es X.env := by rfl) (hpl : (backTo pos (starEach es X.env)).any (·.1) = false := by rfl) :
    PD X cl W (.Call (.Name x p) (e :: es) [] pos) (eOp as f) := by
  obtain ⟨ta, h1, h2⟩ := ha
  exact ⟨_, pe_callB ho hg hm hv h1 hn hdb he hpl, op_den h2 hf⟩
theorem pd_callTy {T : String} {x : Str} {p : Pos} {r : List V → Hp → VK → Prop} (ho : CallR X (.type T) r) (hf : OpD (gm X cl) r f) (hg : Gl X x) (hm : X.mg x = none) (hv : bootBuiltins x = some (.type T)) (ha : PAs X cl W (e :: es) as)
    (hn : x ≠ "__name__" := by decide) (hdb : (x == ("__debug__" : Str)) = false := by decide) (he : starEach (e :: es) X.env = (false, eval e X.env) :: starEach es X.env := by rfl) (hpl : (backTo pos (starEach es X.env)).any (·.1) = false := by rfl) :
    PD X cl W (.Call (.Name x p) (e :: es) [] pos) (eOp as f) := by
  obtain ⟨ta, h1, h2⟩ := ha
  exact ⟨_, pe_callTy ho hg hm hv h1 hn hdb he hpl, op_den h2 hf⟩
/-- a tuple, a list of written items -/
theorem pd_tup {x1} (h : PAs X cl W es as) : PD X cl W (.Tuple es x1 pos) (eTup as) := by
  obtain ⟨ta, h1, h2⟩ := h
  refine ⟨_, pe_tup h1, fun B r s t k H Q o hr hm hp => ?_⟩
  unfold eTup M.bind at hm
  cases q : as r with
  | none =>
    rw [q] at hm
    cases hm
  | some u =>
    rw [q] at hm
    refine h2 B r s t k H _ _ hr q ?_
    cases u with
    | ex e r1 =>
      cases hm
      exact hp
    | ok xs r1 =>
      intro vs kv H1 av hr1
      unfold M.get at hm
      dsimp only at hm
      cases q1 : shds r1 xs with
      | none =>
        rw [q1] at hm
        cases hm
      | some ds =>
        rw [q1] at hm
        dsimp only [Option.bind_some] at hm
        by_cases hz : ds.length ≤ lim
        · rw [if_pos hz] at hm
          cases hm
          have ra := av.shared hr1 hr.tk q1
          exact ⟨by rw [ra.length]; exact hz, fun p hn => hp _ _ ((hr1.dropped hr.tk).pushTup hn ra)⟩
        · rw [if_neg hz] at hm
          cases hm
theorem pd_lst (h : PAs X cl W es as) : PD X cl W (.List es pos) (eLst as) := by
  obtain ⟨ta, h1, h2⟩ := h
  refine ⟨_, pe_lst h1, fun B r s t k H Q o hr hm hp => ?_⟩
  unfold eLst M.bind at hm
  cases q : as r with
  | none =>
    rw [q] at hm
    cases hm
  | some u =>
    rw [q] at hm
    refine h2 B r s t k H _ _ hr q ?_
    cases u with
    | ex e r1 =>
      cases hm
      exact hp
    | ok xs r1 =>
      intro vs kv H1 av hr1
      unfold M.get at hm
      dsimp only at hm
      cases q1 : shds r1 xs with
      | none =>
        rw [q1] at hm
        cases hm
      | some ds =>
        rw [q1] at hm
        dsimp only [Option.bind_some] at hm
        by_cases hz : ds.length ≤ lim
        · rw [if_pos hz] at hm
          cases hm
          have ra := av.shared hr1 hr.tk q1
          exact ⟨by rw [ra.length]; exact hz, fun p hn => hp _ _ ((hr1.dropped hr.tk).pushLst hn ra)⟩
        · rw [if_neg hz] at hm
          cases hm
end

/-! ### tests -/
section
variable {g : Gam} {W : WX}
theorem bind_cases {α β : Type} {m : M α} {f : α → M β} {r : Env} {o : Out β} (h : M.bind m f r = some o) : (∃ a r1, m r = some (.ok a r1) ∧ f a r1 = some o) ∨ ∃ e r1, m r = some (.ex e r1) ∧ o = .ex e r1 := by
  unfold M.bind at h
  cases q : m r with
  | none =>
    rw [q] at h
    cases h
  | some u =>
    rw [q] at h
    cases u with
    | ok a r1 => exact .inl ⟨a, r1, rfl, h⟩
    | ex e r1 =>
      cases h
      exact .inr ⟨e, r1, rfl, rfl⟩
theorem RepT.pop {B : Bs} {r : Env} {s : St} {t : Env} {k : St} {H : Hp} {x : Sl} {o : Option V} (h : RepT g B r s (t ++ [x]) (k ++ [o]) H) : RepT g B r s t k H := h.dropped (by have := h.tk; simpa using this)
theorem RepT.top {B : Bs} {r : Env} {s : St} {t : Env} {k : St} {H : Hp} {x : Sl} {o : Option V} (h : RepT g B r s (t ++ [x]) (k ++ [o]) H) : SlOk g B.S0 (Sh B (r ++ (t ++ [x])) (s ++ (k ++ [o])) H) H x o := RepT.temp (t' := []) (k' := []) h (by have := h.tk; simpa using this)
theorem test_den {te : TE} {m : E} (h : DE g te m W) : DT g (tTest te) (tV m) W := by
  intro B r s t k H Q o hr hm hp
  rcases bind_cases hm with ⟨x, r1, q1, q2⟩ | ⟨e, r1, q1, q2⟩
  · refine h B r s t k H _ _ hr q1 fun v H' hr' => ?_
    cases x with
    | sh d =>
      cases d with
      | bl b =>
        cases q2
        obtain ⟨v', e1, e2⟩ := hr'.top
        cases e1
        cases e2
        exact ⟨b, rfl, hp H' hr'.pop⟩
      | _ => cases q2
    | _ => cases q2
  · subst q2
    exact h B r s t k H _ _ hr q1 hp
end
section
variable {X : Cx} {cl : Cs} {W : WX} {a b c e : Expr} {rest : List Expr} {ma mb : A} {pos : Pos} {f : List D → Option Sl}
theorem ptd_val {m : E} (h : PD X cl W e m) (he : ∀ whole, isTrue e X.env whole = (do let v ← whole; standAt e.pos; holding [v] (truthy v)) := by intro _; rfl) : PTd X cl W e (tV m) := by
  obtain ⟨te, h1, h2⟩ := h
  exact ⟨_, pt_val h1 he, test_den h2⟩
theorem ptd_cmp {op : CmpOp} {r : R2} (ho : OpR X (compareOp op) r) (hf : OpD (gm X cl) (r2L r) f) (ha : PO X cl W a ma) (hb : PO X cl W b mb) (hm : behindInMarks op b = false) : PTd X cl W (.Compare a [op] [b] pos) (tV (eOp (asC ma (asC mb asN)) f)) := by
  obtain ⟨ta, h1, h2⟩ := ha
  obtain ⟨tb, h3, h4⟩ := hb
  exact ⟨_, pt_cmpR ho h1 h3 hm, test_den (te := tOp r ta tb) (op_den (das_cons h2 (das_cons h4 das_nil)) hf)⟩
theorem ptd_not {t : T} (h : PTd X cl W a t) : PTd X cl W (.UnaryOp .Not a pos) (tNot t) := by
  obtain ⟨tt, h1, h2⟩ := h
  refine ⟨_, pt_not h1, fun B r s t' k H Q o hr hm hp => ?_⟩
  rcases bind_cases hm with ⟨x, r1, q1, q2⟩ | ⟨e, r1, q1, q2⟩
  · cases q2
    exact h2 B r s t' k H _ _ hr q1 hp
  · subst q2
    exact h2 B r s t' k H _ _ hr q1 hp
theorem ptd_of {t : T} (h : PWd X cl W e t) : PTd X cl W e t := by
  obtain ⟨tt, h1, h2⟩ := h
  exact ⟨tt, h1.pt, h2⟩
theorem pwd_and1 {t : T} (h : PTd X cl W a t) : PWd X cl W (.BoolOp .And [a] pos) t := by
  obtain ⟨tt, h1, h2⟩ := h
  exact ⟨tt, pw_and1 h1, h2⟩
theorem pwd_or1 {t : T} (h : PTd X cl W a t) : PWd X cl W (.BoolOp .Or [a] pos) t := by
  obtain ⟨tt, h1, h2⟩ := h
  exact ⟨tt, pw_or1 h1, h2⟩
theorem pwd_and {t u : T} (h : PTd X cl W a t) (hb : PWd X cl W (.BoolOp .And (b :: rest) pos) u) : PWd X cl W (.BoolOp .And (a :: b :: rest) pos) (tAnd t u) := by
  obtain ⟨tt, h1, h2⟩ := h
  obtain ⟨tu, h3, h4⟩ := hb
  refine ⟨_, pw_and h1 h3, fun B r s t' k H Q o hr hm hp => ?_⟩
  rcases bind_cases hm with ⟨x, r1, q1, q2⟩ | ⟨e, r1, q1, q2⟩
  · refine h2 B r s t' k H _ _ hr q1 fun H' hr' => ?_
    cases x with
    | true => exact iteT (h4 B r1 s t' k H' _ _ hr' q2 hp)
    | false =>
      cases q2
      exact iteF (hp H' hr')
  · subst q2
    exact h2 B r s t' k H _ _ hr q1 hp
theorem pwd_or {t u : T} (h : PTd X cl W a t) (hb : PWd X cl W (.BoolOp .Or (b :: rest) pos) u) : PWd X cl W (.BoolOp .Or (a :: b :: rest) pos) (tOr t u) := by
  obtain ⟨tt, h1, h2⟩ := h
  obtain ⟨tu, h3, h4⟩ := hb
  refine ⟨_, pw_or h1 h3, fun B r s t' k H Q o hr hm hp => ?_⟩
  rcases bind_cases hm with ⟨x, r1, q1, q2⟩ | ⟨e, r1, q1, q2⟩
  · refine h2 B r s t' k H _ _ hr q1 fun H' hr' => ?_
    cases x with
    | false => exact iteF (h4 B r1 s t' k H' _ _ hr' q2 hp)
    | true =>
      cases q2
      exact iteT (hp H' hr')
  · subst q2
    exact h2 B r s t' k H _ _ hr q1 hp
/-! and, or, not, if as values -/
theorem pd_one {op} {m : E} (h : PD X cl W a m) : PD X cl W (.BoolOp op [a] pos) m := by
  obtain ⟨te, h1, h2⟩ := h
  exact ⟨te, pe_one h1, h2⟩
theorem pd_and {m n : E} (h : PD X cl W a m) (hb : PD X cl W (.BoolOp .And (b :: rest) pos) n) : PD X cl W (.BoolOp .And (a :: b :: rest) pos) (eAnd m n) := by
  obtain ⟨te, h1, h2⟩ := h
  obtain ⟨tu, h3, h4⟩ := hb
  refine ⟨_, pe_and h1 h3, fun B r s t' k H Q o hr hm hp => ?_⟩
  rcases bind_cases hm with ⟨x, r1, q1, q2⟩ | ⟨e, r1, q1, q2⟩
  · refine h2 B r s t' k H _ _ hr q1 fun v H' hr' => ?_
    cases x with
    | sh d =>
      cases d with
      | bl c =>
        obtain ⟨v', e1, e2⟩ := hr'.top
        cases e1
        cases e2
        cases c with
        | true => exact ⟨true, rfl, iteT (h4 B r1 s t' k H' _ _ hr'.pop q2 hp)⟩
        | false =>
          cases q2
          exact ⟨false, rfl, iteF (hp _ H' (hr'.pop.push (.bl false)))⟩
      | _ => cases q2
    | _ => cases q2
  · subst q2
    exact h2 B r s t' k H _ _ hr q1 hp
theorem pd_or {m n : E} (h : PD X cl W a m) (hb : PD X cl W (.BoolOp .Or (b :: rest) pos) n) : PD X cl W (.BoolOp .Or (a :: b :: rest) pos) (eOr m n) := by
  obtain ⟨te, h1, h2⟩ := h
  obtain ⟨tu, h3, h4⟩ := hb
  refine ⟨_, pe_or h1 h3, fun B r s t' k H Q o hr hm hp => ?_⟩
  rcases bind_cases hm with ⟨x, r1, q1, q2⟩ | ⟨e, r1, q1, q2⟩
  · refine h2 B r s t' k H _ _ hr q1 fun v H' hr' => ?_
    cases x with
    | sh d =>
      cases d with
      | bl c =>
        obtain ⟨v', e1, e2⟩ := hr'.top
        cases e1
        cases e2
        cases c with
        | false => exact ⟨false, rfl, iteF (h4 B r1 s t' k H' _ _ hr'.pop q2 hp)⟩
        | true =>
          cases q2
          exact ⟨true, rfl, iteT (hp _ H' (hr'.pop.push (.bl true)))⟩
      | _ => cases q2
    | _ => cases q2
  · subst q2
    exact h2 B r s t' k H _ _ hr q1 hp
theorem pd_not {m : E} (h : PD X cl W a m) : PD X cl W (.UnaryOp .Not a pos) (eNot m) := by
  obtain ⟨te, h1, h2⟩ := h
  refine ⟨_, pe_not h1, fun B r s t' k H Q o hr hm hp => ?_⟩
  rcases bind_cases hm with ⟨x, r1, q1, q2⟩ | ⟨e, r1, q1, q2⟩
  · refine h2 B r s t' k H _ _ hr q1 fun v H' hr' => ?_
    cases x with
    | sh d =>
      cases d with
      | bl c =>
        obtain ⟨v', e1, e2⟩ := hr'.top
        cases e1
        cases e2
        cases q2
        exact ⟨c, rfl, hp _ H' (hr'.pop.push (.bl _))⟩
      | _ => cases q2
    | _ => cases q2
  · subst q2
    exact h2 B r s t' k H _ _ hr q1 hp
theorem pd_ife {t : T} {m n : E} (hc : PTd X cl W c t) (ha : PD X cl W a m) (hb : PD X cl W b n) : PD X cl W (.IfExp c a b pos) (eIf t m n) := by
  obtain ⟨tt, h1, h2⟩ := hc
  obtain ⟨ta, h3, h4⟩ := ha
  obtain ⟨tb, h5, h6⟩ := hb
  refine ⟨_, pe_ifExp h1 h3 h5, fun B r s t' k H Q o hr hm hp => ?_⟩
  rcases bind_cases hm with ⟨x, r1, q1, q2⟩ | ⟨e, r1, q1, q2⟩
  · refine h2 B r s t' k H _ _ hr q1 fun H' hr' => ?_
    cases x with
    | true => exact iteT (h4 B r1 s t' k H' _ _ hr' q2 hp)
    | false => exact iteF (h6 B r1 s t' k H' _ _ hr' q2 hp)
  · subst q2
    exact h2 B r s t' k H _ _ hr q1 hp
end

/-! ### statements -/
def PostS (g : Gam) (B : Bs) (t : Env) (k : St) (W : WX) (D : Ends) : Flow → Prop
  | .nx r' => ∀ s' H', RepT g B r' s' t k H' → D.nx s' H'
  | .bk r' => ∀ s' H', RepT g B r' s' t k H' → D.bk s' H'
  | .ct r' => ∀ s' H', RepT g B r' s' t k H' → D.ct s' H'
  | .rt x r' => ∀ v s' H', RepT g B r' s' (t ++ [x]) (k ++ [some v]) H' → D.rt v H'
  | .ex e r' => ∀ s', PostX g B t k W e r' s'
def DS (g : Gam) (fx : Nat → Bool) (ts : TS) (m : S) (W : WX) : Prop := ∀ B r s t k H D fl, B.fx = fx → RepT g B r s t k H → m r = some fl → PostS g B t k W D fl → ts D s H
def PSd (X : Cx) (cl : Cs) (fx : Nat → Bool) (W : WX) (st : Stmt) (m : S) : Prop := ∃ ts, PS X st ts ∧ DS (gm X cl) fx ts m W
def PSsd (X : Cx) (cl : Cs) (fx : Nat → Bool) (W : WX) (sts : List Stmt) (m : S) : Prop := ∃ ts, PSs X sts ts ∧ DS (gm X cl) fx ts m W
/-- a target -/
def DG (g : Gam) (fx : Nat → Bool) (tg : TG) (m : G) (W : WX) : Prop := ∀ B r s t k H x v Q fl, B.fx = fx → RepT g B r s (t ++ [x]) (k ++ [some v]) H → m x r = some fl → (∃ r', fl = .nx r' ∧ ∀ s' H', RepT g B r' s' t k H' → Q s' H') → tg v s H Q
def PGd (X : Cx) (cl : Cs) (fx : Nat → Bool) (W : WX) (e : Expr) (m : G) : Prop := ∃ tg, PG X e tg ∧ DG (gm X cl) fx tg m W

theorem sE_cases {α : Type} {m : M α} {f : α → S} {r : Env} {o : Flow} (h : sE m f r = some o) : (∃ a r1, m r = some (.ok a r1) ∧ f a r1 = some o) ∨ ∃ e r1, m r = some (.ex e r1) ∧ o = .ex e r1 := by
  unfold sE at h
  cases q : m r with
  | none =>
    rw [q] at h
    cases h
  | some u =>
    rw [q] at h
    cases u with
    | ok a r1 => exact .inl ⟨a, r1, rfl, h⟩
    | ex e r1 =>
      cases h
      exact .inr ⟨e, r1, rfl, rfl⟩
section
variable {X : Cx} {cl : Cs} {fx : Nat → Bool} {W : WX} {st : Stmt} {sts : List Stmt} {e tg : Expr} {pos : Pos}
theorem pssd_nil : PSsd X cl fx W [] sPass := ⟨_, pss_nil, fun B r s t k H D fl _ hr hm hp => by
  cases hm
  exact hp s H hr⟩
theorem pssd_one {m : S} (h : PSd X cl fx W st m) : PSsd X cl fx W [st] m := by
  obtain ⟨ts, h1, h2⟩ := h
  exact ⟨ts, pss_one h1, h2⟩
theorem pssd_cons {m n : S} (h : PSd X cl fx W st m) (hs : PSsd X cl fx W sts n) : PSsd X cl fx W (st :: sts) (sSeq m n) := by
  obtain ⟨ts, h1, h2⟩ := h
  obtain ⟨tt, h3, h4⟩ := hs
  refine ⟨_, pss_cons h1 h3, fun B r s t k H D fl hf hr hm hp => ?_⟩
  unfold sSeq at hm
  show ts { D with nx := tt D } s H
  cases q : m r with
  | none =>
    rw [q] at hm
    cases hm
  | some u =>
    rw [q] at hm
    cases u with
    | nx r1 => exact h2 B r s t k H _ _ hf hr q fun s' H' hr' => h4 B r1 s' t k H' D fl hf hr' hm hp
    | bk r1 =>
      cases hm
      exact h2 B r s t k H _ _ hf hr q hp
    | ct r1 =>
      cases hm
      exact h2 B r s t k H _ _ hf hr q hp
    | rt x r1 =>
      cases hm
      exact h2 B r s t k H _ _ hf hr q hp
    | ex x r1 =>
      cases hm
      exact h2 B r s t k H _ _ hf hr q hp
theorem psd_ret {m : E} (h : PD X cl W e m) : PSd X cl fx W (.Return (some e) pos) (sRet m) := by
  obtain ⟨te, h1, h2⟩ := h
  refine ⟨_, ps_ret h1, fun B r s t k H D fl _ hr hm hp => ?_⟩
  rcases sE_cases hm with ⟨x, r1, q1, q2⟩ | ⟨ee, r1, q1, q2⟩
  · cases q2
    exact h2 B r s t k H _ _ hr q1 fun v H' hr' => hp v s H' hr'
  · subst q2
    exact h2 B r s t k H _ _ hr q1 (hp s)
theorem psd_retN : PSd X cl fx W (.Return none pos) sRetN := ⟨_, ps_retN, fun B r s t k H D fl _ hr hm hp => by
  cases hm
  exact hp .non s H (hr.push .non)⟩
theorem psd_if {c : Expr} {a b : List Stmt} {t : T} {m n : S} (hc : PTd X cl W c t) (ha : PSsd X cl fx W a m) (hb : PSsd X cl fx W b n) : PSd X cl fx W (.If c a b pos) (sIf t m n) := by
  obtain ⟨tt, h1, h2⟩ := hc
  obtain ⟨ta, h3, h4⟩ := ha
  obtain ⟨tb, h5, h6⟩ := hb
  refine ⟨_, ps_if h1 h3 h5, fun B r s t k H D fl hf hr hm hp => ?_⟩
  rcases sE_cases hm with ⟨x, r1, q1, q2⟩ | ⟨ee, r1, q1, q2⟩
  · refine h2 B r s t k H _ _ hr q1 fun H' hr' => ?_
    cases x with
    | true => exact iteT (h4 B r1 s t k H' _ _ hf hr' q2 hp)
    | false => exact iteF (h6 B r1 s t k H' _ _ hf hr' q2 hp)
  · subst q2
    exact h2 B r s t k H _ _ hr q1 (hp s)
theorem psd_expr {m : E} (h : PD X cl W e m) (hs : swapsWith e none pos.line X.env = pure false := by rfl) : PSd X cl fx W (.Expr e pos) (sDrop m) := by
  obtain ⟨te, h1, h2⟩ := h
  refine ⟨_, ps_expr h1 hs, fun B r s t k H D fl _ hr hm hp => ?_⟩
  rcases sE_cases hm with ⟨x, r1, q1, q2⟩ | ⟨ee, r1, q1, q2⟩
  · cases q2
    exact h2 B r s t k H _ _ hr q1 fun v H' hr' => hp s H' hr'.pop
  · subst q2
    exact h2 B r s t k H _ _ hr q1 (hp s)
theorem psd_break : PSd X cl fx W (.Break pos) sBreak := ⟨_, ps_break, fun B r s t k H D fl _ hr hm hp => by
  cases hm
  exact hp s H hr⟩
theorem psd_cont : PSd X cl fx W (.Continue pos) sCont := ⟨_, ps_continue, fun B r s t k H D fl _ hr hm hp => by
  cases hm
  exact hp s H hr⟩
theorem psd_pass : PSd X cl fx W (.Pass pos) sPass := ⟨_, ps_pass, fun B r s t k H D fl _ hr hm hp => by
  cases hm
  exact hp s H hr⟩
/-- the target is a name -/
theorem pgd_name {i : Nat} {x : Str} (hN : X.N.Nodup) (hi : X.N[i]? = some x) (hx : Loc X.env.scope x) (hF : fx i = false := by rfl) (hf : X.fn x = true ∨ X.env.scope.names.lookup x = some .local := by first | exact .inl rfl | exact .inr rfl | assumption) : PGd X cl fx W (.Name x pos) (gN i) := by
  refine ⟨_, pg_name hN hi hx hf, fun B r s t k H y v Q fl hfx hr hm hp => ?_⟩
  obtain ⟨r', e, hq⟩ := hp
  subst e
  unfold gN at hm
  by_cases hlt : i < r.length
  · rw [if_pos hlt] at hm
    cases hm
    refine hq _ H ⟨by simp [hr.rn], by simp [hr.sn], by have := hr.tk; simpa using this, ?_, hr.sx⟩
    have q := hr.rep
    rw [← List.append_assoc, ← List.append_assoc] at q
    exact q.store (hr.rn.trans hr.sn.symm) (by have := hr.tk; simpa using this) (by rw [hr.sn]; exact Nat.le_refl _) hlt (by rw [hfx]; exact hF)
  · rw [if_neg hlt] at hm
    cases hm
theorem psd_asg {m : E} {n : G} (he : PD X cl W e m) (hg : PGd X cl fx W tg n) (hn : ∀ x r fl, n x r = some fl → ∃ r', fl = .nx r') (hs : swapsWithSole [tg] e pos.line X.env = pure false := by rfl) (hw : swappedStores [tg] e X.env = pure none := by rfl) (ha : (assignEach [tg] X.env).map (·.2) = [assign tg X.env] := by rfl) : PSd X cl fx W (.Assign [tg] e pos) (sAsg m n) := by
  obtain ⟨te, h1, h2⟩ := he
  obtain ⟨tgt, h3, h4⟩ := hg
  refine ⟨_, ps_asg h1 h3 hs hw ha, fun B r s t k H D fl hf hr hm hp => ?_⟩
  rcases sE_cases hm with ⟨x, r1, q1, q2⟩ | ⟨ee, r1, q1, q2⟩
  · refine h2 B r s t k H _ _ hr q1 fun v H' hr' => h4 B r1 s t k H' x v _ fl hf hr' q2 ?_
    obtain ⟨r', e⟩ := hn x r1 fl q2
    subst e
    exact ⟨r', rfl, hp⟩
  · subst q2
    exact h2 B r s t k H _ _ hr q1 (hp s)
theorem gN_nx {i : Nat} : ∀ x r fl, gN i x r = some fl → ∃ r', fl = .nx r' := fun x r fl h => by
  unfold gN at h
  split at h
  · cases h
    exact ⟨_, rfl⟩
  · cases h
end
end Py

set_option Elab.async false
set_option linter.all false
set_option maxRecDepth 100000
/-! Sg: calls of the text's own defs, and their promises. -/
namespace Py
open PySem L2

def B0 (S0 : Addr → Prop) (xs : Env) (s : St) (H : Hp) : Bs := ⟨0, S0, fun p => ∃ i, own xs s i = some p, H, fun _ => false, []⟩
def PostF (g : Gm) (B : Bs) (vs : List V) (Q : VK) (E : XK) : FOut → Prop
  | .ret x ps => ∀ v H', Rep g B (ps ++ [x]) (vs.map some ++ [some v]) H' → Q v H'
  | .ex e ps => ∀ C d H', g.cl e.cls = some C → Rep g B ps (vs.map some) H' → XOk g (Sh B ps (vs.map some) H') e d → E (.ref C) d H'
/-- the promise of a def that means f -/
def spF (g : Gm) (np : Nat) (f : Fn) : Sp := fun vs H Q E => vs.length = np ∧ ∃ (S0 : Addr → Prop) (xs : List Sl) (o : FOut), Rep g (B0 S0 xs (vs.map some) H) xs (vs.map some) H ∧ f xs = some o ∧ PostF g (B0 S0 xs (vs.map some) H) vs Q E o

section
variable {g : Gm} {B : Bs} {r : Env} {s : St} {t : Env} {k : St} {H : Hp} {W : WX}
theorem Rep.rebase (h : Rep g B r s H) : Rep g ⟨0, B.S0, B.M0, B.H0, fun _ => false, []⟩ r s H :=
  ⟨h.len, Nat.zero_le _, h.ok, h.inj, h.sep, h.prot, h.keep, h.mdom, fun _ z => Bool.noConfusion z⟩

/-- the places of operands among slots and values -/
def argIx : Nat → List Arg → List Nat
  | _, [] => []
  | n, .r i :: as => i :: argIx n as
  | n, .v _ :: as => n :: argIx (n + 1) as
theorem argIx_mem : ∀ (as : List Arg) (n i : Nat), i ∈ argIx n as → i ∈ refs as ∨ n ≤ i
  | [], _, _, h => by cases h
  | .r j :: as, n, i, h => by
    rcases List.mem_cons.mp h with h | h
    · exact .inl (List.mem_cons.mpr (.inl h))
    · rcases argIx_mem as n i h with z | z
      · exact .inl (List.mem_cons.mpr (.inr z))
      · exact .inr z
  | .v _ :: as, n, i, h => by
    rcases List.mem_cons.mp h with h | h
    · exact .inr (by omega)
    · rcases argIx_mem as (n + 1) i h with z | z
      · exact .inl z
      · exact .inr (by omega)
theorem argIx_nodup : ∀ (as : List Arg) (n : Nat), (refs as).Nodup → (∀ i ∈ refs as, i < n) → (argIx n as).Nodup
  | [], _, _, _ => List.nodup_nil
  | .r j :: as, n, h, hl => by
    have h' := List.nodup_cons.mp h
    refine List.nodup_cons.mpr ⟨fun z => ?_, argIx_nodup as n h'.2 fun i hi => hl i (List.mem_cons.mpr (.inr hi))⟩
    rcases argIx_mem as n j z with z | z
    · exact h'.1 z
    · have := hl j (List.mem_cons.mpr (.inl rfl))
      omega
  | .v _ :: as, n, h, hl => by
    refine List.nodup_cons.mpr ⟨fun z => ?_, argIx_nodup as (n + 1) h fun i hi => Nat.lt_succ_of_lt (hl i hi)⟩
    rcases argIx_mem as (n + 1) n z with z | z
    · have := hl n z
      omega
    · omega
theorem AV.len : ∀ {as : List Arg} {vs : List V} {kv : St}, AV s as vs kv → as.length = vs.length
  | _, _, _, .nil => rfl
  | _, _, _, .r _ h => by simp [AV.len h]
  | _, _, _, .v h => by simp [AV.len h]
theorem AV.refs_lt : ∀ {as : List Arg} {vs : List V} {kv : St}, AV s as vs kv → ∀ i ∈ refs as, i < s.length
  | _, _, _, .nil, i, hi => by cases hi
  | _, _, _, .r e h, i, hi => by
    rcases List.mem_cons.mp hi with z | z
    · subst z
      exact (List.getElem?_eq_some_iff.mp e).1
    · exact AV.refs_lt h i z
  | _, _, _, .v h, i, hi => AV.refs_lt h i hi
/-- each operand, at its place -/
theorem AV.ix : ∀ {as : List Arg} {vs : List V} {kv : St} {t : Env} {k : St}, AV s as vs kv → r.length = s.length → t.length = k.length → ∀ (j : Nat) (a : Arg) (v : V), as[j]? = some a → vs[j]? = some v →
    ∃ i y, (argIx (r.length + t.length) as)[j]? = some i ∧ (r ++ (t ++ tms as))[i]? = some y ∧ (s ++ (k ++ kv))[i]? = some (some v) ∧ ((∃ i', a = .r i' ∧ i = i' ∧ i < r.length ∧ Arg.hand r a = y.lend ∧ r[i]? = some y) ∨ (Arg.hand r a = y ∧ a = .v y ∧ r.length + t.length ≤ i))
  | _, _, _, _, _, .nil, _, _, j, a, w, h, _ => by simp at h
  | .r i :: as, _, _, t, k, .r e h, hl, htk, 0, a, w, h1, h2 => by
    cases h1
    cases h2
    have hi := (List.getElem?_eq_some_iff.mp e).1
    have hi' : i < r.length := by omega
    refine ⟨i, r[i], rfl, ?_, ?_, .inl ⟨i, rfl, rfl, hi', ?_, List.getElem?_eq_getElem hi'⟩⟩
    · rw [List.getElem?_append_left hi', List.getElem?_eq_getElem hi']
    · rw [List.getElem?_append_left hi]
      exact e
    · show ((r[i]?).getD .no).lend = _
      rw [List.getElem?_eq_getElem hi']
      rfl
  | .r i :: as, _, _, t, k, .r e h, hl, htk, j + 1, a, w, h1, h2 => by
    obtain ⟨i', y, e1, e2, e3, e4⟩ := AV.ix (t := t) (k := k) h hl htk j a w (by simpa using h1) (by simpa using h2)
    exact ⟨i', y, by simpa [argIx] using e1, e2, e3, e4⟩
  | .v x :: as, _, _, t, k, @AV.v _ _ w' _ _ kv h, hl, htk, 0, a, w, h1, h2 => by
    cases h1
    cases h2
    refine ⟨r.length + t.length, x, rfl, ?_, ?_, .inr ⟨rfl, rfl, Nat.le_refl _⟩⟩
    · rw [List.getElem?_append_right (by omega), List.getElem?_append_right (by omega)]
      simp [tms]
    · rw [List.getElem?_append_right (by omega), List.getElem?_append_right (by omega), hl, htk]
      simp
  | .v x :: as, _, _, t, k, @AV.v _ _ w' _ _ kv h, hl, htk, j + 1, a, w, h1, h2 => by
    obtain ⟨i', y, e1, e2, e3, e4⟩ := AV.ix (t := t ++ [x]) (k := k ++ [some w']) h hl (by simp [htk]) j a w (by simpa using h1) (by simpa using h2)
    refine ⟨i', y, ?_, ?_, ?_, ?_⟩
    · simp only [argIx, List.getElem?_cons_succ]
      rw [List.length_append, List.length_singleton, ← Nat.add_assoc] at e1
      exact e1
    · rw [List.append_assoc] at e2
      exact e2
    · rw [List.append_assoc] at e3
      exact e3
    · rcases e4 with e4 | ⟨e5, e6, e7⟩
      · exact .inl e4
      · exact .inr ⟨e5, e6, by simp at e7; omega⟩
theorem comeBack_len : ∀ (as : List Arg) (ps : List Sl), (comeBack r as ps).length = r.length
  | [], _ => by simp [comeBack]
  | .r i :: as, [] => rfl
  | .r i :: as, p :: ps => by simp [comeBack, comeBack_len as ps]
  | .v _ :: as, [] => rfl
  | .v _ :: as, p :: ps => by simp [comeBack, comeBack_len as ps]
theorem comeBack_get : ∀ (as : List Arg) (ps : List Sl), (refs as).Nodup → as.length = ps.length → ∀ i : Nat, i < r.length →
    (i ∉ refs as ∧ (comeBack r as ps)[i]? = r[i]?) ∨ ∃ (j : Nat) (y p : Sl), as[j]? = some (.r i) ∧ r[i]? = some y ∧ ps[j]? = some p ∧ (comeBack r as ps)[i]? = some (y.back p)
  | [], ps, _, _, i, hi => .inl ⟨by simp [refs], by cases ps <;> rfl⟩
  | .r i' :: as, p :: ps, h, hl, i, hi => by
    have h' := List.nodup_cons.mp h
    by_cases e : i = i'
    · subst e
      right
      refine ⟨0, r[i], p, rfl, List.getElem?_eq_getElem hi, rfl, ?_⟩
      unfold comeBack
      rw [List.getElem?_set_self (by rw [comeBack_len]; exact hi), List.getElem?_eq_getElem hi]
      rfl
    · rcases comeBack_get as ps h'.2 (by simpa using hl) i hi with ⟨z1, z2⟩ | ⟨j, y, q, z1, z2, z3, z4⟩
      · left
        refine ⟨fun w => (List.mem_cons.mp w).elim e z1, ?_⟩
        unfold comeBack
        rw [List.getElem?_set_ne (Ne.symm e)]
        exact z2
      · right
        refine ⟨j + 1, y, q, by simpa using z1, z2, by simpa using z3, ?_⟩
        unfold comeBack
        rw [List.getElem?_set_ne (Ne.symm e)]
        exact z4
  | .v _ :: as, p :: ps, h, hl, i, hi => by
    rcases comeBack_get as ps h (by simpa using hl) i hi with ⟨z1, z2⟩ | ⟨j, y, q, z1, z2, z3, z4⟩
    · exact .inl ⟨z1, z2⟩
    · exact .inr ⟨j + 1, y, q, by simpa using z1, z2, by simpa using z3, z4⟩
  | .r _ :: _, [], _, hl, _, _ => by cases hl
  | .v _ :: _, [], _, hl, _, _ => by cases hl
theorem ownS_lend {y : Sl} {o : Option V} {p : Addr} (h : ownS y.lend o = some p) : ownS y o = some p ∧ ∃ d, y = .ow d := by
  cases y with
  | ow d => exact ⟨h, d, rfl⟩
  | lk d => cases h
  | no => cases h
  | sh d => cases h
  | bw d => cases h
end

/-! ### what is lent, and how it comes back -/
section
variable {g : Gam} {B : Bs} {r : Env} {s : St} {t : Env} {k : St} {H : Hp} {W : WX} {as : List Arg} {vs : List V} {kv : St}
/-- what the callee must not touch -/
def S1 (B : Bs) (R : Env) (S : St) (xs : Env) (us : St) (p : Addr) : Prop := Pr B R S p ∧ ¬ ∃ j, own xs us j = some p
theorem map_get {α β : Type} {f : α → β} {l : List α} {j : Nat} {y : β} (h : (l.map f)[j]? = some y) : ∃ x, l[j]? = some x ∧ f x = y := by
  rw [List.getElem?_map] at h
  cases q : l[j]? with
  | none =>
    rw [q] at h
    cases h
  | some x =>
    rw [q] at h
    exact ⟨x, rfl, Option.some.inj h⟩
/-- what a handed thing owns, its slot owns -/
theorem own_hand (av : AV s as vs kv) (hr : RepT g B r s (t ++ tms as) (k ++ kv) H) (hl : t.length = k.length) {j : Nat} {p : Addr} (h : own (as.map (Arg.hand r)) (vs.map some) j = some p) :
    ∃ i y a, as[j]? = some a ∧ (argIx (r.length + t.length) as)[j]? = some i ∧ (r ++ (t ++ tms as))[i]? = some y ∧ own (r ++ (t ++ tms as)) (s ++ (k ++ kv)) i = some p ∧ Arg.hand r a = y ∧ (i < r.length → ∃ d, y = .ow d) := by
  obtain ⟨x, o, h1, h2, h3⟩ := own_some h
  obtain ⟨a, e1, e2⟩ := map_get h1
  obtain ⟨v, e3, e4⟩ := map_get h2
  obtain ⟨i, y, f1, f2, f3, f4⟩ := av.ix (r := r) (hr.rn.trans hr.sn.symm) hl j a v e1 e3
  subst e2
  subst e4
  rcases f4 with ⟨i', g1, g2, g3, g4, _⟩ | ⟨g1, g2, g3⟩
  · rw [g4] at h3
    obtain ⟨z1, d, z2⟩ := ownS_lend h3
    refine ⟨i, y, a, e1, f1, f2, by rw [own_eq f2 f3]; exact z1, ?_, fun _ => ⟨d, z2⟩⟩
    rw [g4, z2]
    rfl
  · rw [g1] at h3
    exact ⟨i, y, a, e1, f1, f2, by rw [own_eq f2 f3]; exact h3, g1, fun z => by omega⟩
theorem lend_rep (av : AV s as vs kv) (hr : RepT g B r s (t ++ tms as) (k ++ kv) H) (hl : t.length = k.length) (hn : (refs as).Nodup) :
    Rep g (B0 (S1 B (r ++ (t ++ tms as)) (s ++ (k ++ kv)) (as.map (Arg.hand r)) (vs.map some)) (as.map (Arg.hand r)) (vs.map some) H) (as.map (Arg.hand r)) (vs.map some) H := by
  have el : r.length = s.length := hr.rn.trans hr.sn.symm
  have nd : (argIx (r.length + t.length) as).Nodup := argIx_nodup as _ hn fun i hi => by
    have := av.refs_lt i hi
    omega
  have pr : ∀ a, Pr (B0 (S1 B (r ++ (t ++ tms as)) (s ++ (k ++ kv)) (as.map (Arg.hand r)) (vs.map some)) (as.map (Arg.hand r)) (vs.map some) H) (as.map (Arg.hand r)) (vs.map some) a → Pr B (r ++ (t ++ tms as)) (s ++ (k ++ kv)) a := by
    rintro a (z | ⟨j, z⟩)
    · exact z.1
    · obtain ⟨i, _, _, _, _, _, z2, _⟩ := own_hand av hr hl z
      exact .inr ⟨i, z2⟩
  have sm : Same (Sh B (r ++ (t ++ tms as)) (s ++ (k ++ kv)) H) (Sh (B0 (S1 B (r ++ (t ++ tms as)) (s ++ (k ++ kv)) (as.map (Arg.hand r)) (vs.map some)) (as.map (Arg.hand r)) (vs.map some) H) (as.map (Arg.hand r)) (vs.map some) H) :=
    Hd_same fun a u n q => ⟨fun z => n (pr a z), q⟩
  refine ⟨by simp [av.len], Nat.zero_le _, fun j x o h1 h2 => ?_, fun j j' p q1 q2 => ?_, fun j p q => ⟨fun z => z.2 ⟨j, q⟩, .inl ⟨j, q⟩⟩, fun p q => ⟨q.2, ?_⟩, fun a o q _ => q, fun p q => ?_, fun _ z => Bool.noConfusion z⟩
  · obtain ⟨a, e1, e2⟩ := map_get h1
    obtain ⟨v, e3, e4⟩ := map_get h2
    obtain ⟨i, y, f1, f2, f3, f4⟩ := av.ix (r := r) el hl j a v e1 e3
    subst e2
    subst e4
    have ok := hr.rep.ok i y (some v) f2 f3
    rcases f4 with ⟨i', g1, g2, g3, g4, _⟩ | ⟨g1, g2, g3⟩
    · rw [g4]
      cases y with
      | no => trivial
      | sh d =>
        obtain ⟨v', z1, z2⟩ := ok
        exact ⟨v', z1, z2.mono sm⟩
      | ow d =>
        obtain ⟨p, z1, z2⟩ := ok
        exact ⟨p, z1, z2.mono sm fun _ z => z⟩
      | lk d =>
        obtain ⟨p, z1, z2⟩ := ok
        refine ⟨p, z1, ⟨.inr ⟨i, ?_⟩, ?_⟩, z2.mono sm fun _ z => z⟩
        · rw [own_eq f2 f3]
          cases z1
          rfl
        · rintro ⟨j', w⟩
          obtain ⟨i2, y2, a2, w1, w2, w3, w4, w5, w6⟩ := own_hand av hr hl w
          have hi : i2 = i := hr.rep.inj _ _ p w4 (by rw [own_eq f2 f3]; cases z1; rfl)
          subst hi
          rw [f2] at w3
          cases w3
          obtain ⟨d', w7⟩ := w6 g3
          cases w7
      | bw d =>
        obtain ⟨p, z1, z0, z2⟩ := ok
        refine ⟨p, z1, ⟨.inl z0, ?_⟩, z2.mono sm fun _ z => z⟩
        rintro ⟨j', w⟩
        obtain ⟨i2, _, _, _, _, _, w2, _⟩ := own_hand av hr hl w
        exact (hr.rep.sep _ p w2).1 z0
    · rw [g1]
      cases y with
      | no => trivial
      | sh d =>
        obtain ⟨v', z1, z2⟩ := ok
        exact ⟨v', z1, z2.mono sm⟩
      | ow d =>
        obtain ⟨p, z1, z2⟩ := ok
        exact ⟨p, z1, z2.mono sm fun _ z => z⟩
      | lk d =>
        obtain ⟨p, z1, z2⟩ := ok
        exact ⟨p, z1, z2.mono sm fun _ z => z⟩
      | bw d =>
        obtain ⟨p, z1, z0, z2⟩ := ok
        refine ⟨p, z1, ⟨.inl z0, ?_⟩, z2.mono sm fun _ z => z⟩
        rintro ⟨j', w⟩
        obtain ⟨i2, _, _, _, _, _, w2, _⟩ := own_hand av hr hl w
        exact (hr.rep.sep _ p w2).1 z0
  · obtain ⟨i, _, _, _, a1, _, a2, _⟩ := own_hand av hr hl q1
    obtain ⟨i', _, _, _, b1, _, b2, _⟩ := own_hand av hr hl q2
    have e := hr.rep.inj i i' p a2 b2
    subst e
    exact nd_ix nd a1 b1
  · rcases q.1 with z | ⟨i, z⟩
    · obtain ⟨z1, o, z2⟩ := hr.rep.prot p z
      exact ⟨o, hr.rep.keep p o z2 z1⟩
    · exact hr.rep.dom z
  · obtain ⟨j, q⟩ := q
    obtain ⟨i, _, _, _, _, _, z, _⟩ := own_hand av hr hl q
    exact hr.rep.dom z

/-- an elder holder whose thing was not handed on -/
def notHanded (xs : Env) (us : St) (p : Addr) : Prop := ¬ ∃ j, own xs us j = some p
/-- behind the call -/
theorem back_rep (av : AV s as vs kv) (hr : RepT g B r s (t ++ tms as) (k ++ kv) H) (hl : t.length = k.length) (hn : (refs as).Nodup) {ps : List Sl} {more : List Sl} {us : St} {H' : Hp} (hml : more.length = us.length) (hmv : ∀ x ∈ more, x.isV = true) (hpl : ps.length = as.length)
    (hC : Rep g (B0 (S1 B (r ++ (t ++ tms as)) (s ++ (k ++ kv)) (as.map (Arg.hand r)) (vs.map some)) (as.map (Arg.hand r)) (vs.map some) H) (ps ++ more) (vs.map some ++ us) H') :
    RepT g B (comeBack r as ps) s (t ++ more) (k ++ us) H' ∧ Same (Sh (B0 (S1 B (r ++ (t ++ tms as)) (s ++ (k ++ kv)) (as.map (Arg.hand r)) (vs.map some)) (as.map (Arg.hand r)) (vs.map some) H) (ps ++ more) (vs.map some ++ us) H') (Sh B (comeBack r as ps ++ (t ++ more)) (s ++ (k ++ us)) H') := by
  have el : r.length = s.length := hr.rn.trans hr.sn.symm
  have al := av.len
  have hvl : (vs.map some).length = ps.length := by simp [hpl, al]
  have nd : (argIx (r.length + t.length) as).Nodup := argIx_nodup as _ hn fun i hi => by
    have := av.refs_lt i hi
    omega
  have cl := comeBack_len (r := r) as ps
  -- what the elder state holds and did not hand on
  have kept : ∀ p o, Pr B (r ++ (t ++ tms as)) (s ++ (k ++ kv)) p → notHanded (as.map (Arg.hand r)) (vs.map some) p → H p = some o → H' p = some o := fun p o h1 h2 h3 => hC.keep p o h3 h2
  -- the places of the new state
  have place : ∀ i x o, (comeBack r as ps ++ (t ++ more))[i]? = some x → (s ++ (k ++ us))[i]? = some o →
      (∃ y, (r ++ (t ++ tms as))[i]? = some y ∧ (s ++ (k ++ kv))[i]? = some o ∧ x = y ∧ i < r.length + t.length ∧ ∀ p, ownS y o = some p → notHanded (as.map (Arg.hand r)) (vs.map some) p) ∨
      (∃ j, (ps ++ more)[j]? = some x ∧ (vs.map some ++ us)[j]? = some o ∧ x.isV = true ∧ ((i < r.length ∧ as[j]? = some (.r i)) ∨ (r.length + t.length ≤ i ∧ i + as.length = j + (r.length + t.length)))) ∨ x = .no := by
    intro i x o h1 h2
    -- an elder place that is not among the operands' own
    have elder : ∀ y, (r ++ (t ++ tms as))[i]? = some y → (s ++ (k ++ kv))[i]? = some o → i < r.length + t.length → ((i ∈ refs as) → ∀ d, y ≠ .ow d) → ∀ p, ownS y o = some p → notHanded (as.map (Arg.hand r)) (vs.map some) p := by
      intro y e1 e2 hi hd p hp
      rintro ⟨j, w⟩
      obtain ⟨i2, y2, a2, w1, w2, w3, w4, w5, w6⟩ := own_hand av hr hl w
      have hi2 : i2 = i := hr.rep.inj _ _ p w4 (by rw [own_eq e1 e2]; exact hp)
      subst hi2
      have hm : i2 ∈ argIx (r.length + t.length) as := List.mem_of_getElem? w2
      rcases argIx_mem as _ _ hm with z | z
      · rw [e1] at w3
        cases w3
        obtain ⟨d, w7⟩ := w6 (by have := av.refs_lt _ z; omega)
        exact hd z d w7
      · omega
    by_cases hi : i < r.length
    · have h2' : s[i]? = some o := by rw [List.getElem?_append_left (by omega)] at h2; exact h2
      have e2 : (s ++ (k ++ kv))[i]? = some o := by rw [List.getElem?_append_left (by omega)]; exact h2'
      rw [List.getElem?_append_left (by omega)] at h1
      rcases comeBack_get as ps hn hpl.symm i hi with ⟨z1, z2⟩ | ⟨j, y, p, z1, z2, z3, z4⟩
      · rw [z2] at h1
        have e1 : (r ++ (t ++ tms as))[i]? = some x := by rw [List.getElem?_append_left hi]; exact h1
        exact .inl ⟨x, e1, e2, rfl, by omega, elder x e1 e2 (by omega) fun z => absurd z z1⟩
      · rw [z4] at h1
        have hx : y.back p = x := Option.some.inj h1
        have e1 : (r ++ (t ++ tms as))[i]? = some y := by rw [List.getElem?_append_left hi]; exact z2
        cases y with
        | ow d =>
          unfold Sl.back at hx
          dsimp only at hx
          by_cases hv : p.isV = true
          · rw [if_pos hv] at hx
            subst hx
            refine .inr (.inl ⟨j, ?_, ?_, hv, .inl ⟨hi, z1⟩⟩)
            · rw [List.getElem?_append_left (List.getElem?_eq_some_iff.mp z3).1]
              exact z3
            · have hj : j < vs.length := by
                have := (List.getElem?_eq_some_iff.mp z1).1
                omega
              rw [List.getElem?_append_left (by simpa using hj), List.getElem?_map, List.getElem?_eq_getElem hj]
              obtain ⟨i2, y2, f1, f2, f3, f4⟩ := av.ix (r := r) el hl j _ _ z1 (List.getElem?_eq_getElem hj)
              rcases f4 with ⟨i', g1, g2, g3, _, _⟩ | ⟨_, g2, _⟩
              · cases g1
                subst g2
                rw [e2] at f3
                cases f3
                rfl
              · cases g2
          · rw [if_neg hv] at hx
            exact .inr (.inr hx.symm)
        | no => exact .inr (.inr hx.symm)
        | sh d =>
          have hx' : Sl.sh d = x := hx
          subst hx'
          exact .inl ⟨_, e1, e2, rfl, by omega, elder _ e1 e2 (by omega) fun _ d' z => by cases z⟩
        | lk d =>
          have hx' : Sl.lk d = x := hx
          subst hx'
          exact .inl ⟨_, e1, e2, rfl, by omega, elder _ e1 e2 (by omega) fun _ d' z => by cases z⟩
        | bw d =>
          have hx' : Sl.bw d = x := hx
          subst hx'
          exact .inl ⟨_, e1, e2, rfl, by omega, elder _ e1 e2 (by omega) fun _ d' z => by cases z⟩
    · have a1 : (comeBack r as ps ++ (t ++ more))[i]? = (t ++ more)[i - r.length]? := by
        rw [List.getElem?_append_right (by omega), cl]
      have a2 : (s ++ (k ++ us))[i]? = (k ++ us)[i - r.length]? := by
        rw [List.getElem?_append_right (by omega), el]
      have b1 : (r ++ (t ++ tms as))[i]? = (t ++ tms as)[i - r.length]? := by
        rw [List.getElem?_append_right (by omega)]
      have b2 : (s ++ (k ++ kv))[i]? = (k ++ kv)[i - r.length]? := by
        rw [List.getElem?_append_right (by omega), el]
      rw [a1] at h1
      rw [a2] at h2
      by_cases hi2 : i - r.length < t.length
      · rw [List.getElem?_append_left hi2] at h1
        rw [List.getElem?_append_left (by omega)] at h2
        have e1 : (r ++ (t ++ tms as))[i]? = some x := by rw [b1, List.getElem?_append_left hi2]; exact h1
        have e2 : (s ++ (k ++ kv))[i]? = some o := by rw [b2, List.getElem?_append_left (by omega)]; exact h2
        exact .inl ⟨x, e1, e2, rfl, by omega, elder x e1 e2 (by omega) fun z => by have := av.refs_lt _ z; omega⟩
      · rw [List.getElem?_append_right (by omega)] at h1
        rw [List.getElem?_append_right (by omega)] at h2
        refine .inr (.inl ⟨i - r.length - t.length + as.length, ?_, ?_, hmv x (List.mem_of_getElem? h1), .inr ⟨by omega, by omega⟩⟩)
        · rw [List.getElem?_append_right (by omega), hpl, Nat.add_sub_cancel]
          exact h1
        · rw [List.getElem?_append_right (by rw [hvl]; omega), hvl, hpl, Nat.add_sub_cancel, hl]
          exact h2
  have ow : ∀ i p, own (comeBack r as ps ++ (t ++ more)) (s ++ (k ++ us)) i = some p →
      (own (r ++ (t ++ tms as)) (s ++ (k ++ kv)) i = some p ∧ notHanded (as.map (Arg.hand r)) (vs.map some) p) ∨
      (∃ j, own (ps ++ more) (vs.map some ++ us) j = some p ∧ ((i < r.length ∧ as[j]? = some (.r i)) ∨ (r.length + t.length ≤ i ∧ i + as.length = j + (r.length + t.length)))) := by
    intro i p q
    obtain ⟨x, o, h1, h2, h3⟩ := own_some q
    rcases place i x o h1 h2 with ⟨y, e1, e2, e3, e4, e5⟩ | ⟨j, e1, e2, e3, e4⟩ | e
    · subst e3
      exact .inl ⟨by rw [own_eq e1 e2]; exact h3, e5 p h3⟩
    · exact .inr ⟨j, by rw [own_eq e1 e2]; exact h3, e4⟩
    · subst e
      cases h3
  have pr2 : ∀ a, Pr B (comeBack r as ps ++ (t ++ more)) (s ++ (k ++ us)) a → Pr (B0 (S1 B (r ++ (t ++ tms as)) (s ++ (k ++ kv)) (as.map (Arg.hand r)) (vs.map some)) (as.map (Arg.hand r)) (vs.map some) H) (ps ++ more) (vs.map some ++ us) a := by
    rintro a (z | ⟨i, z⟩)
    · refine .inl ⟨.inl z, ?_⟩
      rintro ⟨j, w⟩
      obtain ⟨i2, _, _, _, _, _, w2, _⟩ := own_hand av hr hl w
      exact (hr.rep.sep _ a w2).1 z
    · rcases ow i a z with ⟨z1, z2⟩ | ⟨j, z1, _⟩
      · exact .inl ⟨.inr ⟨i, z1⟩, z2⟩
      · exact .inr ⟨j, z1⟩
  have sm2 : Same (Sh (B0 (S1 B (r ++ (t ++ tms as)) (s ++ (k ++ kv)) (as.map (Arg.hand r)) (vs.map some)) (as.map (Arg.hand r)) (vs.map some) H) (ps ++ more) (vs.map some ++ us) H') (Sh B (comeBack r as ps ++ (t ++ more)) (s ++ (k ++ us)) H') :=
    Hd_same fun a u n q => ⟨fun z => n (pr2 a z), q⟩
  have handed : ∀ a, (∃ j, own (as.map (Arg.hand r)) (vs.map some) j = some a) → ∃ i, own (r ++ (t ++ tms as)) (s ++ (k ++ kv)) i = some a := fun a ⟨j, w⟩ => by
    obtain ⟨i2, _, _, _, _, _, w2, _⟩ := own_hand av hr hl w
    exact ⟨i2, w2⟩
  have sm1 : Same (Sh B (r ++ (t ++ tms as)) (s ++ (k ++ kv)) H) (Sh B (comeBack r as ps ++ (t ++ more)) (s ++ (k ++ us)) H') := Hd_same fun a u n q => by
    have nh : notHanded (as.map (Arg.hand r)) (vs.map some) a := fun w => n (.inr (handed a w))
    refine ⟨?_, hC.keep a u q nh⟩
    intro z
    rcases pr2 a z with z | ⟨j, z⟩
    · exact n z.1
    · rcases (hC.sep j a z).2 with w | w
      · exact nh w
      · have w' : H a = none := w
        rw [q] at w'
        cases w'
  refine ⟨⟨cl.trans hr.rn, hr.sn, by simp [hl, hml], ⟨by simp [cl, el, hl, hml], by simp [hr.sn], fun i x o h1 h2 => ?_, fun i i' p q1 q2 => ?_, fun i p q => ?_, hr.rep.prot, fun a o q n => ?_, fun p q => ?_, fun i hi => ?_⟩, hr.sx⟩, sm2⟩
  · rcases place i x o h1 h2 with ⟨y, e1, e2, e3, e4, e5⟩ | ⟨j, e1, e2, e3, e4⟩ | e
    · subst e3
      refine (hr.rep.ok i x o e1 e2).mono sm1 (fun _ z => z) fun p u hp hu => ?_
      rcases hp with hp | hp
      · refine kept p u (.inl hp) ?_ hu
        intro w
        obtain ⟨i2, w2⟩ := handed p w
        exact (hr.rep.sep _ p w2).1 hp
      · exact kept p u (.inr ⟨i, by rw [own_eq e1 e2]; exact hp⟩) (e5 p hp) hu
    · have ok := hC.ok j x o e1 e2
      cases x with
      | sh d =>
        obtain ⟨v', z1, z2⟩ := ok
        exact ⟨v', z1, z2.mono sm2⟩
      | ow d =>
        obtain ⟨p, z1, z2⟩ := ok
        exact ⟨p, z1, z2.mono sm2 fun _ z => z⟩
      | no => cases e3
      | lk d => cases e3
      | bw d => cases e3
    · subst e
      trivial
  · rcases ow i p q1 with ⟨a1, a2⟩ | ⟨j, a1, a2⟩
    · rcases ow i' p q2 with ⟨b1, b2⟩ | ⟨j', b1, b2⟩
      · exact hr.rep.inj i i' p a1 b1
      · exact absurd ⟨.inr ⟨i, a1⟩, a2⟩ (hC.sep j' p b1).1
    · rcases ow i' p q2 with ⟨b1, b2⟩ | ⟨j', b1, b2⟩
      · exact absurd ⟨.inr ⟨i', b1⟩, b2⟩ (hC.sep j p a1).1
      · have e := hC.inj j j' p a1 b1
        subst e
        rcases a2 with ⟨a2, a3⟩ | ⟨a2, a3⟩
        · rcases b2 with ⟨b2, b3⟩ | ⟨b2, b3⟩
          · rw [a3] at b3
            cases b3
            rfl
          · have := (List.getElem?_eq_some_iff.mp a3).1
            omega
        · rcases b2 with ⟨b2, b3⟩ | ⟨b2, b3⟩
          · have := (List.getElem?_eq_some_iff.mp b3).1
            omega
          · omega
  · rcases ow i p q with ⟨a1, a2⟩ | ⟨j, a1, a2⟩
    · exact hr.rep.sep i p a1
    · obtain ⟨z1, z2⟩ := hC.sep j p a1
      rcases z2 with z2 | z2
      · obtain ⟨i2, w2⟩ := handed p z2
        exact hr.rep.sep _ p w2
      · have z3 : H p = none := z2
        refine ⟨fun w => ?_, .inr (hr.rep.freeH0 z3)⟩
        obtain ⟨w1, o, w2⟩ := hr.rep.prot p w
        rw [hr.rep.keep p o w2 w1] at z3
        cases z3
  · have q1 := hr.rep.keep a o q n
    refine hC.keep a o q1 ?_
    intro w
    obtain ⟨i2, w2⟩ := handed a w
    rcases (hr.rep.sep _ a w2).2 with z | z
    · exact n z
    · rw [z] at q
      cases q
  · by_cases w : ∃ j, own (as.map (Arg.hand r)) (vs.map some) j = some p
    · exact hC.mdom p w
    · obtain ⟨o, z⟩ := hr.rep.mdom p q
      exact ⟨o, hC.keep p o z w⟩
  · have z := hr.rep.fix i hi
    refine ⟨z.1, ?_⟩
    rw [← z.2, List.getElem?_append_left (by rw [hr.sn]; exact z.1), List.getElem?_append_left (by rw [hr.sn]; exact z.1)]
end
end Py

set_option Elab.async false
set_option linter.all false
set_option maxRecDepth 100000
/-! Sh: a call as a step; a def by its body. -/
namespace Py
open PySem PySem.Spec PyProof.Rows L2

section
variable {g : Gam} {W : WX}
theorem call_den {ta : TA} {as : As} {f : Fn} {np : Nat} (hnp : ∀ xs o, f xs = some o → xs.length = np) (hlen : ∀ xs x ps, (f xs = some (.ret x ps) → ps.length = xs.length)) (hlex : ∀ xs x ps, (f xs = some (.ex x ps) → ps.length = xs.length)) (h : DAs g ta as W) :
    DE g (fun s H Q => ta s H fun vs H1 => spF g np f vs H1 Q (WE W s)) (eCall f as) W := by
  intro B r s t k H Q o hr hm hp
  rcases bind_cases hm with ⟨xs, r1, q1, q2⟩ | ⟨e, r1, q1, q2⟩
  · refine h B r s t k H _ _ hr q1 fun vs kv H1 av hr1 => ?_
    by_cases hn : (refs xs).Nodup
    · rw [if_pos hn] at q2
      have rp := lend_rep av hr1 hr.tk hn
      have hl : vs.length = (xs.map (Arg.hand r1)).length := by simp [av.len]
      cases q3 : f (xs.map (Arg.hand r1)) with
      | none =>
        rw [q3] at q2
        cases q2
      | some u =>
        rw [q3] at q2
        refine ⟨hl.trans (hnp _ _ q3), _, _, u, rp, q3, ?_⟩
        cases u with
        | ret x ps =>
          dsimp only at q2
          by_cases hv : x.isV = true
          · rw [if_pos hv] at q2
            cases q2
            intro v H' hC
            have pl := hlen _ _ _ q3
            exact hp v H' (back_rep (more := [x]) (us := [some v]) av hr1 hr.tk hn rfl (fun y hy => by rw [List.mem_singleton.mp hy]; exact hv) (by simpa using pl) hC).1
          · rw [if_neg hv] at q2
            cases q2
        | ex e ps =>
          cases q2
          intro C d H' hc hC hx
          have pl := hlex _ _ _ q3
          obtain ⟨S0, eS⟩ : ∃ S0, S0 = B0 (S1 B (r1 ++ (t ++ tms xs)) (s ++ (k ++ kv)) (xs.map (Arg.hand r1)) (vs.map some)) (xs.map (Arg.hand r1)) (vs.map some) H1 := ⟨_, rfl⟩
          have hC2 : Rep g S0 (ps ++ []) (vs.map some ++ []) H' := by
            rw [List.append_nil, List.append_nil, eS]
            exact hC
          rw [eS] at hC2
          obtain ⟨b1, b2⟩ := back_rep (more := []) (us := []) av hr1 hr.tk hn rfl (fun y hy => by cases hy) (by simpa using pl) hC2
          rw [List.append_nil, List.append_nil] at b1
          rw [List.append_nil, List.append_nil, List.append_nil, List.append_nil] at b2
          exact hp C d H' hc b1 (hx.mono b2)
    · rw [if_neg hn] at q2
      cases q2
  · subst q2
    exact h B r s t k H _ _ hr q1 hp
theorem mkFn_some {n : Nat} {mask : List Bool} {body : S} {xs : List Sl} {o : FOut} (h : mkFn n mask body xs = some o) : xs.length = mask.length ∧ ∃ fl, body (xs ++ List.replicate (n - xs.length) .no) = some fl ∧ (match fl with
    | .nx r => o = .ret (.sh .non) (mkBack mask r)
    | .rt s r => o = .ret s (mkBack mask r)
    | .ex e r => o = .ex e (mkBack mask r)
    | _ => False) := by
  unfold mkFn at h
  split at h
  · rename_i hl
    refine ⟨hl, ?_⟩
    cases q : body (xs ++ List.replicate (n - xs.length) .no) with
    | none =>
      rw [q] at h
      cases h
    | some fl =>
      rw [q] at h
      refine ⟨fl, rfl, ?_⟩
      cases fl with
      | nx r =>
        cases h
        rfl
      | rt s r =>
        cases h
        rfl
      | ex e r =>
        cases h
        rfl
      | bk r => cases h
      | ct r => cases h
  · cases h
end
section
variable {X : Cx} {cl : Cs} {W : WX} {e : Expr} {es : List Expr} {as : As} {pos p : Pos} {x : Str} {f : Fn} {fa : Addr} {fd : FuncData} {ps : List Str} {k : Nat}
/-- a def that means f -/
structure Means (P : Program) (w : World) (K : PySem.W.Frag) (mg : Str → Option Value) (base : Heap) (cl : Str → Option Addr) (k : Nat) (x : Str) (ps : List Str) (f : Fn) : Prop where
  ex : ∃ fa fd, FnOk P w K mg base (L2.CX P w) k fa fd ps (spF ⟨K, cl⟩ ps.length f) ∧ mg x = some (.ref fa) ∧ PySem.W.keepIn K (.ref fa) = true ∧ Binds K fd ps []
  np : ∀ xs o, f xs = some o → xs.length = ps.length
  rl : ∀ xs x qs, f xs = some (.ret x qs) → qs.length = xs.length
  xl : ∀ xs x qs, f xs = some (.ex x qs) → qs.length = xs.length
theorem pd_call (F : Means X.prog X.w X.K X.mg X.base cl.c k x ps f) (hr : Room k X.A) (hg : Gl X x) (tk : Takes X W) (ha : PAs X cl W (e :: es) as)
    (hdb : (x == ("__debug__" : Str)) = false := by decide) (he : starEach (e :: es) X.env = (false, eval e X.env) :: starEach es X.env := by rfl) (hpl : (backTo pos (starEach es X.env)).any (·.1) = false := by rfl) :
    PD X cl W (.Call (.Name x p) (e :: es) [] pos) (eCall f as) := by
  obtain ⟨ta, h1, h2⟩ := ha
  obtain ⟨fa, fd, G, hm, kp, hb⟩ := F.ex
  exact ⟨_, pe_callS G hr hg hm kp hb (fun σ => passAt tk σ) h1 hdb he hpl, call_den F.np F.rl F.xl h2⟩
end

/-! ### a def -/
theorem mkBack_len : ∀ {mask : List Bool} {r : Py.Env}, (mkBack mask r).length = mask.length
  | [], _ => by unfold mkBack; rfl
  | _ :: bs, [] => by simp [mkBack, mkBack_len (mask := bs)]
  | _ :: bs, _ :: r => by simp [mkBack, mkBack_len (mask := bs)]
theorem mkBack_get : ∀ {mask : List Bool} {r : Py.Env} {i : Nat} {x : Sl}, (mkBack mask r)[i]? = some x → x = .no ∨ (mask[i]? = some true ∧ r[i]? = some x)
  | [], _, i, x, h => by simp [mkBack] at h
  | b :: bs, [], 0, x, h => by
    simp [mkBack] at h
    exact .inl h.symm
  | b :: bs, [], i + 1, x, h => by
    have h' : (mkBack bs [])[i]? = some x := by simpa [mkBack] using h
    rcases mkBack_get h' with z | ⟨_, z⟩
    · exact .inl z
    · simp at z
  | b :: bs, y :: r, 0, x, h => by
    simp only [mkBack, List.getElem?_cons_zero, Option.some.injEq] at h
    by_cases hb : b = true
    · rw [if_pos hb] at h
      subst hb
      subst h
      exact .inr ⟨rfl, rfl⟩
    · rw [if_neg hb] at h
      exact .inl h.symm
  | b :: bs, y :: r, i + 1, x, h => by
    have h' : (mkBack bs r)[i]? = some x := by simpa [mkBack] using h
    rcases mkBack_get h' with z | ⟨z1, z2⟩
    · exact .inl z
    · exact .inr ⟨by simpa using z1, by simpa using z2⟩
section
variable {P : Program} {w : World} {K : PySem.W.Frag} {mg : Str → Option Value} {base : Heap} {cl : Str → Option Addr}
theorem fn_D {x qual : Str} {st : Stmt} {f : Addr} {fd : FuncData} {N ps : List Str} {k : Nat} {mask : List Bool} {body : S} (F : Fun K x qual st f fd) (S : FnScope N ps (defScope st)) (hml : mask.length = ps.length)
    (hbody : ∀ (cdv : Value) (A : PySem.Around) (outer : List PySem.Env) (s : Shared) (H : Hp) (E : XK), Room k (A.deeper (envOfC qual (defScope st) s.heap.objs.size f cdv)) →
      PSsd (cxOf (L2.CX P w) P w K mg base N qual (defScope st) f cdv A outer s H E) ⟨cl, none⟩ (fun i => mask.getD i false) (fun c d _ H => E c d H) (defBody st) body) :
    FnOk P w K mg base (L2.CX P w) (k + 1) f fd ps (spF ⟨K, cl⟩ ps.length (mkFn N.length mask body)) := by
  refine F.okX S (fun vs H Q E h => h.1) fun cdv A outer s H vs Q E hr hsp => ?_
  obtain ⟨hvl, S0, xs, o, rp, ho, hpost⟩ := hsp
  obtain ⟨ts, h1, h2⟩ := hbody cdv A outer s H E hr
  refine ⟨ts, h1, ?_⟩
  obtain ⟨hxl, fl, hb, hf⟩ := mkFn_some ho
  have hpl : ps.length ≤ N.length := by
    have := congrArg List.length S.pre
    rw [List.length_take] at this
    omega
  let B : Bs := ⟨N.length, S0, (B0 S0 xs (vs.map some) H).M0, H, fun i => mask.getD i false, L2.start N vs⟩
  have hst : (L2.start N vs).length = N.length := by
    unfold L2.start
    simp
    omega
  have rp2 : Rep ⟨K, cl⟩ B (xs ++ List.replicate (N.length - xs.length) .no) (L2.start N vs) H := by
    have q : Rep ⟨K, cl⟩ ⟨0, S0, (B0 S0 xs (vs.map some) H).M0, H, fun _ => false, []⟩ (xs ++ List.replicate (N.length - xs.length) .no) (L2.start N vs) H := by
      refine rp.sub (fun i => i) (by rw [hst]; simp; omega) (Nat.zero_le _) (fun i z => Bool.noConfusion z) (fun i y u e1 e2 => ?_) fun _ _ _ _ e => .inl e
      by_cases hi : i < xs.length
      · right
        rw [List.getElem?_append_left hi] at e1
        unfold L2.start at e2
        rw [List.getElem?_append_left (by simp; omega)] at e2
        exact ⟨e1, e2⟩
      · left
        rw [List.getElem?_append_right (by omega), List.getElem?_replicate] at e1
        split at e1
        · exact (Option.some.inj e1).symm
        · cases e1
    exact ⟨q.len, by rw [hst]; exact Nat.le_refl _, q.ok, q.inj, q.sep, q.prot, q.keep, q.mdom, fun i hi => ⟨by
      have hi' : mask.getD i false = true := hi
      have : i < mask.length := by
        rw [List.getD_eq_getElem?_getD] at hi'
        cases z : mask[i]? with
        | none =>
          rw [z] at hi'
          cases hi'
        | some b => exact (List.getElem?_eq_some_iff.mp z).1
      show i < N.length
      omega, rfl⟩⟩
  have rpT : RepT ⟨⟨K, cl⟩, none⟩ B (xs ++ List.replicate (N.length - xs.length) .no) (L2.start N vs) [] [] H :=
    ⟨by show _ = N.length; simp; omega, hst, rfl, by rw [List.append_nil, List.append_nil]; exact rp2, fun _ _ z => by cases z⟩
  -- the end
  have fin : ∀ (r' : Env) (s' : L2.St) (more : Env) (us : L2.St) (H' : Hp), more.length = us.length → RepT ⟨⟨K, cl⟩, none⟩ B r' s' more us H' → Rep ⟨K, cl⟩ (B0 S0 xs (vs.map some) H) (mkBack mask r' ++ more) (vs.map some ++ us) H' := by
    intro r' s' more us H' hmu h
    have e1 := h.rn
    have e2 := h.sn
    have e1' : r'.length = N.length := e1
    have e2' : s'.length = N.length := e2
    have bl := mkBack_len (mask := mask) (r := r')
    refine h.rep.rebase.sub (fun i => if i < mask.length then i else i - mask.length + N.length) (by simp [bl, hmu]; omega) (Nat.zero_le _) (fun i z => Bool.noConfusion z) (fun i y u f1 f2 => ?_) fun i j hi hj e => ?_
    · by_cases hi : i < mask.length
      · rw [List.getElem?_append_left (by omega)] at f1
        rw [List.getElem?_append_left (by simp; omega)] at f2
        rw [if_pos hi]
        rcases mkBack_get f1 with z | ⟨z1, z2⟩
        · exact .inl z
        · right
          have fx := (h.rep.fix i (by show mask.getD i false = true; rw [List.getD_eq_getElem?_getD, z1]; rfl)).2
          rw [List.getElem?_append_left (by omega)] at fx ⊢
          rw [List.getElem?_append_left (by omega), fx]
          refine ⟨z2, ?_⟩
          show (L2.start N vs)[i]? = some u
          unfold L2.start
          rw [List.getElem?_append_left (by simp; omega)]
          exact f2
      · rw [if_neg hi]
        right
        rw [List.getElem?_append_right (by omega), bl] at f1
        rw [List.getElem?_append_right (by simp; omega)] at f2
        have g1 : (r' ++ more)[i - mask.length + N.length]? = more[i - mask.length]? := by
          rw [List.getElem?_append_right (by omega)]
          congr 1
          omega
        have g2 : (s' ++ us)[i - mask.length + N.length]? = us[i - mask.length]? := by
          rw [List.getElem?_append_right (by omega)]
          congr 1
          omega
        rw [g1, g2]
        refine ⟨f1, ?_⟩
        rw [← f2]
        congr 1
        simp
        omega
    · left
      split at e <;> split at e <;> omega
  refine h2 B _ _ [] [] H _ fl rfl rpT hb ?_
  cases fl with
  | nx r' =>
    have hf' : o = .ret (.sh .non) (mkBack mask r') := hf
    subst hf'
    intro s' H' h
    exact hpost .non H' (fin r' s' [.sh .non] [some .non] H' rfl (h.push .non))
  | rt y r' =>
    have hf' : o = .ret y (mkBack mask r') := hf
    subst hf'
    intro v s' H' h
    exact hpost v H' (fin r' s' [y] [some v] H' rfl h)
  | ex e r' =>
    have hf' : o = .ex e (mkBack mask r') := hf
    subst hf'
    intro s' C d H' hc h hx
    have q := fin r' s' [] [] H' rfl h
    rw [List.append_nil, List.append_nil] at q
    refine hpost C d H' hc q (hx.mono (Hd_same fun a u n z => ⟨?_, z⟩))
    rintro (z | ⟨i, z⟩)
    · exact n (.inl z)
    · obtain ⟨y, v, f1, f2, f3⟩ := own_some z
      rcases mkBack_get f1 with z | ⟨z1, z2⟩
      · subst z
        cases f3
      · refine n (.inr ⟨i, ?_⟩)
        have fx := (h.rep.fix i (by show mask.getD i false = true; rw [List.getD_eq_getElem?_getD, z1]; rfl)).2
        have hi : i < mask.length := (List.getElem?_eq_some_iff.mp z1).1
        rw [List.append_nil, List.append_nil]
        rw [List.append_nil] at fx
        have f2' : s'[i]? = some v := by
          rw [fx]
          show (L2.start N vs)[i]? = some v
          unfold L2.start
          rw [List.getElem?_append_left (by simp; omega)]
          exact f2
        rw [own_eq z2 f2']
        exact f3
  | bk r' => exact hf.elim
  | ct r' => exact hf.elim
end
theorem mkFn_np {n : Nat} {mask : List Bool} {body : S} {np : Nat} (h : mask.length = np) : ∀ xs o, mkFn n mask body xs = some o → xs.length = np := fun xs o q => (mkFn_some q).1.trans h
theorem mkFn_rl {n : Nat} {mask : List Bool} {body : S} : ∀ xs x qs, mkFn n mask body xs = some (.ret x qs) → qs.length = xs.length := fun xs x qs q => by
  obtain ⟨h1, fl, h2, h3⟩ := mkFn_some q
  cases fl with
  | nx r =>
    cases h3
    rw [mkBack_len, h1]
  | rt s r =>
    cases h3
    rw [mkBack_len, h1]
  | ex e r => cases h3
  | bk r => exact h3.elim
  | ct r => exact h3.elim
theorem mkFn_xl {n : Nat} {mask : List Bool} {body : S} : ∀ xs x qs, mkFn n mask body xs = some (.ex x qs) → qs.length = xs.length := fun xs x qs q => by
  obtain ⟨h1, fl, h2, h3⟩ := mkFn_some q
  cases fl with
  | nx r => cases h3
  | rt s r => cases h3
  | ex e r =>
    cases h3
    rw [mkBack_len, h1]
  | bk r => exact h3.elim
  | ct r => exact h3.elim
theorem means_mk {P : Program} {w : World} {K : PySem.W.Frag} {mg : Str → Option Value} {base : Heap} {cl : Str → Option Addr} {x : Str} {st : Stmt} {f : Addr} {fd : FuncData} {N ps : List Str} {k : Nat} {mask : List Bool} {body : S} (F : Fun K x x st f fd) (S : FnScope N ps (defScope st)) (hml : mask.length = ps.length)
    (gx : mg x = some (.ref f)) (bd : Binds K fd ps [])
    (hbody : ∀ (cdv : Value) (A : Around) (outer : List PySem.Env) (s : Shared) (H : Hp) (E : XK), Room k (A.deeper (envOfC x (defScope st) s.heap.objs.size f cdv)) →
      PSsd (cxOf (L2.CX P w) P w K mg base N x (defScope st) f cdv A outer s H E) ⟨cl, none⟩ (fun i => mask.getD i false) (fun c d _ H => E c d H) (defBody st) body) : Means P w K mg base cl (k + 1) x ps (mkFn N.length mask body) :=
  ⟨⟨f, fd, fn_D F S hml hbody, gx, F.kp, bd⟩, mkFn_np hml, mkFn_rl, mkFn_xl⟩
end Py

set_option Elab.async false
set_option linter.all false
set_option maxRecDepth 100000
/-! Si: stores, unpacking, loops, raise. -/
namespace Py
open PySem L2

section
variable {g : Gam} {B : Bs} {r : Env} {s : St} {t : Env} {k : St} {H : Hp} {W : WX}
theorem ixAt_eq (n : Nat) (i : Int) : ixAt n i = ixN n i := rfl
theorem RepT.write {i : Nat} {d d' : D} {p : Addr} {o' : HO} (h : RepT g B r s t k H) (hi : r[i]? = some (.ow d)) (hs : s[i]? = some (some (.ref p))) (hn : Node g (Sh B (r ++ t) (s ++ k) H) (upd H p o') p d') : RepT g B (r.set i (.ow d')) s t k (upd H p o') := by
  have hil := (List.getElem?_eq_some_iff.mp hi).1
  have q := h.rep.write (i := i) (d := d) (d' := d') (p := p) (o' := o') (by rw [List.getElem?_append_left hil]; exact hi) (by rw [List.getElem?_append_left (h.lt hi)]; exact hs) hn
  rw [List.set_append_left _ _ hil] at q
  exact ⟨by simp [h.rn], h.sn, h.tk, q, h.sx⟩
/-- an operand's data, in the whole heap; and the state without it -/
theorem ArgOk.dat {v : V} {a : Arg} {d : D} (h : ArgOk g B r s t k H v a) (hd : a.dat r = some d) : RC g (Sh B (r ++ (t ++ tms [a])) (s ++ (k ++ (match a with | .r _ => [] | .v _ => [some v]))) H) H v d ∧ RepT g B r s t k H := by
  cases a with
  | r i =>
    obtain ⟨h1, h2⟩ := h
    have e : (Arg.r i).dat r = ((r[i]?).getD .no).get := rfl
    rw [e] at hd
    cases q : r[i]? with
    | none =>
      rw [q] at hd
      cases hd
    | some x =>
      rw [q] at hd
      obtain ⟨o, e1, e2⟩ := h2.slot q
      rw [h1] at e1
      cases e1
      obtain ⟨v', e3, e4⟩ := e2.toRC hd
      cases e3
      refine ⟨?_, h2⟩
      show RC g (Sh B (r ++ (t ++ [])) (s ++ (k ++ [])) H) H v d
      rw [List.append_nil, List.append_nil]
      exact e4
  | v x =>
    obtain ⟨v', e3, e4⟩ := (RepT.top h).toRC (d := d) hd
    cases e3
    exact ⟨e4, RepT.pop h⟩
end

section
variable {X : Cx} {cl : Cs} {fx : Nat → Bool} {W : WX} {e : Expr} {pos p2 : Pos} {x : Str}
theorem pgd_set {i : Nat} {mi : A} (ho : PE X (.Name x p2) (tVar i)) (hi : PO X cl W e mi)
    (ha : ∀ v, assign (.Subscript (.Name x p2) e pos) X.env v = (do
      let ov ← holding [v] (eval (.Name x p2) X.env)
      let iv ← holding [v, ov] (eval e X.env)
      standAt pos
      holding [v, ov, iv] (setItem ov iv v)
      release [v, ov, iv] []) := by intro _; rfl) : PGd X cl fx W (.Subscript (.Name x p2) e pos) (gSet i mi) := by
  obtain ⟨ti, h1, h2⟩ := hi
  refine ⟨_, pg_sub ho h1 set_list ha, fun B r s t k H y v Q fl hfx hr hm hp => ?_⟩
  unfold gSet at hm
  cases q0 : (r[i]?).bind Sl.get with
  | none =>
    rw [q0] at hm
    cases hm
  | some dz =>
  rw [q0] at hm
  dsimp only at hm
  obtain ⟨y0, qa, qb⟩ := Option.bind_eq_some_iff.mp q0
  obtain ⟨o0, ea, eb⟩ := hr.slot qa
  obtain ⟨v0, ec, _⟩ := eb.toRC qb
  subst ec
  refine ⟨v0, ea, ?_⟩
  cases q : mi r with
  | none =>
    rw [q] at hm
    cases hm
  | some u =>
    rw [q] at hm
    cases u with
    | ex e r1 => cases hm
    | ok a r1 =>
      dsimp only at hm
      split at hm
      · rename_i ds z d q1 q2 q3
        obtain ⟨j, q4, q5⟩ := Option.map_eq_some_iff.mp hm
        obtain ⟨r', er, hq⟩ := hp
        rw [er] at q5
        cases q5
        refine h2 B r s (t ++ [y]) (k ++ [some v]) H _ _ hr q fun iv H2 ao => ?_
        obtain ⟨c1, c2⟩ := ao.dat q2
        have ri := c1.toR Hd_le
        cases ri
        have hd : t.length = k.length := by have := hr.tk; simpa using this
        have c3 := c2.pop
        obtain ⟨o1, e1, p, e2, e3⟩ := c3.slot q1
        rw [ea] at e1
        cases e1
        cases e2
        obtain ⟨xs, n1, n2⟩ := e3
        have rv : RA (gm X cl) (Sh B (r1 ++ t) (s ++ k) H2) [v] [d] := AV.shared (as := [.v y]) (.v .nil) c2 hd (by unfold shds; rw [show (Arg.v y).shd r1 = some d from q3]; rfl)
        cases rv with
        | cons rv _ =>
          refine ⟨p, xs, z, j, rfl, rfl, n1, by rw [n2.length]; exact q4, ?_⟩
          exact hq _ _ (c3.write q1 ea ⟨_, upd_same, n2.set rv j⟩)
      · cases hm
theorem gSet_nx {i : Nat} {mi : A} : ∀ x r fl, gSet i mi x r = some fl → ∃ r', fl = .nx r' := fun x r fl h => by
  unfold gSet at h
  split at h
  · cases h
  · split at h
    · split at h
      · obtain ⟨j, _, e⟩ := Option.map_eq_some_iff.mp h
        exact ⟨_, e.symm⟩
      · cases h
    · cases h
/-- targets one by one -/
def AllIn (t : Env) (k : St) (ds : List D) (vs : List V) : Prop := ∀ (j : Nat) (d : D) (v : V), ds[j]? = some d → vs[j]? = some v → ∃ i : Nat, t[i]? = some (.sh d) ∧ k[i]? = some (some v)
def DGs (g : Gam) (fx : Nat → Bool) (tg : TGs) (ms : List G) : Prop := ∀ B r s t k H ds vs Q fl, B.fx = fx → RepT g B r s t k H → AllIn t k ds vs → ds.length = vs.length → gUn ms ds r = some fl → (∃ r', fl = .nx r' ∧ ∀ s' H', RepT g B r' s' t k H' → Q s' H') → tg vs s H Q
theorem RepT.inTemp {g : Gam} {B : Bs} {r : Env} {s : St} {t : Env} {k : St} {H : Hp} {i : Nat} {d : D} {v : V} (h : RepT g B r s t k H) (h1 : t[i]? = some (.sh d)) (h2 : k[i]? = some (some v)) : R g (Sh B (r ++ t) (s ++ k) H) v d := by
  have e : r.length = s.length := h.rn.trans h.sn.symm
  obtain ⟨v', e1, e2⟩ := h.rep.ok (r.length + i) (.sh d) (some v) (by rw [List.getElem?_append_right (by omega), Nat.add_sub_cancel_left]; exact h1) (by rw [List.getElem?_append_right (by omega), e, Nat.add_sub_cancel_left]; exact h2)
  cases e1
  exact e2
theorem RepT.pushAll {g : Gam} {B : Bs} {r : Env} {s : St} {H : Hp} : ∀ {ds : List D} {vs : List V} {t : Env} {k : St}, RepT g B r s t k H → RA g (Sh B (r ++ t) (s ++ k) H) vs ds → RepT g B r s (t ++ ds.map .sh) (k ++ vs.map some) H
  | [], [], t, k, h, _ => by
    show RepT g B r s (t ++ []) (k ++ []) H
    rw [List.append_nil, List.append_nil]
    exact h
  | d :: ds, v :: vs, t, k, h, .cons h1 h2 => by
    have h' := h.push h1
    have np : ∀ a, ¬ Pr B (r ++ t) (s ++ k) a → ¬ Pr B (r ++ (t ++ [.sh d])) (s ++ (k ++ [some v])) a := by
      intro a n
      rintro (z | ⟨i, z⟩)
      · exact n (.inl z)
      · rw [← List.append_assoc, ← List.append_assoc] at z
        rcases own_last h.rep.len z with ⟨_, z⟩ | ⟨_, z⟩
        · exact n (.inr ⟨i, z⟩)
        · cases z
    have sm : Same (Sh B (r ++ t) (s ++ k) H) (Sh B (r ++ (t ++ [.sh d])) (s ++ (k ++ [some v])) H) := Hd_same fun a u n q => ⟨np a n, q⟩
    have q := RepT.pushAll h' (h2.mono sm)
    rw [List.append_assoc, List.append_assoc] at q
    exact q
theorem pgsd_nil : ∃ tg, PGs X [] tg ∧ DGs (gm X cl) fx tg [] := ⟨_, pgs_nil, fun B r s t k H ds vs Q fl hfx hr hin hl hm hp => by
  cases ds with
  | cons d ds => cases hm
  | nil =>
    cases vs with
    | cons v vs => cases hl
    | nil =>
      cases hm
      obtain ⟨r', e, hq⟩ := hp
      cases e
      exact ⟨rfl, hq s H hr⟩⟩
theorem pgsd_cons {es : List Expr} {m : G} {ms : List G} (h : PGd X cl fx W e m) (hs : ∃ tg, PGs X es tg ∧ DGs (gm X cl) fx tg ms)
    (hst : (assignEach (e :: es) X.env).map (·.2) = assign e X.env :: (assignEach es X.env).map (·.2) := by rfl) : ∃ tg, PGs X (e :: es) tg ∧ DGs (gm X cl) fx tg (m :: ms) := by
  obtain ⟨tg, h1, h2⟩ := h
  obtain ⟨tgs, h3, h4⟩ := hs
  refine ⟨_, pgs_cons h1 h3 hst, fun B r s t k H ds vs Q fl hfx hr hin hl hm hp => ?_⟩
  cases ds with
  | nil => cases hm
  | cons d ds =>
    cases vs with
    | nil => cases hl
    | cons v vs =>
      refine ⟨v, vs, rfl, ?_⟩
      unfold gUn at hm
      split at hm
      · rename_i r1 q
        obtain ⟨i, e1, e2⟩ := hin 0 d v rfl rfl
        refine h2 B r s t k H (.sh d) v _ _ hfx (hr.push (hr.inTemp e1 e2)) q ⟨r1, rfl, fun s' H' hr' => ?_⟩
        exact h4 B r1 s' t k H' ds vs Q fl hfx hr' (fun j d' v' z1 z2 => hin (j + 1) d' v' (by simpa using z1) (by simpa using z2)) (by simpa using hl) hm hp
      · cases hm
theorem gUn_nx {ms : List G} : ∀ (ms : List G) (ds : List D) (r : Env) (fl : Flow), gUn ms ds r = some fl → ∃ r', fl = .nx r'
  | [], [], r, fl, h => by
    cases h
    exact ⟨_, rfl⟩
  | [], _ :: _, _, _, h => by cases h
  | _ :: _, [], _, _, h => by cases h
  | m :: ms, d :: ds, r, fl, h => by
    unfold gUn at h
    split at h
    · rename_i r1 q
      exact gUn_nx (ms := ms) ms ds r1 fl h
    · cases h
theorem gTup_nx {ms : List G} : ∀ x r fl, gTup ms x r = some fl → ∃ r', fl = .nx r' := fun x r fl h => by
  unfold gTup at h
  split at h
  · exact gUn_nx (ms := ms) _ _ _ _ h
  · cases h
theorem gUn_len : ∀ {ms : List G} {ds : List D} {r : Env} {fl : Flow}, gUn ms ds r = some fl → ds.length = ms.length
  | [], [], r, fl, h => rfl
  | [], _ :: _, _, _, h => by cases h
  | _ :: _, [], _, _, h => by cases h
  | m :: ms, d :: ds, r, fl, h => by
    unfold gUn at h
    split at h
    · rename_i r1 q
      simp [gUn_len h]
    · cases h
theorem pgd_tup {es : List Expr} {kk : Nat} {ms : List G} (hc : X.calm = true) (h : ∃ tg, PGs X es tg ∧ DGs (gm X cl) fx tg ms)
    (hn : (assignEach es X.env).length = ms.length := by rfl) (hst : (assignEach es X.env).findIdx? (·.1) = none := by rfl) : PGd X cl fx W (.Tuple es kk pos) (gTup ms) := by
  obtain ⟨tg, h1, h2⟩ := h
  refine ⟨_, pg_tup hc h1 hn hst, fun B r s t k H x v Q fl hfx hr hm hp => ?_⟩
  unfold gTup at hm
  split at hm
  · rename_i ds
    obtain ⟨v', e1, e2⟩ := RepT.top hr
    cases e1
    cases e2 with
    | tup hq ra =>
      rename_i a xs
      have sq : SqT X.K H a xs := sqT_mono Hd_le hq
      refine ⟨a, xs, rfl, sq, ?_, ?_⟩
      · rw [ra.length]
        exact gUn_len hm
      · have hr2 := hr.pushAll ra
        have hl : t.length = k.length := by have := hr.tk; simpa using this
        refine h2 B r s _ _ H ds xs Q fl hfx hr2 (fun j d v z1 z2 => ⟨(t ++ [Sl.sh (.tup ds)]).length + j, ?_, ?_⟩) ra.length.symm hm ?_
        · rw [List.getElem?_append_right (by omega), Nat.add_sub_cancel_left, List.getElem?_map, z1]
          rfl
        · rw [List.getElem?_append_right (by simp; omega), List.getElem?_map]
          have : (t ++ [Sl.sh (.tup ds)]).length + j - (k ++ [some (V.ref a)]).length = j := by simp; omega
          rw [this, z2]
          rfl
        · obtain ⟨r', e, hq⟩ := hp
          exact ⟨r', e, fun s' H' hr' => hq s' H' ((RepT.dropped hr' hr.tk).pop)⟩
  · cases hm
/-- a, b = e, f: both new at once -/
theorem psd_par {i j : Nat} {y : Str} {a b : Expr} {as : As} {px py pt : Pos} {kt k2 pt2} (hc : X.calm = true) (hN : X.N.Nodup) (hi : X.N[i]? = some x) (hj : X.N[j]? = some y) (hij : i ≠ j)
    (hx : X.env.scope.names.lookup x = some .local) (hy : X.env.scope.names.lookup y = some .local) (ha : PAs X cl W [a, b] as) (hFi : fx i = false) (hFj : fx j = false)
    (hw : swappedStores [.Tuple [.Name x px, .Name y py] kt pt] (.Tuple [a, b] k2 pt2) X.env = pure (some [x, y]))
    (hs : swapsWithSole [.Tuple [.Name x px, .Name y py] kt pt] (.Tuple [a, b] k2 pt2) pos.line X.env = pure false := by rfl) :
    PSd X cl fx W (.Assign [.Tuple [.Name x px, .Name y py] kt pt] (.Tuple [a, b] k2 pt2) pos) (sPar i j as) := by
  obtain ⟨ta, h1, h2⟩ := ha
  refine ⟨_, ps_par hc hN hi hj hij hx hy h1 hw hs, fun B r s t k H D fl hf hr hm hp => ?_⟩
  rcases sE_cases hm with ⟨xs, r1, q1, q2⟩ | ⟨ee, r1, q1, q2⟩
  · refine h2 B r s t k H _ _ hr q1 fun vs kv H1 av hr1 => ?_
    split at q2
    · rename_i u w
      split at q2
      · rename_i hlt
        cases q2
        match vs, kv, av with
        | _, _, @AV.v _ _ v1 _ _ _ (@AV.v _ _ v2 _ _ _ .nil) =>
            refine ⟨v1, v2, rfl, hp _ H1 ?_⟩
            have e : r1.length = s.length := hr1.rn.trans hr1.sn.symm
            have q := hr1.rep
            have a1 : r1 ++ (t ++ tms [Arg.v u, Arg.v w]) = ((r1 ++ (t ++ [u])) ++ [w]) := by simp [tms]
            have a2 : s ++ (k ++ [some v1, some v2]) = ((s ++ (k ++ [some v1])) ++ [some v2]) := by simp
            rw [a1, a2] at q
            have q3 := q.store (i := j) e (by simp [hr.tk]) (by rw [hr1.sn]; exact Nat.le_refl _) hlt.2 (by rw [hf]; exact hFj)
            have a3 : r1.set j w ++ (t ++ [u]) = ((r1.set j w ++ t) ++ [u]) := by simp
            have a4 : s.set j (some v2) ++ (k ++ [some v1]) = ((s.set j (some v2) ++ k) ++ [some v1]) := by simp
            rw [a3, a4] at q3
            have q5 := q3.store (i := i) (by simp [e]) hr.tk (by simp [hr1.sn]) (by simpa using hlt.1) (by rw [hf]; exact hFi)
            refine ⟨by simp [hr1.rn], by simp [hr1.sn], hr.tk, ?_, hr1.sx⟩
            rw [List.set_comm _ _ hij, List.set_comm (l := s) _ _ hij]
            exact q5
      · cases q2
    · cases q2
  · subst q2
    exact h2 B r s t k H _ _ hr q1 (hp s)
end
end Py

set_option Elab.async false
set_option linter.all false
set_option maxRecDepth 100000
/-! Sj: loops, raise. -/
namespace Py
open PySem L2

section
variable {X : Cx} {cl : Cs} {fx : Nat → Bool} {W : WX} {e c tg : Expr} {body : List Stmt} {pos p2 : Pos} {x : Str}
theorem psd_while {t : T} {b : S} (hp : PassesOwn (model X.prog X.w) X.A X.env X.xe) (hc : PTd X cl W c t) (hb : PSsd X cl fx W body b) : PSd X cl fx W (.While c body [] pos) (sWhile t b) := by
  obtain ⟨tc, h1, h2⟩ := hc
  obtain ⟨tb, h3, h4⟩ := hb
  refine ⟨_, ps_while hp h1 h3, fun B r s t' k H D fl hf hr hm hpst => ?_⟩
  obtain ⟨n, hn⟩ := sWhile_iff.mp hm
  refine ⟨fun m s H => ∃ r, RepT (gm X cl) B r s t' k H ∧ whileN t b m r = some fl, ⟨n, r, hr, hn⟩, ?_⟩
  rintro m s H ⟨r, hr, hm⟩
  cases m with
  | zero => cases hm
  | succ m =>
    unfold whileN at hm
    cases q : t r with
    | none =>
      rw [q] at hm
      cases hm
    | some u =>
      rw [q] at hm
      refine h2 B r s t' k H _ _ hr q ?_
      cases u with
      | ex e r1 =>
        cases hm
        exact hpst s
      | ok c r1 =>
        intro H1 hr1
        cases c with
        | false =>
          cases hm
          exact iteF (hpst s H1 hr1)
        | true =>
          dsimp only at hm
          refine iteT ⟨fun s' H' => ∃ r', RepT (gm X cl) B r' s' t' k H' ∧ whileN t b m r' = some fl, fun s' H' z => ⟨m, Nat.lt_succ_self m, z⟩, ?_⟩
          cases q2 : b r1 with
          | none =>
            rw [q2] at hm
            cases hm
          | some f =>
            rw [q2] at hm
            refine h4 B r1 s t' k H1 _ _ hf hr1 q2 ?_
            cases f with
            | nx r2 => exact fun s' H' hr' => ⟨r2, hr', hm⟩
            | ct r2 => exact fun s' H' hr' => ⟨r2, hr', hm⟩
            | bk r2 =>
              cases hm
              exact hpst
            | rt x r2 =>
              cases hm
              exact hpst
            | ex x r2 =>
              cases hm
              exact hpst
/-- a for, by what it walks: W at the i-th turn -/
theorem forL_den {g : Gam} {J : It} {tg : TG} {tb : TS} {m : G} {b : S} {B : Bs} {t t' : Env} {k k' : St} {Z : Ends} {fl : Flow} {ds : List D} (hm : DG g fx tg m W) (hb : DS g fx tb b W) (hfx : B.fx = fx) (hnx : ∀ x r fl, m x r = some fl → ∃ r', fl = .nx r')
    (hl : t.length = k.length)
    (hgo : ∀ (i : Nat) (d : D) (r : Env) (s : St) (H : Hp), ds[i]? = some d → RepT g B r s (t ++ t') (k ++ k') H → J.go i H ∧ ∀ x H', J.yld i H x H' → RepT g B r s ((t ++ t') ++ [.sh d]) ((k ++ k') ++ [some x]) H')
    (hstop : ∀ (r : Env) (s : St) (H : Hp), RepT g B r s (t ++ t') (k ++ k') H → J.stop ds.length H)
    (r : Env) (s : St) (H : Hp) (hr : RepT g B r s (t ++ t') (k ++ k') H) (hf : forL m b ds r = some fl) (hp : PostS g B t k W Z fl) :
    ∃ W : Nat → Nat → St → Hp → Prop, (∃ m, W 0 m s H) ∧ ∀ i m σ H, W i m σ H →
      (J.stop i H ∧ Z.nx σ H) ∨ (J.go i H ∧ ∃ N : St → Hp → Prop, (∀ σ' H', N σ' H' → ∃ m', m' < m ∧ W (i + 1) m' σ' H') ∧ ∀ x H', J.yld i H x H' → tg x σ H' fun σ2 H2 => tb { Z with nx := N, ct := N, bk := Z.nx } σ2 H2) := by
  have htl := hr.tk
  refine ⟨fun i n s H => ∃ r, RepT g B r s (t ++ t') (k ++ k') H ∧ n = ds.length - i ∧ i ≤ ds.length ∧ forL m b (ds.drop i) r = some fl, ⟨ds.length, r, hr, rfl, Nat.zero_le _, hf⟩, ?_⟩
  rintro i n s H ⟨r, hr, rfl, hi, hf⟩
  by_cases hlt : i < ds.length
  · right
    have hd : ds[i]? = some ds[i] := List.getElem?_eq_getElem hlt
    obtain ⟨g1, g2⟩ := hgo i ds[i] r s H hd hr
    refine ⟨g1, fun s' H' => ∃ r', RepT g B r' s' (t ++ t') (k ++ k') H' ∧ forL m b (ds.drop (i + 1)) r' = some fl, fun s' H' z => ?_, fun x H' hy => ?_⟩
    · obtain ⟨r', z1, z2⟩ := z
      exact ⟨ds.length - (i + 1), by omega, r', z1, rfl, hlt, z2⟩
    · rw [List.drop_eq_getElem_cons hlt] at hf
      unfold forL at hf
      have hr2 := g2 x H' hy
      cases q : m (.sh ds[i]) r with
      | none =>
        rw [q] at hf
        cases hf
      | some f1 =>
        obtain ⟨r1, e1⟩ := hnx _ _ _ q
        subst e1
        rw [q] at hf
        dsimp only at hf
        refine hm B r s (t ++ t') (k ++ k') H' (.sh ds[i]) x _ _ hfx hr2 q ⟨r1, rfl, fun s2 H2 hr3 => ?_⟩
        cases q2 : b r1 with
        | none =>
          rw [q2] at hf
          cases hf
        | some f2 =>
          rw [q2] at hf
          refine hb B r1 s2 (t ++ t') (k ++ k') H2 _ _ hfx hr3 q2 ?_
          cases f2 with
          | nx r2 => exact fun s' H' hr' => ⟨r2, hr', hf⟩
          | ct r2 => exact fun s' H' hr' => ⟨r2, hr', hf⟩
          | bk r2 =>
            cases hf
            exact fun s' H' hr' => hp s' H' (hr'.dropped hl)
          | rt x r2 =>
            cases hf
            intro v s' H' hr'
            refine hp v s' H' ?_
            -- the walked thing is dropped below the result
            have e : (r2 ++ t).length = (s' ++ k).length := by simp [hr'.rn, hr'.sn, hl]
            refine ⟨hr'.rn, hr'.sn, by simp [hl], ?_, hr'.sx⟩
            have hrs : r2.length = s'.length := hr'.rn.trans hr'.sn.symm
            have hk' : t'.length = k'.length := by
              have := hr.tk
              simp at this
              omega
            refine hr'.rep.sub (fun j => if j < r2.length + t.length then j else j + t'.length) (by simp [hrs, hl]) (by simp [hr'.sn]) (fun j hj => ?_) (fun j y u h1 h2 => ?_) fun a b ha hb e => ?_
            · have := (hr'.rep.fix j hj).1
              rw [List.getElem?_append_left (by rw [hr'.sn]; exact this), List.getElem?_append_left (by rw [hr'.sn]; exact this)]
            · right
              by_cases hj : j < r2.length + t.length
              · rw [if_pos hj]
                have a1 : (r2 ++ (t ++ [x]))[j]? = (r2 ++ t)[j]? := by
                  rw [← List.append_assoc]
                  exact List.getElem?_append_left (by simpa using hj)
                have a2 : (s' ++ (k ++ [some v]))[j]? = (s' ++ k)[j]? := by
                  rw [← List.append_assoc]
                  exact List.getElem?_append_left (by simp; omega)
                have b1 : (r2 ++ ((t ++ t') ++ [x]))[j]? = (r2 ++ t)[j]? := by
                  rw [show r2 ++ ((t ++ t') ++ [x]) = (r2 ++ t) ++ (t' ++ [x]) by simp]
                  exact List.getElem?_append_left (by simpa using hj)
                have b2 : (s' ++ ((k ++ k') ++ [some v]))[j]? = (s' ++ k)[j]? := by
                  rw [show s' ++ ((k ++ k') ++ [some v]) = (s' ++ k) ++ (k' ++ [some v]) by simp]
                  exact List.getElem?_append_left (by simp; omega)
                rw [b1, b2, ← a1, ← a2]
                exact ⟨h1, h2⟩
              · rw [if_neg hj]
                have hj2 : j = r2.length + t.length := by
                  have := (List.getElem?_eq_some_iff.mp h1).1
                  simp at this
                  omega
                subst hj2
                have b1 : (r2 ++ ((t ++ t') ++ [x]))[r2.length + t.length + t'.length]? = some x := by
                  rw [show r2 ++ ((t ++ t') ++ [x]) = (r2 ++ (t ++ t')) ++ [x] by simp, List.getElem?_append_right (by simp; omega)]
                  simp [Nat.add_assoc]
                have b2 : (s' ++ ((k ++ k') ++ [some v]))[r2.length + t.length + t'.length]? = some (some v) := by
                  rw [show s' ++ ((k ++ k') ++ [some v]) = (s' ++ (k ++ k')) ++ [some v] by simp, List.getElem?_append_right (by simp; omega)]
                  simp [Nat.add_assoc, hrs, hl, hk']
                have a1 : (r2 ++ (t ++ [x]))[r2.length + t.length]? = some x := by
                  rw [← List.append_assoc, List.getElem?_append_right (by simp)]
                  simp
                have a2 : (s' ++ (k ++ [some v]))[r2.length + t.length]? = some (some v) := by
                  rw [← List.append_assoc, List.getElem?_append_right (by simp; omega)]
                  simp [hrs, hl]
                rw [a1] at h1
                rw [a2] at h2
                rw [b1, b2]
                exact ⟨h1, h2⟩
            · left
              simp at ha hb
              split at e <;> split at e <;> omega
          | ex x r2 =>
            cases hf
            exact fun s' => PostX.drop hl (hp s')
  · left
    have e : i = ds.length := by omega
    subst e
    rw [List.drop_length] at hf
    cases hf
    exact ⟨hstop r s H hr, hp s H (hr.dropped hl)⟩
theorem psd_for {m : E} {n : G} {b : S} (hp : PassesOwn (model X.prog X.w) X.A X.env X.xe) (hc : X.calm = true) (he : PD X cl W e m) (hg : PGd X cl fx W tg n) (hb : PSsd X cl fx W body b) (hnx : ∀ x r fl, n x r = some fl → ∃ r', fl = .nx r')
    (hs : ∀ v, foldedSetIterable e X.env v = pure v := by intro _; rfl) : PSd X cl fx W (.For tg e body [] pos) (sFor m n b) := by
  obtain ⟨te, h1, h2⟩ := he
  obtain ⟨tgt, h3, h4⟩ := hg
  obtain ⟨tb, h5, h6⟩ := hb
  refine ⟨_, ps_for hp hc (pi_list h1) h3 h5 hs, fun B r s t k H D fl hf hr hm hpst => ?_⟩
  rcases sE_cases hm with ⟨y, r1, q1, q2⟩ | ⟨ee, r1, q1, q2⟩
  · refine h2 B r s t k H _ _ hr q1 fun v H1 hr1 => ?_
    split at q2
    · rename_i ds q3
      have rc : ∀ (r' : Env) (s' : St) (H' : Hp), RepT (gm X cl) B r' s' (t ++ [y]) (k ++ [some v]) H' → ∃ a xs, v = .ref a ∧ SqL X.K H' a xs ∧ RA (gm X cl) (Sh B (r' ++ (t ++ [y])) (s' ++ (k ++ [some v])) H') xs ds := fun r' s' H' hr' => by
        obtain ⟨v', e1, e2⟩ := (RepT.top hr').toRC (d := .lst ds) q3
        cases e1
        obtain ⟨a, xs, z1, z2, z3⟩ := e2.lst Hd_le
        exact ⟨a, xs, z1, SqL.of z2, z3⟩
      obtain ⟨a, xs, e1, e2, e3⟩ := rc r1 s H1 hr1
      subst e1
      refine ⟨a, rfl, ⟨xs, e2⟩, forL_den (t' := [y]) (k' := [some (V.ref a)]) (ds := ds) h4 h6 hf hnx hr.tk (fun i d r' s' H' hd hr' => ?_) (fun r' s' H' hr' => ?_) r1 s H1 hr1 q2 hpst⟩
      · obtain ⟨a', xs', z1, z2, z3⟩ := rc r' s' H' hr'
        cases z1
        obtain ⟨w, w1, w2⟩ := z3.get hd
        refine ⟨⟨xs', w, z2, w1⟩, fun x H2 hy => ?_⟩
        obtain ⟨y1, y2⟩ := hy
        subst y1
        have := y2 xs' z2
        rw [w1] at this
        cases this
        exact hr'.push w2
      · obtain ⟨a', xs', z1, z2, z3⟩ := rc r' s' H' hr'
        cases z1
        exact ⟨xs', z2, by rw [z3.length]; exact Nat.le_refl _⟩
    · cases q2
  · subst q2
    exact h2 B r s t k H _ _ hr q1 (hpst s)
/-- over range(n) -/
theorem psd_forR1 {a : Expr} {ma : A} {n : G} {b : S} {q pos' : Pos} (hp : PassesOwn (model X.prog X.w) X.A X.env X.xe) (hc : X.calm = true) (hgl : Gl X "range") (hmr : X.mg "range" = none) (ha : PO X cl W a ma) (hg : PGd X cl fx W tg n) (hb : PSsd X cl fx W body b) (hnx : ∀ x r fl, n x r = some fl → ∃ r', fl = .nx r')
    (hs : starEach [a] X.env = [(false, eval a X.env)] := by rfl) : PSd X cl fx W (.For tg (.Call (.Name "range" q) [a] [] pos') body [] pos) (sForR1 ma n b) := by
  obtain ⟨ta, h1, h2⟩ := ha
  obtain ⟨tgt, h3, h4⟩ := hg
  obtain ⟨tb, h5, h6⟩ := hb
  refine ⟨_, ps_for hp hc (pi_range1 hgl hmr (pa_cons h1 pa_nil hs) hs) h3 h5, fun B r s t k H D fl hf hr hm hpst => ?_⟩
  have das := das_cons (W := W) (g := gm X cl) h2 das_nil
  unfold tFor iRng1
  rcases sE_cases hm with ⟨ys, r1, q1, q2⟩ | ⟨ee, r1, q1, q2⟩
  · refine das B r s t k H _ _ hr q1 fun vs kv H1 av hr1 => ?_
    split at q2
    · rename_i j q3
      split at q2
      · rename_i hj
        have rca := (av.rca hr1 hr.tk q3).toRA Hd_le
        cases rca with
        | cons r1' r2' =>
          cases r2'
          cases r1'
          obtain ⟨j1, j2⟩ := of_decide_eq_true hj
          have hr2 := hr1.dropped hr.tk
          have hr3 : RepT (gm X cl) B r1 s (t ++ []) (k ++ []) H1 := by
            rw [List.append_nil, List.append_nil]
            exact hr2
          refine ⟨j, rfl, j1, j2, forL_den (t' := []) (k' := []) (ds := rangeD 0 j.toNat) h4 h6 hf hnx hr.tk (fun i d r' s' H' hd hr' => ?_) (fun r' s' H' hr' => ?_) r1 s H1 hr3 q2 hpst⟩
          · unfold rangeD at hd
            obtain ⟨n, n1, n2⟩ := map_get hd
            have hi : i < j.toNat := by
              have := (List.getElem?_eq_some_iff.mp n1).1
              simpa using this
            rw [List.getElem?_range hi] at n1
            cases n1
            refine ⟨hi, fun x H2 hy => ?_⟩
            obtain ⟨y1, y2⟩ := hy
            subst y1
            subst y2
            subst n2
            exact hr'.push (.int _)
          · show j.toNat ≤ _
            simp [rangeD]
      · cases q2
    · cases q2
  · subst q2
    exact das B r s t k H _ _ hr q1 (hpst s)
/-- raise C('..') of a class without an __init__ of its own -/
theorem psd_raise {C : Addr} {m : Str} {j : Nat} {p p2 pos3 : Pos} (hc : X.calm = true) (tk : Takes X W) (hcl : cl.c x = some C) (gC : X.mg x = some (.ref C))
    (he : PySem.W.excIn X.K C He.veBase "ValueError.__new__" = true ∧ PySem.W.keepIn X.K (.ref C) = true ∧ PySem.W.subIn X.K (.ref C) (.type "BaseException") = some true ∧ PySem.W.typeIn X.K (.ref C) = some (.type "type")) (hg : Gl X x)
    (hdb : (x == ("__debug__" : Str)) = false := by decide) : PSd X cl fx W (.Raise (some (.Call (.Name x p) [.Constant (.str m) j p2] [] pos3)) none pos) (sRaise x) := by
  refine ⟨_, ps_raise hc tk (pmk_own PySem.F.excBase_ValueError he.1 gC he.2.1 (raises_own he.2.2.1 he.2.2.2) hg hdb), fun B r s t k H D fl hf hr hm hpst => ?_⟩
  cases hm
  exact hpst s C none H hcl hr rfl
end
end Py

set_option Elab.async false
set_option linter.all false
set_option maxRecDepth 100000
/-! Sk: try .. except C as e: suite. -/
namespace Py
open PySem L2

/-- the meaning itself as a reading -/
def canS (g : Gam) (fx : Nat → Bool) (m : S) (W : WX) : TS := fun Z s H => ∃ B r t k fl, B.fx = fx ∧ RepT g B r s t k H ∧ m r = some fl ∧ PostS g B t k W Z fl
theorem pss_can {X : Cx} {cl : Cs} {fx : Nat → Bool} {W : WX} {sts : List Stmt} {m : S} (h : PSsd X cl fx W sts m) : PSs X sts (canS (gm X cl) fx m W) := by
  obtain ⟨ts, h1, h2⟩ := h
  refine ⟨fun pins s σ H Z I q => ?_⟩
  obtain ⟨B, r, t, k, fl, a1, a2, a3, a4⟩ := q
  exact h1.run pins s σ H Z I (h2 B r σ t k H Z fl a1 a2 a3 a4)

section
variable {g : Gm} {B : Bs} {r : Env} {s : St} {t : Env} {k : St} {H : Hp}
/-- slot i is given another value of which nothing is known -/
theorem Rep.forget {i : Nat} {o : Option V} (h : Rep g B (r ++ t) (s ++ k) H) (hl : r.length = s.length) (hi : B.fx i = false) (hb : B.n ≤ s.length) : Rep g B (r.set i .no ++ t) (s.set i o ++ k) H := by
  by_cases hlt : i < r.length
  · have e1 : r.set i .no ++ t = (r ++ t).set i .no := (List.set_append_left _ _ hlt).symm
    have e2 : s.set i o ++ k = (s ++ k).set i o := (List.set_append_left _ _ (hl ▸ hlt)).symm
    rw [e1, e2]
    have hl2 := h.len
    refine h.sub (fun j => j) (by simpa using hl2) (by have := h.big; simpa using this) (fun j hj => ?_) (fun j x u a1 a2 => ?_) fun _ _ _ _ e => .inl e
    · have : j ≠ i := fun z => by rw [z, hi] at hj; cases hj
      rw [List.getElem?_set_ne (Ne.symm this)]
    · by_cases hj : j = i
      · subst hj
        left
        rw [List.getElem?_set_self (by simp; omega)] at a1
        exact (Option.some.inj a1).symm
      · right
        rw [List.getElem?_set_ne (Ne.symm hj)] at a1 a2
        exact ⟨a1, a2⟩
  · rw [List.set_eq_of_length_le (by omega), List.set_eq_of_length_le (by omega)]
    exact h
end

section
variable {X : Cx} {cl : Cs} {fx : Nat → Bool} {W : WX} {x n : Str} {cv : Value} {i : Nat} {body suite : List Stmt} {b0 : Stmt} {np pos pos' : Pos}
abbrev fxAnd (fx : Nat → Bool) (i : Nat) : Nat → Bool := fun j => fx j || j == i
theorem psd_try {b : S} {su : Exc → S} (sub : Str → Bool) (hs : X.stack = X.env :: X.outer) (hf : X.env.frame = some X.env.locals) (hN : X.N.Nodup) (hi : X.N[i]? = some n) (hln : X.env.kindOf n = some .local) (hc : Names X x cv) (tk : Takes X W) (hfi : fx i = false)
    (hsub : ∀ c C, cl.c c = some C → PySem.W.exmOne X.K (.ref C) cv = some (sub c))
    (hb : ∀ (W' : WX) (pn : List (Addr × Obj)) (xe : Value → Shared → Prop), Takes (X.tr pn xe) W' → PassesOwn (model X.prog X.w) X.A X.env xe → PSsd (X.tr pn xe) cl fx W' body b)
    (hsu : ∀ (a : Addr) (oe : Obj) (C : Addr) (d : Option Addr) (pn : List (Addr × Obj)) (e : Exc), cl.c e.cls = some C → sub e.cls = true → (e.fs = [] → d = none) → Zc (.ref C) d oe → (∃ vs, oe.data = .fields vs) →
      PSsd (X.suite a ((a, oe) :: pn)) ⟨cl.c, some (i, .ref a)⟩ (fxAnd fx i) (fun _ _ _ _ => False) (b0 :: suite) (su e)) :
    PSd X cl fx W (.Try body [.ExceptHandler (some (.Name x np)) (some n) (b0 :: suite) pos'] [] [] pos) (sTry i sub b su) := by
  have key := ps_try_as (X := X) (x := x) (n := n) (c := cv) (i := i) (body := body) (suite := suite) (b₀ := b0) (np := np) (pos := pos) (pos' := pos') (tb := fun W' => canS (gm X cl) fx b W')
    (ts := fun a cls d Z s H => ∃ e C, cls = .ref C ∧ cl.c e.cls = some C ∧ sub e.cls = true ∧ (e.fs = [] → d = none) ∧ canS ⟨⟨X.K, cl.c⟩, some (i, .ref a)⟩ (fxAnd fx i) (su e) (fun _ _ _ _ => False) Z s H) (Wout := W) hs hf hN hi hln hc tk
    (fun W' pn xe h1 h2 => pss_can (hb W' pn xe h1 h2)) (fun a oe cls d pn hz hv => ⟨fun pins s σ H Z I q => by
      obtain ⟨e, C, e1, e2, e3, e4, e5⟩ := q
      subst e1
      exact (pss_can (hsu a oe C d pn e e2 e3 e4 hz hv)).run pins s σ H Z I e5⟩)
  refine ⟨_, key, fun B r s t k H Z fl hfx hr hm hp => ?_⟩
  unfold sTry at hm
  cases q : b r with
  | none =>
    rw [q] at hm
    cases hm
  | some f =>
    rw [q] at hm
    refine ⟨B, r, t, k, f, hfx, hr, q, ?_⟩
    cases f with
    | nx r1 =>
      cases hm
      exact hp
    | bk r1 =>
      cases hm
      exact hp
    | ct r1 =>
      cases hm
      exact hp
    | rt y r1 =>
      cases hm
      exact hp
    | ex e r1 =>
      dsimp only at hm
      intro s1 C d H1 hC hr1 hx
      refine ⟨sub e.cls, hsub _ _ hC, fun hsb a na => ?_, fun hsb => ?_⟩
      · rw [if_pos hsb] at hm
        split at hm
        case isFalse => cases hm
        rename_i hiR
        have hiN : i < B.n := hr1.rn ▸ hiR
        refine ⟨e, C, rfl, hC, hsb, fun hz => ?_, ?_⟩
        · unfold XOk at hx
          rw [hz] at hx
          exact hx
        have hrs : r1.length = s1.length := hr1.rn.trans hr1.sn.symm
        have rp := hr1.rep.forget (i := i) (o := some (V.ref a)) hrs (by rw [hfx]; exact hfi) (by rw [hr1.sn]; exact Nat.le_refl _)
        let B' : Bs := { B with fx := fxAnd fx i, s0 := s1.set i (some (.ref a)) }
        have rpB : Rep ⟨X.K, cl.c⟩ B' (r1.set i .no ++ t) (s1.set i (some (.ref a)) ++ k) H1 := by
          refine ⟨rp.len, rp.big, rp.ok, rp.inj, rp.sep, rp.prot, rp.keep, rp.mdom, fun j hj => ?_⟩
          have hj' : (fx j || j == i) = true := hj
          have hjn : j < B.n := by
            rcases Bool.or_eq_true_iff.mp hj' with z | z
            · exact (hr1.rep.fix j (by rw [hfx]; exact z)).1
            · rw [eq_of_beq z]
              exact hiN
          refine ⟨hjn, ?_⟩
          rw [List.getElem?_append_left (by simp [hr1.sn]; exact hjn)]
        -- back to the outer state
        have back : ∀ (r2 : Env) (s2 : St) (t2 : Env) (k2 : St) (H2 : Hp), RepT ⟨⟨X.K, cl.c⟩, some (i, .ref a)⟩ B' r2 s2 t2 k2 H2 → RepT (gm X cl) B (r2.set i .no) (s2.set i none) t2 k2 H2 := by
          intro r2 s2 t2 k2 H2 h2
          have h2s : s2.length = B.n := h2.sn
          have h2r : r2.length = B.n := h2.rn
          have q2 : Rep ⟨X.K, cl.c⟩ B (r2 ++ t2) (s2 ++ k2) H2 := by
            refine ⟨h2.rep.len, h2.rep.big, h2.rep.ok, h2.rep.inj, h2.rep.sep, h2.rep.prot, h2.rep.keep, h2.rep.mdom, fun j hj => ?_⟩
            have hj0 : fx j = true := by rw [← hfx]; exact hj
            have ne : j ≠ i := fun z => by rw [z, hfi] at hj0; cases hj0
            obtain ⟨z1, z2⟩ := h2.rep.fix j (show (fx j || j == i) = true by rw [hj0]; rfl)
            refine ⟨z1, z2.trans ?_⟩
            show (s1.set i (some (V.ref a)))[j]? = B.s0[j]?
            rw [List.getElem?_set_ne (Ne.symm ne)]
            have z3 := (hr1.rep.fix j hj).2
            rw [List.getElem?_append_left (by rw [hr1.sn]; exact z1)] at z3
            exact z3
          exact ⟨by simpa using h2r, by simpa using h2s, h2.tk, q2.forget (h2r.trans h2s.symm) (by rw [hfx]; exact hfi) (by rw [h2s]; exact Nat.le_refl _), hr.sx⟩
        cases q2 : su e (r1.set i .no) with
        | none =>
          rw [q2] at hm
          cases hm
        | some f2 =>
          rw [q2] at hm
          refine ⟨B', r1.set i .no, t, k, f2, rfl, ⟨by simpa using hr1.rn, by simpa using hr1.sn, hr1.tk, rpB, fun j v z => ?_⟩, q2, ?_⟩
          · cases z
            refine ⟨by show (fx i || i == i) = true; simp, ?_⟩
            show (s1.set i (some (V.ref a)))[i]? = some (some (.ref a))
            rw [List.getElem?_set_self (by rw [hr1.sn]; exact hiN)]
          · cases f2 with
            | nx r2 =>
              cases hm
              exact fun s2 H2 h2 => hp _ H2 (back r2 s2 t k H2 h2)
            | bk r2 =>
              cases hm
              exact fun s2 H2 h2 => hp _ H2 (back r2 s2 t k H2 h2)
            | ct r2 =>
              cases hm
              exact fun s2 H2 h2 => hp _ H2 (back r2 s2 t k H2 h2)
            | rt y r2 =>
              cases hm
              exact fun v s2 H2 h2 => hp v _ H2 (back r2 s2 _ _ H2 h2)
            | ex ee r2 => cases hm
      · rw [hsb, if_neg Bool.false_ne_true] at hm
        cases hm
        exact hp s1 C d H1 hC hr1 hx

theorem roomH_units {k : Nat} {A : PySem.Around} (h : L2H.RoomH k A) : A.units + 64 < cLine := by have := h.un; omega
theorem roomH_mk {j k : Nat} {A : PySem.Around} {a : Addr} (h : Room k A) (hj : j ≤ k) : L2H.RoomH j (A.mark (some (.ref a))) := ⟨(h.mono hj).dp, (h.mono hj).un⟩
/-! ### a def that is handed the exception that is handled -/
/-- the exception at p is of the class at C and has no attributes of its own -/
def ExAt (C : Addr) (p : Addr × Obj) : Prop := Zc (.ref C) none p.2 ∧ ∃ vs, p.2.data = .fields vs
/-- called with an exception of the class at C, while that one is handled, the def at f gives b -/
structure Tells (P : Program) (w : World) (K : PySem.W.Frag) (mg : Str → Option Value) (base : Heap) (k : Nat) (x : Str) (C : Addr) (b : Bool) : Prop where
  ex : ∃ fa fd n, mg x = some (.ref fa) ∧ PySem.W.keepIn K (.ref fa) = true ∧ Binds K fd [n] [] ∧
    ∀ (A : PySem.Around) (outer : List PySem.Env) (s : Shared) (H : Hp) (args : Args) (Q : VK) (E : XK) (p : Addr × Obj), L2H.RoomH k A → A.handled = some (.ref p.1) → L2H.PinOk outer H s p → ExAt C p → Env0 P w K mg base A outer s H → BindsTo s fd args ([n].zip [Value.ref p.1]) →
      (∀ H', Same H H' → Q (.bl b) H') → codeAny (model P w) A (.call (.ref fa) args) (CR CX0 outer P w H s Q E) s
theorem pe_tells {k : Nat} {y : Str} {C : Addr} {b : Bool} {p : Addr × Obj} {q q2 : Pos} (F : Tells X.prog X.w X.K X.mg X.base k y C b) (hr : L2H.RoomH k X.A) (hh : X.A.handled = some (.ref p.1)) (hp : p ∈ X.pn) (hE : ExAt C p) (hg : Gl X y) (hn : PE X (.Name n q2) (tVar i))
    (hdb : (y == ("__debug__" : Str)) = false := by decide) : PE X (.Call (.Name y q) [.Name n q2] [] pos) (fun s H Q => s[i]? = some (some (.ref p.1)) ∧ ∀ H', Same H H' → Q (.bl b) H') := by
  refine ⟨fun pins s σ H Q I h => ?_⟩
  obtain ⟨h1, h2⟩ := h
  obtain ⟨fa, fd, nm, m1, m2, m3, m4⟩ := F.ex
  refine wpAny_Call_Name_kw (ld_glob I hg m1 ?_ hdb)
  have ha : PA X [.Name n q2] (tCons (tVar i) tNil) := pa_cons hn pa_nil
  refine PySem.W.callWith_K (h₀ := X.base) I.ok.mod.kin m2 (thn (ha.run pos pins s σ H (fun vs H1 => vs = [V.ref p.1] ∧ H1 = H) I ⟨_, h1, rfl, rfl⟩) fun us s1 z => ?_)
  obtain ⟨vs, H1, I1, r1, ev, eH⟩ := z
  subst ev
  subst eH
  refine ⟨I1.kIn, ?_⟩
  cases r1 with
  | cons ru rn =>
    cases rn
    cases ru
    have P1 := I1.pin p (List.mem_append_left _ hp)
    have pin : L2H.PinOk X.stack H1 s1 p := ⟨P1.1, P1.2.1, fun hm => (List.mem_cons.mp (I1.stkSub p.1 hm)).elim P1.2.2.1 P1.2.2.2.1, P1.2.2.2.2⟩
    have bd := m3 s1 [Value.ref p.1] I1.kIn rfl
    refine wpAny_call (codeAny_mono (m4 X.A X.stack s1 H1 ⟨[.ref p.1], []⟩ Q (fun _ _ _ => False) p hr hh pin hE I1.env0 bd h2) fun res s' hq => ?_)
    cases res with
    | error e => exact hq.elim
    | ok fl =>
      cases fl with
      | ret u => exact I1.after hq
      | next => exact hq.elim
      | brk => exact hq.elim
      | cont => exact hq.elim
/-- .. as a piece of a suite -/
theorem pd_tells {k : Nat} {y : Str} {C : Addr} {b : Bool} {p : Addr × Obj} {q q2 : Pos} {cc : Str → Option Addr} (F : Tells X.prog X.w X.K X.mg X.base k y C b) (hr : L2H.RoomH k X.A) (hh : X.A.handled = some (.ref p.1)) (hp : p ∈ X.pn) (hE : ExAt C p) (hg : Gl X y) (hn : PE X (.Name n q2) (tVar i))
    (hdb : (y == ("__debug__" : Str)) = false := by decide) : PD X ⟨cc, some (i, .ref p.1)⟩ W (.Call (.Name y q) [.Name n q2] [] pos) (eC (.bl b)) := by
  refine ⟨_, pe_tells F hr hh hp hE hg hn hdb, fun B r s t k H Q o hr hm hq => ?_⟩
  cases hm
  obtain ⟨z1, z2⟩ := hr.sx i _ rfl
  obtain ⟨z3, z4⟩ := hr.rep.fix i z1
  refine ⟨?_, fun H' hs => hq _ H' ((hr.grow hs).push (.bl b))⟩
  rw [List.getElem?_append_left (by rw [hr.sn]; exact z3)] at z4
  rw [z4]
  exact z2
theorem pd_none {e : Expr} : PD X cl W e (fun _ => none) := ⟨fun _ _ _ => False, ⟨fun _ _ _ _ _ _ h => h.elim⟩, fun B r s t k H Q o hr hm hq => by cases hm⟩
theorem pd_tellsE {k : Nat} {y : Str} {C : Addr} {b : Bool} {a : Addr} {oe : Obj} {d : Option Addr} {q q2 : Pos} {cc : Str → Option Addr} (e : Exc) (F : Tells X.prog X.w X.K X.mg X.base k y C b) (hr : L2H.RoomH k X.A) (hh : X.A.handled = some (.ref a)) (hp : (a, oe) ∈ X.pn) (hd : e.fs = [] → d = none) (hz : Zc (.ref C) d oe) (hv : ∃ vs, oe.data = .fields vs) (hg : Gl X y) (hn : PE X (.Name n q2) (tVar i))
    (hdb : (y == ("__debug__" : Str)) = false := by decide) : PD X ⟨cc, some (i, .ref a)⟩ W (.Call (.Name y q) [.Name n q2] [] pos) (eFl e b) := by
  cases h : e.fs with
  | nil =>
    have e1 : eFl e b = eC (.bl b) := by unfold eFl; rw [h]
    rw [e1]
    cases hd h
    exact pd_tells (p := (a, oe)) F hr hh hp ⟨hz, hv⟩ hg hn hdb
  | cons x xs =>
    have e1 : eFl e b = fun _ => none := by unfold eFl; rw [h]
    rw [e1]
    exact pd_none
end
end Py

set_option Elab.async false
set_option linter.all false
set_option maxRecDepth 100000
/-! Sl: a def that looks at the exception it is handed; the facts of the head. -/
namespace Py
open PySem PySem.Spec PyProof.Rows L2

/-! ### isinstance of an exception that is pinned -/
section
variable {X : Cx} {p : Addr × Obj} {C : Addr}
theorem inst_pin {pins : List (Addr × Obj)} {s : Shared} {σ : L2.St} {H : Hp} (I : Inv X pins σ H s) (hp : p ∈ X.pn) (hE : ExAt C p) : PySem.W.InstAt s.heap p.1 p.2 C none := by
  have g := (I.pin p (List.mem_append_left _ hp)).1
  obtain ⟨⟨h1, h2⟩, vs, h3⟩ := hE
  obtain ⟨a, o⟩ := p
  obtain ⟨c1, c2, c3, c4⟩ := o
  dsimp only at h1 h2 h3 g ⊢
  subst h1 h2 h3
  exact ⟨g, rfl, rfl, trivial⟩
def rIsP (K : PySem.W.Frag) (C a : Addr) : List V → Hp → VK → Prop := fun xs H Q => ∃ (c : V) (u : Value) (b : Bool), xs = [.ref a, c] ∧ ClsV c u ∧ PySem.W.kitOne K (.ref C) u = some b ∧ Q (.bl b) H
theorem call_isP (hp : p ∈ X.pn) (hE : ExAt C p) (c : ExcC X.K C) : CallR X (.builtin "isinstance") (rIsP X.K C p.1) := by
  intro pins s σ H xs us Q I r h
  obtain ⟨cv, u, b, rfl, k, e, q⟩ := h
  obtain ⟨u1, u2, rfl, r1, r2⟩ := vals2 r
  obtain rfl := k.eq r2
  cases (show u1 = Value.ref p.1 from r1)
  exact PySem.W.kia_one (PySem.W.handS_kitx_exc c.hg c.hk c.hs c.hd c.ha c.hn c.ht c.hm) I.kIn (inst_pin I hp hE) e (fun z => nomatch z) fun tk => ⟨.bl b, H, I.tok tk, rfl, q⟩
def rIsPT (K : PySem.W.Frag) (C a : Addr) : List V → Hp → VK → Prop := fun xs H Q => ∃ (tp : Addr) (cs : List V) (us : List Value) (b : Bool), xs = [.ref a, .ref tp] ∧ H tp = some (.tup cs) ∧ Paired ClsV cs us ∧ PySem.W.kitAny K (.ref C) us = some b ∧ Q (.bl b) H
theorem call_isPT (hp : p ∈ X.pn) (hE : ExAt C p) (c : ExcC X.K C) : CallR X (.builtin "isinstance") (rIsPT X.K C p.1) := by
  intro pins s σ H xs us Q I r h
  obtain ⟨tp, cs, ws, b, rfl, hT, k, e, q⟩ := h
  obtain ⟨u1, u2, rfl, r1, r2⟩ := vals2 r
  cases (show u1 = Value.ref p.1 from r1)
  cases (show u2 = Value.ref tp from r2)
  have ob : ObjOk X.prog X.w H s.heap tp (.tup cs) := I.hok tp _ hT
  obtain ⟨_, its, rv, o, h1, h2, n, h3⟩ := ob
  obtain rfl := ClsV.all k rv
  obtain ⟨oc, od, dt, sl⟩ := o
  dsimp only at h2 h3
  subst h2
  subst h3
  exact PySem.W.kia_tup (PySem.W.handS_kitx_exc c.hg c.hk c.hs c.hd c.ha c.hn c.ht c.hm) I.kIn (inst_pin I hp hE) h1 e (fun z => nomatch z) fun tk => ⟨.bl b, H, I.tok tk, rfl, q⟩
/-- class names as operands -/
theorem pac_nil : PA X [] (fun _ H Q => Q [] H) := pa_nil
theorem pac_cons {x : Str} {D : Addr} {es : List Expr} {cs : List V} {pos : Pos} (hg : Gl X x) (hm : X.mg x = some (.ref D)) (h : PA X es (fun _ H Q => Q cs H)) (hd : (x == ("__debug__" : Str)) = false := by decide)
    (hs : starEach (.Name x pos :: es) X.env = (false, eval (.Name x pos) X.env) :: starEach es X.env := by rfl) : PA X (.Name x pos :: es) (fun _ H Q => Q (.ref D :: cs) H) :=
  pa_cons (pe_glob (v := .ref D) hg hm rfl hd) h hs
variable {cc : Str → Option Addr} {W : WX} {i : Nat} {n : Str} {q q1 q2 pos tpos : Pos} {b : Bool}
theorem slot_sx {g : Gm} {v : V} {B : Bs} {r : Py.Env} {s : L2.St} {t : Py.Env} {k : L2.St} {H : Hp} (h : RepT ⟨g, some (i, v)⟩ B r s t k H) : s[i]? = some (some v) := by
  obtain ⟨z1, z2⟩ := h.sx i _ rfl
  obtain ⟨z3, z4⟩ := h.rep.fix i z1
  rw [List.getElem?_append_left (by rw [h.sn]; exact z3)] at z4
  rw [z4]
  exact z2
/-- isinstance(e, C) -/
theorem pd_isP {x : Str} {cv : V} {u : Value} (hp : p ∈ X.pn) (hE : ExAt C p) (c : ExcC X.K C) (hgI : Gl X "isinstance") (hmI : X.mg "isinstance" = none) (hn : PE X (.Name n q) (tVar i)) (hx : PE X (.Name x q1) (tC cv)) (hcv : ClsV cv u) (hk : PySem.W.kitOne X.K (.ref C) u = some b)
    (h1 : starEach [.Name n q, .Name x q1] X.env = (false, eval (.Name n q) X.env) :: starEach [.Name x q1] X.env := by rfl) (h2 : starEach [.Name x q1] X.env = (false, eval (.Name x q1) X.env) :: starEach [] X.env := by rfl) (h3 : (backTo pos (starEach [.Name x q1] X.env)).any (·.1) = false := by rfl) :
    PD X ⟨cc, some (i, .ref p.1)⟩ W (.Call (.Name "isinstance" q2) [.Name n q, .Name x q1] [] pos) (eC (.bl b)) := by
  refine ⟨_, pe_callB (call_isP hp hE c) hgI hmI (by decide +kernel) (pa_cons hn (pa_cons hx pa_nil h2) h1) (by decide) (by decide) h1 h3, fun B r s t k H Q o hr hm hq => ?_⟩
  cases hm
  exact ⟨_, slot_sx hr, cv, u, b, rfl, hcv, hk, hq _ H (hr.push (.bl b))⟩
/-- isinstance(e, (C1, ..)) -/
theorem pd_isPT {es : List Expr} {cs : List V} {us : List Value} {tk : Nat} (hp : p ∈ X.pn) (hE : ExAt C p) (c : ExcC X.K C) (hgI : Gl X "isinstance") (hmI : X.mg "isinstance" = none) (hn : PE X (.Name n q) (tVar i)) (hx : PA X es (fun _ H Q => Q cs H)) (hcv : Paired ClsV cs us) (hl : cs.length ≤ lim) (hk : PySem.W.kitAny X.K (.ref C) us = some b)
    (h1 : starEach [.Name n q, .Tuple es tk tpos] X.env = (false, eval (.Name n q) X.env) :: starEach [.Tuple es tk tpos] X.env := by rfl) (h2 : starEach [.Tuple es tk tpos] X.env = (false, eval (.Tuple es tk tpos) X.env) :: starEach [] X.env := by rfl) (h3 : (backTo pos (starEach [.Tuple es tk tpos] X.env)).any (·.1) = false := by rfl) :
    PD X ⟨cc, some (i, .ref p.1)⟩ W (.Call (.Name "isinstance" q2) [.Name n q, .Tuple es tk tpos] [] pos) (eC (.bl b)) := by
  refine ⟨_, pe_callB (call_isPT hp hE c) hgI hmI (by decide +kernel) (pa_cons hn (pa_cons (pe_tup hx) pa_nil h2) h1) (by decide) (by decide) h1 h3, fun B r s t k H Q o hr hm hq => ?_⟩
  cases hm
  refine ⟨_, slot_sx hr, hl, fun tp ht => ⟨tp, cs, us, b, rfl, upd_same, hcv, hk, ?_⟩⟩
  exact hq _ _ ((hr.grow (same_upd ht)).push (.bl b))
end

/-! ### the def -/
section
variable {P : Program} {w : World} {K : PySem.W.Frag} {mg : Str → Option Value} {base : Heap} {cl : Str → Option Addr}
theorem tells_of {x qual n : Str} {st : Stmt} {f C : Addr} {fd : FuncData} {N : List Str} {k : Nat} {b : Bool} {body : S} {r' : Py.Env} (F : Fun K x qual st f fd) (Sc : FnScope N [n] (defScope st)) (gx : mg x = some (.ref f)) (hbd : Binds K fd [n] [])
    (hbody : ∀ (cdv : Value) (A : PySem.Around) (outer : List PySem.Env) (s : Shared) (H : Hp) (E : XK) (p : Addr × Obj), ExAt C p → L2H.RoomH k (A.deeper (envOfC qual (defScope st) s.heap.objs.size f cdv)) →
      PSsd (L2H.cxH CX0 P w K mg base N qual (defScope st) f cdv A outer s H E p) ⟨cl, some (0, .ref p.1)⟩ (fun i => i == 0) (fun _ _ _ _ => False) (defBody st) body)
    (hval : body (List.replicate N.length .no) = some (.rt (.sh (.bl b)) r')) : Tells P w K mg base (k + 1) x C b := by
  obtain ⟨oc, od, kV, doc, pm, an, cdv, ct, osl, rfl, lk, hcd⟩ := F.ex
  refine ⟨f, _, n, gx, F.kp, hbd, fun A outer s H args Q E p hr hh hpin hE e0 hb hq => ?_⟩
  have KX : K.In s.heap := e0.mod.kin.keeps fun b o e => (e0.bs b o e).1
  have lim0 : s.heap.NoLimit := e0.mod.nolimit.keeps fun b o e => (e0.bs b o e).1
  have hN : 0 < N.length := by
    have := congrArg List.length Sc.pre
    rw [List.length_take] at this
    simp at this
    omega
  refine codeAny_call_function hr.depth (KX _ _ lk) rfl Sc.co Sc.gen rfl (PySem.W.codeRec_of KX hcd) (hb _ _ _ _ ?_)
  refine wpAny_newFunctionEnv_cells Sc.kind (fun y hy => ?_) fun env he s1 xx => ?_
  · obtain ⟨y1, y2⟩ := y
    rcases Sc.par y1 (List.of_mem_zip hy).1 with z | z
    · exact .inl z
    · exact .inr ⟨z, PySem.W.cellsFrom_some _ _ _ (.inl z)⟩
  subst he
  refine ⟨lim0.keeps xx.toInCall.keep, codeAny_func ?_⟩
  obtain ⟨ts, ht, hd⟩ := hbody cdv A outer s H E p hE (hr.deeper _)
  have I := L2H.inv_startH (CX := CX0) (E := E) (us := [Value.ref p.1]) (vs := [V.ref p.1]) Sc hpin e0 rfl (.cons rfl .nil) xx
  let B : Bs := ⟨N.length, fun _ => False, fun _ => False, H, fun i => i == 0, L2.start N [V.ref p.1]⟩
  have hst : (L2.start N [V.ref p.1]).length = N.length := by
    unfold L2.start
    simp
    omega
  have ow : ∀ i q, ¬ own (List.replicate N.length Sl.no) (L2.start N [V.ref p.1]) i = some q := by
    intro i q z
    obtain ⟨y, o, z1, z2, z3⟩ := own_some z
    rw [List.getElem?_replicate] at z1
    split at z1
    · cases z1
      cases z3
    · cases z1
  have rp : Rep ⟨K, cl⟩ B (List.replicate N.length Sl.no) (L2.start N [V.ref p.1]) H := by
    refine ⟨by rw [hst]; simp, by rw [hst]; exact Nat.le_refl _, fun i y o z1 z2 => ?_, fun i j q z _ => absurd z (ow i q), fun i q z => absurd z (ow i q), fun q z => z.elim, fun a o z _ => z, fun q z => z.elim, fun i hi => ⟨?_, rfl⟩⟩
    · rw [List.getElem?_replicate] at z1
      split at z1
      · cases z1
        trivial
      · cases z1
    · have : i = 0 := eq_of_beq hi
      show i < N.length
      omega
  have rT : RepT ⟨⟨K, cl⟩, some (0, .ref p.1)⟩ B (List.replicate N.length Sl.no) (L2.start N [V.ref p.1]) [] [] H := by
    refine ⟨by show _ = N.length; simp, hst, rfl, by rw [List.append_nil, List.append_nil]; exact rp, fun i v z => ?_⟩
    cases z
    exact ⟨rfl, rfl⟩
  refine wpAny_mono (ht.run [] s1 (L2.start N [V.ref p.1]) H { nx := fun _ H' => Q .non H', rt := Q } I (hd B _ _ [] [] H _ _ rfl rT hval ?_)) (fun fl s' hs => ?_) fun e s' hs => hs
  · intro v s2 H2 h2
    obtain ⟨v', e1, e2⟩ := h2.top
    cases e1
    cases e2
    exact hq H2 fun a o z => h2.rep.keep a o z fun m => m
  · cases fl with
    | ret u =>
      obtain ⟨v, s2, H2, J, rv, q⟩ := hs
      exact ⟨v, H2, J.os, J.bare, J.base, J.hok, rv, q⟩
    | next =>
      obtain ⟨s2, H2, J, q⟩ := hs
      exact ⟨V.non, H2, J.os, J.bare, J.base, J.hok, rfl, q⟩
    | brk =>
      obtain ⟨_, _, _, q⟩ := hs
      exact q.elim
    | cont =>
      obtain ⟨_, _, _, q⟩ := hs
      exact q.elim
end

/-! ### the head's facts -/
abbrev FactK := PySem.W.Frag → Bool
def obsX (fs : List FactK) (fn : List He.DefD) (K : PySem.W.Frag) : He.AlD := ((fs.all fun f => f K) && fn.all fun d => d.ok K, fn.map fun d => He.fnW K d.at_)
def SaysX (fs : List FactK) (fn : List He.DefD) (K : PySem.W.Frag) : Prop := obsX fs fn K = He.valD fn
def obsXG (n : Nat) (fs : List FactK) (fn : List He.DefD) (g : Addr → Option Obj) : He.AlD := obsX fs fn (He.frG g (He.asD g n))
def hookX (n : Nat) (fs : List FactK) (fn : List He.DefD) : PySem.W.Hook where
  α := He.AlD
  obs := fun s => obsXG n fs fn s.heap.get?
  val := fun _ => He.valD fn
  says := fun _ h => ∃ K : PySem.W.Frag, K.In h ∧ SaysX fs fn K
  of := fun _ _ e => ⟨_, He.frG_in, e⟩
  keeps := fun _ _ _ ⟨K, hK, c⟩ k => ⟨K, PySem.W.Frag.In.keeps hK k, c⟩
theorem obsXG_eq {n : Nat} {fs : List FactK} {fn : List He.DefD} {g : Addr → Option Obj} {s : Shared} (h : ∀ a, g a = s.heap.get? a) : obsXG n fs fn g = (hookX n fs fn).obs s := by
  have e : g = s.heap.get? := funext h
  subst e
  rfl
theorem SaysX.fact {fs : List FactK} {fn : List He.DefD} {K : PySem.W.Frag} (c : SaysX fs fn K) (i : Nat) {f : FactK} (h : fs[i]? = some f := by rfl) : f K = true := by
  have c1 : ((fs.all fun f => f K) && fn.all fun d => d.ok K) = true := congrArg (fun z : He.AlD => z.1) c
  exact List.all_eq_true.mp (Bool.and_eq_true_iff.mp c1).1 f (List.mem_of_getElem? h)
theorem SaysX.def_ {fs : List FactK} {fn : List He.DefD} {K : PySem.W.Frag} (c : SaysX fs fn K) (i : Nat) {d : He.DefD} (h : fn[i]? = some d := by rfl) : ∃ fd, FunD K d.name d.qual d.params d.body d.scope (d.dvs K) (d.kws K) (He.fAd K d.at_) fd := by
  have c1 : ((fs.all fun f => f K) && fn.all fun d => d.ok K) = true := congrArg (fun z : He.AlD => z.1) c
  have e : fn.map (fun d => He.fnW K d.at_) = fn.map He.DefD.val := congrArg (fun z : He.AlD => z.2) c
  have e2 : (fn.map fun d => He.fnW K d.at_)[i]? = (fn.map He.DefD.val)[i]? := by rw [e]
  rw [List.getElem?_map, List.getElem?_map, h] at e2
  exact He.DefD.funD (Option.some.inj e2) (List.all_eq_true.mp (Bool.and_eq_true_iff.mp c1).2 d (List.mem_of_getElem? h))
/-- a def without defaults -/
theorem fun_of_D {K : PySem.W.Frag} {x qual : Str} {st : Stmt} {f : Addr} {fd : FuncData} (h : FunD K x qual (defArgs st) (defBody st) (defScope st) [] [] f fd) : Fun K x qual st f fd := by
  obtain ⟨oc, od, dV, kV, doc, pm, an, cdv, ct, osl, h1, h2, h3, h4, h5⟩ := h.ex
  rcases h4 with ⟨_, z⟩ | ⟨z, _⟩
  · subst z
    exact ⟨⟨oc, od, kV, doc, pm, an, cdv, ct, osl, h1, h2, h3⟩, h.kp⟩
  · exact absurd rfl z
end Py

/-! Ops: what operators and built-ins do to data. -/
namespace Py
open PySem

mutual
@[simp] def eqv : D → D → Bool
  | .non, .non => true
  | .bl a, .bl b => a == b
  | .bl a, .int j => (if a then 1 else 0) == j
  | .int i, .bl b => i == (if b then 1 else 0)
  | .int i, .int j => i == j
  | .str x, .str y => x == y
  | .tup xs, .tup ys => eqvs xs ys
  | .lst xs, .lst ys => eqvs xs ys
  | _, _ => false
@[simp] def eqvs : List D → List D → Bool
  | [], [] => true
  | x :: xs, y :: ys => eqv x y && eqvs xs ys
  | _, _ => false
end
mutual
/-- may be compared: no dict, no object in it -/
@[simp] def cmpOk : D → Bool
  | .non => true
  | .bl _ => true
  | .int _ => true
  | .str x => x.cps.all (· < 0x110000)
  | .tup xs => cmpOks xs
  | .lst xs => cmpOks xs
  | _ => false
@[simp] def cmpOks : List D → Bool
  | [] => true
  | x :: xs => cmpOk x && cmpOks xs
end
mutual
@[simp] def dep : D → Nat
  | .tup xs => deps xs + 1
  | .lst xs => deps xs + 1
  | _ => 0
@[simp] def deps : List D → Nat
  | [] => 0
  | x :: xs => max (dep x) (deps xs)
end
@[simp] def eqOk (d : D) : Bool := cmpOk d && decide (dep d ≤ 64)
abbrev rI (i : Int) : Option Sl := some (.sh (.int i))
abbrev rB (b : Bool) : Option Sl := some (.sh (.bl b))

@[simp] def oAdd : List D → Option Sl
  | [.int i, .int j] => rI (i + j)
  | [.str x, .str y] => if x.length + y.length ≤ lim then some (.sh (.str (x ++ y))) else none
  | [.lst xs, .lst ys] => if xs.length + ys.length ≤ lim then some (.ow (.lst (xs ++ ys))) else none
  | [.tup xs, .tup ys] => if xs.length + ys.length ≤ lim then some (.sh (.tup (xs ++ ys))) else none
  | _ => none
@[simp] def oSub : List D → Option Sl
  | [.int i, .int j] => rI (i - j)
  | _ => none
def mulOk (i j : Int) : Bool := decide (i.natAbs.log2 + j.natAbs.log2 < 1000000)
@[simp] def oMul : List D → Option Sl
  | [.int i, .int j] => if mulOk i j = true then rI (i * j) else none
  | _ => none
def divOk (j : Int) : Bool := decide (j ≠ 0 ∧ j.natAbs.log2 < 9000)
@[simp] def oFdiv : List D → Option Sl
  | [.int i, .int j] => if divOk j = true then rI (i.fdiv j) else none
  | _ => none
@[simp] def oMod : List D → Option Sl
  | [.int i, .int j] => if j ≠ 0 then rI (i.fmod j) else none
  | _ => none
@[simp] def oPow : List D → Option Sl
  | [.int i, .int j] => if 0 ≤ j ∧ j ≤ 1000000 ∧ i.natAbs < 2 ^ 64 then rI (i ^ j.toNat) else none
  | _ => none
@[simp] def oNeg : List D → Option Sl
  | [.int i] => rI (-i)
  | _ => none
@[simp] def oEq : List D → Option Sl
  | [x, y] => if eqOk x = true ∧ eqOk y = true then rB (eqv x y) else none
  | _ => none
@[simp] def oNe : List D → Option Sl
  | [x, y] => if eqOk x = true ∧ eqOk y = true then rB (!eqv x y) else none
  | _ => none
@[simp] def oLt : List D → Option Sl
  | [.int i, .int j] => rB (decide (i < j))
  | _ => none
@[simp] def oLe : List D → Option Sl
  | [.int i, .int j] => rB (decide (i ≤ j))
  | _ => none
@[simp] def oGt : List D → Option Sl
  | [.int i, .int j] => rB (decide (j < i))
  | _ => none
@[simp] def oGe : List D → Option Sl
  | [.int i, .int j] => rB (decide (j ≤ i))
  | _ => none
@[simp] def isNon : D → Bool
  | .non => true
  | _ => false
/-- is, is not: with None, or of two truths -/
@[simp] def oIs : List D → Option Sl
  | [x, .non] => rB (isNon x)
  | [.bl a, .bl b] => rB (decide (a = b))
  | _ => none
@[simp] def oIsNot : List D → Option Sl
  | [x, .non] => rB (!isNon x)
  | [.bl a, .bl b] => rB (!decide (a = b))
  | _ => none
@[simp] def oIx : List D → Option Sl
  | [.lst xs, .int i] => ((ixAt xs.length i).bind fun j => xs[j]?).map .sh
  | [.tup xs, .int i] => ((ixAt xs.length i).bind fun j => xs[j]?).map .sh
  | [.scr xs, .int i] => ((ixAt xs.length i).bind fun j => xs[j]?).map .sh
  | [.str x, .int i] => if x.length ≤ lim then ((ixAt x.cps.size i).bind fun j => x.cps[j]?).map fun c => .sh (.str ⟨#[c]⟩) else none
  | _ => none
@[simp] def oLen : List D → Option Sl
  | [.lst xs] => rI xs.length
  | [.tup xs] => rI xs.length
  | [.scr xs] => rI xs.length
  | [.str x] => if x.length ≤ lim then rI x.length else none
  | _ => none
@[simp] def oAbs : List D → Option Sl
  | [.int i] => rI (if i < 0 then -i else i)
  | _ => none
@[simp] def oMax2 : List D → Option Sl
  | [.int i, .int j] => rI (if j > i then j else i)
  | _ => none
@[simp] def oMin2 : List D → Option Sl
  | [.int i, .int j] => rI (if j < i then j else i)
  | _ => none
@[simp] def oDivmod : List D → Option Sl
  | [.int i, .int j] => if 0 < j ∧ j.natAbs.log2 < 9000 then some (.sh (.tup [.int (i / j), .int (i % j)])) else none
  | _ => none
@[simp] def oStr : List D → Option Sl
  | [.int i] => if i.natAbs.log2 < 1920 then some (.sh (.str (Str.ofString (toString i)))) else none
  | _ => none
/-- int of a number or a truth -/
@[simp] def oInt : List D → Option Sl
  | [.int i] => rI i
  | [.bl b] => rI (if b then 1 else 0)
  | _ => none
/-- isinstance with a built-in class -/
inductive Ty where
  | int | bool | str | tuple | list | dict
@[simp] def Ty.has : Ty → D → Option Bool
  | .int, .int _ => some true
  | .int, .bl _ => some true
  | .bool, .bl _ => some true
  | .str, .str _ => some true
  | .tuple, .tup _ => some true
  | .list, .lst _ => some true
  | .dict, .dic _ _ => some true
  | _, .obj _ _ _ => none
  | _, .exc _ _ _ => none
  | _, .scr _ => none
  | _, _ => some false
@[simp] def oIsi (t : Ty) : List D → Option Sl
  | [d] => (t.has d).map fun b => .sh (.bl b)
  | _ => none
/-! slices -/
def slIx (n d : Nat) : Option Int → Nat
  | none => d
  | some v => if v < 0 then (v + (n : Int)).toNat else min v.toNat n
def cutD (xs : List D) (lo hi : Option Int) : List D := (xs.drop (slIx xs.length 0 lo)).take (slIx xs.length xs.length hi - slIx xs.length 0 lo)
def cutT (z : Str) (lo hi : Option Int) : Str := ⟨((z.cps.toList.drop (slIx z.length 0 lo)).take (slIx z.length z.length hi - slIx z.length 0 lo)).toArray⟩
@[simp] def oSlice (lo hi : Option Int) : List D → Option Sl
  | [.lst xs] => some (.ow (.lst (cutD xs lo hi)))
  | [.scr xs] => some (.ow (.lst (cutD xs lo hi)))
  | [.tup xs] => some (.sh (.tup (cutD xs lo hi)))
  | [.str z] => if z.length ≤ lim then some (.sh (.str (cutT z lo hi))) else none
  | _ => none
/-- the bound of a slice -/
abbrev OA := M (Option Int)
@[simp] def oaN : OA := M.pure none
@[simp] def oaS (a : A) : OA := M.bind (asC a asN) fun xs => M.get fun r => match dats r xs with
  | some [.int i] => some (some i)
  | _ => none
@[simp] def eSl (a : A) (lo hi : OA) (f : Option Int → Option Int → List D → Option Sl) : E :=
  M.bind (asC a asN) fun xs => M.bind lo fun l => M.bind hi fun h => M.get fun r => (dats r xs).bind (f l h)
end Py

set_option Elab.async false
set_option linter.all false
set_option maxRecDepth 100000
/-! Sm: operators and built-ins mean what Ops says. -/
namespace Py
open PySem PySem.Spec PyProof.Rows L2

/-! ### readings joined -/
theorem opR_or {X : Cx} {f : Value → Value → Sem Value} {r r' : R2} (h : OpR X f r) (h' : OpR X f r') : OpR X f (fun x y H Q => r x y H Q ∨ r' x y H Q) := by
  intro pins s σ H x y v u Q I rx ry q
  rcases q with q | q
  · exact h pins s σ H x y v u Q I rx ry q
  · exact h' pins s σ H x y v u Q I rx ry q
theorem callR_or {X : Cx} {f : Value} {r r' : List V → Hp → VK → Prop} (h : CallR X f r) (h' : CallR X f r') : CallR X f (fun xs H Q => r xs H Q ∨ r' xs H Q) := by
  intro pins s σ H xs us Q I rx q
  rcases q with q | q
  · exact h pins s σ H xs us Q I rx q
  · exact h' pins s σ H xs us Q I rx q
theorem ixR_or {X : Cx} {r r' : R2} (h : IxR X r) (h' : IxR X r') : IxR X (fun x y H Q => r x y H Q ∨ r' x y H Q) := by
  intro value slice pins s σ H x y v u Q I rx ry q
  rcases q with q | q
  · exact h value slice pins s σ H x y v u Q I rx ry q
  · exact h' value slice pins s σ H x y v u Q I rx ry q

section
variable {g : Gm} {Hs H : Hp}
theorem RC.int {v : V} {i : Int} (h : RC g Hs H v (.int i)) : v = .int i := by
  cases h with
  | sh h => cases h; rfl
  | nd h => exact h.elim
theorem RC.bl {v : V} {i : Bool} (h : RC g Hs H v (.bl i)) : v = .bl i := by
  cases h with
  | sh h => cases h; rfl
  | nd h => exact h.elim
theorem RC.str {v : V} {i : Str} (h : RC g Hs H v (.str i)) : v = .str i := by
  cases h with
  | sh h => cases h; rfl
  | nd h => exact h.elim
theorem RC.non {v : V} (h : RC g Hs H v .non) : v = .non := by
  cases h with
  | sh h => cases h; rfl
  | nd h => exact h.elim
theorem rca1 {vs : List V} {d : D} (h : RCA g Hs H vs [d]) : ∃ v, vs = [v] ∧ RC g Hs H v d := by
  cases h with
  | cons h t => cases t; exact ⟨_, rfl, h⟩
theorem rca2 {vs : List V} {d e : D} (h : RCA g Hs H vs [d, e]) : ∃ v w, vs = [v, w] ∧ RC g Hs H v d ∧ RC g Hs H w e := by
  cases h with
  | cons h t =>
    obtain ⟨w, rfl, h2⟩ := rca1 t
    exact ⟨_, w, rfl, h, h2⟩
end

/-! ### arithmetic -/
section
variable {X : Cx} {cl : Cs}
theorem op_fdivX : OpR X (binaryOp .FloorDiv) (L2.rI (fun _ j => j ≠ 0 ∧ j.natAbs.log2 < 9000) fun i j => .int (i.fdiv j)) := opI fun i j _ _ _ _ _ hc q => floordiv_int hc.1 q (.inl (PyProof.noPylong_of_log2 hc.2))
abbrev rAddX (K : PySem.W.Frag) : R2 := fun x y H Q => ((rI0 (fun i j => V.int (i + j)) x y H Q ∨ (∃ i j, x = .str i ∧ y = .str j ∧ i.length + j.length ≤ sizeLine ∧ Q (.str (i ++ j)) H)) ∨ rCat x y H Q) ∨ rCatA K x y H Q
theorem op_addX : OpR X (binaryOp .Add) (rAddX X.K) := opR_or (opR_or (opR_or op_add op_add_str) op_cat) op_catA
theorem od_add : OpD (gm X cl) (r2L (rAddX X.K)) oAdd := by
  intro Hs H vs ds x Q e hv hf c
  unfold oAdd at hf
  split at hf
  · obtain ⟨v, w, rfl, h1, h2⟩ := rca2 hv
    cases h1.int
    cases h2.int
    cases hf
    exact .inl (.inl (.inl ⟨_, _, rfl, rfl, c.val _ _ rfl (.int _)⟩))
  · obtain ⟨v, w, rfl, h1, h2⟩ := rca2 hv
    cases h1.str
    cases h2.str
    split at hf
    · rename_i hl
      cases hf
      exact .inl (.inl (.inr ⟨_, _, rfl, rfl, hl, c.val _ _ rfl (.str _)⟩))
    · cases hf
  · obtain ⟨v, w, rfl, h1, h2⟩ := rca2 hv
    split at hf
    · rename_i hl
      cases hf
      obtain ⟨a, xs, rfl, a1, a2⟩ := h1.lst e
      obtain ⟨b, ys, rfl, b1, b2⟩ := h2.lst e
      exact .inl (.inr ⟨a, b, xs, ys, rfl, rfl, a1, b1, by rw [a2.length, b2.length]; exact hl, fun p hp => c.lst p _ _ rfl hp (a2.append b2)⟩)
    · cases hf
  · obtain ⟨v, w, rfl, h1, h2⟩ := rca2 hv
    split at hf
    · rename_i hl
      cases hf
      obtain ⟨a, xs, rfl, a1, a2⟩ := h1.tup e
      obtain ⟨b, ys, rfl, b1, b2⟩ := h2.tup e
      have rw1 : ∀ {v : V} {l : List D}, RC (gm X cl) Hs H v (.tup l) → R (gm X cl) Hs v (.tup l) := fun h => by
        cases h with
        | sh h => exact h
        | nd h => exact h.elim
      refine .inr ⟨a, b, xs, ys, rfl, rfl, a1, b1, by rw [a2.length, b2.length]; exact hl, fun z => ?_, fun _ z => ?_, fun _ _ p hp => c.tup p _ _ rfl hp (a2.append b2)⟩
      · subst z
        cases a2
        exact c.val _ _ rfl (rw1 h2)
      · subst z
        cases b2
        refine c.val _ _ rfl ?_
        rw [List.append_nil]
        exact rw1 h1
    · cases hf
  · cases hf
theorem od_sub : OpD (gm X cl) (r2L (rI0 fun i j => V.int (i - j))) oSub := by
  intro Hs H vs ds x Q e hv hf c
  unfold oSub at hf
  split at hf
  · obtain ⟨v, w, rfl, h1, h2⟩ := rca2 hv
    cases h1.int
    cases h2.int
    cases hf
    exact ⟨_, _, rfl, rfl, c.val _ _ rfl (.int _)⟩
  · cases hf
theorem od_mul : OpD (gm X cl) (r2L (L2.rI CMulW fun i j => V.int (i * j))) oMul := by
  intro Hs H vs ds x Q e hv hf c
  unfold oMul at hf
  split at hf
  · obtain ⟨v, w, rfl, h1, h2⟩ := rca2 hv
    cases h1.int
    cases h2.int
    split at hf
    · rename_i hl
      cases hf
      unfold mulOk at hl
      exact ⟨_, _, rfl, rfl, by have z := of_decide_eq_true hl; exact z, c.val _ _ rfl (.int _)⟩
    · cases hf
  · cases hf
theorem od_fdiv : OpD (gm X cl) (r2L (L2.rI (fun _ j => j ≠ 0 ∧ j.natAbs.log2 < 9000) fun i j => V.int (i.fdiv j))) oFdiv := by
  intro Hs H vs ds x Q e hv hf c
  unfold oFdiv at hf
  split at hf
  · obtain ⟨v, w, rfl, h1, h2⟩ := rca2 hv
    cases h1.int
    cases h2.int
    split at hf
    · rename_i hl
      cases hf
      exact ⟨_, _, rfl, rfl, of_decide_eq_true hl, c.val _ _ rfl (.int _)⟩
    · cases hf
  · cases hf
theorem od_mod : OpD (gm X cl) (r2L (L2.rI (fun _ j => j ≠ 0) fun i j => V.int (i.fmod j))) oMod := by
  intro Hs H vs ds x Q e hv hf c
  unfold oMod at hf
  split at hf
  · obtain ⟨v, w, rfl, h1, h2⟩ := rca2 hv
    cases h1.int
    cases h2.int
    split at hf
    · rename_i hl
      cases hf
      exact ⟨_, _, rfl, rfl, hl, c.val _ _ rfl (.int _)⟩
    · cases hf
  · cases hf
theorem od_pow : OpD (gm X cl) (r2L (L2.rI CPow fun i j => V.int (i ^ j.toNat))) oPow := by
  intro Hs H vs ds x Q e hv hf c
  unfold oPow at hf
  split at hf
  · obtain ⟨v, w, rfl, h1, h2⟩ := rca2 hv
    cases h1.int
    cases h2.int
    split at hf
    · rename_i hl
      cases hf
      exact ⟨_, _, rfl, rfl, hl, c.val _ _ rfl (.int _)⟩
    · cases hf
  · cases hf
theorem od_neg : OpD (gm X cl) (r1L (rU fun i => V.int (-i))) oNeg := by
  intro Hs H vs ds x Q e hv hf c
  unfold oNeg at hf
  split at hf
  · obtain ⟨v, rfl, h1⟩ := rca1 hv
    cases h1.int
    cases hf
    exact ⟨_, rfl, c.val _ _ rfl (.int _)⟩
  · cases hf
end

/-! ### comparing data -/
mutual
def toPy : D → PyData
  | .non => .none
  | .bl b => .bool b
  | .int i => .int i
  | .str x => .str x
  | .tup xs => .tuple (toPys xs)
  | .lst xs => .list (toPys xs)
  | _ => .none
def toPys : List D → List PyData
  | [] => []
  | x :: xs => toPy x :: toPys xs
end
mutual
theorem dp_of {g : Gm} {H : Hp} : ∀ {d : D} {v : V}, cmpOk d = true → R g H v d → Dp g.K H v (toPy d)
  | .non, _, _, .non => .non
  | .bl b, _, _, .bl _ => .bl b
  | .int i, _, _, .int _ => .int i
  | .str x, _, _, .str _ => .str x
  | .tup ds, _, h, .tup h1 h2 => by
    have h' : cmpOks ds = true := by simpa only [cmpOk] using h
    show Dp g.K H _ (.tuple (toPys ds))
    exact .tup h1 (dps_of h' h2)
  | .lst ds, _, h, .lst h1 h2 => by
    have h' : cmpOks ds = true := by simpa only [cmpOk] using h
    show Dp g.K H _ (.list (toPys ds))
    exact .lst (SqL.of h1) (dps_of h' h2)
  | .scr ds, _, h, _ => by simp [cmpOk] at h
  | .dic _ _, _, h, _ => by simp [cmpOk] at h
  | .obj _ _ _, _, h, _ => by simp [cmpOk] at h
  | .exc _ _ _, _, h, _ => by simp [cmpOk] at h
theorem dps_of {g : Gm} {H : Hp} : ∀ {ds : List D} {vs : List V}, cmpOks ds = true → RA g H vs ds → DpAll g.K H vs (toPys ds)
  | [], _, _, .nil => .nil
  | d :: ds, _, h, .cons h1 h2 => by
    have h' : cmpOk d = true ∧ cmpOks ds = true := by simpa only [cmpOks, Bool.and_eq_true] using h
    exact .cons (dp_of h'.1 h1) (dps_of h'.2 h2)
end
mutual
theorem canLay_toPy : ∀ {d : D}, cmpOk d = true → (toPy d).canLay0 = true
  | .non, _ => rfl
  | .bl b, _ => rfl
  | .int i, _ => rfl
  | .str x, h => by
    show PyData.canLay0 (.str x) = true
    unfold cmpOk at h
    unfold PyData.canLay0
    exact h
  | .tup ds, h => by
    have h' : cmpOks ds = true := by simpa only [cmpOk] using h
    show PyData.canLay0 (.tuple (toPys ds)) = true
    unfold PyData.canLay0
    exact canLays_toPy h'
  | .lst ds, h => by
    have h' : cmpOks ds = true := by simpa only [cmpOk] using h
    show PyData.canLay0 (.list (toPys ds)) = true
    unfold PyData.canLay0
    exact canLays_toPy h'
  | .scr ds, h => by simp [cmpOk] at h
  | .dic _ _, h => by simp [cmpOk] at h
  | .obj _ _ _, h => by simp [cmpOk] at h
  | .exc _ _ _, h => by simp [cmpOk] at h
theorem canLays_toPy : ∀ {ds : List D}, cmpOks ds = true → PyData.canLayAll0 (toPys ds) = true
  | [], _ => rfl
  | d :: ds, h => by
    have h' : cmpOk d = true ∧ cmpOks ds = true := by simpa only [cmpOks, Bool.and_eq_true] using h
    show PyData.canLayAll0 (toPy d :: toPys ds) = true
    unfold PyData.canLayAll0
    rw [canLay_toPy h'.1, canLays_toPy h'.2]
    rfl
end
mutual
theorem depth_toPy : ∀ {d : D}, cmpOk d = true → (toPy d).depth = dep d
  | .non, _ => by simp [toPy, PyData.depth, dep]
  | .bl b, _ => by simp [toPy, PyData.depth, dep]
  | .int i, _ => by simp [toPy, PyData.depth, dep]
  | .str x, h => by simp [toPy, PyData.depth, dep]
  | .tup ds, h => by
    have h' : cmpOks ds = true := by simpa only [cmpOk] using h
    simp only [toPy, PyData.depth, dep]
    rw [depths_toPy h']
  | .lst ds, h => by
    have h' : cmpOks ds = true := by simpa only [cmpOk] using h
    simp only [toPy, PyData.depth, dep]
    rw [depths_toPy h']
  | .scr ds, h => by simp [cmpOk] at h
  | .dic _ _, h => by simp [cmpOk] at h
  | .obj _ _ _, h => by simp [cmpOk] at h
  | .exc _ _ _, h => by simp [cmpOk] at h
theorem depths_toPy : ∀ {ds : List D}, cmpOks ds = true → PyData.depthAll (toPys ds) = deps ds
  | [], _ => by simp [toPys, PyData.depthAll, deps]
  | d :: ds, h => by
    have h' : cmpOk d = true ∧ cmpOks ds = true := by simpa only [cmpOks, Bool.and_eq_true] using h
    simp only [toPys, PyData.depthAll, deps]
    rw [depth_toPy h'.1, depths_toPy h'.2]
end
mutual
theorem eqv_toPy : ∀ {d e : D}, cmpOk d = true → cmpOk e = true → PyData.eqv (toPy d) (toPy e) = eqv d e := by
  intro d e hd he
  cases d <;> first | (simp [cmpOk] at hd; done) | skip
  all_goals cases e <;> first | (simp [cmpOk] at he; done) | skip
  all_goals first | (simp only [toPy, PyData.eqv, eqv]; done) | skip
  · simp only [toPy, PyData.eqv, eqv]
    exact eqvs_toPy (by simpa only [cmpOk] using hd) (by simpa only [cmpOk] using he)
  · simp only [toPy, PyData.eqv, eqv]
    exact eqvs_toPy (by simpa only [cmpOk] using hd) (by simpa only [cmpOk] using he)
theorem eqvs_toPy : ∀ {ds es : List D}, cmpOks ds = true → cmpOks es = true → PyData.eqvAll (toPys ds) (toPys es) = eqvs ds es := by
  intro ds es hd he
  cases ds with
  | nil =>
    cases es with
    | nil => simp only [toPys, PyData.eqvAll, eqvs]
    | cons e es => simp only [toPys, PyData.eqvAll, eqvs]
  | cons d ds =>
    cases es with
    | nil => simp only [toPys, PyData.eqvAll, eqvs]
    | cons e es =>
      have h1 : cmpOk d = true ∧ cmpOks ds = true := by simpa only [cmpOks, Bool.and_eq_true] using hd
      have h2 : cmpOk e = true ∧ cmpOks es = true := by simpa only [cmpOks, Bool.and_eq_true] using he
      simp only [toPys, PyData.eqvAll, eqvs]
      rw [eqv_toPy h1.1 h2.1, eqvs_toPy h1.2 h2.2]
end

section
variable {X : Cx} {cl : Cs}
theorem shaped_of {d : D} (h : eqOk d = true) : SeqAt.shaped (toPy d) = true ∧ cmpOk d = true := by
  unfold eqOk at h
  obtain ⟨h1, h2⟩ := Bool.and_eq_true_iff.mp h
  refine ⟨?_, h1⟩
  unfold SeqAt.shaped
  rw [canLay_toPy h1, depth_toPy h1]
  exact h2
theorem od_eq : OpD (gm X cl) (r2L (rEqD X.K)) oEq := by
  intro Hs H vs ds x Q e hv hf c
  unfold oEq at hf
  split at hf
  · rename_i d1 d2
    split at hf
    · rename_i hl
      cases hf
      obtain ⟨v, w, rfl, h1, h2⟩ := rca2 hv
      obtain ⟨s1, s2⟩ := shaped_of hl.1
      obtain ⟨s3, s4⟩ := shaped_of hl.2
      refine ⟨toPy d1, toPy d2, dp_of s2 (h1.toR e), dp_of s4 (h2.toR e), s1, s3, ?_⟩
      rw [eqv_toPy s2 s4]
      exact c.val _ _ rfl (.bl _)
    · cases hf
  · cases hf
theorem od_ne : OpD (gm X cl) (r2L (rNeD X.K)) oNe := by
  intro Hs H vs ds x Q e hv hf c
  unfold oNe at hf
  split at hf
  · rename_i d1 d2
    split at hf
    · rename_i hl
      cases hf
      obtain ⟨v, w, rfl, h1, h2⟩ := rca2 hv
      obtain ⟨s1, s2⟩ := shaped_of hl.1
      obtain ⟨s3, s4⟩ := shaped_of hl.2
      refine ⟨toPy d1, toPy d2, dp_of s2 (h1.toR e), dp_of s4 (h2.toR e), s1, s3, ?_⟩
      rw [eqv_toPy s2 s4]
      exact c.val _ _ rfl (.bl _)
    · cases hf
  · cases hf
theorem od_lt : OpD (gm X cl) (r2L (rI0 fun i j => V.bl (decide (i < j)))) oLt := by
  intro Hs H vs ds x Q e hv hf c
  unfold oLt at hf
  split at hf
  · obtain ⟨v, w, rfl, h1, h2⟩ := rca2 hv
    cases h1.int
    cases h2.int
    cases hf
    exact ⟨_, _, rfl, rfl, c.val _ _ rfl (.bl _)⟩
  · cases hf
theorem od_le : OpD (gm X cl) (r2L (rI0 fun i j => V.bl (decide (i ≤ j)))) oLe := by
  intro Hs H vs ds x Q e hv hf c
  unfold oLe at hf
  split at hf
  · obtain ⟨v, w, rfl, h1, h2⟩ := rca2 hv
    cases h1.int
    cases h2.int
    cases hf
    exact ⟨_, _, rfl, rfl, c.val _ _ rfl (.bl _)⟩
  · cases hf
theorem od_gt : OpD (gm X cl) (r2L (rI0 fun i j => V.bl (decide (j < i)))) oGt := by
  intro Hs H vs ds x Q e hv hf c
  unfold oGt at hf
  split at hf
  · obtain ⟨v, w, rfl, h1, h2⟩ := rca2 hv
    cases h1.int
    cases h2.int
    cases hf
    exact ⟨_, _, rfl, rfl, c.val _ _ rfl (.bl _)⟩
  · cases hf
theorem od_ge : OpD (gm X cl) (r2L (rI0 fun i j => V.bl (decide (j ≤ i)))) oGe := by
  intro Hs H vs ds x Q e hv hf c
  unfold oGe at hf
  split at hf
  · obtain ⟨v, w, rfl, h1, h2⟩ := rca2 hv
    cases h1.int
    cases h2.int
    cases hf
    exact ⟨_, _, rfl, rfl, c.val _ _ rfl (.bl _)⟩
  · cases hf
theorem isNon_iff {g : Gm} {Hs H : Hp} {v : V} {d : D} (h : RC g Hs H v d) : decide (v = .non) = isNon d := by
  cases h with
  | sh h => cases h <;> simp [isNon]
  | nd h =>
    cases d with
    | non => exact h.elim
    | _ => simp [isNon]
abbrev rIsX : R2 := fun x y H Q => (y = .non ∧ Q (.bl (decide (x = .non))) H) ∨ rIsB x y H Q
theorem op_isX : OpR X (compareOp .Is) rIsX := opR_or op_isN op_isBl
abbrev rIsNotX : R2 := fun x y H Q => (y = .non ∧ Q (.bl (!decide (x = .non))) H) ∨ rNotB x y H Q
theorem op_isNotX : OpR X (compareOp .IsNot) rIsNotX := opR_or op_notN op_notBl
theorem od_is : OpD (gm X cl) (r2L rIsX) oIs := by
  intro Hs H vs ds x Q e hv hf c
  unfold oIs at hf
  split at hf
  · obtain ⟨v, w, rfl, h1, h2⟩ := rca2 hv
    cases h2.non
    cases hf
    exact .inl ⟨rfl, by rw [isNon_iff h1]; exact c.val _ _ rfl (.bl _)⟩
  · obtain ⟨v, w, rfl, h1, h2⟩ := rca2 hv
    cases h1.bl
    cases h2.bl
    cases hf
    exact .inr ⟨_, _, rfl, rfl, c.val _ _ rfl (.bl _)⟩
  · cases hf
theorem od_isNot : OpD (gm X cl) (r2L rIsNotX) oIsNot := by
  intro Hs H vs ds x Q e hv hf c
  unfold oIsNot at hf
  split at hf
  · obtain ⟨v, w, rfl, h1, h2⟩ := rca2 hv
    cases h2.non
    cases hf
    exact .inl ⟨rfl, by rw [isNon_iff h1]; exact c.val _ _ rfl (.bl _)⟩
  · obtain ⟨v, w, rfl, h1, h2⟩ := rca2 hv
    cases h1.bl
    cases h2.bl
    cases hf
    exact .inr ⟨_, _, rfl, rfl, c.val _ _ rfl (.bl _)⟩
  · cases hf
/-! ### subscripts, lengths -/
abbrev rIxX (K : PySem.W.Frag) : R2 := fun x y H Q => (rIxL K x y H Q ∨ rIxT K x y H Q) ∨ rIxS x y H Q
theorem ix_X : IxR X (rIxX X.K) := ixR_or (ixR_or ix_list ix_tup) ix_str
theorem at_of_ds {g : Gm} {Hs : Hp} {xs : List V} {ds : List D} {i : Int} {d : D} (h : RA g Hs xs ds) (hd : ((ixAt ds.length i).bind fun j => ds[j]?) = some d) : ∃ v, atI xs i = some v ∧ R g Hs v d := by
  obtain ⟨j, h1, h2⟩ := Option.bind_eq_some_iff.mp hd
  obtain ⟨v, h3, h4⟩ := h.get h2
  refine ⟨v, ?_, h4⟩
  show (ixN xs.length i).bind (fun j => xs[j]?) = some v
  rw [h.length]
  exact Option.bind_eq_some_iff.mpr ⟨j, h1, h3⟩
theorem od_ix : OpD (gm X cl) (r2L (rIxX X.K)) oIx := by
  intro Hs H vs ds x Q e hv hf c
  unfold oIx at hf
  split at hf
  · obtain ⟨v, w, rfl, h1, h2⟩ := rca2 hv
    cases h2.int
    obtain ⟨d, hd, hx⟩ := Option.map_eq_some_iff.mp hf
    obtain ⟨a, xs, rfl, a1, a2⟩ := h1.lst e
    obtain ⟨v, b1, b2⟩ := at_of_ds a2 hd
    exact .inl (.inl ⟨a, xs, _, v, rfl, rfl, SqL.of a1, b1, c.val _ _ hx.symm b2⟩)
  · obtain ⟨v, w, rfl, h1, h2⟩ := rca2 hv
    cases h2.int
    obtain ⟨d, hd, hx⟩ := Option.map_eq_some_iff.mp hf
    obtain ⟨a, xs, rfl, a1, a2⟩ := h1.tup e
    obtain ⟨v, b1, b2⟩ := at_of_ds a2 hd
    exact .inl (.inr ⟨a, xs, _, v, rfl, rfl, a1, b1, c.val _ _ hx.symm b2⟩)
  · obtain ⟨v, w, rfl, h1, h2⟩ := rca2 hv
    cases h2.int
    obtain ⟨d, hd, hx⟩ := Option.map_eq_some_iff.mp hf
    obtain ⟨a, xs, rfl, a1, a2⟩ := h1.scr e
    obtain ⟨v, b1, b2⟩ := at_of_ds a2 hd
    exact .inl (.inl ⟨a, xs, _, v, rfl, rfl, a1, b1, c.val _ _ hx.symm b2⟩)
  · obtain ⟨v, w, rfl, h1, h2⟩ := rca2 hv
    cases h1.str
    cases h2.int
    split at hf
    · rename_i z i hl
      obtain ⟨ch, hd, hx⟩ := Option.map_eq_some_iff.mp hf
      refine .inr ⟨z, i, ch, rfl, rfl, hl, ?_, c.val _ _ hx.symm (.str _)⟩
      obtain ⟨j, h1, h2⟩ := Option.bind_eq_some_iff.mp hd
      show (ixN z.cps.toList.length i).bind (fun j => z.cps.toList[j]?) = some ch
      exact Option.bind_eq_some_iff.mpr ⟨j, by rw [Array.length_toList]; exact h1, by rw [Array.getElem?_toList]; exact h2⟩
    · cases hf
  · cases hf
theorem od_len : OpD (gm X cl) (fun xs H Q => ∃ x n, xs = [x] ∧ LenV X.K x H n ∧ Q (.int n) H) oLen := by
  intro Hs H vs ds x Q e hv hf c
  unfold oLen at hf
  split at hf
  · obtain ⟨v, rfl, h1⟩ := rca1 hv
    cases hf
    obtain ⟨a, xs, rfl, a1, a2⟩ := h1.lst e
    exact ⟨_, _, rfl, .inl ⟨xs, SqL.of a1, rfl⟩, by rw [a2.length]; exact c.val _ _ rfl (.int _)⟩
  · obtain ⟨v, rfl, h1⟩ := rca1 hv
    cases hf
    obtain ⟨a, xs, rfl, a1, a2⟩ := h1.tup e
    exact ⟨_, _, rfl, .inr ⟨xs, a1, rfl⟩, by rw [a2.length]; exact c.val _ _ rfl (.int _)⟩
  · obtain ⟨v, rfl, h1⟩ := rca1 hv
    cases hf
    obtain ⟨a, xs, rfl, a1, a2⟩ := h1.scr e
    exact ⟨_, _, rfl, .inl ⟨xs, a1, rfl⟩, by rw [a2.length]; exact c.val _ _ rfl (.int _)⟩
  · obtain ⟨v, rfl, h1⟩ := rca1 hv
    cases h1.str
    split at hf
    · rename_i hl
      cases hf
      exact ⟨_, _, rfl, ⟨hl, rfl⟩, c.val _ _ rfl (.int _)⟩
    · cases hf
  · cases hf
theorem od_abs : OpD (gm X cl) (fun xs H Q => ∃ i, xs = [V.int i] ∧ Q (.int (if i < 0 then -i else i)) H) oAbs := by
  intro Hs H vs ds x Q e hv hf c
  unfold oAbs at hf
  split at hf
  · obtain ⟨v, rfl, h1⟩ := rca1 hv
    cases h1.int
    cases hf
    exact ⟨_, rfl, c.val _ _ rfl (.int _)⟩
  · cases hf
theorem od_max2 : OpD (gm X cl) (fun xs H Q => ∃ i j, xs = [V.int i, V.int j] ∧ Q (.int (if j > i then j else i)) H) oMax2 := by
  intro Hs H vs ds x Q e hv hf c
  unfold oMax2 at hf
  split at hf
  · obtain ⟨v, w, rfl, h1, h2⟩ := rca2 hv
    cases h1.int
    cases h2.int
    cases hf
    exact ⟨_, _, rfl, c.val _ _ rfl (.int _)⟩
  · cases hf
theorem od_min2 : OpD (gm X cl) (fun xs H Q => ∃ i j, xs = [V.int i, V.int j] ∧ Q (.int (if j < i then j else i)) H) oMin2 := by
  intro Hs H vs ds x Q e hv hf c
  unfold oMin2 at hf
  split at hf
  · obtain ⟨v, w, rfl, h1, h2⟩ := rca2 hv
    cases h1.int
    cases h2.int
    cases hf
    exact ⟨_, _, rfl, c.val _ _ rfl (.int _)⟩
  · cases hf
theorem od_divmod : OpD (gm X cl) (fun xs H Q => ∃ i j, xs = [V.int i, V.int j] ∧ CDivP i j ∧ ∀ p, H p = none → Q (.ref p) (upd H p (.tup [.int (i / j), .int (i % j)]))) oDivmod := by
  intro Hs H vs ds x Q e hv hf c
  unfold oDivmod at hf
  split at hf
  · obtain ⟨v, w, rfl, h1, h2⟩ := rca2 hv
    cases h1.int
    cases h2.int
    split at hf
    · rename_i hl
      cases hf
      exact ⟨_, _, rfl, ⟨hl.1, PyProof.noPylong_of_log2 hl.2⟩, fun p hp => c.tup p _ _ rfl hp (.cons (.int _) (.cons (.int _) .nil))⟩
    · cases hf
  · cases hf
theorem od_str : OpD (gm X cl) (fun xs H Q => ∃ i : Int, xs = [V.int i] ∧ i.natAbs.log2 < 1920 ∧ Q (.str (toString i)) H) oStr := by
  intro Hs H vs ds x Q e hv hf c
  unfold oStr at hf
  split at hf
  · obtain ⟨v, rfl, h1⟩ := rca1 hv
    cases h1.int
    split at hf
    · rename_i hl
      cases hf
      exact ⟨_, rfl, hl, c.val _ _ rfl (.str _)⟩
    · cases hf
  · cases hf
/-! ### isinstance -/
def Ty.nm : Ty → String
  | .int => "int"
  | .bool => "bool"
  | .str => "str"
  | .tuple => "tuple"
  | .list => "list"
  | .dict => "dict"
/-- the name of data's own class -/
def tyNm : D → Option String
  | .non => some "NoneType"
  | .bl _ => some "bool"
  | .int _ => some "int"
  | .str _ => some "str"
  | .tup _ => some "tuple"
  | .lst _ => some "list"
  | .dic _ _ => some "dict"
  | _ => none
theorem tyX_of {K : PySem.W.Frag} {c : Str → Option Addr} {Hs H : Hp} {v : V} {d : D} {n : String} (e : Same Hs H) (h : RC ⟨K, c⟩ Hs H v d) (hn : tyNm d = some n) : TyX K H v (.type n) := by
  have r := h.toR e
  cases r with
  | non => cases hn; exact .base .non
  | bl b => cases hn; exact .base (.bl b)
  | int i => cases hn; exact .base (.int i)
  | str x => cases hn; exact .base (.str x)
  | tup h1 h2 =>
    cases hn
    rcases h1 with (h1 | ⟨o, h1⟩) | ⟨o, its, n, h1, h2, _⟩
    · exact .base (.tup h1)
    · exact .fTuple h1
    · exact .kTuple h1 h2
  | lst h1 h2 => cases hn; exact .base (.lst h1)
  | dic h1 _ _ => cases hn; exact .base (.dK h1)
  | _ => cases hn
theorem kit_has {t : Ty} {d : D} {b : Bool} (h : t.has d = some b) : ∃ n, tyNm d = some n ∧ kitB n t.nm = some b := by
  cases t <;> cases d <;> first | (cases h; done) | skip
  all_goals (cases h; exact ⟨_, rfl, by decide +kernel⟩)
theorem od_isi (t : Ty) : OpD (gm X cl) (fun xs H Q => rIsi X.K (xs ++ [V.ty t.nm]) H Q) (oIsi t) := by
  intro Hs H vs ds x Q e hv hf c
  unfold oIsi at hf
  split at hf
  · obtain ⟨v, rfl, h1⟩ := rca1 hv
    obtain ⟨b, hb, hx⟩ := Option.map_eq_some_iff.mp hf
    obtain ⟨n, n1, n2⟩ := kit_has hb
    exact ⟨v, .ty t.nm, .type n, .type t.nm, b, rfl, .ty _, tyX_of e h1 n1, kit_ty n2, c.val _ _ hx.symm (.bl _)⟩
  · cases hf
variable {W : WX} {a : Expr} {ma : A} {x : Str} {q p2 pos : Pos}
theorem pd_isi (t : Ty) (hgI : Gl X "isinstance") (hmI : X.mg "isinstance" = none) (ha : PO X cl W a ma) (hx : PE X (.Name x p2) (tC (.ty t.nm)))
    (h1 : starEach [a, .Name x p2] X.env = (false, eval a X.env) :: starEach [.Name x p2] X.env := by rfl) (h2 : starEach [.Name x p2] X.env = (false, eval (.Name x p2) X.env) :: starEach [] X.env := by rfl) (h3 : (backTo pos (starEach [.Name x p2] X.env)).any (·.1) = false := by rfl) :
    PD X cl W (.Call (.Name "isinstance" q) [a, .Name x p2] [] pos) (eOp (asC ma asN) (oIsi t)) := by
  obtain ⟨ta, h4, h5⟩ := ha
  exact ⟨_, pe_callB call_isi hgI hmI (by decide +kernel) (pa_cons h4 (pa_cons hx pa_nil h2) h1) (by decide) (by decide) h1 h3, op_den (ta := tCons ta tNil) (das_cons h5 das_nil) (od_isi t)⟩
end
end Py

set_option Elab.async false
set_option linter.all false
set_option maxRecDepth 100000
/-! Sn: slices. -/
namespace Py
open PySem PySem.Spec PyProof.Rows L2

def PostI (g : Gam) (B : Bs) (s : L2.St) (t : Py.Env) (k : L2.St) (W : WX) (Q : Option Int → Hp → Prop) : Out (Option Int) → Prop
  | .ok b r' => ∀ H', RepT g B r' s t k H' → Q b H'
  | .ex e r' => PostX g B t k W e r' s
/-- a slice's bound -/
def PId (X : Cx) (cl : Cs) (W : WX) (e : Option Expr) (m : OA) : Prop := ∃ tt, L2.PO X e tt ∧ ∀ B r s t k H Q o, RepT (gm X cl) B r s t k H → m r = some o → PostI (gm X cl) B s t k W Q o → tt s H Q
section
variable {X : Cx} {cl : Cs} {W : WX} {e : Expr} {lo hi : Option Expr} {p2 pos : Pos}
theorem pid_none : PId X cl W none oaN := ⟨_, po_none, fun B r s t k H Q o hr hm hp => by
  cases hm
  exact hp H hr⟩
theorem pid_some {m : A} (h : Py.PO X cl W e m) : PId X cl W (some e) (oaS m) := by
  obtain ⟨te, h1, h2⟩ := h
  refine ⟨_, po_some h1, fun B r s t k H Q o hr hm hp => ?_⟩
  have das := das_cons (W := W) (g := gm X cl) h2 das_nil
  rcases bind_cases hm with ⟨ys, r1, q1, q2⟩ | ⟨ee, r1, q1, q2⟩
  · refine das B r s t k H (fun vs H1 => match vs with | [x] => ∃ i, x = .int i ∧ Q (some i) H1 | _ => True) _ hr q1 fun vs kv H1 av hr1 => ?_
    unfold M.get at q2
    dsimp only at q2
    cases q3 : dats r1 ys with
    | none =>
      rw [q3] at q2
      cases q2
    | some ds =>
      have rca := av.rca hr1 hr.tk q3
      rw [q3] at q2
      split at q2
      · cases q2
      · rename_i a qa
        cases q2
        split at qa
        · rename_i i hh
          cases hh
          cases qa
          obtain ⟨v, rfl, h3⟩ := rca1 rca
          cases h3.int
          exact ⟨i, rfl, hp H1 (hr1.dropped hr.tk)⟩
        · cases qa
  · subst q2
    exact das B r s t k H (fun vs H1 => match vs with | [x] => ∃ i, x = .int i ∧ Q (some i) H1 | _ => True) _ hr q1 hp
/-- a slice of values reads as f of data -/
def SlD (g : Gm) (rr : V → Option Int → Option Int → Hp → VK → Prop) (f : Option Int → Option Int → List D → Option Sl) : Prop :=
  ∀ Hs H v d lo hi x Q, Same Hs H → RC g Hs H v d → f lo hi [d] = some x → Cont g Hs H Q x → rr v lo hi H Q
theorem pd_slice {ma : A} {ml mh : OA} {rr : V → Option Int → Option Int → Hp → VK → Prop} {f : Option Int → Option Int → List D → Option Sl} (hr : SlR X rr) (hf : SlD (gm X cl) rr f) (he : Py.PO X cl W e ma) (hl : PId X cl W lo ml) (hh : PId X cl W hi mh) :
    PD X cl W (.Subscript e (.Slice lo hi none p2) pos) (eSl ma ml mh f) := by
  obtain ⟨te, h1, h2⟩ := he
  obtain ⟨tl, h3, h4⟩ := hl
  obtain ⟨th, h5, h6⟩ := hh
  refine ⟨_, pe_slice hr h1 h3 h5, fun B r s t k H Q o hrp hm hp => ?_⟩
  have das := das_cons (W := W) (g := gm X cl) h2 das_nil
  rcases bind_cases hm with ⟨ys, r1, q1, q2⟩ | ⟨ee, r1, q1, q2⟩
  · refine das B r s t k H (fun vs H1 => match vs with | [x] => tl s H1 fun l H2 => th s H2 fun u H3 => rr x l u H3 Q | _ => True) _ hrp q1 fun vs kv H1 av hr1 => ?_
    obtain ⟨v, rfl⟩ : ∃ v, vs = [v] := by
      rcases bind_cases q1 with ⟨y, r2, z1, z2⟩ | ⟨_, _, _, z⟩
      · rcases bind_cases z2 with ⟨y2, r3, z3, z4⟩ | ⟨_, _, _, z⟩
        · cases z3
          cases z4
          cases av with
          | r _ av => cases av; exact ⟨_, rfl⟩
          | v av => cases av; exact ⟨_, rfl⟩
        · cases z
      · cases z
    show tl s H1 fun l H2 => th s H2 fun u H3 => rr v l u H3 Q
    rcases bind_cases q2 with ⟨l, r2, q3, q4⟩ | ⟨ee, r2, q3, q4⟩
    · refine h4 B r1 s _ _ H1 _ _ hr1 q3 fun H2 hr2 => ?_
      rcases bind_cases q4 with ⟨u, r3, q5, q6⟩ | ⟨ee, r3, q5, q6⟩
      · refine h6 B r2 s _ _ H2 _ _ hr2 q5 fun H3 hr3 => ?_
        unfold M.get at q6
        dsimp only at q6
        cases q7 : dats r3 ys with
        | none =>
          rw [q7] at q6
          cases q6
        | some ds =>
          rw [q7] at q6
          dsimp only [Option.bind_some] at q6
          cases q8 : f l u ds with
          | none =>
            rw [q8] at q6
            cases q6
          | some x =>
            rw [q8] at q6
            cases q6
            have rca := av.rca hr3 hrp.tk q7
            have hrd := hr3.dropped hrp.tk
            have sm := sh_mono_drop hr3 hrp.tk
            have hds : ∃ d, ds = [d] := by
              cases rca with
              | cons _ t => cases t; exact ⟨_, rfl⟩
            obtain ⟨d, rfl⟩ := hds
            obtain ⟨v', e1, e2⟩ := rca1 rca
            cases e1
            refine hf _ H3 v d l u x Q Hd_le e2 q8 ⟨fun v d e hv => ?_, fun p xs l e hn hv => ?_, fun p xs l e hn hv => ?_⟩
            · subst e
              exact hp v H3 (hrd.push (hv.mono sm))
            · subst e
              exact hp _ _ (hrd.pushTup hn (hv.mono sm))
            · subst e
              exact hp _ _ (hrd.pushLst hn (hv.mono sm))
      · subst q6
        exact h6 B r2 s _ _ H2 _ _ hr2 q5 (PostX.drop hrp.tk hp)
    · subst q4
      exact h4 B r1 s _ _ H1 _ _ hr1 q3 (PostX.drop hrp.tk hp)
  · subst q2
    exact das B r s t k H (fun vs H1 => match vs with | [x] => tl s H1 fun l H2 => th s H2 fun u H3 => rr x l u H3 Q | _ => True) _ hrp q1 hp
/-! ### of lists, texts, tuples -/
theorem RA.cut {g : Gm} {H : Hp} {xs : List V} {ds : List D} (h : RA g H xs ds) (lo hi : Option Int) : RA g H (cutV xs lo hi) (cutD ds lo hi) := by
  unfold cutV cutD
  rw [h.length]
  exact (h.drop _).take _
abbrev rSlX (K : PySem.W.Frag) : V → Option Int → Option Int → Hp → VK → Prop := fun x lo hi H Q => (rSlL K x lo hi H Q ∨ rSlA K x lo hi H Q) ∨ rSlS x lo hi H Q
theorem sl_X : SlR X (rSlX X.K) := SlR.or (SlR.or sl_list sl_tupA) sl_str
theorem sd_X : SlD (gm X cl) (rSlX X.K) oSlice := by
  intro Hs H v d lo hi x Q e h hf c
  unfold oSlice at hf
  split at hf
  · rename_i xs hh
    cases hh
    cases hf
    obtain ⟨a, ys, rfl, a1, a2⟩ := h.lst e
    exact .inl (.inl ⟨a, ys, rfl, SqL.of a1, fun p hp => c.lst p _ _ rfl hp (a2.cut lo hi)⟩)
  · rename_i xs hh
    cases hh
    cases hf
    obtain ⟨a, ys, rfl, a1, a2⟩ := h.scr e
    exact .inl (.inl ⟨a, ys, rfl, a1, fun p hp => c.lst p _ _ rfl hp (a2.cut lo hi)⟩)
  · rename_i xs hh
    cases hh
    cases hf
    obtain ⟨a, ys, ev, a1, a2⟩ := h.tup e
    have hw : R (gm X cl) Hs v (.tup xs) := by
      cases h with
      | sh h => exact h
      | nd h => exact h.elim
    subst ev
    refine .inl (.inr ⟨a, ys, rfl, a1, fun z => c.val _ _ rfl ?_, fun _ p hp => c.tup p _ _ rfl hp (a2.cut lo hi)⟩)
    have ec : cutD xs lo hi = xs := by
      rw [a2.length] at z
      obtain ⟨z1, z2⟩ := z
      have z1' : slIx xs.length 0 lo = 0 := z1
      have z2' : slIx xs.length xs.length hi = xs.length := z2
      unfold cutD
      rw [z1', z2', List.drop_zero, Nat.sub_zero, List.take_length]
    rw [ec]
    exact hw
  · rename_i z hh
    cases hh
    split at hf
    · rename_i hl
      cases hf
      cases h.str
      exact .inr ⟨z, rfl, hl, c.val _ _ rfl (.str _)⟩
    · cases hf
  · cases hf
end
end Py

set_option Elab.async false
set_option linter.all false
set_option maxRecDepth 100000
/-! So: the end of a law. -/
namespace Py
open PySem PySem.Spec PyProof.Rows L2

theorem fnok_calm {P : Program} {w : World} {K : PySem.W.Frag} {mg : Str → Option Value} {base : Heap} {k : Nat} {f : Addr} {fd : FuncData} {ps : List Str} {sp : Sp} (F : FnOk P w K mg base (L2.CX P w) k f fd ps sp) :
    FnOk P w K mg base CX0 k f fd ps (fun vs H Q _ => sp vs H Q (fun _ _ _ => False)) := by
  refine ⟨fun vs H Q E h => F.len vs H Q _ h, fun A outer s H args us vs Q E hr he hb hv hs => ?_⟩
  refine codeAny_mono (F.run A outer s H args us vs Q _ hr he hb hv hs) fun r s' hq => ?_
  cases r with
  | error e =>
    obtain ⟨a, B, H', cls, d, _, _, _, _, _, _, _, z⟩ := hq
    exact z.elim
  | ok fl =>
    cases fl with
    | ret u => exact hq
    | next => exact hq
    | brk => exact hq
    | cont => exact hq
theorem ra_ints {g : Gm} : ∀ (ns : List Int) (H : Hp), RA g H (ns.map V.int) (ns.map D.int)
  | [], _ => .nil
  | n :: ns, H => .cons (.int n) (ra_ints ns H)
/-- the law's def, given the script -/
theorem sp_law {g : Gm} {f : Fn} {ps : List Sl} {H : Hp} {a : Addr} {ns : List Int} (hf : f [.sh (.scr (ns.map .int))] = some (.ret (.sh (.bl true)) ps)) (hS : SqL g.K H a (ns.map V.int)) : spF g 1 f [.ref a] H (fun v _ => v = .bl true) (fun _ _ _ => False) := by
  have ra : ∀ H : Hp, RA g H (ns.map V.int) (ns.map D.int) := ra_ints ns
  have ow : ∀ i p, own [Sl.sh (.scr (ns.map .int))] [some (V.ref a)] i ≠ some p := fun i p z => by
    obtain ⟨x, o, h1, h2, h3⟩ := own_some z
    cases i with
    | zero =>
      cases h1
      cases h3
    | succ i => simp at h1
  refine ⟨rfl, fun _ => False, [.sh (.scr (ns.map .int))], _, ⟨rfl, Nat.zero_le _, fun i x o h1 h2 => ?_, fun i j p z _ => absurd z (ow i p), fun i p z => absurd z (ow i p), fun p z => z.elim, fun a o z _ => z, fun p z => ?_, fun i z => Bool.noConfusion z⟩, hf, fun v H' h => ?_⟩
  · cases i with
    | zero =>
      cases h1
      cases h2
      refine ⟨_, rfl, .scr ?_ (ra _)⟩
      rcases hS with (h | ⟨o, h⟩) | h
      · refine .inl (.inl ((Hd_ne ?_).trans h))
        rintro (z | ⟨i, z⟩)
        · exact z
        · exact ow i _ z
      · refine .inl (.inr ⟨o, (Hd_ne ?_).trans h⟩)
        rintro (z | ⟨i, z⟩)
        · exact z
        · exact ow i _ z
      · exact .inr h
    | succ i => simp at h1
  · obtain ⟨i, z⟩ := z
    exact absurd z (ow i p)
  · have hl := h.len
    have e1 : (ps ++ [Sl.sh (.bl true)])[ps.length]? = some (.sh (.bl true)) := by simp
    obtain ⟨o, h1, v', h2, h3⟩ := h.slot e1
    have hp : ps.length = 1 := by simpa using hl
    rw [hp] at h1
    have : o = some v := by simpa using h1.symm
    subst this
    cases h2
    cases h3
    rfl
theorem bind1 {K : PySem.W.Frag} {x qual p : Str} {st : Stmt} {f : Addr} {fd : FuncData} (F : Fun K x qual st f fd)
    (h : ∀ (kV doc pm : Value) (an : Option Addr) (cdv ct : Value) (us : List Value), us.length = 1 → bindArgs (PySem.W.fnOf x qual (defArgs st) (defBody st) (defScope st) .none kV doc pm an cdv ct) ⟨us, []⟩ = pure ([p].zip us)) (s : Shared) (v : Value) : BindsTo s fd ⟨[v], []⟩ [(p, v)] := by
  obtain ⟨oc, od, kV, doc, pm, an, cdv, ct, osl, rfl, lk, hcd⟩ := F.ex
  exact .of_eq (h kV doc pm an cdv ct [v] rfl)
end Py

/-! It: what loops walk; list comprehensions. -/
namespace Py
open PySem
/-- what a loop walks: the things; what is kept meanwhile -/
abbrev Wk := M (List D × List Sl)
def signsD (z : Str) : List D := z.cps.toList.map fun c => D.str ⟨#[c]⟩
@[simp] def seqD : D → Option (List D)
  | .lst ds => some ds
  | .tup ds => some ds
  | .scr ds => some ds
  | .str z => some (signsD z)
  | _ => none
@[simp] def wSeq (e : E) : Wk := M.bind e fun x => M.get fun _ => match x.get with
  | some d => (seqD d).map fun ds => (ds, [x])
  | _ => none
@[simp] def wR1 (a : A) : Wk := M.bind (asC a asN) fun xs => M.get fun r => match dats r xs with
  | some [.int j] => if small62 j = true then some (rangeD 0 j.toNat, []) else none
  | _ => none
@[simp] def wR2 (a c : A) : Wk := M.bind (asC a (asC c asN)) fun xs => M.get fun r => match dats r xs with
  | some [.int i, .int j] => if small62 i = true ∧ small62 j = true then some (rangeD i (j - i).toNat, []) else none
  | _ => none
def enumD : Nat → List D → List D
  | _, [] => []
  | i, d :: ds => .tup [.int i, d] :: enumD (i + 1) ds
theorem enumD_length : ∀ (i : Nat) (ds : List D), (enumD i ds).length = ds.length
  | _, [] => rfl
  | i, d :: ds => by simp [enumD, enumD_length (i + 1) ds]
theorem enumD_get : ∀ (i : Nat) (ds : List D) (j : Nat), (enumD i ds)[j]? = (ds[j]?).map fun d => .tup [.int ((i + j : Nat) : Int), d]
  | _, [], j => by simp [enumD]
  | i, d :: ds, 0 => by simp [enumD]
  | i, d :: ds, j + 1 => by
    simp only [enumD, List.getElem?_cons_succ]
    rw [enumD_get (i + 1) ds j]
    have : i + 1 + j = i + (j + 1) := by omega
    rw [this]
@[simp] def wEnum (a : A) : Wk := M.bind (asC a asN) fun xs => M.get fun r => match xs, dats r xs with
  | [.v x], some [.lst ds] => some (enumD 0 ds, [x])
  | _, _ => none
@[simp] def sForI (w : Wk) (g : G) (b : S) : S := sE w fun p => forL g b p.1
/-- the names of a comprehension forgotten -/
@[simp] def wipeE (r : Env) : List Nat → Env
  | [] => r
  | v :: vs => (wipeE r vs).set v .no
def lcL (n : G) (t : T) (m : E) (vs : List Nat) : List D → List D → Env → Option (List D × Env)
  | [], acc, r => some (acc, r)
  | d :: ds, acc, r => match n (.sh d) r with
    | some (.nx r1) => match t r1 with
      | some (.ok true r2) => match m r2 with
        | some (.ok x r3) => match x.val with
          | some y => if acc.length < lim then lcL n t m vs ds (acc ++ [y]) (wipeE r3 vs) else none
          | none => none
        | _ => none
      | some (.ok false r2) => lcL n t m vs ds acc (wipeE r2 vs)
      | _ => none
    | _ => none
@[simp] def eLc (w : Wk) (n : G) (t : T) (m : E) (vs : List Nat) : E := M.bind w fun p r => match lcL n t m vs p.1 [] (wipeE r vs) with
  | some (acc, r') => some (.ok (.ow (.lst acc)) r')
  | none => none
@[simp] def tYesE : T := M.pure true
/-- one turn that keeps its thing -/
theorem lcL_take {n : G} {t : T} {m : E} {vs : List Nat} {d : D} {ds acc : List D} {r r1 r2 r3 : Env} {x : Sl} {y : D} (h1 : n (.sh d) r = some (.nx r1)) (h2 : t r1 = some (.ok true r2)) (h3 : m r2 = some (.ok x r3)) (h4 : x.val = some y) (h5 : acc.length < lim) :
    lcL n t m vs (d :: ds) acc r = lcL n t m vs ds (acc ++ [y]) (wipeE r3 vs) := by
  rw [lcL, h1]
  simp only [h2, h3, h4, if_pos h5]
theorem lcL_skip {n : G} {t : T} {m : E} {vs : List Nat} {d : D} {ds acc : List D} {r r1 r2 : Env} (h1 : n (.sh d) r = some (.nx r1)) (h2 : t r1 = some (.ok false r2)) :
    lcL n t m vs (d :: ds) acc r = lcL n t m vs ds acc (wipeE r2 vs) := by
  rw [lcL, h1]
  simp only [h2]
/-- where each thing d that is kept becomes f d, and the slots come back as they were -/
theorem lcL_map {n : G} {t : T} {m : E} {vs : List Nat} {p : D → Bool} {f : D → D} {r : Env} : ∀ (ds acc : List D), (∀ d ∈ ds, (p d = true ∧ ∃ r1 r2 x r3, n (.sh d) r = some (.nx r1) ∧ t r1 = some (.ok true r2) ∧ m r2 = some (.ok x r3) ∧ x.val = some (f d) ∧ wipeE r3 vs = r) ∨ (p d = false ∧ ∃ r1 r2, n (.sh d) r = some (.nx r1) ∧ t r1 = some (.ok false r2) ∧ wipeE r2 vs = r)) →
    acc.length + ds.length ≤ lim → lcL n t m vs ds acc r = some (acc ++ (ds.filter p).map f, r)
  | [], acc, _, _ => by simp [lcL]
  | d :: ds, acc, h, hl => by
    rcases h d (.head _) with ⟨hp, r1, r2, x, r3, h1, h2, h3, h4, h5⟩ | ⟨hp, r1, r2, h1, h2, h3⟩
    · rw [lcL_take h1 h2 h3 h4 (by simp at hl; omega), h5, lcL_map ds _ (fun d' hd' => h d' (.tail _ hd')) (by simp at hl ⊢; omega)]
      simp [hp]
    · rw [lcL_skip h1 h2, h3, lcL_map ds _ (fun d' hd' => h d' (.tail _ hd')) (by simp at hl ⊢; omega)]
      simp [hp]
/-- a <= b <= c, of numbers -/
@[simp] def eChain (a b c : A) (f g : Int → Int → Bool) : E := M.bind (asC a (asC b asN)) fun xs => M.bind (M.get fun r => match dats r xs with
    | some [.int i, .int j] => some (i, j)
    | _ => none) fun p => if f p.1 p.2 = true then M.bind (asC c asN) fun ys => M.get fun r => match dats r ys with
    | some [.int k] => some (.sh (.bl (g p.2 k)))
    | _ => none
  else M.pure (.sh (.bl false))
end Py

set_option Elab.async false
set_option linter.all false
set_option maxRecDepth 100000
/-! Sp: what loops walk; comprehensions; chains. -/
namespace Py
open PySem L2

/-- the weakest demands -/
def teOf (g : Gam) (m : E) (W : WX) : TE := fun s H Q => ∃ B r t k o, RepT g B r s t k H ∧ m r = some o ∧ PostE g B s t k W Q o
def ttOf (g : Gam) (m : T) (W : WX) : TT := fun s H Q => ∃ B r t k o, RepT g B r s t k H ∧ m r = some o ∧ PostT g B s t k W Q o
/-- a target that changes nothing but the slots vs -/
def DGv (g : Gam) (vs : List Nat) (tg : TG) (m : G) : Prop := ∀ B r s t k H x v Q fl, (∀ i ∈ vs, B.fx i = false) → RepT g B r s (t ++ [x]) (k ++ [some v]) H → m x r = some fl → (∃ r', fl = .nx r' ∧ ∀ s' H', RepT g B r' s' t k H' → (∀ i : Nat, i ∉ vs → s'[i]? = s[i]?) → Q s' H') → tg v s H Q
def PGv (X : Cx) (cl : Cs) (vs : List Nat) (e : Expr) (m : G) : Prop := ∃ tg, PG X e tg ∧ DGv (gm X cl) vs tg m
def tgOf (g : Gam) (vs : List Nat) (m : G) : TG := fun v s H Q => ∃ B r t k x fl, (∀ i ∈ vs, B.fx i = false) ∧ RepT g B r s (t ++ [x]) (k ++ [some v]) H ∧ m x r = some fl ∧ (∃ r', fl = .nx r' ∧ ∀ s' H', RepT g B r' s' t k H' → (∀ i : Nat, i ∉ vs → s'[i]? = s[i]?) → Q s' H')
section
variable {X : Cx} {cl : Cs} {W : WX} {e : Expr}
theorem pe_of {m : E} (h : PD X cl W e m) : PE X e (teOf (gm X cl) m W) := by
  obtain ⟨te, h1, h2⟩ := h
  exact ⟨fun pins s σ H Q I ⟨B, r, t, k, o, a, b, c⟩ => h1.run pins s σ H Q I (h2 B r σ t k H Q o a b c)⟩
theorem pt_of {m : T} (h : PTd X cl W e m) : PT X e (ttOf (gm X cl) m W) := by
  obtain ⟨te, h1, h2⟩ := h
  exact ⟨fun pins s σ H Q I ⟨B, r, t, k, o, a, b, c⟩ => h1.run pins s σ H Q I (h2 B r σ t k H Q o a b c)⟩
theorem pg_of {m : G} {vs : List Nat} (h : PGv X cl vs e m) : PG X e (tgOf (gm X cl) vs m) := by
  obtain ⟨te, h1, h2⟩ := h
  exact ⟨fun pins s σ H x v Q I rx ⟨B, r, t, k, y, fl, f, a, b, c⟩ => h1.run pins s σ H x v Q I rx (h2 B r σ t k H y x Q fl f a b c)⟩
theorem pgv_name {pos : Pos} {i : Nat} {x : Str} {vs : List Nat} (hN : X.N.Nodup) (hi : X.N[i]? = some x) (hx : Loc X.env.scope x) (hv : i ∈ vs) (hf : X.fn x = true ∨ X.env.scope.names.lookup x = some .local) : PGv X cl vs (.Name x pos) (gN i) := by
  refine ⟨_, pg_name hN hi hx hf, fun B r s t k H y v Q fl hfx hr hm hp => ?_⟩
  obtain ⟨r', e, hq⟩ := hp
  subst e
  unfold gN at hm
  by_cases hlt : i < r.length
  · rw [if_pos hlt] at hm
    cases hm
    refine hq _ H ⟨by simp [hr.rn], by simp [hr.sn], by have := hr.tk; simpa using this, ?_, hr.sx⟩ fun j hj => ?_
    · have q := hr.rep
      rw [← List.append_assoc, ← List.append_assoc] at q
      exact q.store (hr.rn.trans hr.sn.symm) (by have := hr.tk; simpa using this) (by rw [hr.sn]; exact Nat.le_refl _) hlt (hfx i hv)
    · have : i ≠ j := fun z => hj (z ▸ hv)
      exact List.getElem?_set_ne this
  · rw [if_neg hlt] at hm
    cases hm
def DGsv (g : Gam) (ws : List Nat) (tg : TGs) (ms : List G) : Prop := ∀ B r s t k H ds vs Q fl, (∀ i ∈ ws, B.fx i = false) → RepT g B r s t k H → AllIn t k ds vs → ds.length = vs.length → gUn ms ds r = some fl → (∃ r', fl = .nx r' ∧ ∀ s' H', RepT g B r' s' t k H' → (∀ i : Nat, i ∉ ws → s'[i]? = s[i]?) → Q s' H') → tg vs s H Q
theorem pgsv_nil {ws : List Nat} : ∃ tg, PGs X [] tg ∧ DGsv (gm X cl) ws tg [] := ⟨_, pgs_nil, fun B r s t k H ds vs Q fl hfx hr hin hl hm hp => by
  cases ds with
  | cons d ds => cases hm
  | nil =>
    cases vs with
    | cons v vs => cases hl
    | nil =>
      cases hm
      obtain ⟨r', e, hq⟩ := hp
      cases e
      exact ⟨rfl, hq s H hr fun _ _ => rfl⟩⟩
theorem pgsv_cons {ws : List Nat} {es : List Expr} {m : G} {ms : List G} (h : PGv X cl ws e m) (hs : ∃ tg, PGs X es tg ∧ DGsv (gm X cl) ws tg ms)
    (hst : (assignEach (e :: es) X.env).map (·.2) = assign e X.env :: (assignEach es X.env).map (·.2) := by rfl) : ∃ tg, PGs X (e :: es) tg ∧ DGsv (gm X cl) ws tg (m :: ms) := by
  obtain ⟨tg, h1, h2⟩ := h
  obtain ⟨tgs, h3, h4⟩ := hs
  refine ⟨_, pgs_cons h1 h3 hst, fun B r s t k H ds vs Q fl hfx hr hin hl hm hp => ?_⟩
  cases ds with
  | nil => cases hm
  | cons d ds =>
    cases vs with
    | nil => cases hl
    | cons v vs =>
      refine ⟨v, vs, rfl, ?_⟩
      unfold gUn at hm
      split at hm
      · rename_i r1 q
        obtain ⟨i, e1, e2⟩ := hin 0 d v rfl rfl
        refine h2 B r s t k H (.sh d) v _ _ hfx (hr.push (hr.inTemp e1 e2)) q ⟨r1, rfl, fun s' H' hr' hk => ?_⟩
        obtain ⟨r', er, hq⟩ := hp
        exact h4 B r1 s' t k H' ds vs Q fl hfx hr' (fun j d' v' z1 z2 => hin (j + 1) d' v' (by simpa using z1) (by simpa using z2)) (by simpa using hl) hm ⟨r', er, fun s2 H2 hr2 hk2 => hq s2 H2 hr2 fun i hi => (hk2 i hi).trans (hk i hi)⟩
      · cases hm
theorem pgv_tup {pos : Pos} {ws : List Nat} {es : List Expr} {kk : Nat} {ms : List G} (hc : X.calm = true) (h : ∃ tg, PGs X es tg ∧ DGsv (gm X cl) ws tg ms)
    (hn : (assignEach es X.env).length = ms.length := by rfl) (hst : (assignEach es X.env).findIdx? (·.1) = none := by rfl) : PGv X cl ws (.Tuple es kk pos) (gTup ms) := by
  obtain ⟨tg, h1, h2⟩ := h
  refine ⟨_, pg_tup hc h1 hn hst, fun B r s t k H x v Q fl hfx hr hm hp => ?_⟩
  unfold gTup at hm
  split at hm
  · rename_i ds
    obtain ⟨v', e1, e2⟩ := RepT.top hr
    cases e1
    cases e2 with
    | tup hq ra =>
      rename_i a xs
      have sq : SqT X.K H a xs := sqT_mono Hd_le hq
      refine ⟨a, xs, rfl, sq, ?_, ?_⟩
      · rw [ra.length]
        exact gUn_len hm
      · have hr2 := hr.pushAll ra
        have hl : t.length = k.length := by have := hr.tk; simpa using this
        refine h2 B r s _ _ H ds xs Q fl hfx hr2 (fun j d v z1 z2 => ⟨(t ++ [Sl.sh (.tup ds)]).length + j, ?_, ?_⟩) ra.length.symm hm ?_
        · rw [List.getElem?_append_right (by omega), Nat.add_sub_cancel_left, List.getElem?_map, z1]
          rfl
        · rw [List.getElem?_append_right (by simp; omega), List.getElem?_map]
          have : (t ++ [Sl.sh (.tup ds)]).length + j - (k ++ [some (V.ref a)]).length = j := by simp; omega
          rw [this, z2]
          rfl
        · obtain ⟨r', e, hq⟩ := hp
          exact ⟨r', e, fun s' H' hr' hk => hq s' H' ((RepT.dropped hr' hr.tk).pop) hk⟩
  · cases hm
end

/-! ### what is walked -/
/-- J walks ds; the temps t' stay meanwhile -/
structure ItOk (g : Gam) (J : It) (ds : List D) (t' : Env) (k' : St) : Prop where
  go : ∀ B r s tA kA tB kB H (i : Nat) d, tA.length = kA.length → ds[i]? = some d → RepT g B r s (tA ++ (t' ++ tB)) (kA ++ (k' ++ kB)) H → J.go i H ∧ ∀ x H', J.yld i H x H' → RepT g B r s ((tA ++ (t' ++ tB)) ++ [.sh d]) ((kA ++ (k' ++ kB)) ++ [some x]) H'
  stop : ∀ B r s tA kA tB kB H, tA.length = kA.length → RepT g B r s (tA ++ (t' ++ tB)) (kA ++ (k' ++ kB)) H → J.stop ds.length H
def PostW (g : Gam) (B : Bs) (s : St) (t : Env) (k : St) (W : WX) (R : It → Hp → Prop) : Out (List D × Env) → Prop
  | .ok p r' => ∀ J k' H', ItOk g J p.1 p.2 k' → RepT g B r' s (t ++ p.2) (k ++ k') H' → R J H'
  | .ex e r' => PostX g B t k W e r' s
def DWk (g : Gam) (wi : TI) (m : Wk) (W : WX) : Prop := ∀ B r s t k H R o, RepT g B r s t k H → m r = some o → PostW g B s t k W R o → wi s H R
def PWk (X : Cx) (cl : Cs) (W : WX) (tg e : Expr) (m : Wk) : Prop := ∃ wi, PI X tg e wi ∧ DWk (gm X cl) wi m W
section
variable {X : Cx} {cl : Cs} {fx : Nat → Bool} {W : WX} {e tg : Expr} {body : List Stmt} {pos p2 : Pos} {x : Str}
theorem psd_forI {w : Wk} {n : G} {b : S} (hp : PassesOwn (model X.prog X.w) X.A X.env X.xe) (hc : X.calm = true) (he : PWk X cl W tg e w) (hg : PGd X cl fx W tg n) (hb : PSsd X cl fx W body b) (hnx : ∀ x r fl, n x r = some fl → ∃ r', fl = .nx r')
    (hs : ∀ v, foldedSetIterable e X.env v = pure v := by intro _; rfl) : PSd X cl fx W (.For tg e body [] pos) (sForI w n b) := by
  obtain ⟨wi, h1, h2⟩ := he
  obtain ⟨tgt, h3, h4⟩ := hg
  obtain ⟨tb, h5, h6⟩ := hb
  refine ⟨_, ps_for hp hc h1 h3 h5 hs, fun B r s t k H D fl hf hr hm hpst => ?_⟩
  rcases sE_cases hm with ⟨y, r1, q1, q2⟩ | ⟨ee, r1, q1, q2⟩
  · refine h2 B r s t k H _ _ hr q1 fun J k' H1 ok hr1 => ?_
    refine forL_den (t' := y.2) (k' := k') (ds := y.1) h4 h6 hf hnx hr.tk (fun i d r' s' H' hd hr' => ?_) (fun r' s' H' hr' => ?_) r1 s H1 hr1 q2 hpst
    · have := ok.go B r' s' t k [] [] H' i d hr.tk hd (by simpa using hr')
      simpa using this
    · exact ok.stop B r' s' t k [] [] H' hr.tk (by simpa using hr')
  · subst q2
    exact h2 B r s t k H _ _ hr q1 (hpst s)
/-- a list, a tuple, a text -/
def iAny (K : PySem.W.Frag) (te : TE) : TI := fun σ H R => te σ H fun x H1 => (∃ a, x = .ref a ∧ (∃ xs, SqL K H1 a xs) ∧ R (Itl K a) H1) ∨ (∃ a, x = .ref a ∧ (∃ xs, SqT K H1 a xs) ∧ R (Itt K a) H1) ∨ ∃ z, x = .str z ∧ R (Its z) H1
theorem pi_any {te : TE} (he : PE X e te) : PI X tg e (iAny X.K te) := by
  refine ⟨fun pins s σ H R I h => ?_⟩
  refine thn (he.run pins s σ H _ I h) fun v s1 ⟨y, H1, I1, r1, q1⟩ => ?_
  rcases q1 with ⟨a, ex, ⟨xs, hq⟩, q⟩ | ⟨a, ex, ⟨xs, hq⟩, q⟩ | ⟨z, ex, q⟩
  · subst ex
    cases r1
    obtain ⟨its, rv, p, hz⟩ := I1.list hq
    refine wpAny_pyIter_list p.isList ?_
    refine ⟨s1.heap.objs.size, [s1.heap.objs.size], _, _, H1, rfl, I1.kept (t' := s1.toks) fun b o e => Heap.get?_push_of_some _ e, turn_list a _, ⟨_, Heap.get?_push_size _ rfl, rfl, rfl⟩, fun b hb => ?_, q⟩
    have e : b = s1.heap.objs.size := by simpa using hb
    subst e
    exact I1.fpOk (Nat.le_refl _) (I1.hok.fresh (Nat.le_refl _))
  · subst ex
    cases r1
    obtain ⟨its, rv, p, hz⟩ := I1.tuple hq
    refine wpAny_pyIter_tuple (show s1.heap.IsTuple a its.toArray from p) ?_
    refine ⟨s1.heap.objs.size, [s1.heap.objs.size], _, _, H1, rfl, I1.kept (t' := s1.toks) fun b o e => Heap.get?_push_of_some _ e, turn_tuple a _, ⟨_, Heap.get?_push_size _ rfl, rfl, rfl⟩, fun b hb => ?_, q⟩
    have e : b = s1.heap.objs.size := by simpa using hb
    subst e
    exact I1.fpOk (Nat.le_refl _) (I1.hok.fresh (Nat.le_refl _))
  · subst ex
    obtain ⟨t, rfl⟩ := r1
    cases ha : z.cps.all (· < 128)
    · exact wpAny_pyIter_wide ha (pi_one (tk := s1.toks) I1 _ (turn_str _ z t "str_iterator" (.inr rfl)) ⟨_, Heap.get?_push_size _ rfl, rfl, rfl⟩ q)
    · exact wpAny_pyIter_ascii ha (pi_one (tk := s1.toks) I1 _ (turn_str _ z t "str_ascii_iterator" (.inl rfl)) ⟨_, Heap.get?_push_size _ rfl, rfl, rfl⟩ q)
theorem ItOk.list {g : Gam} {ds : List D} {y : Sl} {a : Addr} (hy : y.get = some (.lst ds)) : ItOk g (Itl g.m.K a) ds [y] [some (.ref a)] := by
  have rc : ∀ B r s tA kA tB kB H, tA.length = kA.length → RepT g B r s (tA ++ ([y] ++ tB)) (kA ++ ([some (V.ref a)] ++ kB)) H → ∃ xs, SqL g.m.K H a xs ∧ RA g (Sh B (r ++ (tA ++ ([y] ++ tB))) (s ++ (kA ++ ([some (V.ref a)] ++ kB))) H) xs ds := fun B r s tA kA tB kB H hl hr => by
    obtain ⟨v', e1, e2⟩ := (RepT.temp (t' := tB) (k' := kB) hr hl).toRC (d := .lst ds) hy
    cases e1
    obtain ⟨a, xs, z1, z2, z3⟩ := e2.lst Hd_le
    cases z1
    exact ⟨xs, SqL.of z2, z3⟩
  refine ⟨fun B r s tA kA tB kB H i d hl hd hr => ?_, fun B r s tA kA tB kB H hl hr => ?_⟩
  · obtain ⟨xs, z2, z3⟩ := rc B r s tA kA tB kB H hl hr
    obtain ⟨w, w1, w2⟩ := z3.get hd
    refine ⟨⟨xs, w, z2, w1⟩, fun x H2 hy => ?_⟩
    obtain ⟨y1, y2⟩ := hy
    subst y1
    have := y2 xs z2
    rw [w1] at this
    cases this
    exact hr.push w2
  · obtain ⟨xs, z2, z3⟩ := rc B r s tA kA tB kB H hl hr
    exact ⟨xs, z2, by rw [z3.length]; exact Nat.le_refl _⟩
theorem ItOk.scr {g : Gam} {ds : List D} {y : Sl} {a : Addr} (hy : y.get = some (.scr ds)) : ItOk g (Itl g.m.K a) ds [y] [some (.ref a)] := by
  have rc : ∀ B r s tA kA tB kB H, tA.length = kA.length → RepT g B r s (tA ++ ([y] ++ tB)) (kA ++ ([some (V.ref a)] ++ kB)) H → ∃ xs, SqL g.m.K H a xs ∧ RA g (Sh B (r ++ (tA ++ ([y] ++ tB))) (s ++ (kA ++ ([some (V.ref a)] ++ kB))) H) xs ds := fun B r s tA kA tB kB H hl hr => by
    obtain ⟨v', e1, e2⟩ := (RepT.temp (t' := tB) (k' := kB) hr hl).toRC (d := .scr ds) hy
    cases e1
    obtain ⟨a, xs, z1, z2, z3⟩ := e2.scr Hd_le
    cases z1
    exact ⟨xs, z2, z3⟩
  refine ⟨fun B r s tA kA tB kB H i d hl hd hr => ?_, fun B r s tA kA tB kB H hl hr => ?_⟩
  · obtain ⟨xs, z2, z3⟩ := rc B r s tA kA tB kB H hl hr
    obtain ⟨w, w1, w2⟩ := z3.get hd
    refine ⟨⟨xs, w, z2, w1⟩, fun x H2 hy => ?_⟩
    obtain ⟨y1, y2⟩ := hy
    subst y1
    have := y2 xs z2
    rw [w1] at this
    cases this
    exact hr.push w2
  · obtain ⟨xs, z2, z3⟩ := rc B r s tA kA tB kB H hl hr
    exact ⟨xs, z2, by rw [z3.length]; exact Nat.le_refl _⟩
theorem ItOk.tup {g : Gam} {ds : List D} {y : Sl} {a : Addr} (hy : y.get = some (.tup ds)) : ItOk g (Itt g.m.K a) ds [y] [some (.ref a)] := by
  have rc : ∀ B r s tA kA tB kB H, tA.length = kA.length → RepT g B r s (tA ++ ([y] ++ tB)) (kA ++ ([some (V.ref a)] ++ kB)) H → ∃ xs, SqT g.m.K H a xs ∧ RA g (Sh B (r ++ (tA ++ ([y] ++ tB))) (s ++ (kA ++ ([some (V.ref a)] ++ kB))) H) xs ds := fun B r s tA kA tB kB H hl hr => by
    obtain ⟨v', e1, e2⟩ := (RepT.temp (t' := tB) (k' := kB) hr hl).toRC (d := .tup ds) hy
    cases e1
    obtain ⟨a, xs, z1, z2, z3⟩ := e2.tup Hd_le
    cases z1
    exact ⟨xs, z2, z3⟩
  refine ⟨fun B r s tA kA tB kB H i d hl hd hr => ?_, fun B r s tA kA tB kB H hl hr => ?_⟩
  · obtain ⟨xs, z2, z3⟩ := rc B r s tA kA tB kB H hl hr
    obtain ⟨w, w1, w2⟩ := z3.get hd
    refine ⟨⟨xs, w, z2, w1⟩, fun x H2 hy => ?_⟩
    obtain ⟨y1, y2⟩ := hy
    subst y1
    have := y2 xs z2
    rw [w1] at this
    cases this
    exact hr.push w2
  · obtain ⟨xs, z2, z3⟩ := rc B r s tA kA tB kB H hl hr
    exact ⟨xs, z2, by rw [z3.length]; exact Nat.le_refl _⟩
theorem ItOk.str {g : Gam} {z : Str} {y : Sl} {v : V} : ItOk g (Its z) (signsD z) [y] [some v] := by
  refine ⟨fun B r s tA kA tB kB H i d hl hd hr => ?_, fun B r s tA kA tB kB H hl hr => ?_⟩
  · unfold signsD at hd
    obtain ⟨c, n1, n2⟩ := map_get hd
    have hc : z.cps[i]? = some c := by
      rw [← Array.getElem?_toList]
      exact n1
    have hi : i < z.cps.size := (Array.getElem?_eq_some_iff.mp hc).1
    refine ⟨hi, fun x H2 hy => ?_⟩
    obtain ⟨y1, c', y2, y3⟩ := hy
    rw [hc] at y2
    cases y2
    subst y1
    subst y3
    subst n2
    exact hr.push (.str _)
  · show z.cps.size ≤ _
    simp [signsD]
theorem ItOk.rng {g : Gam} {lo : Int} {n : Nat} : ItOk g (Itr lo n) (rangeD lo n) [] [] := by
  refine ⟨fun B r s tA kA tB kB H i d hl hd hr => ?_, fun B r s tA kA tB kB H hl hr => ?_⟩
  · unfold rangeD at hd
    obtain ⟨m, n1, n2⟩ := map_get hd
    have hi : i < n := by
      have := (List.getElem?_eq_some_iff.mp n1).1
      simpa using this
    rw [List.getElem?_range hi] at n1
    cases n1
    refine ⟨hi, fun x H2 hy => ?_⟩
    obtain ⟨y1, y2⟩ := hy
    subst y1
    subst y2
    subst n2
    exact hr.push (.int _)
  · show n ≤ _
    simp [rangeD]
end
end Py

set_option Elab.async false
set_option linter.all false
set_option maxRecDepth 100000
/-! Sq: sources of loops, comprehensions, chains. -/
namespace Py
open PySem L2
section
variable {X : Cx} {cl : Cs} {fx : Nat → Bool} {W : WX} {e tg a b c : Expr} {body : List Stmt} {pos p2 : Pos} {x : Str}
theorem pwk_seq {m : E} (he : PD X cl W e m) : PWk X cl W tg e (wSeq m) := by
  obtain ⟨te, h1, h2⟩ := he
  refine ⟨_, pi_any h1, fun B r s t k H R o hr hm hp => ?_⟩
  rcases bind_cases hm with ⟨y, r1, q1, q2⟩ | ⟨ee, r1, q1, q2⟩
  · refine h2 B r s t k H _ _ hr q1 fun v H1 hr1 => ?_
    unfold M.get at q2
    cases q3 : y.get with
    | none =>
      rw [q3] at q2
      cases q2
    | some d =>
      rw [q3] at q2
      obtain ⟨v', e1, e2⟩ := (RepT.top hr1).toRC (d := d) q3
      cases e1
      cases d with
      | lst ds =>
        cases q2
        obtain ⟨a, xs, z1, z2, z3⟩ := e2.lst Hd_le
        cases z1
        exact .inl ⟨a, rfl, ⟨xs, SqL.of z2⟩, hp _ _ _ (ItOk.list q3) hr1⟩
      | scr ds =>
        cases q2
        obtain ⟨a, xs, z1, z2, z3⟩ := e2.scr Hd_le
        cases z1
        exact .inl ⟨a, rfl, ⟨xs, z2⟩, hp _ _ _ (ItOk.scr q3) hr1⟩
      | tup ds =>
        cases q2
        obtain ⟨a, xs, z1, z2, z3⟩ := e2.tup Hd_le
        cases z1
        exact .inr (.inl ⟨a, rfl, ⟨xs, z2⟩, hp _ _ _ (ItOk.tup q3) hr1⟩)
      | str z =>
        cases q2
        have := e2.toR Hd_le
        cases this
        exact .inr (.inr ⟨z, rfl, hp _ _ _ ItOk.str hr1⟩)
      | _ => cases q2
  · subst q2
    exact h2 B r s t k H _ _ hr q1 hp
theorem pwk_r1 {q : Pos} {ma : A} (hgl : Gl X "range") (hmr : X.mg "range" = none) (ha : PO X cl W a ma) (hs : starEach [a] X.env = [(false, eval a X.env)] := by rfl) : PWk X cl W tg (.Call (.Name "range" q) [a] [] pos) (wR1 ma) := by
  obtain ⟨ta, h1, h2⟩ := ha
  refine ⟨_, pi_range1 hgl hmr (pa_cons h1 pa_nil hs) hs, fun B r s t k H R o hr hm hp => ?_⟩
  have das := das_cons (W := W) (g := gm X cl) h2 das_nil
  unfold iRng1
  rcases bind_cases hm with ⟨ys, r1, q1, q2⟩ | ⟨ee, r1, q1, q2⟩
  · refine das B r s t k H _ _ hr q1 fun vs kv H1 av hr1 => ?_
    unfold M.get at q2
    dsimp only at q2
    split at q2
    · cases q2
    · rename_i p q3
      split at q3
      · rename_i j q4
        split at q3
        · rename_i hj
          cases q3
          cases q2
          have rca := (av.rca hr1 hr.tk q4).toRA Hd_le
          cases rca with
          | cons r1' r2' =>
            cases r2'
            cases r1'
            obtain ⟨j1, j2⟩ := of_decide_eq_true hj
            refine ⟨j, rfl, j1, j2, hp _ [] _ ItOk.rng ?_⟩
            rw [List.append_nil, List.append_nil]
            exact hr1.dropped hr.tk
        · cases q3
      · cases q3
  · subst q2
    exact das B r s t k H _ _ hr q1 hp
theorem pwk_r2 {q : Pos} {ma mb : A} (hgl : Gl X "range") (hmr : X.mg "range" = none) (ha : PO X cl W a ma) (hb : PO X cl W b mb) (hs : starEach [a, b] X.env = [(false, eval a X.env), (false, eval b X.env)] := by rfl) (hs2 : starEach [b] X.env = [(false, eval b X.env)] := by rfl) : PWk X cl W tg (.Call (.Name "range" q) [a, b] [] pos) (wR2 ma mb) := by
  obtain ⟨ta, h1, h2⟩ := ha
  obtain ⟨tb, h3, h4⟩ := hb
  refine ⟨_, pi_range2 hgl hmr (pa_cons h1 (pa_cons h3 pa_nil hs2) (by rw [hs, hs2])) hs hs2, fun B r s t k H R o hr hm hp => ?_⟩
  have das := das_cons (W := W) (g := gm X cl) h2 (das_cons h4 das_nil)
  unfold iRng2
  rcases bind_cases hm with ⟨ys, r1, q1, q2⟩ | ⟨ee, r1, q1, q2⟩
  · refine das B r s t k H _ _ hr q1 fun vs kv H1 av hr1 => ?_
    unfold M.get at q2
    dsimp only at q2
    split at q2
    · cases q2
    · rename_i p q3
      split at q3
      · rename_i i j q4
        split at q3
        · rename_i hj
          cases q3
          cases q2
          have rca := (av.rca hr1 hr.tk q4).toRA Hd_le
          cases rca with
          | cons r1' r2' =>
            cases r2' with
            | cons r2' r3' =>
              cases r3'
              cases r1'
              cases r2'
              obtain ⟨j1, j2⟩ := of_decide_eq_true hj.1
              obtain ⟨j3, j4⟩ := of_decide_eq_true hj.2
              refine ⟨i, j, rfl, ⟨j1, j2, j3, j4⟩, hp _ [] _ ItOk.rng ?_⟩
              rw [List.append_nil, List.append_nil]
              exact hr1.dropped hr.tk
        · cases q3
      · cases q3
  · subst q2
    exact das B r s t k H _ _ hr q1 hp
theorem ItOk.enum {g : Gam} {ds : List D} {y : Sl} {a : Addr} (hy : y.get = some (.lst ds)) : ItOk g (Ite g.m.K a) (enumD 0 ds) [y] [some (.ref a)] := by
  have rc : ∀ B r s tA kA tB kB H, tA.length = kA.length → RepT g B r s (tA ++ ([y] ++ tB)) (kA ++ ([some (V.ref a)] ++ kB)) H → ∃ xs, SqL g.m.K H a xs ∧ RA g (Sh B (r ++ (tA ++ ([y] ++ tB))) (s ++ (kA ++ ([some (V.ref a)] ++ kB))) H) xs ds := fun B r s tA kA tB kB H hl hr => by
    obtain ⟨v', e1, e2⟩ := (RepT.temp (t' := tB) (k' := kB) hr hl).toRC (d := .lst ds) hy
    cases e1
    obtain ⟨a, xs, z1, z2, z3⟩ := e2.lst Hd_le
    cases z1
    exact ⟨xs, SqL.of z2, z3⟩
  refine ⟨fun B r s tA kA tB kB H i d hl hd hr => ?_, fun B r s tA kA tB kB H hl hr => ?_⟩
  · obtain ⟨xs, z2, z3⟩ := rc B r s tA kA tB kB H hl hr
    rw [enumD_get] at hd
    obtain ⟨d0, hd0, hd1⟩ := Option.map_eq_some_iff.mp hd
    subst hd1
    obtain ⟨w, w1, w2⟩ := z3.get hd0
    refine ⟨⟨xs, w, z2, w1⟩, fun x H2 hy => ?_⟩
    obtain ⟨T, x0, y1, y2, y3, y4⟩ := hy
    have := y4 xs z2
    rw [w1] at this
    cases this
    subst y1
    subst y3
    rw [Nat.zero_add]
    exact hr.pushTup y2 (.cons (.int _) (.cons w2 .nil))
  · obtain ⟨xs, z2, z3⟩ := rc B r s tA kA tB kB H hl hr
    exact ⟨xs, z2, by rw [enumD_length, z3.length]; exact Nat.le_refl _⟩
theorem pwk_enum {q tpos : Pos} {elts : List Expr} {kk : Nat} {m : E} (hgl : Gl X "enumerate") (hmr : X.mg "enumerate" = none) (ha : PD X cl W a m) (hs : starEach [a] X.env = [(false, eval a X.env)] := by rfl) : PWk X cl W (.Tuple elts kk tpos) (.Call (.Name "enumerate" q) [a] [] pos) (wEnum (aV m)) := by
  obtain ⟨ta, h1, h2⟩ := po_v ha
  refine ⟨_, pi_enum hgl hmr (pa_cons h1 pa_nil hs) hs, fun B r s t k H R o hr hm hp => ?_⟩
  have das := das_cons (W := W) (g := gm X cl) h2 das_nil
  unfold iEnum
  rcases bind_cases hm with ⟨ys, r1, q1, q2⟩ | ⟨ee, r1, q1, q2⟩
  · refine das B r s t k H _ _ hr q1 fun vs kv H1 av hr1 => ?_
    unfold M.get at q2
    dsimp only at q2
    split at q2
    · cases q2
    · rename_i p q3
      split at q3
      · rename_i y ds q4
        cases q3
        cases q2
        have rca := av.rca hr1 hr.tk q4
        match vs, kv, av with
        | _, _, @AV.v _ _ v1 _ _ _ .nil =>
          have hy : y.get = some (.lst ds) := by
            unfold dats at q4
            cases q5 : (Arg.v y).dat r1 with
            | none =>
              rw [q5] at q4
              cases q4
            | some d =>
              rw [q5] at q4
              unfold dats at q4
              cases q4
              exact q5
          have hr2 : RepT (gm X cl) B r1 s (t ++ [y]) (k ++ [some v1]) H1 := hr1
          obtain ⟨v', e1, e2⟩ := (RepT.top hr2).toRC (d := .lst ds) hy
          cases e1
          obtain ⟨a, xs, z1, z2, z3⟩ := e2.lst Hd_le
          cases z1
          exact ⟨a, xs, rfl, SqL.of z2, hp _ _ _ (ItOk.enum hy) hr2⟩
      · cases q3
  · subst q2
    exact das B r s t k H _ _ hr q1 hp
def chQ2 (g : Int → Int → Bool) (y : V) (Q : VK) : List V → Hp → Prop
  | [w], H => rI0 (fun i j => V.bl (g i j)) y w H Q
  | _, _ => True
def chQ (f g : Int → Int → Bool) (tc : TE) (s : St) (Q : VK) : List V → Hp → Prop
  | [x, y], H => rI0 (fun i j => V.bl (f i j)) x y H fun z H3 => ∃ k, z = .bl k ∧ (if k = true then tc s H3 fun w H4 => rI0 (fun i j => V.bl (g i j)) y w H4 Q else Q (.bl false) H3)
  | _, _ => True
theorem chain_den {f g : Int → Int → Bool} {ma mb mc : A} {ta tb tc : TE} (h2 : DO (gm X cl) ta ma W) (h4 : DO (gm X cl) tb mb W) (h6 : DO (gm X cl) tc mc W) : DE (gm X cl) (tChain (rI0 fun i j => V.bl (f i j)) (rI0 fun i j => V.bl (g i j)) ta tb tc) (eChain ma mb mc f g) W := by
  have das := das_cons (W := W) (g := gm X cl) h2 (das_cons h4 das_nil)
  have das2 := das_cons (W := W) (g := gm X cl) h6 das_nil
  intro B r s t k H Q o hr hmm hp
  rcases bind_cases hmm with ⟨ys, r1, q1, q2⟩ | ⟨ee, r1, q1, q2⟩
  · refine das B r s t k H (chQ f g tc s Q) _ hr q1 fun vs kv H1 av hr1 => ?_
    rcases bind_cases q2 with ⟨p, r2, q3, q4⟩ | ⟨ee, r2, q3, q4⟩
    · unfold M.get at q3
      dsimp only at q3
      split at q3
      · cases q3
      · rename_i p' q5
        cases q3
        split at q5
        · rename_i i j q6
          cases q5
          have rca := (av.rca hr1 hr.tk q6).toRA Hd_le
          cases rca with
          | cons r1' r2' =>
            cases r2' with
            | cons r2' r3' =>
              cases r1'
              cases r2'
              cases r3'
              have hr2 := hr1.dropped hr.tk
              refine ⟨i, j, rfl, rfl, f i j, rfl, ?_⟩
              dsimp only at q4
              by_cases hf : f i j = true
              · rw [if_pos hf] at q4
                rw [if_pos hf]
                rcases bind_cases q4 with ⟨zs, r3, q7, q8⟩ | ⟨ee, r3, q7, q8⟩
                · refine das2 B r1 s t k H1 (chQ2 g (.int j) Q) _ hr2 q7 fun vs kv H4 av hr4 => ?_
                  unfold M.get at q8
                  dsimp only at q8
                  split at q8
                  · cases q8
                  · rename_i p2 q9
                    cases q8
                    split at q9
                    · rename_i kk q10
                      cases q9
                      have rca := (av.rca hr4 hr2.tk q10).toRA Hd_le
                      cases rca with
                      | cons r1' r2' =>
                        cases r1'
                        cases r2'
                        exact ⟨j, kk, rfl, rfl, hp _ _ ((hr4.dropped hr2.tk).push (.bl _))⟩
                    · cases q9
                · subst q8
                  exact das2 B r1 s t k H1 (chQ2 g (.int j) Q) _ hr2 q7 hp
              · rw [if_neg hf] at q4
                rw [if_neg hf]
                cases q4
                exact hp _ _ (hr2.push (.bl _))
        · cases q5
    · unfold M.get at q3
      dsimp only at q3
      split at q3
      · cases q3
      · cases q3
  · subst q2
    exact das B r s t k H (chQ f g tc s Q) _ hr q1 hp
/-- a <= b <= c -/
theorem pd_chain {op op' : CmpOp} {f g : Int → Int → Bool} {ma mb mc : A} (ho : OpR X (compareOp op) (rI0 fun i j => V.bl (f i j))) (ho' : OpR X (compareOp op') (rI0 fun i j => V.bl (g i j))) (ha : PO X cl W a ma) (hb : PO X cl W b mb) (hc : PO X cl W c mc)
    (hm : lastMarks [op, op'] [b, c] = false := by with_unfolding_all rfl) : PD X cl W (.Compare a [op, op'] [b, c] pos) (eChain ma mb mc f g) := by
  obtain ⟨ta, h1, h2⟩ := ha
  obtain ⟨tb, h3, h4⟩ := hb
  obtain ⟨tc, h5, h6⟩ := hc
  exact ⟨_, pe_chain ho ho' h1 h3 h5 hm, chain_den h2 h4 h6⟩
theorem ptd_chain {op op' : CmpOp} {f g : Int → Int → Bool} {ma mb mc : A} (ho : OpR X (compareOp op) (rI0 fun i j => V.bl (f i j))) (ho' : OpR X (compareOp op') (rI0 fun i j => V.bl (g i j))) (ha : PO X cl W a ma) (hb : PO X cl W b mb) (hc : PO X cl W c mc)
    (hm : lastMarks [op, op'] [b, c] = false := by with_unfolding_all rfl) : PTd X cl W (.Compare a [op, op'] [b, c] pos) (tV (eChain ma mb mc f g)) := by
  obtain ⟨ta, h1, h2⟩ := ha
  obtain ⟨tb, h3, h4⟩ := hb
  obtain ⟨tc, h5, h6⟩ := hc
  exact ⟨_, pt_chain ho ho' h1 h3 h5 hm, test_den (chain_den h2 h4 h6)⟩
theorem _root_.L2.Room.units1 {k : Nat} {A : Around} (r : Room k A) : A.units + 65 < cLine := by have := r.un; omega
end
end Py

set_option Elab.async false
set_option linter.all false
set_option maxRecDepth 100000
/-! Sr: list comprehensions. -/
namespace Py
open PySem L2
theorem wipeE_len (r : Env) : ∀ vs : List Nat, (wipeE r vs).length = r.length
  | [] => rfl
  | v :: vs => by simp [wipeE, wipeE_len r vs]
theorem wipeE_out {r : Env} {i : Nat} : ∀ {vs : List Nat}, i ∉ vs → (wipeE r vs)[i]? = r[i]?
  | [], _ => rfl
  | v :: vs, h => by
    have h1 : v ≠ i := fun e => h (e ▸ .head _)
    rw [wipeE, List.getElem?_set_ne h1, wipeE_out fun z => h (.tail _ z)]
theorem wipeE_in {r : Env} {i : Nat} {x : Sl} : ∀ {vs : List Nat}, i ∈ vs → (wipeE r vs)[i]? = some x → x = .no
  | v :: vs, h, e => by
    rw [wipeE] at e
    by_cases hv : v = i
    · subst hv
      have hl : v < ((wipeE r vs).set v .no).length := (List.getElem?_eq_some_iff.mp e).1
      rw [List.getElem?_set_self (by simpa using hl)] at e
      exact (Option.some.inj e).symm
    · rw [List.getElem?_set_ne hv] at e
      rcases List.mem_cons.mp h with z | z
      · exact absurd z.symm hv
      · exact wipeE_in z e
/-- the ground of a block: of the fixed slots that of the exception alone -/
def bS (g : Gam) (B : Bs) : Bs := { B with fx := fun i => match g.sx with
  | some (j, _) => i == j
  | none => false }
section
variable {g : Gam} {B : Bs} {r : Env} {s : St} {t : Env} {k : St} {H : Hp} {vs : List Nat}
theorem bS_fx (h : RepT g B r s t k H) {i : Nat} (hi : (bS g B).fx i = true) : B.fx i = true ∧ ∃ v, g.sx = some (i, v) := by
  have hi : (match g.sx with
    | some (j, _) => i == j
    | none => false) = true := hi
  split at hi
  · rename_i j v q
    have e : i = j := by simpa using hi
    subst e
    exact ⟨(h.sx i v q).1, v, q⟩
  · cases hi
theorem bS_no {vs : List Nat} (h : ∀ i v, g.sx = some (i, v) → i ∉ vs) : ∀ i ∈ vs, (bS g B).fx i = false := fun i hi => by
  show (match g.sx with
    | some (j, _) => i == j
    | none => false) = false
  split
  · rename_i j v q
    have := h j v q
    have ne : i ≠ j := fun e => this (e ▸ hi)
    simpa using ne
  · rfl
theorem RepT.toS (h : RepT g B r s t k H) : RepT g (bS g B) r s t k H where
  rn := h.rn
  sn := h.sn
  tk := h.tk
  rep := ⟨h.rep.len, h.rep.big, h.rep.ok, h.rep.inj, h.rep.sep, h.rep.prot, h.rep.keep, h.rep.mdom, fun i hi => h.rep.fix i (bS_fx h hi).1⟩
  sx := fun i v q => ⟨by
    show (match g.sx with
      | some (j, _) => i == j
      | none => false) = true
    rw [q]
    simp, (h.sx i v q).2⟩
theorem get_app {α : Type} {a b a' b' : List α} {i : Nat} (hl : a.length = a'.length) (h1 : i < a.length → a'[i]? = a[i]?) (h2 : b = b') : (a' ++ b')[i]? = (a ++ b)[i]? := by
  subst h2
  by_cases hi : i < a.length
  · rw [List.getElem?_append_left hi, List.getElem?_append_left (by omega)]
    exact h1 hi
  · rw [List.getElem?_append_right (by omega), List.getElem?_append_right (by omega), hl]
theorem RepT.wiped (h : RepT g B r s t k H) (hs : ∀ i v, g.sx = some (i, v) → i ∉ vs) : RepT g (bS g B) (wipeE r vs) (wipe s vs) t k H := by
  have h0 := h.toS
  have el : r.length = s.length := h.rn.trans h.sn.symm
  refine ⟨by rw [wipeE_len]; exact h.rn, by rw [wipe_length]; exact h.sn, h.tk, ?_, h0.sx⟩
  refine h0.rep.sub id (by simp [wipeE_len, wipe_length, el, h.tk]) (by simp [wipe_length]; have := h.sn; show B.n ≤ _; omega) (fun i hi => ?_) (fun i x o e1 e2 => ?_) fun i j _ _ e => .inl e
  · obtain ⟨z1, v, z2⟩ := bS_fx h hi
    exact get_app (wipe_length s vs).symm (fun _ => wipe_out (hs i v z2)) rfl
  · by_cases hi : i < r.length
    · rw [List.getElem?_append_left (by rw [wipeE_len]; exact hi)] at e1
      by_cases hv : i ∈ vs
      · exact .inl (wipeE_in hv e1)
      · rw [wipeE_out hv] at e1
        refine .inr ⟨by simp only [id]; rw [List.getElem?_append_left hi]; exact e1, ?_⟩
        rw [List.getElem?_append_left (by rw [wipe_length]; omega), wipe_out hv] at e2
        simp only [id]
        rw [List.getElem?_append_left (by omega)]
        exact e2
    · right
      rw [List.getElem?_append_right (by rw [wipeE_len]; omega), wipeE_len] at e1
      rw [List.getElem?_append_right (by rw [wipe_length]; omega), wipe_length] at e2
      exact ⟨by rw [List.getElem?_append_right (by simp; omega)]; exact e1, by rw [List.getElem?_append_right (by simp; omega)]; exact e2⟩
/-- behind the block the slots are again what they were -/
theorem RepT.unwiped {r0 : Env} {t0 : Env} {k0 : St} {H0 : Hp} (h0 : RepT g B r0 s t0 k0 H0) (h : RepT g (bS g B) r (wipe s vs) t k H) (hs : ∀ i v, g.sx = some (i, v) → i ∉ vs) (hn : ∀ i ∈ vs, ∀ x, r[i]? = some x → x = .no) : RepT g B r s t k H := by
  have el : r.length = s.length := h.rn.trans h0.sn.symm
  have q : Rep g (bS g B) (r ++ t) (s ++ k) H := by
    refine h.rep.sub id (by simp [el, h.tk]) (by simp; have := h0.sn; show B.n ≤ _; omega) (fun i hi => ?_) (fun i x o e1 e2 => ?_) fun i j _ _ e => .inl e
    · obtain ⟨z1, v, z2⟩ := bS_fx h0 hi
      exact get_app (wipe_length s vs) (fun _ => (wipe_out (hs i v z2)).symm) rfl
    · by_cases hi : i < r.length
      · rw [List.getElem?_append_left hi] at e1
        by_cases hv : i ∈ vs
        · exact .inl (hn i hv x e1)
        · refine .inr ⟨by rw [List.getElem?_append_left (by simpa using hi)]; exact e1, ?_⟩
          rw [List.getElem?_append_left (by omega)] at e2
          rw [List.getElem?_append_left (by rw [wipe_length]; simp; omega)]
          simp only [id]
          rw [wipe_out hv]
          exact e2
      · right
        rw [List.getElem?_append_right (by omega)] at e1 e2
        refine ⟨by rw [List.getElem?_append_right (by simp; omega)]; exact e1, ?_⟩
        rw [List.getElem?_append_right (by rw [wipe_length]; simp; omega), wipe_length]
        exact e2
  refine ⟨h.rn, h0.sn, h.tk, ⟨q.len, q.big, q.ok, q.inj, q.sep, q.prot, q.keep, q.mdom, fun i hi => ?_⟩, h0.sx⟩
  obtain ⟨z1, z2⟩ := h0.rep.fix i hi
  refine ⟨z1, ?_⟩
  have hs : i < s.length := by rw [h0.sn]; exact z1
  rw [List.getElem?_append_left hs] at z2 ⊢
  exact z2
/-- a turn's end: the slots of the block forgotten again -/
theorem RepT.rewiped {s2 : St} (h : RepT g (bS g B) r s2 t k H) (hs : ∀ i v, g.sx = some (i, v) → i ∉ vs) : RepT g (bS g B) (wipeE r vs) (wipe s2 vs) t k H := by
  have := RepT.wiped (B := bS g B) (vs := vs) h hs
  exact this
theorem wipe_eq {s s2 : St} (hl : s2.length = s.length) (h : ∀ i : Nat, i ∉ vs → s2[i]? = (wipe s vs)[i]?) : wipe s2 vs = wipe s vs := by
  apply List.ext_getElem?
  intro i
  by_cases hv : i ∈ vs
  · have key : ∀ (s : St) {ws : List Nat}, i ∈ ws → i < s.length → (wipe s ws)[i]? = some none := by
      intro s ws
      induction ws with
      | nil => intro h; cases h
      | cons w ws ih =>
        intro h hl
        rw [wipe]
        by_cases e : w = i
        · subst e
          exact List.getElem?_set_self (by rw [wipe_length]; exact hl)
        · rw [List.getElem?_set_ne e]
          rcases List.mem_cons.mp h with z | z
          · exact absurd z.symm e
          · exact ih z hl
    by_cases hi : i < s.length
    · rw [key s hv hi, key s2 hv (by omega)]
    · rw [List.getElem?_eq_none (by rw [wipe_length]; omega), List.getElem?_eq_none (by rw [wipe_length]; omega)]
  · rw [wipe_out hv]
    exact h i hv
/-- an owned list on top but one takes what is on top -/
theorem RepT.append {acc : List D} {p : Addr} {x : Sl} {y : V} {d : D} (h : RepT g B r s ((t ++ [.ow (.lst acc)]) ++ [x]) ((k ++ [some (.ref p)]) ++ [some y]) H) (hx : x.val = some d) :
    ∃ xs, H p = some (.lst xs) ∧ xs.length = acc.length ∧ RepT g B r s (t ++ [.ow (.lst (acc ++ [d]))]) (k ++ [some (.ref p)]) (upd H p (.lst (xs ++ [y]))) := by
  have hl1 : (t ++ [Sl.ow (.lst acc)]).length = (k ++ [some (V.ref p)]).length := by have := h.tk; simpa using this
  have hl : t.length = k.length := by simpa using hl1
  have el : r.length = s.length := h.rn.trans h.sn.symm
  -- what is on top becomes shared
  obtain ⟨h1, rv⟩ : RepT g B r s (t ++ [.ow (.lst acc)]) (k ++ [some (.ref p)]) H ∧ R g (Sh B (r ++ (t ++ [.ow (.lst acc)])) (s ++ (k ++ [some (.ref p)])) H) y d := by
    have ra : RA g (Sh B (r ++ (t ++ [.ow (.lst acc)])) (s ++ (k ++ [some (.ref p)])) H) [y] [d] := AV.shared (as := [.v x]) (.v .nil) h hl1 (by unfold shds; rw [show (Arg.v x).shd r = some d from hx]; rfl)
    cases ra with
    | cons rv _ => exact ⟨h.pop, rv⟩
  obtain ⟨o1, e2, n1⟩ := RepT.top h1
  cases e2
  obtain ⟨xs, n2, n3⟩ := n1
  refine ⟨xs, n2, n3.length, h1.rn, h1.sn, by simpa using hl, ?_, h1.sx⟩
  have i1 : (r ++ (t ++ [Sl.ow (.lst acc)]))[r.length + t.length]? = some (.ow (.lst acc)) := by
    rw [← List.append_assoc, List.getElem?_append_right (by simp)]
    simp
  have i2 : (s ++ (k ++ [some (V.ref p)]))[r.length + t.length]? = some (some (.ref p)) := by
    rw [← List.append_assoc, List.getElem?_append_right (by simp; omega)]
    simp [el, hl]
  have q := h1.rep.write (d' := .lst (acc ++ [d])) (o' := .lst (xs ++ [y])) i1 i2 ⟨_, upd_same, n3.append (.cons rv .nil)⟩
  have e : (r ++ (t ++ [Sl.ow (.lst acc)])).set (r.length + t.length) (.ow (.lst (acc ++ [d]))) = r ++ (t ++ [.ow (.lst (acc ++ [d]))]) := by
    rw [← List.append_assoc, List.set_append_right _ _ (by simp)]
    simp
  rw [e] at q
  exact q
end
def WF : WX := fun _ _ _ _ => False
/-- the tests of a comprehension -/
def PTsd (X : Cx) (cl : Cs) (W : WX) (ifs : List Expr) (m : T) : Prop := PTs X ifs (ttOf (gm X cl) m W)
section
variable {X : Cx} {cl : Cs} {W : WX} {e tg : Expr} {pos p2 : Pos}
theorem ptsd_nil : PTsd X cl W [] tYesE := ⟨fun pins s σ H Q I ⟨B, r, t, k, o, a, b, c⟩ => by
  cases b
  exact pts_nil.run pins s σ H Q I (c H a)⟩
theorem ptsd_one {m : T} (h : PTd X cl W e m) : PTsd X cl W [e] m := pts_one (pt_of h)
theorem takesF (X : Cx) : Takes X WF := fun u s' ⟨a, B, sI, pins, σ, H, cls, d, e, I, nb, up, sky, na, os, ag, w⟩ => False.elim w
theorem lc_den {g : Gam} {wi : TI} {w : Wk} {n : G} {tt : T} {m : E} {vs : List Nat} (hw : DWk g wi w W) (hs : ∀ i v, g.sx = some (i, v) → i ∉ vs) :
    DE g (tLc wi (tgOf g vs n) (ttOf g tt WF) (teOf g m WF) vs) (eLc w n tt m vs) W := by
  intro B r s t k H Q o hr hm hp
  rcases bind_cases hm with ⟨p, r1, q1, q2⟩ | ⟨ee, r1, q1, q2⟩
  · refine hw B r s t k H _ _ hr q1 fun J k' H1 ok hr1 D hD => ?_
    cases q3 : lcL n tt m vs p.1 [] (wipeE r1 vs) with
    | none =>
      rw [q3] at q2
      cases q2
    | some pr =>
      obtain ⟨accF, rF⟩ := pr
      rw [q3] at q2
      cases q2
      have hk' : p.2.length = k'.length := by have := hr1.tk; simp [hr.tk] at this; omega
      have hr2 := (hr1.wiped hs).pushLst hD (xs := []) (l := []) .nil
      have nf : ∀ i ∈ vs, (bS g B).fx i = false := bS_no hs
      refine ⟨fun i m' H => ∃ r acc, RepT g (bS g B) r (wipe s vs) ((t ++ p.2) ++ [.ow (.lst acc)]) ((k ++ k') ++ [some (.ref D)]) H ∧ m' = p.1.length - i ∧ i ≤ p.1.length ∧ lcL n tt m vs (p.1.drop i) acc r = some (accF, rF) ∧ ∀ i ∈ vs, ∀ x, r[i]? = some x → x = .no,
        ⟨_, _, _, hr2, rfl, Nat.zero_le _, q3, fun i hi x e => wipeE_in hi e⟩, ?_⟩
      rintro i m' H2 ⟨r2, acc, hr2, rfl, hi, hl, hno⟩
      by_cases hlt : i < p.1.length
      · right
        have hd : p.1[i]? = some p.1[i] := List.getElem?_eq_getElem hlt
        have hr2' : RepT g (bS g B) r2 (wipe s vs) (t ++ (p.2 ++ [.ow (.lst acc)])) (k ++ (k' ++ [some (.ref D)])) H2 := by simpa using hr2
        obtain ⟨g1, g2⟩ := ok.go (bS g B) r2 (wipe s vs) t k [.ow (.lst acc)] [some (.ref D)] H2 i p.1[i] hr.tk hd hr2'
        refine ⟨g1, fun H' => ∃ r acc, RepT g (bS g B) r (wipe s vs) ((t ++ p.2) ++ [.ow (.lst acc)]) ((k ++ k') ++ [some (.ref D)]) H' ∧ lcL n tt m vs (p.1.drop (i + 1)) acc r = some (accF, rF) ∧ ∀ i ∈ vs, ∀ x, r[i]? = some x → x = .no, fun H' z => ?_, fun x H' hy => ?_⟩
        · obtain ⟨r', acc', z1, z2, z3⟩ := z
          exact ⟨p.1.length - (i + 1), by omega, r', acc', z1, rfl, hlt, z2, z3⟩
        · rw [List.drop_eq_getElem_cons hlt, lcL] at hl
          have hr3 := g2 x H' hy
          have hr3' : RepT g (bS g B) r2 (wipe s vs) (((t ++ p.2) ++ [.ow (.lst acc)]) ++ [.sh p.1[i]]) (((k ++ k') ++ [some (.ref D)]) ++ [some x]) H' := by simpa using hr3
          cases q4 : n (.sh p.1[i]) r2 with
          | none =>
            rw [q4] at hl
            cases hl
          | some f1 =>
            rw [q4] at hl
            cases f1 with
            | nx r3 =>
              refine ⟨bS g B, r2, _, _, _, _, nf, hr3', q4, r3, rfl, fun s2 H3 hr4 hk2 => ?_⟩
              have we : wipe s2 vs = wipe s vs := wipe_eq (by have := hr4.sn; rw [this]; exact hr.sn.symm) hk2
              refine ⟨we, ?_⟩
              dsimp only at hl
              cases q5 : tt r3 with
              | none =>
                rw [q5] at hl
                cases hl
              | some f2 =>
                rw [q5] at hl
                cases f2 with
                | ex e r4 => cases hl
                | ok b r4 =>
                  refine ⟨bS g B, r3, _, _, _, hr4, q5, fun H4 hr5 => ?_⟩
                  cases b with
                  | false =>
                    refine iteF ⟨wipeE r4 vs, acc, ?_, hl, fun i hi x e => wipeE_in hi e⟩
                    have := hr5.rewiped (vs := vs) hs
                    rw [we] at this
                    exact this
                  | true =>
                    refine iteT ?_
                    dsimp only at hl
                    cases q6 : m r4 with
                    | none =>
                      rw [q6] at hl
                      cases hl
                    | some f3 =>
                      rw [q6] at hl
                      cases f3 with
                      | ex e r5 => cases hl
                      | ok y r5 =>
                        refine ⟨bS g B, r4, _, _, _, hr5, q6, fun v H5 hr6 => ?_⟩
                        dsimp only at hl
                        cases q7 : y.val with
                        | none =>
                          rw [q7] at hl
                          cases hl
                        | some d =>
                          rw [q7] at hl
                          dsimp only at hl
                          split at hl
                          · rename_i hlen
                            obtain ⟨xs, a1, a2, a3⟩ := RepT.append hr6 q7
                            refine ⟨xs, a1, by rw [a2]; exact hlen, wipeE r5 vs, acc ++ [d], ?_, hl, fun i hi x e => wipeE_in hi e⟩
                            have := a3.rewiped (vs := vs) hs
                            rw [we] at this
                            exact this
                          · cases hl
            | bk r3 => cases hl
            | ct r3 => cases hl
            | rt y r3 => cases hl
            | ex y r3 => cases hl
      · left
        have e : i = p.1.length := by omega
        subst e
        rw [List.drop_length] at hl
        cases hl
        refine ⟨ok.stop (bS g B) rF (wipe s vs) t k [.ow (.lst accF)] [some (.ref D)] H2 hr.tk (by simpa using hr2), hp _ _ ?_⟩
        have h3 := hr1.unwiped (vs := vs) hr2 hs hno
        -- the walked thing goes
        refine ⟨h3.rn, h3.sn, by simp [hr.tk], ?_, h3.sx⟩
        have hrs : rF.length = s.length := h3.rn.trans h3.sn.symm
        refine h3.rep.sub (fun j => if j < rF.length + t.length then j else j + p.2.length) (by simp [hrs, hr.tk]) (by simp [h3.sn]) (fun j hj => ?_) (fun j y u e1 e2 => ?_) fun a b ha hb e => ?_
        · have := (h3.rep.fix j hj).1
          rw [List.getElem?_append_left (by rw [h3.sn]; exact this), List.getElem?_append_left (by rw [h3.sn]; exact this)]
        · right
          by_cases hj : j < rF.length + t.length
          · rw [if_pos hj]
            have a1 : (rF ++ (t ++ [Sl.ow (.lst accF)]))[j]? = (rF ++ t)[j]? := by
              rw [← List.append_assoc]
              exact List.getElem?_append_left (by simpa using hj)
            have a2 : (s ++ (k ++ [some (V.ref D)]))[j]? = (s ++ k)[j]? := by
              rw [← List.append_assoc]
              exact List.getElem?_append_left (by simp [← hrs, ← hr.tk]; omega)
            have b1 : (rF ++ ((t ++ p.2) ++ [Sl.ow (.lst accF)]))[j]? = (rF ++ t)[j]? := by
              rw [show rF ++ ((t ++ p.2) ++ [Sl.ow (.lst accF)]) = (rF ++ t) ++ (p.2 ++ [.ow (.lst accF)]) by simp]
              exact List.getElem?_append_left (by simpa using hj)
            have b2 : (s ++ ((k ++ k') ++ [some (V.ref D)]))[j]? = (s ++ k)[j]? := by
              rw [show s ++ ((k ++ k') ++ [some (V.ref D)]) = (s ++ k) ++ (k' ++ [some (V.ref D)]) by simp]
              exact List.getElem?_append_left (by simp [← hrs, ← hr.tk]; omega)
            rw [b1, b2, ← a1, ← a2]
            exact ⟨e1, e2⟩
          · rw [if_neg hj]
            have hj2 : j = rF.length + t.length := by
              have := (List.getElem?_eq_some_iff.mp e1).1
              simp at this
              omega
            subst hj2
            have b1 : (rF ++ ((t ++ p.2) ++ [Sl.ow (.lst accF)]))[rF.length + t.length + p.2.length]? = some (.ow (.lst accF)) := by
              rw [show rF ++ ((t ++ p.2) ++ [Sl.ow (.lst accF)]) = (rF ++ (t ++ p.2)) ++ [.ow (.lst accF)] by simp, List.getElem?_append_right (by simp; omega)]
              simp [Nat.add_assoc]
            have b2 : (s ++ ((k ++ k') ++ [some (V.ref D)]))[rF.length + t.length + p.2.length]? = some (some (V.ref D)) := by
              rw [show s ++ ((k ++ k') ++ [some (V.ref D)]) = (s ++ (k ++ k')) ++ [some (V.ref D)] by simp, List.getElem?_append_right (by have := hr.tk; simp; omega)]
              simp [Nat.add_assoc, hrs, hr.tk, hk']
            have a1 : (rF ++ (t ++ [Sl.ow (.lst accF)]))[rF.length + t.length]? = some (.ow (.lst accF)) := by
              rw [← List.append_assoc, List.getElem?_append_right (by simp)]
              simp
            have a2 : (s ++ (k ++ [some (V.ref D)]))[rF.length + t.length]? = some (some (V.ref D)) := by
              rw [← List.append_assoc, List.getElem?_append_right (by simp [hr.tk]; omega)]
              simp [hrs, hr.tk]
            rw [a1] at e1
            rw [a2] at e2
            rw [b1, b2]
            exact ⟨e1, e2⟩
        · left
          simp at ha hb
          split at e <;> split at e <;> omega
  · subst q2
    exact hw B r s t k H _ _ hr q1 hp
/-- [elt for tg in iter if ..] -/
theorem pd_lc {elt iter : Expr} {ifs : List Expr} {scope : Scope} {own : List (Str × Nat)} {w : Wk} {n : G} {tt : T} {m : E} (hc : X.calm = true) (hN : X.N.Nodup) (hi : PWk X cl W tg iter w) (ok : BlkOk X.N X.env.scope scope own)
    (hg : ∀ (s : Shared) (H : Hp) (C : Addr) (c : List (Str × Addr)) (fp : List Addr), PGv (X.blk s H scope (compEnvC scope c C X.env) fp) cl (own.map (·.2)) tg n) (ht : ∀ (s : Shared) (H : Hp) (C : Addr) (c : List (Str × Addr)) (fp : List Addr), PTsd (X.blk s H scope (compEnvC scope c C X.env) fp) cl WF ifs tt)
    (he : ∀ (s : Shared) (H : Hp) (C : Addr) (c : List (Str × Addr)) (fp : List Addr), PD (X.blk s H scope (compEnvC scope c C X.env) fp) cl WF elt m) (hx : ∀ i v, cl.sx = some (i, v) → i ∉ own.map (·.2)) (hs : ∀ x, foldedSetIterable iter X.env x = pure x := by intro _; rfl) :
    PD X cl W (.ListComp elt [⟨tg, iter, ifs, 0⟩] scope pos) (eLc w n tt m (own.map (·.2))) := by
  obtain ⟨wi, h1, h2⟩ := hi
  exact ⟨_, pe_lc hc hN h1 ok (fun s H C c fp => pg_of (hg s H C c fp)) (tt := ttOf (gm X cl) tt WF) (fun s H C c fp => ht s H C c fp) (fun s H C c fp => pe_of (he s H C c fp)) hs, lc_den h2 hx⟩
end
end Py

/-! Opt: more operations. -/
namespace Py
open PySem
@[simp] def flatD : D → Bool
  | .non => true
  | .bl _ => true
  | .int _ => true
  | .str _ => true
  | _ => false
abbrev KeyD := Sum Int Str
@[simp] def keyOf : D → Option KeyD
  | .int i => some (.inl i)
  | .str x => some (.inr x)
  | _ => none
@[simp] def inD : D → D → Option Bool
  | .str x, .str z => match x.cps.toList with
    | [c] => some (decide (c ∈ z.cps.toList))
    | _ => none
  | x, .lst ds => if eqOk x = true ∧ eqOk (.lst ds) = true then some (ds.any fun z => eqv z x) else none
  | x, .tup ds => if flatD x = true ∧ ds.all flatD = true then some (ds.any fun z => eqv z x) else none
  | x, .dic ks _ => (keyOf x).map fun k => ks.any fun k' => decide (k' = k)
  | _, _ => none
@[simp] def oIn : List D → Option Sl
  | [x, y] => (inD x y).map fun b => .sh (.bl b)
  | _ => none
@[simp] def oNotIn : List D → Option Sl
  | [x, y] => (inD x y).map fun b => .sh (.bl !b)
  | _ => none
/-- ==, also of a dict and a text -/
@[simp] def oEqX : List D → Option Sl
  | [.dic _ _, .str _] => rB false
  | [.lst xs, .lst ys] => if xs.length = ys.length then oEq [.lst xs, .lst ys] else rB false
  | ds => oEq ds
@[simp] def oNeX : List D → Option Sl
  | [.dic _ _, .str _] => rB true
  | [.lst xs, .lst ys] => if xs.length = ys.length then oNe [.lst xs, .lst ys] else rB true
  | ds => oNe ds
@[simp] def blsD : List D → Option (List Bool)
  | [] => some []
  | .bl b :: ds => (blsD ds).map fun bs => b :: bs
  | _ => none
@[simp] def oAll : List D → Option Sl
  | [.lst ds] => (blsD ds).map fun bs => .sh (.bl (bs.all id))
  | _ => none
@[simp] def oAny : List D → Option Sl
  | [.lst ds] => (blsD ds).map fun bs => .sh (.bl (bs.any id))
  | _ => none
@[simp] def oList : List D → Option Sl
  | [.lst ds] => some (.ow (.lst ds))
  | [.scr ds] => some (.ow (.lst ds))
  | [.tup ds] => some (.ow (.lst ds))
  | _ => none
@[simp] def oTuple : List D → Option Sl
  | [.lst ds] => some (.sh (.tup ds))
  | [.scr ds] => some (.sh (.tup ds))
  | [.tup ds] => some (.sh (.tup ds))
  | _ => none
@[simp] def strsD : List D → Option (List Str)
  | [] => some []
  | .str x :: ds => (strsD ds).map fun xs => x :: xs
  | _ => none
@[simp] def oJoin : List D → Option Sl
  | [.str a, .lst ds] => (strsD ds).bind fun ys => if (ys.map (·.length)).sum + ys.length * a.length ≤ 16777216 then some (.sh (.str (Str.join a ys))) else none
  | _ => none
/-- the thing ahead of a method, and what it is handed -/
@[simp] def tyIs : Ty → D → Option Unit
  | .str, .str _ => some ()
  | .list, .lst _ => some ()
  | .list, .scr _ => some ()
  | .dict, .dic _ _ => some ()
  | _, _ => none
@[simp] def asM (ty : Ty) (a : A) (as : As) : As := M.bind a fun x => M.bind (M.get fun r => (x.dat r).bind (tyIs ty)) fun _ => M.bind as fun xs => M.pure (x :: xs)
/-- a new dict -/
@[simp] def eNewK : E := M.pure (.ow (.dic [] []))
/-- xs.append(e), xs.extend(e), xs.clear() -/
@[simp] def sAppend (i : Nat) (m : E) : S := fun r => match (r[i]?).bind Sl.get with
  | some (.lst _) => sE m (fun x r1 => match r1[i]?, x.val with
    | some (.ow (.lst ds)), some d => if ds.length < lim then some (.nx (r1.set i (.ow (.lst (ds ++ [d]))))) else none
    | _, _ => none) r
  | _ => none
@[simp] def sExtend (i : Nat) (m : E) : S := fun r => match (r[i]?).bind Sl.get with
  | some (.lst _) => sE m (fun x r1 => match r1[i]?, x.get with
    | some (.ow (.lst ds)), some (.lst es) => if ds.length + es.length ≤ lim then some (.nx (r1.set i (.ow (.lst (ds ++ es))))) else none
    | _, _ => none) r
  | _ => none
@[simp] def sClear (i : Nat) : S := fun r => match r[i]? with
  | some (.ow (.lst _)) => some (.nx (r.set i (.ow (.lst []))))
  | _ => none
/-- a constant of the module -/
@[simp] def eK (d : D) : E := eC d
end Py

set_option Elab.async false
set_option linter.all false
set_option maxRecDepth 100000
/-! St: in, all, any, list, tuple, join, append; dicts. -/
namespace Py
open PySem L2
section
variable {X : Cx} {cl : Cs}
theorem R.flat {g : Gm} {H : Hp} {v : V} {d : D} (h : R g H v d) (hf : flatD d = true) : flatV v = true := by
  cases h <;> first | rfl | cases hf
theorem RA.flat {g : Gm} {H : Hp} : ∀ {vs : List V} {ds : List D}, RA g H vs ds → ds.all flatD = true → vs.all flatV = true
  | _, _, .nil, _ => rfl
  | _, _, .cons h t, hf => by
    rw [List.all_cons, Bool.and_eq_true] at hf ⊢
    exact ⟨h.flat hf.1, t.flat hf.2⟩
theorem eqV_eqv {g : Gm} {H : Hp} {v w : V} {d e : D} (h1 : R g H v d) (h2 : R g H w e) (f1 : flatD d = true) (f2 : flatD e = true) : eqV v w = eqv d e := by
  cases h1 <;> first | (cases f1; done) | skip
  all_goals cases h2 <;> first | (cases f2; done) | (simp only [eqV, eqv]; done)
theorem inV_any {g : Gm} {H : Hp} {v : V} {d : D} (h : R g H v d) (hf : flatD d = true) : ∀ {vs : List V} {ds : List D}, RA g H vs ds → ds.all flatD = true → inV v vs = ds.any fun z => eqv z d
  | _, _, .nil, _ => rfl
  | _, _, .cons h1 t, f => by
    rw [List.all_cons, Bool.and_eq_true] at f
    have ih := inV_any h hf t f.2
    unfold inV at ih ⊢
    rw [List.any_cons, List.any_cons, ih, eqV_eqv h1 h f.1 hf]
/-- membership in a dict -/
def rInK : R2 := fun x y H Q => ∃ a o, y = .ref a ∧ DGet H a x o ∧ Q (.bl o.isSome) H
def rNotInK : R2 := fun x y H Q => ∃ a o, y = .ref a ∧ DGet H a x o ∧ Q (.bl (!o.isSome)) H
theorem op_inK (hu : X.A.units + 1 < cLine) : OpR X (compareOp .In) rInK := fun pins s σ H x y v u Q I rx ry ⟨a, o, e, g, q⟩ => by
  subst e
  cases ry
  exact d_in hu I g rx fun s' I' => ⟨.bl _, H, I', rfl, q⟩
theorem op_notInK (hu : X.A.units + 1 < cLine) : OpR X (compareOp .NotIn) rNotInK := fun pins s σ H x y v u Q I rx ry ⟨a, o, e, g, q⟩ => by
  subst e
  cases ry
  exact d_notIn hu I g rx fun s' I' => ⟨.bl _, H, I', rfl, q⟩
abbrev rInX (K : PySem.W.Frag) : R2 := fun x y H Q => ((rInS x y H Q ∨ rInD K x y H Q) ∨ rIn K false x y H Q) ∨ rInK x y H Q
abbrev rNotInX (K : PySem.W.Frag) : R2 := fun x y H Q => ((rNotInS x y H Q ∨ rNotInD K x y H Q) ∨ rIn K true x y H Q) ∨ rNotInK x y H Q
theorem op_inX (hu : X.A.units + 65 < cLine) : OpR X (compareOp .In) (rInX X.K) := opR_or (opR_or (opR_or op_inS (op_inD hu)) op_in_seq) (op_inK (by omega))
theorem op_notInX (hu : X.A.units + 65 < cLine) : OpR X (compareOp .NotIn) (rNotInX X.K) := opR_or (opR_or (opR_or op_notInS (op_notInD hu)) op_notIn_seq) (op_notInK (by omega))
theorem toPys_any {d : D} (hd : cmpOk d = true) : ∀ {ds : List D}, cmpOks ds = true → (toPys ds).any (fun z => PyData.eqv z (toPy d)) = ds.any fun z => eqv z d
  | [], _ => rfl
  | e :: ds, h => by
    have h' : cmpOk e = true ∧ cmpOks ds = true := by simpa only [cmpOks, Bool.and_eq_true] using h
    show (toPy e :: toPys ds).any _ = _
    rw [List.any_cons, List.any_cons, toPys_any hd h'.2, eqv_toPy h'.1 hd]
theorem RC.dic {g : Gm} {Hs H : Hp} {v : V} {ks : List Key} {ds : List D} (h : RC g Hs H v (.dic ks ds)) (e : Same Hs H) : ∃ a xs, v = .ref a ∧ H a = some (.dK (ks.zip xs)) ∧ ks.length = xs.length ∧ RA g Hs xs ds := by
  cases h with
  | sh h =>
    cases h with
    | dic h1 h2 h3 => exact ⟨_, _, rfl, e _ _ h1, h2, h3⟩
  | nd h =>
    obtain ⟨xs, h1, h2, h3⟩ := h
    exact ⟨_, xs, rfl, h1, h2, h3⟩
theorem keyOf_kV {g : Gm} {Hs H : Hp} {v : V} {d : D} {k : Key} (h : RC g Hs H v d) (hk : keyOf d = some k) : v = kV k := by
  cases d with
  | int i =>
    cases hk
    exact h.int
  | str x =>
    cases hk
    exact h.str
  | _ => cases hk
theorem valV_zip {k : Key} : ∀ {ks : List Key} {xs : List V}, ks.length = xs.length → (valV (ks.zip xs) k).isSome = ks.any fun k' => decide (k' = k)
  | [], _, _ => rfl
  | a :: ks, [], h => by cases h
  | a :: ks, x :: xs, h => by
    rw [List.zip_cons_cons, List.any_cons]
    by_cases e : a = k
    · rw [valV_pos e]
      simp [e]
    · rw [valV_neg e, valV_zip (by simpa using h)]
      simp [e]
theorem in_core {d e : D} {b : Bool} {v w : V} {Hs H : Hp} (hs : Same Hs H) (h1 : RC (gm X cl) Hs H v d) (h2 : RC (gm X cl) Hs H w e) (hi : inD d e = some b) :
    (∀ Q : VK, Q (.bl b) H → rInX X.K v w H Q) ∧ ∀ Q : VK, Q (.bl !b) H → rNotInX X.K v w H Q := by
  cases e with
  | str z =>
    cases d with
    | str x =>
      have hi : (match x.cps.toList with
        | [c] => some (decide (c ∈ z.cps.toList))
        | _ => none) = some b := hi
      split at hi
      · rename_i c hc
        cases hi
        cases h1.str
        cases h2.str
        have ex : x = ⟨#[c]⟩ := by
          cases x with
          | mk a =>
            cases a with
            | mk l =>
              have : l = [c] := hc
              subst this
              rfl
        subst ex
        exact ⟨fun Q q => .inl (.inl (.inl ⟨c, z, rfl, rfl, q⟩)), fun Q q => .inl (.inl (.inl ⟨c, z, rfl, rfl, q⟩))⟩
      · cases hi
    | _ => cases hi
  | lst ds =>
    have hi' : (if eqOk d = true ∧ eqOk (.lst ds) = true then some (ds.any fun z => eqv z d) else none) = some b := by
      cases d <;> exact hi
    split at hi'
    · rename_i hk
      cases hi'
      obtain ⟨s1, s2⟩ := shaped_of hk.1
      obtain ⟨s3, s4⟩ := shaped_of hk.2
      have s5 : cmpOks ds = true := by simpa only [cmpOk] using s4
      have key := toPys_any s2 s5
      have p1 := dp_of s2 (h1.toR hs)
      have p2 := dp_of s4 (h2.toR hs)
      exact ⟨fun Q q => .inl (.inl (.inr ⟨toPy d, toPys ds, p1, p2, s1, s3, by rw [key]; exact q⟩)), fun Q q => .inl (.inl (.inr ⟨toPy d, toPys ds, p1, p2, s1, s3, by rw [key]; exact q⟩))⟩
    · cases hi'
  | tup ds =>
    have hi' : (if flatD d = true ∧ ds.all flatD = true then some (ds.any fun z => eqv z d) else none) = some b := by
      cases d <;> exact hi
    split at hi'
    · rename_i hk
      cases hi'
      obtain ⟨a, xs, rfl, a1, a2⟩ := h2.tup hs
      have r1 := h1.toR hs
      have r2 := a2.mono hs
      have key := inV_any r1 hk.1 r2 hk.2
      exact ⟨fun Q q => .inl (.inr ⟨a, xs, rfl, .inr a1, r1.flat hk.1, r2.flat hk.2, by rw [if_neg (by decide), key]; exact q⟩), fun Q q => .inl (.inr ⟨a, xs, rfl, .inr a1, r1.flat hk.1, r2.flat hk.2, by rw [if_pos rfl, key]; exact q⟩)⟩
    · cases hi'
  | dic ks ds =>
    have hi' : ((keyOf d).map fun k => ks.any fun k' => decide (k' = k)) = some b := by
      cases d <;> exact hi
    obtain ⟨k, hk, hb⟩ := Option.map_eq_some_iff.mp hi'
    obtain ⟨a, xs, rfl, a1, a2, a3⟩ := h2.dic hs
    have ev := keyOf_kV h1 hk
    subst ev
    have key := valV_zip (k := k) a2
    rw [hb] at key
    exact ⟨fun Q q => .inr ⟨a, _, rfl, DGet.k a1, by rw [key]; exact q⟩, fun Q q => .inr ⟨a, _, rfl, DGet.k a1, by rw [key]; exact q⟩⟩
  | _ => cases d <;> cases hi
theorem od_in : OpD (gm X cl) (r2L (rInX X.K)) oIn := by
  intro Hs H vs ds x Q e hv hf c
  unfold oIn at hf
  split at hf
  · obtain ⟨b, hb, hx⟩ := Option.map_eq_some_iff.mp hf
    subst hx
    obtain ⟨v, w, rfl, h1, h2⟩ := rca2 hv
    exact (in_core e h1 h2 hb).1 Q (c.val _ _ rfl (.bl _))
  · cases hf
theorem od_notIn : OpD (gm X cl) (r2L (rNotInX X.K)) oNotIn := by
  intro Hs H vs ds x Q e hv hf c
  unfold oNotIn at hf
  split at hf
  · obtain ⟨b, hb, hx⟩ := Option.map_eq_some_iff.mp hf
    subst hx
    obtain ⟨v, w, rfl, h1, h2⟩ := rca2 hv
    exact (in_core e h1 h2 hb).2 Q (c.val _ _ rfl (.bl _))
  · cases hf
theorem RA.bls {g : Gm} {H : Hp} : ∀ {vs : List V} {ds : List D} {bs : List Bool}, RA g H vs ds → blsD ds = some bs → vs = bs.map V.bl
  | _, _, _, .nil, h => by
    cases h
    rfl
  | _, d :: ds, _, .cons h1 t, h => by
    cases d with
    | bl b =>
      obtain ⟨cs, hc, rfl⟩ := Option.map_eq_some_iff.mp h
      cases h1
      rw [t.bls hc]
      rfl
    | _ => cases h
theorem RA.strs {g : Gm} {H : Hp} : ∀ {vs : List V} {ds : List D} {bs : List Str}, RA g H vs ds → strsD ds = some bs → vs = bs.map V.str
  | _, _, _, .nil, h => by
    cases h
    rfl
  | _, d :: ds, _, .cons h1 t, h => by
    cases d with
    | str b =>
      obtain ⟨cs, hc, rfl⟩ := Option.map_eq_some_iff.mp h
      cases h1
      rw [t.strs hc]
      rfl
    | _ => cases h
theorem od_all : OpD (gm X cl) (rAll X.K) oAll := by
  intro Hs H vs ds x Q e hv hf c
  unfold oAll at hf
  split at hf
  · obtain ⟨b, hb, hx⟩ := Option.map_eq_some_iff.mp hf
    subst hx
    obtain ⟨v, rfl, h1⟩ := rca1 hv
    obtain ⟨a, xs, rfl, a1, a2⟩ := h1.lst e
    exact ⟨a, b, rfl, by rw [← a2.bls hb]; exact SqL.of a1, c.val _ _ rfl (.bl _)⟩
  · cases hf
theorem od_any : OpD (gm X cl) (rAny X.K) oAny := by
  intro Hs H vs ds x Q e hv hf c
  unfold oAny at hf
  split at hf
  · obtain ⟨b, hb, hx⟩ := Option.map_eq_some_iff.mp hf
    subst hx
    obtain ⟨v, rfl, h1⟩ := rca1 hv
    obtain ⟨a, xs, rfl, a1, a2⟩ := h1.lst e
    exact ⟨a, b, rfl, by rw [← a2.bls hb]; exact SqL.of a1, c.val _ _ rfl (.bl _)⟩
  · cases hf
theorem od_list : OpD (gm X cl) (fun xs H Q => ∃ p ys, xs = [.ref p] ∧ (SqL X.K H p ys ∨ SqT X.K H p ys) ∧ ∀ l, H l = none → Q (.ref l) (upd H l (.lst ys))) oList := by
  intro Hs H vs ds x Q e hv hf c
  unfold oList at hf
  split at hf
  · obtain ⟨v, rfl, h1⟩ := rca1 hv
    obtain ⟨a, xs, rfl, a1, a2⟩ := h1.lst e
    cases hf
    exact ⟨a, xs, rfl, .inl (SqL.of a1), fun p hp => c.lst p xs _ rfl hp a2⟩
  · obtain ⟨v, rfl, h1⟩ := rca1 hv
    obtain ⟨a, xs, rfl, a1, a2⟩ := h1.scr e
    cases hf
    exact ⟨a, xs, rfl, .inl a1, fun p hp => c.lst p xs _ rfl hp a2⟩
  · obtain ⟨v, rfl, h1⟩ := rca1 hv
    obtain ⟨a, xs, rfl, a1, a2⟩ := h1.tup e
    cases hf
    exact ⟨a, xs, rfl, .inr a1, fun p hp => c.lst p xs _ rfl hp a2⟩
  · cases hf
theorem od_tuple : OpD (gm X cl) (fun xs H Q => ∃ p ys, xs = [.ref p] ∧ ((SqL X.K H p ys ∧ ∀ l, H l = none → Q (.ref l) (upd H l (.tup ys))) ∨ (SqT X.K H p ys ∧ Q (.ref p) H))) oTuple := by
  intro Hs H vs ds x Q e hv hf c
  unfold oTuple at hf
  split at hf
  · obtain ⟨v, rfl, h1⟩ := rca1 hv
    obtain ⟨a, xs, rfl, a1, a2⟩ := h1.lst e
    cases hf
    exact ⟨a, xs, rfl, .inl ⟨SqL.of a1, fun p hp => c.tup p xs _ rfl hp a2⟩⟩
  · obtain ⟨v, rfl, h1⟩ := rca1 hv
    obtain ⟨a, xs, rfl, a1, a2⟩ := h1.scr e
    cases hf
    exact ⟨a, xs, rfl, .inl ⟨a1, fun p hp => c.tup p xs _ rfl hp a2⟩⟩
  · obtain ⟨v, rfl, h1⟩ := rca1 hv
    cases hf
    cases h1 with
    | sh h =>
      cases h with
      | tup a1 a2 => exact ⟨_, _, rfl, .inr ⟨sqT_mono e a1, c.val _ _ rfl (.tup a1 a2)⟩⟩
    | nd h => exact h.elim
  · cases hf
end
end Py

set_option Elab.async false
set_option linter.all false
set_option maxRecDepth 100000
/-! Su: constants of the module, methods of texts and lists, new dicts. -/
namespace Py
open PySem L2
/-- the module's name x is the constant d -/
def Con (K : PySem.W.Frag) (mg : Str → Option Value) (x : Str) (d : D) : Prop := ∃ v u, mg x = some u ∧ RelV v u ∧ ∀ (c : Str → Option Addr) H, R ⟨K, c⟩ H v d
def conF : Value → D → Bool
  | .int i _, .int j => decide (i = j)
  | .str x _, .str y => decide (x = y)
  | _, _ => false
def conFs : List Value → List D → Bool
  | [], [] => true
  | u :: us, d :: ds => conF u d && conFs us ds
  | _, _ => false
def conV (K : PySem.W.Frag) : Value → D → Bool
  | .ref a, .tup ds => match K.lookup a with
    | some o => match o.cls, o.data with
      | .type n, .seq its _ => decide (n = "tuple") && (decide (its.size ≤ sizeLine) && conFs its.toList ds)
      | _, _ => false
    | _ => false
  | u, d => conF u d
def conK (x : Str) (d : D) (K : PySem.W.Frag) : Bool := match PySem.W.nsIn K mainGlobals x with
  | some (some u) => conV K u d
  | _ => false
theorem conF_ok {u : Value} {d : D} (h : conF u d = true) : ∃ v, RelV v u ∧ ∀ (g : Gm) H, R g H v d := by
  unfold conF at h
  split at h
  · have e := of_decide_eq_true h
    subst e
    exact ⟨.int _, ⟨_, rfl⟩, fun _ _ => .int _⟩
  · have e := of_decide_eq_true h
    subst e
    exact ⟨.str _, ⟨_, rfl⟩, fun _ _ => .str _⟩
  · cases h
theorem conFs_ok : ∀ {us : List Value} {ds : List D}, conFs us ds = true → ∃ vs, Vals vs us ∧ ∀ (g : Gm) H, RA g H vs ds
  | [], [], _ => ⟨[], .nil, fun _ _ => .nil⟩
  | [], _ :: _, h => by cases h
  | _ :: _, [], h => by cases h
  | u :: us, d :: ds, h => by
    have h' : (conF u d && conFs us ds) = true := h
    rw [Bool.and_eq_true] at h'
    obtain ⟨v, v1, v2⟩ := conF_ok h'.1
    obtain ⟨vs, w1, w2⟩ := conFs_ok h'.2
    exact ⟨v :: vs, .cons v1 w1, fun g H => .cons (v2 g H) (w2 g H)⟩
theorem con_ok {K : PySem.W.Frag} {h : Heap} {mg : Str → Option Value} (X : K.In h) (G : h.Ns mainGlobals mg) {x : Str} {d : D} (c : conK x d K = true) : Con K mg x d := by
  unfold conK at c
  split at c
  · rename_i u e
    have hm := PySem.W.mg_of X G e
    unfold conV at c
    split at c
    · rename_i a ds
      split at c
      · rename_i o ho
        split at c
        · rename_i n its k e1 e2
          rw [Bool.and_eq_true, Bool.and_eq_true] at c
          obtain ⟨c1, c2, c3⟩ := c
          have en := of_decide_eq_true c1
          subst en
          obtain ⟨vs, w1, w2⟩ := conFs_ok c3
          exact ⟨.ref a, .ref a, hm, rfl, fun c H => .tup (.inr ⟨o, its, k, ho, e1, e2, of_decide_eq_true c2, w1⟩) (w2 _ _)⟩
        · cases c
      · cases c
    · obtain ⟨v, v1, v2⟩ := conF_ok c
      exact ⟨v, _, hm, v1, fun c H => v2 _ H⟩
  · cases c
section
variable {X : Cx} {cl : Cs} {fx : Nat → Bool} {W : WX} {e : Expr} {pos p2 apos cpos : Pos} {x : Str}
theorem pd_con {d : D} (hg : Gl X x) (h : Con X.K X.mg x d) (hd : (x == ("__debug__" : Str)) = false := by decide) : PD X cl W (.Name x pos) (eC d) := by
  obtain ⟨v, u, h1, h2, h3⟩ := h
  refine ⟨_, pe_glob hg h1 h2 hd, fun B r s t k H Q o hr hm hp => ?_⟩
  cases hm
  exact hp v H (hr.push (h3 _ _))
/-- {} with keys that are texts or numbers -/
theorem pd_newK : PD X cl W (.Dict [] [] pos) eNewK := by
  refine ⟨_, pe_dnewK, fun B r s t k H Q o hr hm hp => ?_⟩
  cases hm
  exact fun p hpn => hp _ _ (hr.pushOw hpn ⟨[], upd_same, rfl, .nil⟩)
end
def mL (r : V → List V → Hp → VK → Prop) : List V → Hp → VK → Prop
  | x :: xs, H, Q => r x xs H Q
  | [], _, _ => True
theorem tyV_of {g : Gam} {Hs H : Hp} {v : V} {d : D} {ty : Ty} {u : Unit} (e : Same Hs H) (h : RC g Hs H v d) (ht : tyIs ty d = some u) : tyV g.m.K ty.nm v H := by
  cases ty <;> cases d <;> first | (cases ht; done) | skip
  · cases h.str
    rfl
  · obtain ⟨a, xs, rfl, a1, a2⟩ := h.lst e
    exact .inl ⟨rfl, xs, SqL.of a1⟩
  · obtain ⟨a, xs, rfl, a1, a2⟩ := h.scr e
    exact .inl ⟨rfl, xs, a1⟩
  · obtain ⟨a, xs, rfl, a1, a2, a3⟩ := h.dic e
    exact .inr (.inr (.inl ⟨rfl, .inl ⟨_, a1⟩⟩))
theorem das_mt {g : Gam} {W : WX} {to : TE} {ta : TA} {a : A} {as : As} {ty : Ty} (h2 : DO g to a W) (h4 : DAs g ta as W) : DAs g (fun s H Q => to s H fun x H1 => tyV g.m.K ty.nm x H1 ∧ ta s H1 fun xs H2 => Q (x :: xs) H2) (asM ty a as) W := by
  intro B r s t k H Q o hr hm hp
  rcases bind_cases hm with ⟨x, r1, q, qq⟩ | ⟨ee, r1, q, qq⟩
  · rcases bind_cases qq with ⟨u, r2, q3, q4⟩ | ⟨ee, r2, q3, q4⟩
    · unfold M.get at q3
      dsimp only at q3
      split at q3
      · cases q3
      · rename_i u' q5
        cases q3
        obtain ⟨d, qd, qt⟩ := Option.bind_eq_some_iff.mp q5
        rcases bind_cases q4 with ⟨xs, r3, q6, q7⟩ | ⟨ee, r3, q6, q7⟩
        · cases q7
          refine h2 B r s t k H _ _ hr q fun v H1 ha => ?_
          obtain ⟨c1, c2⟩ := ha.dat qd
          refine ⟨tyV_of Hd_le c1 qt, ?_⟩
          cases x with
          | r i =>
            obtain ⟨ha1, ha2⟩ := ha
            exact h4 B r1 s t k H1 _ _ ha2 q6 fun vs kv H2 av hr2 => hp (v :: vs) kv H2 (.r ha1 av) hr2
          | v x =>
            refine h4 B r1 s (t ++ [x]) (k ++ [some v]) H1 _ _ ha q6 fun vs kv H2 av hr2 => hp (v :: vs) (some v :: kv) H2 (.v av) ?_
            rw [List.append_assoc, List.append_assoc] at hr2
            exact hr2
        · subst q7
          refine h2 B r s t k H _ _ hr q fun v H1 ha => ?_
          obtain ⟨c1, c2⟩ := ha.dat qd
          refine ⟨tyV_of Hd_le c1 qt, ?_⟩
          cases x with
          | r i =>
            obtain ⟨ha1, ha2⟩ := ha
            exact h4 B r1 s t k H1 _ _ ha2 q6 hp
          | v x => exact h4 B r1 s (t ++ [x]) (k ++ [some v]) H1 _ _ ha q6 (PostX.drop hr.tk hp)
    · unfold M.get at q3
      dsimp only at q3
      split at q3 <;> cases q3
  · subst qq
    exact h2 B r s t k H _ _ hr q hp
section
variable {X : Cx} {cl : Cs} {fx : Nat → Bool} {W : WX} {e : Expr} {es : List Expr} {pos p2 apos cpos : Pos} {x : Str}
/-- a method that reads -/
theorem pd_meth {id : String} {name : Str} {r : V → List V → Hp → VK → Prop} {o : Expr} {mo : A} {as : As} {f : List D → Option Sl} (ty : Ty) (pa : PlainAttrs ty.nm) (slot : Slot ty.nm name id) (hty : typeOf (.builtin id) = pure (.type "method_descriptor")) (hm : MtR X id r)
    (hf : OpD (gm X cl) (mL r) f) (ho : PO X cl W o mo) (ha : PAs X cl W (e :: es) as)
    (hbase : attributeBase o name X.env (eval o X.env) = eval o X.env := by rfl)
    (hfew : ((backTo cpos (starEach (e :: es) X.env)).all (fun x => !x.1) && (backToKw cpos (keywordEach [] X.env)).all (fun x => x.1.isSome)
      && decide ((e :: es).length + ([] : List Keyword).length + (if ([] : List Keyword).isEmpty then 0 else 1) < 30)) = true := by rfl)
    (hline : (apos.endLine == cpos.line) = true := by rfl) (hs : starEach (e :: es) X.env = (false, eval e X.env) :: starEach es X.env := by rfl) (hplain : (backTo cpos (starEach es X.env)).any (·.1) = false := by rfl) :
    PD X cl W (.Call (.Attribute o name apos) (e :: es) [] cpos) (eOp (asM ty mo as) f) := by
  obtain ⟨to, h1, h2⟩ := ho
  obtain ⟨ta, h3, h4⟩ := ha
  exact ⟨_, pe_bm pa slot hty hm h1 h3 hbase hfew hline hs hplain, op_den (das_mt (ty := ty) h2 h4) hf⟩
theorem pd_meth0 {id : String} {name : Str} {r : V → List V → Hp → VK → Prop} {o : Expr} {mo : A} {f : List D → Option Sl} (ty : Ty) (pa : PlainAttrs ty.nm) (slot : Slot ty.nm name id) (hty : typeOf (.builtin id) = pure (.type "method_descriptor")) (hm : MtR X id r)
    (hf : OpD (gm X cl) (mL r) f) (ho : PO X cl W o mo)
    (hbase : attributeBase o name X.env (eval o X.env) = eval o X.env := by rfl) (hline : (apos.endLine == cpos.line) = true := by rfl) : PD X cl W (.Call (.Attribute o name apos) [] [] cpos) (eOp (asM ty mo asN) f) := by
  obtain ⟨to, h1, h2⟩ := ho
  exact ⟨_, pe_bm0 pa slot hty hm h1 hbase hline, op_den (das_mt (ty := ty) h2 das_nil) hf⟩
theorem od_join : OpD (gm X cl) (mL (fun x xs H Q => ∃ a p, ∃ ys : List Str, x = .str a ∧ xs = [.ref p] ∧ (SqL X.K H p (ys.map V.str) ∨ SqT X.K H p (ys.map V.str)) ∧
    (ys.map (·.length)).sum + ys.length * a.length ≤ 16777216 ∧ Q (.str (Txt.join a ys)) H)) oJoin := by
  intro Hs H vs ds x Q e hv hf c
  unfold oJoin at hf
  split at hf
  · obtain ⟨ys, hy, h2⟩ := Option.bind_eq_some_iff.mp hf
    split at h2
    · rename_i hl
      cases h2
      obtain ⟨v, w, rfl, h1, h2⟩ := rca2 hv
      cases h1.str
      obtain ⟨a, xs, rfl, a1, a2⟩ := h2.lst e
      exact ⟨_, a, ys, rfl, rfl, .inl (by rw [← a2.strs hy]; exact SqL.of a1), hl, c.val _ _ rfl (by rw [show Txt.join _ ys = Str.join _ ys from StrLaws.glued_eq_join _ ys]; exact .str _)⟩
    · cases h2
  · cases hf
theorem od_int : OpD (gm X cl) (fun xs H Q => (∃ i, xs = [.int i] ∧ Q (.int i) H) ∨ ∃ k, xs = [.bl k] ∧ Q (.int (if k then 1 else 0)) H) oInt := by
  intro Hs H vs ds x Q e hv hf c
  unfold oInt at hf
  split at hf
  · obtain ⟨v, rfl, h1⟩ := rca1 hv
    cases h1.int
    cases hf
    exact .inl ⟨_, rfl, c.val _ _ rfl (.int _)⟩
  · obtain ⟨v, rfl, h1⟩ := rca1 hv
    cases h1.bl
    cases hf
    exact .inr ⟨_, rfl, c.val _ _ rfl (.int _)⟩
  · cases hf
/-! ### lists that grow -/
theorem psd_append {i : Nat} {m : E} (ho : PE X (.Name x p2) (tVar i)) (he : PD X cl W e m)
    (hs0 : swapsWith (.Call (.Attribute (.Name x p2) "append" apos) [e] [] cpos) none pos.line X.env = pure false := by rfl)
    (hbase : attributeBase (.Name x p2) "append" X.env (eval (.Name x p2) X.env) = eval (.Name x p2) X.env := by rfl)
    (hfew : ((backTo cpos (starEach [e] X.env)).all (fun x => !x.1) && (backToKw cpos (keywordEach [] X.env)).all (fun x => x.1.isSome)
      && decide ([e].length + ([] : List Keyword).length + (if ([] : List Keyword).isEmpty then 0 else 1) < 30)) = true := by rfl)
    (hline : (apos.endLine == cpos.line) = true := by rfl) (hs : starEach [e] X.env = (false, eval e X.env) :: starEach [] X.env := by rfl) (hplain : (backTo cpos (starEach [] X.env)).any (·.1) = false := by rfl) :
    PSd X cl fx W (.Expr (.Call (.Attribute (.Name x p2) "append" apos) [e] [] cpos) pos) (sAppend i m) := by
  obtain ⟨te, h1, h2⟩ := he
  refine ⟨_, ps_expr (pe_bm F.plainAttrs_list F.slot_list_append F.type_list_append mt_append ho (pa_cons h1 pa_nil hs) hbase hfew hline hs hplain) hs0, fun B r s t k H D fl hf hr hm hp => ?_⟩
  unfold sAppend at hm
  split at hm
  · rename_i ds0 q0
    obtain ⟨y, q1, q2⟩ := Option.bind_eq_some_iff.mp q0
    obtain ⟨o, e1, e2⟩ := hr.slot q1
    obtain ⟨v, e3, e4⟩ := e2.toRC q2
    subst e3
    obtain ⟨a, xs, rfl, a1, a2⟩ := e4.lst Hd_le
    refine ⟨_, e1, .inl ⟨rfl, xs, SqL.of a1⟩, ?_⟩
    rcases sE_cases hm with ⟨y1, r1, q3, q4⟩ | ⟨ee, r1, q3, q4⟩
    · refine h2 B r s t k H _ _ hr q3 fun v1 H1 hr1 => ?_
      split at q4
      · rename_i ds d q5 q6
        split at q4
        · rename_i hlen
          cases q4
          have hl : t.length = k.length := hr.tk
          have c3 := hr1.pop
          obtain ⟨o1, f1, p, f2, f3⟩ := c3.slot q5
          rw [e1] at f1
          cases f1
          cases f2
          obtain ⟨xs1, n1, n2⟩ := f3
          have rv : RA (gm X cl) (Sh B (r1 ++ t) (s ++ k) H1) [v1] [d] := AV.shared (as := [.v y1]) (.v .nil) hr1 hl (by unfold shds; rw [show (Arg.v y1).shd r1 = some d from q6]; rfl)
          refine ⟨a, xs1, v1, rfl, rfl, n1, by rw [n2.length]; exact hlen, ?_⟩
          exact hp _ _ (c3.write q5 e1 ⟨_, upd_same, n2.append rv⟩)
        · cases q4
      · cases q4
    · subst q4
      exact h2 B r s t k H _ _ hr q3 (hp s)
  · cases hm
theorem psd_extend {i : Nat} {m : E} (ho : PE X (.Name x p2) (tVar i)) (he : PD X cl W e m)
    (hs0 : swapsWith (.Call (.Attribute (.Name x p2) "extend" apos) [e] [] cpos) none pos.line X.env = pure false := by rfl)
    (hbase : attributeBase (.Name x p2) "extend" X.env (eval (.Name x p2) X.env) = eval (.Name x p2) X.env := by rfl)
    (hfew : ((backTo cpos (starEach [e] X.env)).all (fun x => !x.1) && (backToKw cpos (keywordEach [] X.env)).all (fun x => x.1.isSome)
      && decide ([e].length + ([] : List Keyword).length + (if ([] : List Keyword).isEmpty then 0 else 1) < 30)) = true := by rfl)
    (hline : (apos.endLine == cpos.line) = true := by rfl) (hs : starEach [e] X.env = (false, eval e X.env) :: starEach [] X.env := by rfl) (hplain : (backTo cpos (starEach [] X.env)).any (·.1) = false := by rfl) :
    PSd X cl fx W (.Expr (.Call (.Attribute (.Name x p2) "extend" apos) [e] [] cpos) pos) (sExtend i m) := by
  obtain ⟨te, h1, h2⟩ := he
  refine ⟨_, ps_expr (pe_bm F.plainAttrs_list F.slot_list_extend F.type_list_extend mt_extend ho (pa_cons h1 pa_nil hs) hbase hfew hline hs hplain) hs0, fun B r s t k H D fl hf hr hm hp => ?_⟩
  unfold sExtend at hm
  split at hm
  · rename_i ds0 q0
    obtain ⟨y, q1, q2⟩ := Option.bind_eq_some_iff.mp q0
    obtain ⟨o, e1, e2⟩ := hr.slot q1
    obtain ⟨v, e3, e4⟩ := e2.toRC q2
    subst e3
    obtain ⟨a, xs, rfl, a1, a2⟩ := e4.lst Hd_le
    refine ⟨_, e1, .inl ⟨rfl, xs, SqL.of a1⟩, ?_⟩
    rcases sE_cases hm with ⟨y1, r1, q3, q4⟩ | ⟨ee, r1, q3, q4⟩
    · refine h2 B r s t k H _ _ hr q3 fun v1 H1 hr1 => ?_
      split at q4
      · rename_i ds es q5 q6
        split at q4
        · rename_i hlen
          cases q4
          have hl : t.length = k.length := hr.tk
          obtain ⟨v2, g1, g2⟩ := (RepT.top hr1).toRC (d := .lst es) q6
          cases g1
          obtain ⟨b, ys, rfl, b1, b2⟩ := g2.lst Hd_le
          have c3 := hr1.pop
          obtain ⟨o1, f1, p, f2, f3⟩ := c3.slot q5
          rw [e1] at f1
          cases f1
          cases f2
          obtain ⟨xs1, n1, n2⟩ := f3
          have sm := sh_mono_drop (t := t) (t' := [y1]) (k := k) (k' := [some (V.ref b)]) hr1 hl
          refine ⟨a, b, xs1, ys, rfl, rfl, n1, b1, by rw [n2.length, b2.length]; exact hlen, ?_⟩
          exact hp _ _ (c3.write q5 e1 ⟨_, upd_same, n2.append (b2.mono sm)⟩)
        · cases q4
      · cases q4
    · subst q4
      exact h2 B r s t k H _ _ hr q3 (hp s)
  · cases hm
theorem psd_clear {i : Nat} (ho : PE X (.Name x p2) (tVar i))
    (hs0 : swapsWith (.Call (.Attribute (.Name x p2) "clear" apos) [] [] cpos) none pos.line X.env = pure false := by rfl)
    (hbase : attributeBase (.Name x p2) "clear" X.env (eval (.Name x p2) X.env) = eval (.Name x p2) X.env := by rfl) (hline : (apos.endLine == cpos.line) = true := by rfl) :
    PSd X cl fx W (.Expr (.Call (.Attribute (.Name x p2) "clear" apos) [] [] cpos) pos) (sClear i) := by
  refine ⟨_, ps_expr (pe_bm0 F.plainAttrs_list F.slot_list_clear F.type_list_clear mt_clear ho hbase hline) hs0, fun B r s t k H D fl hf hr hm hp => ?_⟩
  unfold sClear at hm
  split at hm
  · rename_i ds0 q0
    cases hm
    obtain ⟨o, e1, p, rfl, e2⟩ := hr.slot q0
    obtain ⟨xs, n1, n2⟩ := e2
    refine ⟨_, e1, .inl ⟨rfl, xs, SqL.of n1⟩, ?_⟩
    refine ⟨p, xs, rfl, rfl, n1, ?_⟩
    exact hp _ _ (hr.write q0 e1 ⟨[], upd_same, .nil⟩)
  · cases hm
end
end Py

set_option Elab.async false
set_option linter.all false
set_option maxRecDepth 100000
/-! Sv: == of a dict and a text; a name bound to a comprehension. -/
namespace Py
section
open PySem PySem.SeqAt
theorem dict_eq_str (l : Addr) (es : Array DictEntry) (ep : Nat) (b : Str) (u : Tok) :
    Meets (Builtin.«dict.__eq__» ⟨[.ref l, .str b u], []⟩) (fun _ R s => s.heap.get? l = some { cls := .type "dict", data := .dict es ep } ∧ R (.ok (.ret .notImplemented)) s) :=
  .of_wp fun prog w A R s h => by obtain ⟨hp, g, d, tk, os⟩ := s; obtain ⟨hl, h⟩ := h; have f1 := F.sub_str_dict; wp_walk using wpAny_loadPart' hl; exact ⟨_, rfl, h⟩
theorem str_eq_dict (l : Addr) (es : Array DictEntry) (ep : Nat) (b : Str) (u : Tok) :
    Meets (Builtin.«str.__eq__» ⟨[.str b u, .ref l], []⟩) (fun _ R s => s.heap.get? l = some { cls := .type "dict", data := .dict es ep } ∧ R (.ok (.ret .notImplemented)) s) :=
  .of_wp fun prog w A R s h => by obtain ⟨hp, g, d, tk, os⟩ := s; obtain ⟨hl, h⟩ := h; wp_walk using wpAny_loadPart' hl, wpAny_load hl; exact ⟨_, rfl, h⟩
theorem dict_ne_str (l : Addr) (es : Array DictEntry) (ep : Nat) (b : Str) (u : Tok) :
    Meets (Builtin.«dict.__ne__» ⟨[.ref l, .str b u], []⟩) (fun _ R s => s.heap.get? l = some { cls := .type "dict", data := .dict es ep } ∧ R (.ok (.ret .notImplemented)) s) :=
  .of_wp fun prog w A R s h => by obtain ⟨hp, g, d, tk, os⟩ := s; obtain ⟨hl, h⟩ := h; have f1 := F.sub_str_dict; wp_walk using wpAny_loadPart' hl; exact ⟨_, rfl, h⟩
theorem str_ne_dict (l : Addr) (es : Array DictEntry) (ep : Nat) (b : Str) (u : Tok) :
    Meets (Builtin.«str.__ne__» ⟨[.str b u, .ref l], []⟩) (fun _ R s => s.heap.get? l = some { cls := .type "dict", data := .dict es ep } ∧ R (.ok (.ret .notImplemented)) s) :=
  .of_wp fun prog w A R s h => by obtain ⟨hp, g, d, tk, os⟩ := s; obtain ⟨hl, h⟩ := h; wp_walk using wpAny_loadPart' hl, wpAny_load hl; exact ⟨_, rfl, h⟩
section
variable {A : Around} {s : Shared} {l : Addr} {es : Array DictEntry} {ep : Nat}
theorem rc_dict_str (b : Str) (u : Tok) (ho : s.heap.get? l = some { cls := .type "dict", data := .dict es ep }) (hu : A.units < cLine) : RcAt A s (.ref l) (.str b u) false := fun prog w E Q h =>
  rc_eq_decline_or (k := false) ⟨_, ho, rfl⟩ (typeIs_str s b u) (by decide) F.sub_str_dict F.slot_dict_eq F.slot_str_eq_refl
    (fun _ hq => call_meets F.slot_dict_eq ⟨_, ho, rfl⟩ F.entry_dict_eq (F.args_dict_eq_2 _ _) (dict_eq_str l es ep b u) ⟨ho, hq⟩)
    (fun _ hq => call_meets F.slot_str_eq_refl (typeIs_str s b u) F.entry_str_eq (F.args_str_eq_2 _ _) (str_eq_dict l es ep b u) ⟨ho, hq⟩)
    (fun _ hq => wpAny_of_eq (rfl : isSame (.ref l) (.str b u) = pure false) hq) (.inr hu) h
theorem rcn_dict_str (b : Str) (u : Tok) (ho : s.heap.get? l = some { cls := .type "dict", data := .dict es ep }) (hu : A.units < cLine) : RcNeAt A s (.ref l) (.str b u) true := fun prog w E Q h =>
  rc_ne_decline_or (k := false) ⟨_, ho, rfl⟩ (typeIs_str s b u) (by decide) F.sub_str_dict F.slot_dict_ne F.slot_str_ne_refl
    (fun _ hq => call_meets F.slot_dict_ne ⟨_, ho, rfl⟩ F.entry_dict_ne (F.args_dict_ne_2 _ _) (dict_ne_str l es ep b u) ⟨ho, hq⟩)
    (fun _ hq => call_meets F.slot_str_ne_refl (typeIs_str s b u) F.entry_str_ne (F.args_str_ne_2 _ _) (str_ne_dict l es ep b u) ⟨ho, hq⟩)
    (fun _ hq => wpAny_of_eq (rfl : isSame (.ref l) (.str b u) = pure false) hq) (.inr hu) h
end
end
open PySem L2
section
variable {X : Cx} {cl : Cs} {fx : Nat → Bool} {W : WX} {e : Expr} {es : List Expr} {pos p2 apos cpos : Pos} {x : Str}
def rEqDS (b : Bool) : R2 := fun x y H Q => ∃ a kvs z, x = .ref a ∧ y = .str z ∧ H a = some (.dK kvs) ∧ Q (.bl b) H
theorem op_eqDS (hu : X.A.units + 64 < cLine) : OpR X (compareOp .Eq) (rEqDS false) := fun pins s σ H x y v u Q I rx ry ⟨a, kvs, z, e1, e2, ha, q⟩ => by
  subst e1
  subst e2
  cases rx
  obtain ⟨t, rfl⟩ := ry
  obtain ⟨hz, hs, vs, kv, o, es, ep, ho, ex, hd, _⟩ := dk_of I.hok ha
  obtain ⟨c1, c2, c3⟩ := ex
  cases o with
  | mk cls dict data slots =>
    subst c1
    subst c2
    subst c3
    subst hd
    exact rc_dict_str z t ho (by omega) X.prog X.w X.xe _ ⟨.bl false, H, I, rfl, q⟩
theorem op_neDS (hu : X.A.units + 64 < cLine) : OpR X (compareOp .NotEq) (rEqDS true) := fun pins s σ H x y v u Q I rx ry ⟨a, kvs, z, e1, e2, ha, q⟩ => by
  subst e1
  subst e2
  cases rx
  obtain ⟨t, rfl⟩ := ry
  obtain ⟨hz, hs, vs, kv, o, es, ep, ho, ex, hd, _⟩ := dk_of I.hok ha
  obtain ⟨c1, c2, c3⟩ := ex
  cases o with
  | mk cls dict data slots =>
    subst c1
    subst c2
    subst c3
    subst hd
    exact rcn_dict_str z t ho (by omega) X.prog X.w X.xe _ ⟨.bl true, H, I, rfl, q⟩
def rEqLen (K : PySem.W.Frag) (b : Bool) : R2 := fun x y H Q => ∃ p q xs ys, x = .ref p ∧ y = .ref q ∧ SqL K H p xs ∧ SqL K H q ys ∧ xs.length ≠ ys.length ∧ Q (.bl b) H
theorem op_eqLen (hu : X.A.units + 64 < cLine) : OpR X (compareOp .Eq) (rEqLen X.K false) := fun pins s σ H x y v u Q I rx ry ⟨p, q, xs, ys, e1, e2, h1, h2, hne, k⟩ => by
  subst e1
  subst e2
  cases rx
  cases ry
  obtain ⟨its, rv, hl, _⟩ := I.list h1
  obtain ⟨its2, rv2, hl2, _⟩ := I.list h2
  have a1 := rv.length
  have a2 := rv2.length
  exact SeqAt.RcAt.lists_lengths hl.isList hl2.isList (by simp; omega) (by omega) X.prog X.w X.xe _ ⟨.bl false, H, I, rfl, k⟩
theorem op_neLen (hu : X.A.units + 64 < cLine) : OpR X (compareOp .NotEq) (rEqLen X.K true) := fun pins s σ H x y v u Q I rx ry ⟨p, q, xs, ys, e1, e2, h1, h2, hne, k⟩ => by
  subst e1
  subst e2
  cases rx
  cases ry
  obtain ⟨its, rv, hl, _⟩ := I.list h1
  obtain ⟨its2, rv2, hl2, _⟩ := I.list h2
  have a1 := rv.length
  have a2 := rv2.length
  exact SeqAt.RcNeAt.lists_lengths hl.isList hl2.isList (by simp; omega) (by omega) X.prog X.w X.xe _ ⟨.bl true, H, I, rfl, k⟩
abbrev rEqX (K : PySem.W.Frag) : R2 := fun x y H Q => (rEqDS false x y H Q ∨ rEqLen K false x y H Q) ∨ rEqD K x y H Q
abbrev rNeX (K : PySem.W.Frag) : R2 := fun x y H Q => (rEqDS true x y H Q ∨ rEqLen K true x y H Q) ∨ rNeD K x y H Q
theorem op_eqX (hu : X.A.units + 64 < cLine) : OpR X (compareOp .Eq) (rEqX X.K) := opR_or (opR_or (op_eqDS hu) (op_eqLen hu)) (op_eqD hu)
theorem op_neX (hu : X.A.units + 64 < cLine) : OpR X (compareOp .NotEq) (rNeX X.K) := opR_or (opR_or (op_neDS hu) (op_neLen hu)) (op_neD hu)
theorem od_eqX : OpD (gm X cl) (r2L (rEqX X.K)) oEqX := by
  intro Hs H vs ds x Q e hv hf c
  unfold oEqX at hf
  split at hf
  · cases hf
    obtain ⟨v, w, rfl, h1, h2⟩ := rca2 hv
    cases h2.str
    obtain ⟨a, xs, rfl, a1, a2⟩ := h1.dic e
    exact .inl (.inl ⟨a, _, _, rfl, rfl, a1, c.val _ _ rfl (.bl _)⟩)
  · split at hf
    · have := od_eq (X := X) (cl := cl) Hs H vs _ x Q e hv hf c
      match vs, this with
      | [v, w], this => exact .inr this
      | [], _ => trivial
      | [_], _ => trivial
      | _ :: _ :: _ :: _, _ => trivial
    · rename_i hne
      cases hf
      obtain ⟨v, w, rfl, h1, h2⟩ := rca2 hv
      obtain ⟨a, xs, rfl, a1, a2⟩ := h1.lst e
      obtain ⟨b, ys, rfl, b1, b2⟩ := h2.lst e
      exact .inl (.inr ⟨a, b, xs, ys, rfl, rfl, SqL.of a1, SqL.of b1, by rw [a2.length, b2.length]; exact hne, c.val _ _ rfl (.bl _)⟩)
  · have := od_eq (X := X) (cl := cl) Hs H vs ds x Q e hv hf c
    match vs, this with
    | [v, w], this => exact .inr this
    | [], _ => trivial
    | [_], _ => trivial
    | _ :: _ :: _ :: _, _ => trivial
theorem od_neX : OpD (gm X cl) (r2L (rNeX X.K)) oNeX := by
  intro Hs H vs ds x Q e hv hf c
  unfold oNeX at hf
  split at hf
  · cases hf
    obtain ⟨v, w, rfl, h1, h2⟩ := rca2 hv
    cases h2.str
    obtain ⟨a, xs, rfl, a1, a2⟩ := h1.dic e
    exact .inl (.inl ⟨a, _, _, rfl, rfl, a1, c.val _ _ rfl (.bl _)⟩)
  · split at hf
    · have := od_ne (X := X) (cl := cl) Hs H vs _ x Q e hv hf c
      match vs, this with
      | [v, w], this => exact .inr this
      | [], _ => trivial
      | [_], _ => trivial
      | _ :: _ :: _ :: _, _ => trivial
    · rename_i hne
      cases hf
      obtain ⟨v, w, rfl, h1, h2⟩ := rca2 hv
      obtain ⟨a, xs, rfl, a1, a2⟩ := h1.lst e
      obtain ⟨b, ys, rfl, b1, b2⟩ := h2.lst e
      exact .inl (.inr ⟨a, b, xs, ys, rfl, rfl, SqL.of a1, SqL.of b1, by rw [a2.length, b2.length]; exact hne, c.val _ _ rfl (.bl _)⟩)
  · have := od_ne (X := X) (cl := cl) Hs H vs ds x Q e hv hf c
    match vs, this with
    | [v, w], this => exact .inr this
    | [], _ => trivial
    | [_], _ => trivial
    | _ :: _ :: _ :: _, _ => trivial
theorem dg_name {i : Nat} {g : Gam} (hF : fx i = false) : DG g fx (gName i) (gN i) W := fun B r s t k H y v Q fl hfx hr hm hp => by
  obtain ⟨r', e, hq⟩ := hp
  subst e
  unfold gN at hm
  by_cases hlt : i < r.length
  · rw [if_pos hlt] at hm
    cases hm
    refine hq _ H ⟨by simp [hr.rn], by simp [hr.sn], by have := hr.tk; simpa using this, ?_, hr.sx⟩
    have q := hr.rep
    rw [← List.append_assoc, ← List.append_assoc] at q
    exact q.store (hr.rn.trans hr.sn.symm) (by have := hr.tk; simpa using this) (by rw [hr.sn]; exact Nat.le_refl _) hlt (by rw [hfx]; exact hF)
  · rw [if_neg hlt] at hm
    cases hm
/-- name = [.. for ..] on one row, the name a local -/
theorem psd_setLc {tg : Expr} {i : Nat} {y : Str} {py spos : Pos} {elt iter : Expr} {ifs : List Expr} {scope : Scope} {own : List (Str × Nat)} {w : Wk} {n : G} {tt : T} {m : E} (hc : X.calm = true) (hN : X.N.Nodup) (hy : X.N[i]? = some y) (hyl : X.env.scope.names.lookup y = some .local)
    (hk : X.env.scope.kind = .function) (hl : (py.line == pos.line) = true) (ha : (scope.names.any fun (n, k) => n == y && (k == .local || k == .cell)) = false) (hi : PWk X cl W tg iter w) (ok : BlkOk X.N X.env.scope scope own)
    (hg : ∀ (s : Shared) (H : Hp) (C : Addr) (c : List (Str × Addr)) (fp : List Addr), PGv (X.blk s H scope (compEnvC scope c C X.env) fp) cl (own.map (·.2)) tg n) (ht : ∀ (s : Shared) (H : Hp) (C : Addr) (c : List (Str × Addr)) (fp : List Addr), PTsd (X.blk s H scope (compEnvC scope c C X.env) fp) cl WF ifs tt)
    (he : ∀ (s : Shared) (H : Hp) (C : Addr) (c : List (Str × Addr)) (fp : List Addr), PD (X.blk s H scope (compEnvC scope c C X.env) fp) cl WF elt m) (hx : ∀ i v, cl.sx = some (i, v) → i ∉ own.map (·.2)) (hF : fx i = false := by rfl) (hs : ∀ x, foldedSetIterable iter X.env x = pure x := by intro _; rfl) :
    PSd X cl fx W (.Assign [.Name y py] (.ListComp elt [⟨tg, iter, ifs, 0⟩] scope pos) spos) (sAsg (eLc w n tt m (own.map (·.2))) (gN i)) := by
  obtain ⟨wi, h1, h2⟩ := hi
  refine ⟨_, ps_setLc hc hN hy hyl (sw_true hk hyl hl ha) h1 ok (g := tgOf (gm X cl) (own.map (·.2)) n) (fun s H C c fp => pg_of (hg s H C c fp)) (tt := ttOf (gm X cl) tt WF) (te := teOf (gm X cl) m WF) (fun s H C c fp => ht s H C c fp) (fun s H C c fp => pe_of (he s H C c fp)) hs, fun B r s t k H D fl hf hr hm hp => ?_⟩
  have h2' := lc_den (n := n) (tt := tt) (m := m) (vs := own.map (·.2)) h2 hx
  rcases sE_cases hm with ⟨x, r1, q1, q2⟩ | ⟨ee, r1, q1, q2⟩
  · refine h2' B r s t k H _ _ hr q1 fun v H' hr' => dg_name (W := W) hF B r1 s t k H' x v _ fl hf hr' q2 ?_
    obtain ⟨r', e⟩ := gN_nx x r1 fl q2
    subst e
    exact ⟨r', rfl, hp⟩
  · subst q2
    exact h2' B r s t k H _ _ hr q1 (hp s)
end
end Py

set_option linter.all false
/-! Sc: the meanings of the defs that many laws have (printed by gen.py). -/
namespace Sc
open PySem Py
noncomputable def dn_is_whole : Fn := mkFn 1 [false]
  (sRet (eAnd (eOp (asC (aR 0) asN) (oIsi .int)) (eNot (eOp (asC (aR 0) asN) (oIsi .bool)))))
noncomputable def dn_common_part : Fn := mkFn 4 [false, false]
  (sSeq (sPar 2 3 (asC (aV (eOp (asC (aR 0) asN) oAbs)) (asC (aV (eOp (asC (aR 1) asN) oAbs)) asN)))
    (sSeq (sWhile (tV (eOp (asC (aR 3) (asC (aV (eC (.int 0))) asN)) oGt))
    (sPar 2 3 (asC (aV (eVar 3)) (asC (aV (eOp (asC (aR 2) (asC (aR 3) asN)) oMod)) asN))))
    (sRet (eMov 2))))
noncomputable def dn_is_fraction : Fn := mkFn 1 [false]
  (sSeq (sIf (tOr (tNot (tV (eOp (asC (aR 0) asN) (oIsi .tuple)))) (tOr (tV (eOp (asC (aV (eOp (asC (aR 0) asN) oLen)) (asC (aV (eC (.int 2))) asN)) oNeX)) (tOr (tNot (tV (eCall dn_is_whole (asC (aV (eOp (asC (aR 0) (asC (aV (eC (.int 0))) asN)) oIx)) asN)))) (tNot (tV (eCall dn_is_whole (asC (aV (eOp (asC (aR 0) (asC (aV (eC (.int 1))) asN)) oIx)) asN)))))))
    (sRet (eC (.bl false)))
    sPass)
    (sRet (eAnd (eOp (asC (aV (eOp (asC (aR 0) (asC (aV (eC (.int 1))) asN)) oIx)) (asC (aV (eC (.int 0))) asN)) oGt) (eOp (asC (aV (eCall dn_common_part (asC (aV (eOp (asC (aR 0) (asC (aV (eC (.int 0))) asN)) oIx)) (asC (aV (eOp (asC (aR 0) (asC (aV (eC (.int 1))) asN)) oIx)) asN)))) (asC (aV (eC (.int 1))) asN)) oEqX))))
noncomputable def dn_fraction : Fn := mkFn 3 [false, false]
  (sSeq (sIf (tV (eOp (asC (aR 1) (asC (aV (eC (.int 0))) asN)) oEqX))
    (sRaise "NoFraction")
    sPass)
    (sSeq (sAsg (eCall dn_common_part (asC (aV (eVar 0)) (asC (aV (eVar 1)) asN))) (gN 2))
    (sSeq (sIf (tV (eOp (asC (aR 1) (asC (aV (eC (.int 0))) asN)) oLt))
    (sAsg (eOp (asC (aR 2) asN) oNeg) (gN 2))
    sPass)
    (sRet (eTup (asC (aV (eOp (asC (aR 0) (asC (aR 2) asN)) oFdiv)) (asC (aV (eOp (asC (aR 1) (asC (aR 2) asN)) oFdiv)) asN)))))))
noncomputable def dn_plus : Fn := mkFn 2 [false, false]
  (sRet (eCall dn_fraction (asC (aV (eOp (asC (aV (eOp (asC (aV (eOp (asC (aR 0) (asC (aV (eC (.int 0))) asN)) oIx)) (asC (aV (eOp (asC (aR 1) (asC (aV (eC (.int 1))) asN)) oIx)) asN)) oMul)) (asC (aV (eOp (asC (aV (eOp (asC (aR 1) (asC (aV (eC (.int 0))) asN)) oIx)) (asC (aV (eOp (asC (aR 0) (asC (aV (eC (.int 1))) asN)) oIx)) asN)) oMul)) asN)) oAdd)) (asC (aV (eOp (asC (aV (eOp (asC (aR 0) (asC (aV (eC (.int 1))) asN)) oIx)) (asC (aV (eOp (asC (aR 1) (asC (aV (eC (.int 1))) asN)) oIx)) asN)) oMul)) asN))))
noncomputable def dn_minus : Fn := mkFn 2 [false, false]
  (sRet (eCall dn_fraction (asC (aV (eOp (asC (aV (eOp (asC (aV (eOp (asC (aR 0) (asC (aV (eC (.int 0))) asN)) oIx)) (asC (aV (eOp (asC (aR 1) (asC (aV (eC (.int 1))) asN)) oIx)) asN)) oMul)) (asC (aV (eOp (asC (aV (eOp (asC (aR 1) (asC (aV (eC (.int 0))) asN)) oIx)) (asC (aV (eOp (asC (aR 0) (asC (aV (eC (.int 1))) asN)) oIx)) asN)) oMul)) asN)) oSub)) (asC (aV (eOp (asC (aV (eOp (asC (aR 0) (asC (aV (eC (.int 1))) asN)) oIx)) (asC (aV (eOp (asC (aR 1) (asC (aV (eC (.int 1))) asN)) oIx)) asN)) oMul)) asN))))
noncomputable def dn_times : Fn := mkFn 2 [false, false]
  (sRet (eCall dn_fraction (asC (aV (eOp (asC (aV (eOp (asC (aR 0) (asC (aV (eC (.int 0))) asN)) oIx)) (asC (aV (eOp (asC (aR 1) (asC (aV (eC (.int 0))) asN)) oIx)) asN)) oMul)) (asC (aV (eOp (asC (aV (eOp (asC (aR 0) (asC (aV (eC (.int 1))) asN)) oIx)) (asC (aV (eOp (asC (aR 1) (asC (aV (eC (.int 1))) asN)) oIx)) asN)) oMul)) asN))))
noncomputable def dn_over : Fn := mkFn 2 [false, false]
  (sRet (eCall dn_fraction (asC (aV (eOp (asC (aV (eOp (asC (aR 0) (asC (aV (eC (.int 0))) asN)) oIx)) (asC (aV (eOp (asC (aR 1) (asC (aV (eC (.int 1))) asN)) oIx)) asN)) oMul)) (asC (aV (eOp (asC (aV (eOp (asC (aR 0) (asC (aV (eC (.int 1))) asN)) oIx)) (asC (aV (eOp (asC (aR 1) (asC (aV (eC (.int 0))) asN)) oIx)) asN)) oMul)) asN))))
noncomputable def dn_is_less : Fn := mkFn 2 [false, false]
  (sRet (eOp (asC (aV (eOp (asC (aV (eOp (asC (aR 0) (asC (aV (eC (.int 0))) asN)) oIx)) (asC (aV (eOp (asC (aR 1) (asC (aV (eC (.int 1))) asN)) oIx)) asN)) oMul)) (asC (aV (eOp (asC (aV (eOp (asC (aR 1) (asC (aV (eC (.int 0))) asN)) oIx)) (asC (aV (eOp (asC (aR 0) (asC (aV (eC (.int 1))) asN)) oIx)) asN)) oMul)) asN)) oLt))
noncomputable def dn_fraction_text : Fn := mkFn 1 [false]
  (sSeq (sIf (tV (eOp (asC (aV (eOp (asC (aR 0) (asC (aV (eC (.int 1))) asN)) oIx)) (asC (aV (eC (.int 1))) asN)) oEqX))
    (sRet (eOp (asC (aV (eOp (asC (aR 0) (asC (aV (eC (.int 0))) asN)) oIx)) asN) oStr))
    sPass)
    (sRet (eOp (asC (aV (eOp (asC (aV (eOp (asC (aV (eOp (asC (aR 0) (asC (aV (eC (.int 0))) asN)) oIx)) asN) oStr)) (asC (aV (eC (.str "/"))) asN)) oAdd)) (asC (aV (eOp (asC (aV (eOp (asC (aR 0) (asC (aV (eC (.int 1))) asN)) oIx)) asN) oStr)) asN)) oAdd)))
noncomputable def dn__law_cell : Fn := mkFn 2 [false, false]
  (sSeq (sIf (tV (eOp (asC (aR 1) (asC (aV (eOp (asC (aR 0) asN) oLen)) asN)) oLt))
    (sRet (eOp (asC (aR 0) (asC (aR 1) asN)) oIx))
    sPass)
    (sRet (eC (.int 0))))
noncomputable def dn__law_pot : Fn := mkFn 1 [false]
  (sRet (eLst (asC (aV (eOp (asC (aV (eC (.int 0))) (asC (aV (eOp (asC (aV (eOp (asC (aR 0) asN) oAbs)) (asC (aV (eOp (asC (aV (eC (.int 10))) (asC (aV (eC (.int 18))) asN)) oPow)) asN)) oSub)) asN)) oMax2)) (asC (aV (eOp (asC (aV (eOp (asC (aV (eOp (asC (aR 0) asN) oAbs)) (asC (aV (eC (.int 2147483629))) asN)) oMod)) (asC (aV (eC (.int 1))) asN)) oAdd)) asN))))
noncomputable def dn__law_draw : Fn := mkFn 3 [true, false]
  (sSeq (sIf (tV (eOp (asC (aV (eOp (asC (aR 0) (asC (aV (eC (.int 0))) asN)) oIx)) (asC (aV (eC (.int 0))) asN)) oGt))
    (sSeq (sAsg (eOp (asC (aV (eOp (asC (aR 0) (asC (aV (eC (.int 0))) asN)) oIx)) (asC (aR 1) asN)) oDivmod) (gTup [(gSet 0 (aV (eC (.int 0)))), (gN 2)]))
    (sRet (eMov 2)))
    sPass)
    (sSeq (sAsg (eOp (asC (aV (eOp (asC (aV (eOp (asC (aV (eOp (asC (aR 0) (asC (aV (eC (.int 1))) asN)) oIx)) (asC (aV (eC (.int 48271))) asN)) oMul)) (asC (aV (eC (.int 11))) asN)) oAdd)) (asC (aV (eC (.int 2147483647))) asN)) oMod) (gSet 0 (aV (eC (.int 1)))))
    (sRet (eOp (asC (aV (eOp (asC (aV (eOp (asC (aV (eOp (asC (aV (eOp (asC (aR 0) (asC (aV (eC (.int 1))) asN)) oIx)) (asC (aV (eOp (asC (aR 0) (asC (aV (eC (.int 1))) asN)) oIx)) asN)) oMul)) (asC (aV (eC (.int 2147483629))) asN)) oMod)) (asC (aV (eC (.int 3))) asN)) oFdiv)) (asC (aR 1) asN)) oMod))))
noncomputable def dn__law_low : Fn := mkFn 4 [false, false]
  (sSeq (sPar 2 3 (asC (aV (eOp (asC (aR 0) asN) oAbs)) (asC (aV (eOp (asC (aR 1) asN) oAbs)) asN)))
    (sSeq (sWhile (tV (eOp (asC (aR 3) (asC (aV (eC (.int 0))) asN)) oGt))
    (sPar 2 3 (asC (aV (eVar 3)) (asC (aV (eOp (asC (aR 2) (asC (aR 3) asN)) oMod)) asN))))
    (sSeq (sIf (tV (eOp (asC (aR 1) (asC (aV (eC (.int 0))) asN)) oLt))
    (sAsg (eOp (asC (aR 2) asN) oNeg) (gN 2))
    sPass)
    (sRet (eTup (asC (aV (eOp (asC (aR 0) (asC (aR 2) asN)) oFdiv)) (asC (aV (eOp (asC (aR 1) (asC (aR 2) asN)) oFdiv)) asN)))))))
noncomputable def dn__law_sum : Fn := mkFn 2 [false, false]
  (sRet (eCall dn__law_low (asC (aV (eOp (asC (aV (eOp (asC (aV (eOp (asC (aR 0) (asC (aV (eC (.int 0))) asN)) oIx)) (asC (aV (eOp (asC (aR 1) (asC (aV (eC (.int 1))) asN)) oIx)) asN)) oMul)) (asC (aV (eOp (asC (aV (eOp (asC (aR 1) (asC (aV (eC (.int 0))) asN)) oIx)) (asC (aV (eOp (asC (aR 0) (asC (aV (eC (.int 1))) asN)) oIx)) asN)) oMul)) asN)) oAdd)) (asC (aV (eOp (asC (aV (eOp (asC (aR 0) (asC (aV (eC (.int 1))) asN)) oIx)) (asC (aV (eOp (asC (aR 1) (asC (aV (eC (.int 1))) asN)) oIx)) asN)) oMul)) asN))))
noncomputable def dn__law_product : Fn := mkFn 2 [false, false]
  (sRet (eCall dn__law_low (asC (aV (eOp (asC (aV (eOp (asC (aR 0) (asC (aV (eC (.int 0))) asN)) oIx)) (asC (aV (eOp (asC (aR 1) (asC (aV (eC (.int 0))) asN)) oIx)) asN)) oMul)) (asC (aV (eOp (asC (aV (eOp (asC (aR 0) (asC (aV (eC (.int 1))) asN)) oIx)) (asC (aV (eOp (asC (aR 1) (asC (aV (eC (.int 1))) asN)) oIx)) asN)) oMul)) asN))))
noncomputable def dn__law_bottom : Fn := mkFn 1 [false]
  (sRet (eIf (tV (eOp (asC (aV (eOp (asC (aR 0) (asC (aV (eC (.int 0))) asN)) oIx)) (asC (aV (eC (.str "board"))) asN)) oEqX)) (eOp (asC (aR 0) (asC (aV (eC (.int 6))) asN)) oIx) (eOp (asC (aR 0) (asC (aV (eC (.int 4))) asN)) oIx)))
noncomputable def dn_is_name : Fn := mkFn 2 [false]
  (sSeq (sIf (tOr (tNot (tV (eOp (asC (aR 0) asN) (oIsi .str)))) (tNot (tV (eChain (aV (eC (.int 1))) (aV (eOp (asC (aR 0) asN) oLen)) (aV (eC (.int 8))) (fun i j => decide (i ≤ j)) (fun i j => decide (i ≤ j))))))
    (sRet (eC (.bl false)))
    sPass)
    (sRet (eOp (asC (aV (eLc (wSeq (eVar 0)) (gN 1) tYesE (eOp (asC (aR 1) (asC (aV (eC (.str "abcdefghijklmnopqrstuvwxyz"))) asN)) oIn) [1])) asN) oAll)))
noncomputable def dn_is_within : Fn := mkFn 2 [false, false]
  (sRet (eAnd (eCall dn_is_whole (asC (aV (eVar 0)) asN)) (eChain (aR 1) (aR 0) (aV (eC (.int 20))) (fun i j => decide (i ≤ j)) (fun i j => decide (i ≤ j)))))
noncomputable def dn_are_weights : Fn := mkFn 2 [false, false]
  (sSeq (sIf (tOr (tNot (tV (eCall dn_is_fraction (asC (aV (eVar 0)) asN)))) (tNot (tV (eCall dn_is_fraction (asC (aV (eVar 1)) asN)))))
    (sRet (eC (.bl false)))
    sPass)
    (sRet (eAnd (eCall dn_is_less (asC (aV (eC (.tup [(.int 0), (.int 1)]))) (asC (aV (eVar 0)) asN))) (eNot (eCall dn_is_less (asC (aV (eVar 1)) (asC (aV (eC (.tup [(.int 0), (.int 1)]))) asN)))))))
noncomputable def dn_is_pole : Fn := mkFn 10 [false]
  (sSeq (sAsg (eVar 0) (gTup [(gN 1), (gN 2), (gN 3), (gN 4), (gN 5), (gN 6), (gN 7), (gN 8)]))
    (sSeq (sIf (tOr (tV (eOp (asC (aR 1) (asC (aV (eC (.str "pole"))) asN)) oNeX)) (tOr (tNot (tV (eCall dn_is_name (asC (aV (eVar 2)) asN)))) (tNot (tV (eCall dn_are_weights (asC (aV (eVar 7)) (asC (aV (eVar 8)) asN)))))))
    (sRet (eC (.bl false)))
    sPass)
    (sRet (eAnd (eOp (asC (aV (eLc (wSeq (eTup (asC (aV (eVar 3)) (asC (aV (eVar 4)) (asC (aV (eVar 5)) (asC (aV (eVar 6)) asN)))))) (gN 9) tYesE (eCall dn_is_within (asC (aV (eVar 9)) (asC (aV (eC (.int 0))) asN))) [9])) asN) oAll) (eOp (asC (aR 5) (asC (aR 6) asN)) oLt)))))
noncomputable def dn_ends_within : Fn := mkFn 4 [false, false, false, false]
  (sSeq (sIf (tV (eOp (asC (aR 2) (asC (aV (eOp (asC (aV (eC (.tup [(.str "x"), (.str "y")]))) (asC (aV (eC (.int 0))) asN)) oIx)) asN)) oEqX))
    (sRet (eOp (asC (aV (eOp (asC (aR 0) (asC (aR 3) asN)) oAdd)) (asC (aV (eC (.int 20))) asN)) oLe))
    sPass)
    (sRet (eOp (asC (aV (eOp (asC (aR 1) (asC (aR 3) asN)) oAdd)) (asC (aV (eC (.int 20))) asN)) oLe)))
noncomputable def dn_is_plank : Fn := mkFn 11 [false]
  (sSeq (sAsg (eVar 0) (gTup [(gN 1), (gN 2), (gN 3), (gN 4), (gN 5), (gN 6), (gN 7), (gN 8), (gN 9)]))
    (sSeq (sIf (tOr (tV (eOp (asC (aR 1) (asC (aV (eC (.str "board"))) asN)) oNeX)) (tOr (tNot (tV (eCall dn_is_name (asC (aV (eVar 2)) asN)))) (tNot (tV (eCall dn_are_weights (asC (aV (eVar 8)) (asC (aV (eVar 9)) asN)))))))
    (sRet (eC (.bl false)))
    sPass)
    (sSeq (sIf (tOr (tNot (tV (eOp (asC (aR 5) asN) (oIsi .str)))) (tOr (tV (eOp (asC (aR 5) (asC (aV (eC (.tup [(.str "x"), (.str "y")]))) asN)) oNotIn)) (tNot (tV (eOp (asC (aV (eLc (wSeq (eTup (asC (aV (eVar 3)) (asC (aV (eVar 4)) (asC (aV (eVar 7)) asN))))) (gN 10) tYesE (eCall dn_is_within (asC (aV (eVar 10)) (asC (aV (eC (.int 0))) asN))) [10])) asN) oAll)))))
    (sRet (eC (.bl false)))
    sPass)
    (sRet (eAnd (eCall dn_is_within (asC (aV (eVar 6)) (asC (aV (eC (.int 1))) asN))) (eCall dn_ends_within (asC (aV (eVar 3)) (asC (aV (eVar 4)) (asC (aV (eVar 5)) (asC (aV (eVar 6)) asN))))))))))
noncomputable def dn_is_part : Fn := mkFn 1 [false]
  (sSeq (sIf (tNot (tV (eOp (asC (aR 0) asN) (oIsi .tuple))))
    (sRet (eC (.bl false)))
    sPass)
    (sRet (eOr (eAnd (eOp (asC (aV (eOp (asC (aR 0) asN) oLen)) (asC (aV (eC (.int 8))) asN)) oEqX) (eCall dn_is_pole (asC (aV (eVar 0)) asN))) (eAnd (eOp (asC (aV (eOp (asC (aR 0) asN) oLen)) (asC (aV (eC (.int 9))) asN)) oEqX) (eCall dn_is_plank (asC (aV (eVar 0)) asN))))))
noncomputable def dn_is_board : Fn := mkFn 1 [false]
  (sRet (eOp (asC (aV (eOp (asC (aR 0) (asC (aV (eC (.int 0))) asN)) oIx)) (asC (aV (eC (.str "board"))) asN)) oEqX))
noncomputable def dn_bottom_of : Fn := mkFn 1 [false]
  (sSeq (sIf (tV (eCall dn_is_board (asC (aV (eVar 0)) asN)))
    (sRet (eOp (asC (aR 0) (asC (aV (eC (.int 6))) asN)) oIx))
    sPass)
    (sRet (eOp (asC (aR 0) (asC (aV (eC (.int 4))) asN)) oIx)))
noncomputable def dn_top_of : Fn := mkFn 1 [false]
  (sSeq (sIf (tV (eCall dn_is_board (asC (aV (eVar 0)) asN)))
    (sRet (eOp (asC (aV (eOp (asC (aR 0) (asC (aV (eC (.int 6))) asN)) oIx)) (asC (aV (eC (.int 1))) asN)) oAdd))
    sPass)
    (sRet (eOp (asC (aR 0) (asC (aV (eC (.int 5))) asN)) oIx)))
noncomputable def dn_places_of : Fn := mkFn 4 [false]
  (sSeq (sAsg (eTup (asC (aV (eOp (asC (aR 0) (asC (aV (eC (.int 2))) asN)) oIx)) (asC (aV (eOp (asC (aR 0) (asC (aV (eC (.int 3))) asN)) oIx)) asN))) (gTup [(gN 1), (gN 2)]))
    (sSeq (sIf (tNot (tV (eCall dn_is_board (asC (aV (eVar 0)) asN))))
    (sRet (eLst (asC (aV (eTup (asC (aV (eVar 1)) (asC (aV (eVar 2)) asN)))) asN)))
    sPass)
    (sSeq (sIf (tV (eOp (asC (aV (eOp (asC (aR 0) (asC (aV (eC (.int 4))) asN)) oIx)) (asC (aV (eOp (asC (aV (eC (.tup [(.str "x"), (.str "y")]))) (asC (aV (eC (.int 0))) asN)) oIx)) asN)) oEqX))
    (sRet (eLc (wR1 (aV (eOp (asC (aV (eOp (asC (aR 0) (asC (aV (eC (.int 5))) asN)) oIx)) (asC (aV (eC (.int 1))) asN)) oAdd))) (gN 3) tYesE (eTup (asC (aV (eOp (asC (aR 1) (asC (aR 3) asN)) oAdd)) (asC (aV (eVar 2)) asN))) [3]))
    sPass)
    (sRet (eLc (wR1 (aV (eOp (asC (aV (eOp (asC (aR 0) (asC (aV (eC (.int 5))) asN)) oIx)) (asC (aV (eC (.int 1))) asN)) oAdd))) (gN 3) tYesE (eTup (asC (aV (eVar 1)) (asC (aV (eOp (asC (aR 2) (asC (aR 3) asN)) oAdd)) asN))) [3])))))
noncomputable def dn__law_top : Fn := mkFn 1 [false]
  (sRet (eIf (tV (eOp (asC (aV (eOp (asC (aR 0) (asC (aV (eC (.int 0))) asN)) oIx)) (asC (aV (eC (.str "board"))) asN)) oEqX)) (eOp (asC (aV (eOp (asC (aR 0) (asC (aV (eC (.int 6))) asN)) oIx)) (asC (aV (eC (.int 1))) asN)) oAdd) (eOp (asC (aR 0) (asC (aV (eC (.int 5))) asN)) oIx)))
noncomputable def dn__law_places : Fn := mkFn 2 [false]
  (sSeq (sIf (tV (eOp (asC (aV (eOp (asC (aR 0) (asC (aV (eC (.int 0))) asN)) oIx)) (asC (aV (eC (.str "pole"))) asN)) oEqX))
    (sRet (eLst (asC (aV (eTup (asC (aV (eOp (asC (aR 0) (asC (aV (eC (.int 2))) asN)) oIx)) (asC (aV (eOp (asC (aR 0) (asC (aV (eC (.int 3))) asN)) oIx)) asN)))) asN)))
    sPass)
    (sSeq (sIf (tV (eOp (asC (aV (eOp (asC (aR 0) (asC (aV (eC (.int 4))) asN)) oIx)) (asC (aV (eC (.str "x"))) asN)) oEqX))
    (sRet (eLc (wR1 (aV (eOp (asC (aV (eOp (asC (aR 0) (asC (aV (eC (.int 5))) asN)) oIx)) (asC (aV (eC (.int 1))) asN)) oAdd))) (gN 1) tYesE (eTup (asC (aV (eOp (asC (aV (eOp (asC (aR 0) (asC (aV (eC (.int 2))) asN)) oIx)) (asC (aR 1) asN)) oAdd)) (asC (aV (eOp (asC (aR 0) (asC (aV (eC (.int 3))) asN)) oIx)) asN))) [1]))
    sPass)
    (sRet (eLc (wR1 (aV (eOp (asC (aV (eOp (asC (aR 0) (asC (aV (eC (.int 5))) asN)) oIx)) (asC (aV (eC (.int 1))) asN)) oAdd))) (gN 1) tYesE (eTup (asC (aV (eOp (asC (aR 0) (asC (aV (eC (.int 2))) asN)) oIx)) (asC (aV (eOp (asC (aV (eOp (asC (aR 0) (asC (aV (eC (.int 3))) asN)) oIx)) (asC (aR 1) asN)) oAdd)) asN))) [1]))))
noncomputable def dn__law_clash : Fn := mkFn 3 [false, false]
  (sSeq (sIf (tOr (tV (eOp (asC (aV (eCall dn__law_bottom (asC (aV (eVar 0)) asN))) (asC (aV (eCall dn__law_top (asC (aV (eVar 1)) asN))) asN)) oGe)) (tV (eOp (asC (aV (eCall dn__law_bottom (asC (aV (eVar 1)) asN))) (asC (aV (eCall dn__law_top (asC (aV (eVar 0)) asN))) asN)) oGe)))
    (sRet (eC (.bl false)))
    sPass)
    (sRet (eOp (asC (aV (eLc (wSeq (eCall dn__law_places (asC (aV (eVar 0)) asN))) (gN 2) (tV (eOp (asC (aR 2) (asC (aV (eCall dn__law_places (asC (aV (eVar 1)) asN))) asN)) oIn)) (eVar 2) [2])) (asC (aV (eLst asN)) asN)) oNeX)))
noncomputable def dn__law_is_name : Fn := mkFn 2 [false]
  (sRet (eAnd (eChain (aV (eC (.int 0))) (aV (eOp (asC (aR 0) asN) oLen)) (aV (eC (.int 9))) (fun i j => decide (i < j)) (fun i j => decide (i < j))) (eOp (asC (aV (eLc (wSeq (eVar 0)) (gN 1) (tV (eOp (asC (aR 1) (asC (aV (eC (.str "abcdefghijklmnopqrstuvwxyz"))) asN)) oNotIn)) (eVar 1) [1])) (asC (aV (eLst asN)) asN)) oEqX)))
end Sc

set_option linter.all false
namespace L_k12
open PySem Py

noncomputable def dn__law_word : Fn := mkFn 2 [true]
  (sRet (eOp (asM .str (aV (eC (.str ""))) (asC (aV (eLc (wR1 (aV (eOp (asC (aV (eC (.int 1))) (asC (aV (eCall Sc.dn__law_draw (asC (aR 0) (asC (aV (eC (.int 8))) asN)))) asN)) oAdd))) (gN 1) tYesE (eOp (asC (aV (eC (.str "abcdefghijklmnopqrstuvwxyz"))) (asC (aV (eCall Sc.dn__law_draw (asC (aR 0) (asC (aV (eC (.int 26))) asN)))) asN)) oIx) [1])) asN)) oJoin))
noncomputable def dn__law_share : Fn := mkFn 2 [true, false]
  (sSeq (sIf (tV (eOp (asC (aV (eCall Sc.dn__law_draw (asC (aR 0) (asC (aV (eC (.int 2))) asN)))) (asC (aV (eC (.int 0))) asN)) oEqX))
    (sRet (eCall Sc.dn__law_low (asC (aV (eOp (asC (aR 1) (asC (aV (eCall Sc.dn__law_draw (asC (aR 0) (asC (aV (eC (.int 9))) asN)))) asN)) oAdd)) (asC (aV (eOp (asC (aV (eC (.int 1))) (asC (aV (eCall Sc.dn__law_draw (asC (aR 0) (asC (aV (eC (.int 4))) asN)))) asN)) oAdd)) asN))))
    sPass)
    (sRet (eCall Sc.dn__law_low (asC (aV (eOp (asC (aR 1) (asC (aV (eCall Sc.dn__law_draw (asC (aR 0) (asC (aV (eOp (asC (aV (eOp (asC (aV (eC (.int 10))) (asC (aV (eC (.int 12))) asN)) oPow)) (asC (aV (eC (.int 1))) asN)) oSub)) asN)))) asN)) oAdd)) (asC (aV (eOp (asC (aV (eC (.int 1))) (asC (aV (eCall Sc.dn__law_draw (asC (aR 0) (asC (aV (eOp (asC (aV (eOp (asC (aV (eC (.int 10))) (asC (aV (eC (.int 12))) asN)) oPow)) (asC (aV (eC (.int 1))) asN)) oSub)) asN)))) asN)) oAdd)) asN)))))
noncomputable def dn__law_part : Fn := mkFn 8 [true]
  (sSeq (sAsg (eCall dn__law_word (asC (aR 0) asN)) (gN 1))
    (sSeq (sAsg (eTup (asC (aV (eCall dn__law_share (asC (aR 0) (asC (aV (eC (.int 1))) asN)))) (asC (aV (eCall dn__law_share (asC (aR 0) (asC (aV (eC (.int 0))) asN)))) asN))) (gN 2))
    (sSeq (sIf (tV (eOp (asC (aV (eCall Sc.dn__law_draw (asC (aR 0) (asC (aV (eC (.int 2))) asN)))) (asC (aV (eC (.int 0))) asN)) oEqX))
    (sSeq (sAsg (eCall Sc.dn__law_draw (asC (aR 0) (asC (aV (eC (.int 20))) asN))) (gN 7))
    (sRet (eOp (asC (aV (eTup (asC (aV (eC (.str "pole"))) (asC (aV (eVar 1)) (asC (aV (eCall Sc.dn__law_draw (asC (aR 0) (asC (aV (eC (.int 21))) asN)))) (asC (aV (eCall Sc.dn__law_draw (asC (aR 0) (asC (aV (eC (.int 21))) asN)))) (asC (aV (eVar 7)) (asC (aV (eOp (asC (aV (eOp (asC (aR 7) (asC (aV (eC (.int 1))) asN)) oAdd)) (asC (aV (eCall Sc.dn__law_draw (asC (aR 0) (asC (aV (eOp (asC (aV (eC (.int 20))) (asC (aR 7) asN)) oSub)) asN)))) asN)) oAdd)) asN)))))))) (asC (aR 2) asN)) oAdd)))
    sPass)
    (sSeq (sAsg (eOp (asC (aV (eC (.int 1))) (asC (aV (eCall Sc.dn__law_draw (asC (aR 0) (asC (aV (eC (.int 20))) asN)))) asN)) oAdd) (gN 3))
    (sSeq (sAsg (eCall Sc.dn__law_draw (asC (aR 0) (asC (aV (eOp (asC (aV (eC (.int 21))) (asC (aR 3) asN)) oSub)) asN))) (gN 4))
    (sSeq (sAsg (eCall Sc.dn__law_draw (asC (aR 0) (asC (aV (eC (.int 21))) asN))) (gN 5))
    (sSeq (sAsg (eCall Sc.dn__law_draw (asC (aR 0) (asC (aV (eC (.int 21))) asN))) (gN 6))
    (sSeq (sIf (tV (eOp (asC (aV (eCall Sc.dn__law_draw (asC (aR 0) (asC (aV (eC (.int 2))) asN)))) (asC (aV (eC (.int 0))) asN)) oEqX))
    (sRet (eOp (asC (aV (eTup (asC (aV (eC (.str "board"))) (asC (aV (eVar 1)) (asC (aV (eVar 4)) (asC (aV (eVar 5)) (asC (aV (eC (.str "x"))) (asC (aV (eVar 3)) (asC (aV (eVar 6)) asN))))))))) (asC (aR 2) asN)) oAdd))
    sPass)
    (sRet (eOp (asC (aV (eTup (asC (aV (eC (.str "board"))) (asC (aV (eVar 1)) (asC (aV (eVar 5)) (asC (aV (eVar 4)) (asC (aV (eC (.str "y"))) (asC (aV (eVar 3)) (asC (aV (eVar 6)) asN))))))))) (asC (aR 2) asN)) oAdd))))))))))
noncomputable def dn__law_spoiled : Fn := mkFn 5 [true, false]
  (sSeq (sAsg (eLst (asC (aV (eOp (asC (aV (eC (.int 1))) asN) oNeg)) (asC (aV (eC (.int 21))) (asC (aV (eC (.int 20))) (asC (aV (eC (.int 0))) (asC (aV (eC (.bl true))) (asC (aV (eC .non)) (asC (aV (eC (.str ""))) (asC (aV (eC (.str "x"))) (asC (aV (eC (.str "y"))) (asC (aV (eC (.str "z"))) (asC (aV (eC (.str "pole"))) (asC (aV (eC (.str "board"))) (asC (aV (eC (.str "A"))) (asC (aV (eC (.str "aaaaaaaaa"))) (asC (aV (eTup (asC (aV (eC (.int 0))) (asC (aV (eC (.int 1))) asN)))) (asC (aV (eTup (asC (aV (eC (.int 2))) (asC (aV (eC (.int 4))) asN)))) (asC (aV (eTup (asC (aV (eC (.int 1))) (asC (aV (eC (.int 0))) asN)))) asN)))))))))))))))))) (gN 2))
    (sSeq (sAsg (eOp (asC (aR 2) (asC (aV (eLst (asC (aV (eTup (asC (aV (eOp (asC (aV (eC (.int 1))) asN) oNeg)) (asC (aV (eC (.int 2))) asN)))) (asC (aV (eTup (asC (aV (eC (.int 1))) (asC (aV (eC (.int 2))) asN)))) (asC (aV (eLst (asC (aV (eC (.int 1))) (asC (aV (eC (.int 2))) asN)))) (asC (aV (eTup (asC (aV (eC (.bl true))) (asC (aV (eC (.int 2))) asN)))) (asC (aV (eTup (asC (aV (eC (.int 1))) (asC (aV (eC (.int 2))) (asC (aV (eC (.int 3))) asN))))) (asC (aV (eC (.str "3"))) (asC (aV (eLst (asC (aV (eC (.str "a"))) asN))) (asC (aV eNewK) asN)))))))))) asN)) oAdd) (gN 2))
    (sSeq (sAsg (eCall Sc.dn__law_draw (asC (aR 0) (asC (aV (eC (.int 6))) asN))) (gN 3))
    (sSeq (sAsg (eCall Sc.dn__law_draw (asC (aR 0) (asC (aV (eOp (asC (aR 1) asN) oLen)) asN))) (gN 4))
    (sSeq (sIf (tV (eOp (asC (aR 3) (asC (aV (eC (.int 3))) asN)) oLt))
    (sRet (eOp (asC (aV (eOp (asC (aV (eSl (aR 1) oaN (oaS (aR 4)) oSlice)) (asC (aV (eTup (asC (aV (eOp (asC (aR 2) (asC (aV (eCall Sc.dn__law_draw (asC (aR 0) (asC (aV (eOp (asC (aR 2) asN) oLen)) asN)))) asN)) oIx)) asN))) asN)) oAdd)) (asC (aV (eSl (aR 1) (oaS (aV (eOp (asC (aR 4) (asC (aV (eC (.int 1))) asN)) oAdd))) oaN oSlice)) asN)) oAdd))
    sPass)
    (sSeq (sIf (tV (eOp (asC (aR 3) (asC (aV (eC (.int 3))) asN)) oEqX))
    (sRet (eOp (asC (aV (eLst (asC (aV (eOp (asC (aR 1) asN) oList)) (asC (aV (eSl (aR 1) oaN (oaS (aV (eOp (asC (aV (eC (.int 1))) asN) oNeg))) oSlice)) (asC (aV (eOp (asC (aR 1) (asC (aV (eTup (asC (aV (eTup (asC (aV (eC (.int 1))) (asC (aV (eC (.int 1))) asN)))) asN))) asN)) oAdd)) (asC (aV (eTup asN)) (asC (aV (eC .non)) (asC (aV (eOp (asC (aR 1) (asC (aV (eC (.int 1))) asN)) oIx)) asN)))))))) (asC (aV (eCall Sc.dn__law_draw (asC (aR 0) (asC (aV (eC (.int 6))) asN)))) asN)) oIx))
    sPass)
    (sRet (eMov 1))))))))
noncomputable def dn__law_whole : Fn := mkFn 3 [false, false, false]
  (sRet (eAnd (eOp (asC (aR 0) asN) (oIsi .int)) (eAnd (eNot (eOp (asC (aR 0) asN) (oIsi .bool))) (eChain (aR 1) (aR 0) (aR 2) (fun i j => decide (i ≤ j)) (fun i j => decide (i ≤ j))))))
noncomputable def dn__law_is_share : Fn := mkFn 2 [false, false]
  (sSeq (sIf (tOr (tNot (tV (eOp (asC (aR 0) asN) (oIsi .tuple)))) (tOr (tV (eOp (asC (aV (eOp (asC (aR 0) asN) oLen)) (asC (aV (eC (.int 2))) asN)) oNeX)) (tNot (tV (eCall dn__law_whole (asC (aV (eOp (asC (aR 0) (asC (aV (eC (.int 0))) asN)) oIx)) (asC (aV (eVar 1)) (asC (aV (eOp (asC (aV (eC (.int 10))) (asC (aV (eC (.int 13))) asN)) oPow)) asN))))))))
    (sRet (eC (.bl false)))
    sPass)
    (sRet (eAnd (eCall dn__law_whole (asC (aV (eOp (asC (aR 0) (asC (aV (eC (.int 1))) asN)) oIx)) (asC (aV (eC (.int 1))) (asC (aV (eOp (asC (aV (eC (.int 10))) (asC (aV (eC (.int 13))) asN)) oPow)) asN)))) (eOp (asC (aV (eCall Sc.dn__law_low (asC (aV (eOp (asC (aR 0) (asC (aV (eC (.int 0))) asN)) oIx)) (asC (aV (eOp (asC (aR 0) (asC (aV (eC (.int 1))) asN)) oIx)) asN)))) (asC (aR 0) asN)) oEqX))))
noncomputable def dn__law_is_name : Fn := mkFn 2 [false]
  (sSeq (sIf (tOr (tNot (tV (eOp (asC (aR 0) asN) (oIsi .str)))) (tOr (tV (eOp (asC (aV (eOp (asC (aR 0) asN) oLen)) (asC (aV (eC (.int 1))) asN)) oLt)) (tV (eOp (asC (aV (eOp (asC (aR 0) asN) oLen)) (asC (aV (eC (.int 8))) asN)) oGt))))
    (sRet (eC (.bl false)))
    sPass)
    (sRet (eOp (asC (aV (eLc (wSeq (eVar 0)) (gN 1) (tV (eOp (asC (aR 1) (asC (aV (eC (.str "abcdefghijklmnopqrstuvwxyz"))) asN)) oNotIn)) (eVar 1) [1])) (asC (aV (eLst asN)) asN)) oEqX)))
noncomputable def dn__law_is_part : Fn := mkFn 2 [false]
  (sSeq (sIf (tOr (tNot (tV (eOp (asC (aR 0) asN) (oIsi .tuple)))) (tOr (tV (eOp (asC (aV (eOp (asC (aR 0) asN) oLen)) (asC (aV (eTup (asC (aV (eC (.int 8))) (asC (aV (eC (.int 9))) asN)))) asN)) oNotIn)) (tNot (tV (eCall dn__law_is_name (asC (aV (eOp (asC (aR 0) (asC (aV (eC (.int 1))) asN)) oIx)) asN))))))
    (sRet (eC (.bl false)))
    sPass)
    (sSeq (sIf (tOr (tNot (tV (eCall dn__law_is_share (asC (aV (eOp (asC (aR 0) (asC (aV (eOp (asC (aV (eC (.int 2))) asN) oNeg)) asN)) oIx)) (asC (aV (eC (.int 1))) asN))))) (tNot (tV (eCall dn__law_is_share (asC (aV (eOp (asC (aR 0) (asC (aV (eOp (asC (aV (eC (.int 1))) asN) oNeg)) asN)) oIx)) (asC (aV (eC (.int 0))) asN))))))
    (sRet (eC (.bl false)))
    sPass)
    (sSeq (sIf (tV (eOp (asC (aV (eOp (asC (aR 0) asN) oLen)) (asC (aV (eC (.int 8))) asN)) oEqX))
    (sSeq (sIf (tOr (tV (eOp (asC (aV (eOp (asC (aR 0) (asC (aV (eC (.int 0))) asN)) oIx)) (asC (aV (eC (.str "pole"))) asN)) oNeX)) (tV (eOp (asC (aV (eLc (wSeq (eSl (aR 0) (oaS (aV (eC (.int 2)))) (oaS (aV (eC (.int 6)))) oSlice)) (gN 1) (tNot (tV (eCall dn__law_whole (asC (aV (eVar 1)) (asC (aV (eC (.int 0))) (asC (aV (eC (.int 20))) asN)))))) (eVar 1) [1])) (asC (aV (eLst asN)) asN)) oNeX)))
    (sRet (eC (.bl false)))
    sPass)
    (sRet (eOp (asC (aV (eOp (asC (aR 0) (asC (aV (eC (.int 4))) asN)) oIx)) (asC (aV (eOp (asC (aR 0) (asC (aV (eC (.int 5))) asN)) oIx)) asN)) oLt)))
    sPass)
    (sSeq (sIf (tOr (tV (eOp (asC (aV (eOp (asC (aR 0) (asC (aV (eC (.int 0))) asN)) oIx)) (asC (aV (eC (.str "board"))) asN)) oNeX)) (tOr (tNot (tV (eCall dn__law_whole (asC (aV (eOp (asC (aR 0) (asC (aV (eC (.int 5))) asN)) oIx)) (asC (aV (eC (.int 1))) (asC (aV (eC (.int 20))) asN)))))) (tNot (tV (eCall dn__law_whole (asC (aV (eOp (asC (aR 0) (asC (aV (eC (.int 6))) asN)) oIx)) (asC (aV (eC (.int 0))) (asC (aV (eC (.int 20))) asN))))))))
    (sRet (eC (.bl false)))
    sPass)
    (sSeq (sIf (tOr (tNot (tV (eCall dn__law_whole (asC (aV (eOp (asC (aR 0) (asC (aV (eC (.int 2))) asN)) oIx)) (asC (aV (eC (.int 0))) (asC (aV (eC (.int 20))) asN)))))) (tNot (tV (eCall dn__law_whole (asC (aV (eOp (asC (aR 0) (asC (aV (eC (.int 3))) asN)) oIx)) (asC (aV (eC (.int 0))) (asC (aV (eC (.int 20))) asN)))))))
    (sRet (eC (.bl false)))
    sPass)
    (sRet (eOr (eAnd (eOp (asC (aV (eOp (asC (aR 0) (asC (aV (eC (.int 4))) asN)) oIx)) (asC (aV (eC (.str "x"))) asN)) oEqX) (eOp (asC (aV (eOp (asC (aV (eOp (asC (aR 0) (asC (aV (eC (.int 2))) asN)) oIx)) (asC (aV (eOp (asC (aR 0) (asC (aV (eC (.int 5))) asN)) oIx)) asN)) oAdd)) (asC (aV (eC (.int 21))) asN)) oLt)) (eAnd (eOp (asC (aV (eOp (asC (aR 0) (asC (aV (eC (.int 4))) asN)) oIx)) (asC (aV (eC (.str "y"))) asN)) oEqX) (eOp (asC (aV (eOp (asC (aV (eOp (asC (aR 0) (asC (aV (eC (.int 3))) asN)) oIx)) (asC (aV (eOp (asC (aR 0) (asC (aV (eC (.int 5))) asN)) oIx)) asN)) oAdd)) (asC (aV (eC (.int 21))) asN)) oLt)))))))))
noncomputable def dn_law : Fn := mkFn 6 [false]
  (sSeq (sForI (wSeq (eSl (aR 0) oaN (oaS (aV (eC (.int 16)))) oSlice)) (gN 1)
    (sSeq (sAsg (eCall Sc.dn__law_pot (asC (aV (eVar 1)) asN)) (gN 2))
    (sSeq (sAsg (eCall dn__law_spoiled (asC (aR 2) (asC (aV (eCall dn__law_part (asC (aR 2) asN))) asN))) (gN 3))
    (sSeq (sAsg (eCall Sc.dn_is_part (asC (aV (eVar 3)) asN)) (gN 4))
    (sSeq (sIf (tOr (tNot (tV (eOp (asC (aR 4) asN) (oIsi .bool)))) (tV (eOp (asC (aR 4) (asC (aV (eCall dn__law_is_part (asC (aV (eVar 3)) asN))) asN)) oNeX)))
    (sRet (eC (.bl false)))
    sPass)
    (sIf (tV (eVar 4))
    (sSeq (sIf (tOr (tV (eOp (asC (aV (eCall Sc.dn_bottom_of (asC (aV (eVar 3)) asN))) (asC (aV (eCall Sc.dn__law_bottom (asC (aV (eVar 3)) asN))) asN)) oNeX)) (tV (eOp (asC (aV (eCall Sc.dn_top_of (asC (aV (eVar 3)) asN))) (asC (aV (eCall Sc.dn__law_top (asC (aV (eVar 3)) asN))) asN)) oNeX)))
    (sRet (eC (.bl false)))
    sPass)
    (sSeq (sAsg (eCall Sc.dn_places_of (asC (aV (eVar 3)) asN)) (gN 5))
    (sSeq (sIf (tOr (tV (eOp (asC (aR 5) (asC (aV (eCall Sc.dn__law_places (asC (aV (eVar 3)) asN))) asN)) oNeX)) (tNot (tV (eOp (asC (aR 5) asN) (oIsi .list)))))
    (sRet (eC (.bl false)))
    sPass)
    (sSeq (sAppend 5 (eTup (asC (aV (eC (.int 0))) (asC (aV (eC (.int 0))) asN))))
    (sIf (tV (eOp (asC (aV (eCall Sc.dn_places_of (asC (aV (eVar 3)) asN))) (asC (aV (eCall Sc.dn__law_places (asC (aV (eVar 3)) asN))) asN)) oNeX))
    (sRet (eC (.bl false)))
    sPass)))))
    sPass))))))
    (sRet (eAnd (eOp (asC (aV (eCall Sc.dn_is_part (asC (aV (eTup asN)) asN))) (asC (aV (eC (.bl false))) asN)) oIs) (eOp (asC (aV (eCall Sc.dn_is_part (asC (aV (eTup (asC (aV (eC (.str "pole"))) (asC (aV (eC (.str "a"))) (asC (aV (eC (.int 0))) (asC (aV (eC (.int 0))) (asC (aV (eC (.int 0))) (asC (aV (eC (.int 20))) (asC (aV (eTup (asC (aV (eC (.int 1))) (asC (aV (eC (.int 1))) asN)))) (asC (aV (eTup (asC (aV (eC (.int 0))) (asC (aV (eC (.int 1))) asN)))) asN)))))))))) asN))) (asC (aV (eC (.bl true))) asN)) oIs))))
end L_k12

set_option Elab.async false
set_option linter.all false
set_option maxRecDepth 100000
set_option maxHeartbeats 4000000
namespace L_k12
open PySem PySem.Spec PyProof.Rows L2 Py
def top (i : Nat) : Stmt := PySem.Challenge.pw_scaffold_k12_parts_judged.main.body.getD i (.Pass ⟨0, 0, 0, 0⟩)
/-- what the top has written -/
structure Tx (K : PySem.W.Frag) (mg : Str → Option Value) (cl : Str → Option Addr) : Prop where
  n_abs : mg "abs" = none
  n_all : mg "all" = none
  n_bool : mg "bool" = none
  n_divmod : mg "divmod" = none
  n_int : mg "int" = none
  n_isinstance : mg "isinstance" = none
  n_len : mg "len" = none
  n_list : mg "list" = none
  n_max : mg "max" = none
  n_range : mg "range" = none
  n_str : mg "str" = none
  n_tuple : mg "tuple" = none
  k_BOARD : Con K mg "BOARD" (.str "board")
  k_LETTERS : Con K mg "LETTERS" (.str "abcdefghijklmnopqrstuvwxyz")
  k_MOST : Con K mg "MOST" (.int 20)
  k_MOST_LETTERS : Con K mg "MOST_LETTERS" (.int 8)
  k_NOUGHT : Con K mg "NOUGHT" (.tup [(.int 0), (.int 1)])
  k_POLE : Con K mg "POLE" (.str "pole")
  k_WAYS : Con K mg "WAYS" (.tup [(.str "x"), (.str "y")])
section
variable {P : Program} {w : World} {K : PySem.W.Frag} {mg : Str → Option Value} {base : Heap} {cl : Str → Option Addr}
theorem sc_is_whole : FnScope ["thing"] ["thing"] (defScope (top 2)) := ⟨rfl, rfl, rfl, by decide +kernel, rfl, by decide +kernel, by decide +kernel⟩
theorem ok_is_whole {f : Addr} {fd : FuncData} (T : Tx K mg cl) (F : Fun K "is_whole" "is_whole" (top 2) f fd) (gx : mg "is_whole" = some (.ref f)) (bd : Binds K fd ["thing"] []) : Means P w K mg base cl 1 "is_whole" ["thing"] Sc.dn_is_whole :=
  means_mk (k := 0) (N := ["thing"]) (mask := [false]) F sc_is_whole rfl gx bd fun cdv A outer s H E hr =>
    have tk : Takes (cxOf (L2.CX P w) P w K mg base ["thing"] "is_whole" (defScope (top 2)) f cdv A outer s H E) (fun c d _ H => E c d H) := takes_of rfl rfl rfl rfl
    have po := passes_of (X := cxOf (L2.CX P w) P w K mg base ["thing"] "is_whole" (defScope (top 2)) f cdv A outer s H E) rfl
    (pssd_one (psd_ret (pd_and (pd_isi .int rfl T.n_isinstance (po_r 0 (pv 0)) (pe_bltn rfl T.n_int (by decide +kernel) rfl)) (pd_one (pd_not (pd_isi .bool rfl T.n_isinstance (po_r 0 (pv 0)) (pe_bltn rfl T.n_bool (by decide +kernel) rfl)))))))
theorem sc_common_part : FnScope ["one", "other", "left", "right"] ["one", "other"] (defScope (top 3)) := ⟨rfl, rfl, rfl, by decide +kernel, rfl, by decide +kernel, by decide +kernel⟩
theorem ok_common_part {f : Addr} {fd : FuncData} (T : Tx K mg cl) (F : Fun K "common_part" "common_part" (top 3) f fd) (gx : mg "common_part" = some (.ref f)) (bd : Binds K fd ["one", "other"] []) : Means P w K mg base cl 1 "common_part" ["one", "other"] Sc.dn_common_part :=
  means_mk (k := 0) (N := ["one", "other", "left", "right"]) (mask := [false, false]) F sc_common_part rfl gx bd fun cdv A outer s H E hr =>
    have tk : Takes (cxOf (L2.CX P w) P w K mg base ["one", "other", "left", "right"] "common_part" (defScope (top 3)) f cdv A outer s H E) (fun c d _ H => E c d H) := takes_of rfl rfl rfl rfl
    have po := passes_of (X := cxOf (L2.CX P w) P w K mg base ["one", "other", "left", "right"] "common_part" (defScope (top 3)) f cdv A outer s H E) rfl
    (pssd_cons (psd_par (i := 2) (j := 3) rfl sc_common_part.nd rfl rfl (by decide) rfl rfl (pas_cons (po_v (pd_callB call_abs od_abs rfl T.n_abs (by decide +kernel) (pas_cons (po_r 0 (pv 0)) pas_nil))) (pas_cons (po_v (pd_callB call_abs od_abs rfl T.n_abs (by decide +kernel) (pas_cons (po_r 1 (pv 1)) pas_nil))) pas_nil)) rfl rfl (by rfl))
    (pssd_cons (psd_while po (ptd_cmp op_gt od_gt (po_r 3 (pv 3)) (po_v pd_int) (nomark _))
    (pssd_one (psd_par (i := 2) (j := 3) rfl sc_common_part.nd rfl rfl (by decide) rfl rfl (pas_cons (po_v (pd_var 3 (pv 3))) (pas_cons (po_v (pd_bin op_modN od_mod (po_r 2 (pv 2)) (po_r 3 (pv 3)))) pas_nil)) rfl rfl (by rfl))))
    (pssd_one (psd_ret (pd_mov 2 (pv 2))))))
theorem sc_is_fraction : FnScope ["thing"] ["thing"] (defScope (top 4)) := ⟨rfl, rfl, rfl, by decide +kernel, rfl, by decide +kernel, by decide +kernel⟩
theorem ok_is_fraction {f : Addr} {fd : FuncData} (T : Tx K mg cl) (F : Fun K "is_fraction" "is_fraction" (top 4) f fd) (gx : mg "is_fraction" = some (.ref f)) (bd : Binds K fd ["thing"] []) (G_is_whole : Means P w K mg base cl 1 "is_whole" ["thing"] Sc.dn_is_whole) (G_common_part : Means P w K mg base cl 1 "common_part" ["one", "other"] Sc.dn_common_part) : Means P w K mg base cl 2 "is_fraction" ["thing"] Sc.dn_is_fraction :=
  means_mk (k := 1) (N := ["thing"]) (mask := [false]) F sc_is_fraction rfl gx bd fun cdv A outer s H E hr =>
    have tk : Takes (cxOf (L2.CX P w) P w K mg base ["thing"] "is_fraction" (defScope (top 4)) f cdv A outer s H E) (fun c d _ H => E c d H) := takes_of rfl rfl rfl rfl
    have po := passes_of (X := cxOf (L2.CX P w) P w K mg base ["thing"] "is_fraction" (defScope (top 4)) f cdv A outer s H E) rfl
    (pssd_cons (psd_if (ptd_of (pwd_or (ptd_not (ptd_val (pd_isi .tuple rfl T.n_isinstance (po_r 0 (pv 0)) (pe_bltn rfl T.n_tuple (by decide +kernel) rfl)))) (pwd_or (ptd_cmp (op_neX hr.units) od_neX (po_v (pd_callB call_len od_len rfl T.n_len (by decide +kernel) (pas_cons (po_r 0 (pv 0)) pas_nil))) (po_v pd_int) (nomark _)) (pwd_or (ptd_not (ptd_val (pd_call G_is_whole (hr.mono (by decide)) rfl tk (pas_cons (po_v (pd_ix ix_X od_ix (po_r 0 (pv 0)) (po_v pd_int) (fun _ _ => rfl))) pas_nil)))) (pwd_or1 (ptd_not (ptd_val (pd_call G_is_whole (hr.mono (by decide)) rfl tk (pas_cons (po_v (pd_ix ix_X od_ix (po_r 0 (pv 0)) (po_v pd_int) (fun _ _ => rfl))) pas_nil)))))))))
    (pssd_one (psd_ret pd_bl))
    pssd_nil)
    (pssd_one (psd_ret (pd_and (pd_cmp op_gt od_gt (po_v (pd_ix ix_X od_ix (po_r 0 (pv 0)) (po_v pd_int) (fun _ _ => rfl))) (po_v pd_int) (nomark _)) (pd_one (pd_cmp (op_eqX hr.units) od_eqX (po_v (pd_call G_common_part (hr.mono (by decide)) rfl tk (pas_cons (po_v (pd_ix ix_X od_ix (po_r 0 (pv 0)) (po_v pd_int) (fun _ _ => rfl))) (pas_cons (po_v (pd_ix ix_X od_ix (po_r 0 (pv 0)) (po_v pd_int) (fun _ _ => rfl))) pas_nil)))) (po_v pd_int) (nomark _)))))))
theorem sc_is_less : FnScope ["one", "other"] ["one", "other"] (defScope (top 5)) := ⟨rfl, rfl, rfl, by decide +kernel, rfl, by decide +kernel, by decide +kernel⟩
theorem ok_is_less {f : Addr} {fd : FuncData} (T : Tx K mg cl) (F : Fun K "is_less" "is_less" (top 5) f fd) (gx : mg "is_less" = some (.ref f)) (bd : Binds K fd ["one", "other"] []) : Means P w K mg base cl 1 "is_less" ["one", "other"] Sc.dn_is_less :=
  means_mk (k := 0) (N := ["one", "other"]) (mask := [false, false]) F sc_is_less rfl gx bd fun cdv A outer s H E hr =>
    have tk : Takes (cxOf (L2.CX P w) P w K mg base ["one", "other"] "is_less" (defScope (top 5)) f cdv A outer s H E) (fun c d _ H => E c d H) := takes_of rfl rfl rfl rfl
    have po := passes_of (X := cxOf (L2.CX P w) P w K mg base ["one", "other"] "is_less" (defScope (top 5)) f cdv A outer s H E) rfl
    (pssd_one (psd_ret (pd_cmp op_lt od_lt (po_v (pd_bin op_mulW od_mul (po_v (pd_ix ix_X od_ix (po_r 0 (pv 0)) (po_v pd_int) (fun _ _ => rfl))) (po_v (pd_ix ix_X od_ix (po_r 1 (pv 1)) (po_v pd_int) (fun _ _ => rfl))))) (po_v (pd_bin op_mulW od_mul (po_v (pd_ix ix_X od_ix (po_r 1 (pv 1)) (po_v pd_int) (fun _ _ => rfl))) (po_v (pd_ix ix_X od_ix (po_r 0 (pv 0)) (po_v pd_int) (fun _ _ => rfl))))) (nomark _))))
theorem sc_is_name : FnScope ["thing", "sign"] ["thing"] (defScope (top 13)) := ⟨rfl, rfl, rfl, by decide +kernel, rfl, by decide +kernel, by decide +kernel⟩
theorem ok_is_name {f : Addr} {fd : FuncData} (T : Tx K mg cl) (F : Fun K "is_name" "is_name" (top 13) f fd) (gx : mg "is_name" = some (.ref f)) (bd : Binds K fd ["thing"] []) : Means P w K mg base cl 1 "is_name" ["thing"] Sc.dn_is_name :=
  means_mk (k := 0) (N := ["thing", "sign"]) (mask := [false]) F sc_is_name rfl gx bd fun cdv A outer s H E hr =>
    have tk : Takes (cxOf (L2.CX P w) P w K mg base ["thing", "sign"] "is_name" (defScope (top 13)) f cdv A outer s H E) (fun c d _ H => E c d H) := takes_of rfl rfl rfl rfl
    have po := passes_of (X := cxOf (L2.CX P w) P w K mg base ["thing", "sign"] "is_name" (defScope (top 13)) f cdv A outer s H E) rfl
    (pssd_cons (psd_if (ptd_of (pwd_or (ptd_not (ptd_val (pd_isi .str rfl T.n_isinstance (po_r 0 (pv 0)) (pe_bltn rfl T.n_str (by decide +kernel) rfl)))) (pwd_or1 (ptd_not (ptd_chain op_le op_le (po_v pd_int) (po_v (pd_callB call_len od_len rfl T.n_len (by decide +kernel) (pas_cons (po_r 0 (pv 0)) pas_nil))) (po_v (pd_con rfl T.k_MOST_LETTERS)))))))
    (pssd_one (psd_ret pd_bl))
    pssd_nil)
    (pssd_one (psd_ret (pd_callB (cr_all rfl) od_all rfl T.n_all (by decide +kernel) (pas_cons (po_v (pd_lc (own := [("sign", 1)]) rfl sc_is_name.nd (pwk_seq (pd_var 0 (pv 0))) (blkOk_by (by kernel_rfl)) (fun _ _ _ _ _ => (pgv_name (i := 1) sc_is_name.nd rfl (by first | exact Or.inl rfl | exact Or.inr rfl) (by decide) (by first | exact Or.inl rfl | exact Or.inr rfl))) (fun _ _ _ _ _ => ptsd_nil) (fun _ _ _ _ _ => (pd_cmp (op_inX hr.units1) od_in (po_r 1 (pv 1)) (po_v (pd_con rfl T.k_LETTERS)) (by with_unfolding_all rfl))) (by intro _ _ h; first | (cases h; done) | (cases h; decide)))) pas_nil)))))
theorem sc_is_within : FnScope ["thing", "least"] ["thing", "least"] (defScope (top 14)) := ⟨rfl, rfl, rfl, by decide +kernel, rfl, by decide +kernel, by decide +kernel⟩
theorem ok_is_within {f : Addr} {fd : FuncData} (T : Tx K mg cl) (F : Fun K "is_within" "is_within" (top 14) f fd) (gx : mg "is_within" = some (.ref f)) (bd : Binds K fd ["thing", "least"] []) (G_is_whole : Means P w K mg base cl 1 "is_whole" ["thing"] Sc.dn_is_whole) : Means P w K mg base cl 2 "is_within" ["thing", "least"] Sc.dn_is_within :=
  means_mk (k := 1) (N := ["thing", "least"]) (mask := [false, false]) F sc_is_within rfl gx bd fun cdv A outer s H E hr =>
    have tk : Takes (cxOf (L2.CX P w) P w K mg base ["thing", "least"] "is_within" (defScope (top 14)) f cdv A outer s H E) (fun c d _ H => E c d H) := takes_of rfl rfl rfl rfl
    have po := passes_of (X := cxOf (L2.CX P w) P w K mg base ["thing", "least"] "is_within" (defScope (top 14)) f cdv A outer s H E) rfl
    (pssd_one (psd_ret (pd_and (pd_call G_is_whole (hr.mono (by decide)) rfl tk (pas_cons (po_v (pd_var 0 (pv 0))) pas_nil)) (pd_one (pd_chain op_le op_le (po_r 1 (pv 1)) (po_r 0 (pv 0)) (po_v (pd_con rfl T.k_MOST)))))))
theorem sc_are_weights : FnScope ["weight", "hold"] ["weight", "hold"] (defScope (top 15)) := ⟨rfl, rfl, rfl, by decide +kernel, rfl, by decide +kernel, by decide +kernel⟩
theorem ok_are_weights {f : Addr} {fd : FuncData} (T : Tx K mg cl) (F : Fun K "are_weights" "are_weights" (top 15) f fd) (gx : mg "are_weights" = some (.ref f)) (bd : Binds K fd ["weight", "hold"] []) (G_is_fraction : Means P w K mg base cl 2 "is_fraction" ["thing"] Sc.dn_is_fraction) (G_is_less : Means P w K mg base cl 1 "is_less" ["one", "other"] Sc.dn_is_less) : Means P w K mg base cl 3 "are_weights" ["weight", "hold"] Sc.dn_are_weights :=
  means_mk (k := 2) (N := ["weight", "hold"]) (mask := [false, false]) F sc_are_weights rfl gx bd fun cdv A outer s H E hr =>
    have tk : Takes (cxOf (L2.CX P w) P w K mg base ["weight", "hold"] "are_weights" (defScope (top 15)) f cdv A outer s H E) (fun c d _ H => E c d H) := takes_of rfl rfl rfl rfl
    have po := passes_of (X := cxOf (L2.CX P w) P w K mg base ["weight", "hold"] "are_weights" (defScope (top 15)) f cdv A outer s H E) rfl
    (pssd_cons (psd_if (ptd_of (pwd_or (ptd_not (ptd_val (pd_call G_is_fraction (hr.mono (by decide)) rfl tk (pas_cons (po_v (pd_var 0 (pv 0))) pas_nil)))) (pwd_or1 (ptd_not (ptd_val (pd_call G_is_fraction (hr.mono (by decide)) rfl tk (pas_cons (po_v (pd_var 1 (pv 1))) pas_nil)))))))
    (pssd_one (psd_ret pd_bl))
    pssd_nil)
    (pssd_one (psd_ret (pd_and (pd_call G_is_less (hr.mono (by decide)) rfl tk (pas_cons (po_v (pd_con rfl T.k_NOUGHT)) (pas_cons (po_v (pd_var 0 (pv 0))) pas_nil))) (pd_one (pd_not (pd_call G_is_less (hr.mono (by decide)) rfl tk (pas_cons (po_v (pd_var 1 (pv 1))) (pas_cons (po_v (pd_con rfl T.k_NOUGHT)) pas_nil)))))))))
theorem sc_is_pole : FnScope ["thing", "sort", "name", "x", "y", "low", "high", "weight", "hold", "one"] ["thing"] (defScope (top 16)) := ⟨rfl, rfl, rfl, by decide +kernel, rfl, by decide +kernel, by decide +kernel⟩
theorem ok_is_pole {f : Addr} {fd : FuncData} (T : Tx K mg cl) (F : Fun K "is_pole" "is_pole" (top 16) f fd) (gx : mg "is_pole" = some (.ref f)) (bd : Binds K fd ["thing"] []) (G_is_name : Means P w K mg base cl 1 "is_name" ["thing"] Sc.dn_is_name) (G_are_weights : Means P w K mg base cl 3 "are_weights" ["weight", "hold"] Sc.dn_are_weights) (G_is_within : Means P w K mg base cl 2 "is_within" ["thing", "least"] Sc.dn_is_within) : Means P w K mg base cl 4 "is_pole" ["thing"] Sc.dn_is_pole :=
  means_mk (k := 3) (N := ["thing", "sort", "name", "x", "y", "low", "high", "weight", "hold", "one"]) (mask := [false]) F sc_is_pole rfl gx bd fun cdv A outer s H E hr =>
    have tk : Takes (cxOf (L2.CX P w) P w K mg base ["thing", "sort", "name", "x", "y", "low", "high", "weight", "hold", "one"] "is_pole" (defScope (top 16)) f cdv A outer s H E) (fun c d _ H => E c d H) := takes_of rfl rfl rfl rfl
    have po := passes_of (X := cxOf (L2.CX P w) P w K mg base ["thing", "sort", "name", "x", "y", "low", "high", "weight", "hold", "one"] "is_pole" (defScope (top 16)) f cdv A outer s H E) rfl
    (pssd_cons (psd_asg (pd_var 0 (pv 0)) (pgd_tup rfl (pgsd_cons (W := fun _ _ _ _ => False) (pgd_name (i := 1) sc_is_pole.nd rfl (Or.inl rfl)) (pgsd_cons (W := fun _ _ _ _ => False) (pgd_name (i := 2) sc_is_pole.nd rfl (Or.inl rfl)) (pgsd_cons (W := fun _ _ _ _ => False) (pgd_name (i := 3) sc_is_pole.nd rfl (Or.inl rfl)) (pgsd_cons (W := fun _ _ _ _ => False) (pgd_name (i := 4) sc_is_pole.nd rfl (Or.inl rfl)) (pgsd_cons (W := fun _ _ _ _ => False) (pgd_name (i := 5) sc_is_pole.nd rfl (Or.inl rfl)) (pgsd_cons (W := fun _ _ _ _ => False) (pgd_name (i := 6) sc_is_pole.nd rfl (Or.inl rfl)) (pgsd_cons (W := fun _ _ _ _ => False) (pgd_name (i := 7) sc_is_pole.nd rfl (Or.inl rfl)) (pgsd_cons (W := fun _ _ _ _ => False) (pgd_name (i := 8) sc_is_pole.nd rfl (Or.inl rfl)) pgsd_nil))))))))) gTup_nx)
    (pssd_cons (psd_if (ptd_of (pwd_or (ptd_cmp (op_neX hr.units) od_neX (po_r 1 (pv 1)) (po_v (pd_con rfl T.k_POLE)) (nomark _)) (pwd_or (ptd_not (ptd_val (pd_call G_is_name (hr.mono (by decide)) rfl tk (pas_cons (po_v (pd_var 2 (pv 2))) pas_nil)))) (pwd_or1 (ptd_not (ptd_val (pd_call G_are_weights (hr.mono (by decide)) rfl tk (pas_cons (po_v (pd_var 7 (pv 7))) (pas_cons (po_v (pd_var 8 (pv 8))) pas_nil)))))))))
    (pssd_one (psd_ret pd_bl))
    pssd_nil)
    (pssd_one (psd_ret (pd_and (pd_callB (cr_all rfl) od_all rfl T.n_all (by decide +kernel) (pas_cons (po_v (pd_lc (own := [("one", 9)]) rfl sc_is_pole.nd (pwk_seq (pd_tup (pas_cons (po_v (pd_var 3 (pv 3))) (pas_cons (po_v (pd_var 4 (pv 4))) (pas_cons (po_v (pd_var 5 (pv 5))) (pas_cons (po_v (pd_var 6 (pv 6))) pas_nil)))))) (blkOk_by (by kernel_rfl)) (fun _ _ _ _ _ => (pgv_name (i := 9) sc_is_pole.nd rfl (by first | exact Or.inl rfl | exact Or.inr rfl) (by decide) (by first | exact Or.inl rfl | exact Or.inr rfl))) (fun _ _ _ _ _ => ptsd_nil) (fun _ _ _ _ _ => (pd_call G_is_within (hr.mono (by decide)) rfl (takesF _) (pas_cons (po_v (pd_var 9 (pv 9))) (pas_cons (po_v pd_int) pas_nil)))) (by intro _ _ h; first | (cases h; done) | (cases h; decide)))) pas_nil)) (pd_one (pd_cmp op_lt od_lt (po_r 5 (pv 5)) (po_r 6 (pv 6)) (nomark _))))))))
theorem sc_ends_within : FnScope ["x", "y", "way", "length"] ["x", "y", "way", "length"] (defScope (top 17)) := ⟨rfl, rfl, rfl, by decide +kernel, rfl, by decide +kernel, by decide +kernel⟩
theorem ok_ends_within {f : Addr} {fd : FuncData} (T : Tx K mg cl) (F : Fun K "ends_within" "ends_within" (top 17) f fd) (gx : mg "ends_within" = some (.ref f)) (bd : Binds K fd ["x", "y", "way", "length"] []) : Means P w K mg base cl 1 "ends_within" ["x", "y", "way", "length"] Sc.dn_ends_within :=
  means_mk (k := 0) (N := ["x", "y", "way", "length"]) (mask := [false, false, false, false]) F sc_ends_within rfl gx bd fun cdv A outer s H E hr =>
    have tk : Takes (cxOf (L2.CX P w) P w K mg base ["x", "y", "way", "length"] "ends_within" (defScope (top 17)) f cdv A outer s H E) (fun c d _ H => E c d H) := takes_of rfl rfl rfl rfl
    have po := passes_of (X := cxOf (L2.CX P w) P w K mg base ["x", "y", "way", "length"] "ends_within" (defScope (top 17)) f cdv A outer s H E) rfl
    (pssd_cons (psd_if (ptd_cmp (op_eqX hr.units) od_eqX (po_r 2 (pv 2)) (po_v (pd_ix ix_X od_ix (po_v (pd_con rfl T.k_WAYS)) (po_v pd_int) (fun _ _ => rfl))) (nomark _))
    (pssd_one (psd_ret (pd_cmp op_le od_le (po_v (pd_bin op_addX od_add (po_r 0 (pv 0)) (po_r 3 (pv 3)))) (po_v (pd_con rfl T.k_MOST)) (nomark _))))
    pssd_nil)
    (pssd_one (psd_ret (pd_cmp op_le od_le (po_v (pd_bin op_addX od_add (po_r 1 (pv 1)) (po_r 3 (pv 3)))) (po_v (pd_con rfl T.k_MOST)) (nomark _)))))
theorem sc_is_plank : FnScope ["thing", "sort", "name", "x", "y", "way", "length", "height", "weight", "hold", "one"] ["thing"] (defScope (top 18)) := ⟨rfl, rfl, rfl, by decide +kernel, rfl, by decide +kernel, by decide +kernel⟩
theorem ok_is_plank {f : Addr} {fd : FuncData} (T : Tx K mg cl) (F : Fun K "is_plank" "is_plank" (top 18) f fd) (gx : mg "is_plank" = some (.ref f)) (bd : Binds K fd ["thing"] []) (G_is_name : Means P w K mg base cl 1 "is_name" ["thing"] Sc.dn_is_name) (G_are_weights : Means P w K mg base cl 3 "are_weights" ["weight", "hold"] Sc.dn_are_weights) (G_is_within : Means P w K mg base cl 2 "is_within" ["thing", "least"] Sc.dn_is_within) (G_ends_within : Means P w K mg base cl 1 "ends_within" ["x", "y", "way", "length"] Sc.dn_ends_within) : Means P w K mg base cl 4 "is_plank" ["thing"] Sc.dn_is_plank :=
  means_mk (k := 3) (N := ["thing", "sort", "name", "x", "y", "way", "length", "height", "weight", "hold", "one"]) (mask := [false]) F sc_is_plank rfl gx bd fun cdv A outer s H E hr =>
    have tk : Takes (cxOf (L2.CX P w) P w K mg base ["thing", "sort", "name", "x", "y", "way", "length", "height", "weight", "hold", "one"] "is_plank" (defScope (top 18)) f cdv A outer s H E) (fun c d _ H => E c d H) := takes_of rfl rfl rfl rfl
    have po := passes_of (X := cxOf (L2.CX P w) P w K mg base ["thing", "sort", "name", "x", "y", "way", "length", "height", "weight", "hold", "one"] "is_plank" (defScope (top 18)) f cdv A outer s H E) rfl
    (pssd_cons (psd_asg (pd_var 0 (pv 0)) (pgd_tup rfl (pgsd_cons (W := fun _ _ _ _ => False) (pgd_name (i := 1) sc_is_plank.nd rfl (Or.inl rfl)) (pgsd_cons (W := fun _ _ _ _ => False) (pgd_name (i := 2) sc_is_plank.nd rfl (Or.inl rfl)) (pgsd_cons (W := fun _ _ _ _ => False) (pgd_name (i := 3) sc_is_plank.nd rfl (Or.inl rfl)) (pgsd_cons (W := fun _ _ _ _ => False) (pgd_name (i := 4) sc_is_plank.nd rfl (Or.inl rfl)) (pgsd_cons (W := fun _ _ _ _ => False) (pgd_name (i := 5) sc_is_plank.nd rfl (Or.inl rfl)) (pgsd_cons (W := fun _ _ _ _ => False) (pgd_name (i := 6) sc_is_plank.nd rfl (Or.inl rfl)) (pgsd_cons (W := fun _ _ _ _ => False) (pgd_name (i := 7) sc_is_plank.nd rfl (Or.inl rfl)) (pgsd_cons (W := fun _ _ _ _ => False) (pgd_name (i := 8) sc_is_plank.nd rfl (Or.inl rfl)) (pgsd_cons (W := fun _ _ _ _ => False) (pgd_name (i := 9) sc_is_plank.nd rfl (Or.inl rfl)) pgsd_nil)))))))))) gTup_nx)
    (pssd_cons (psd_if (ptd_of (pwd_or (ptd_cmp (op_neX hr.units) od_neX (po_r 1 (pv 1)) (po_v (pd_con rfl T.k_BOARD)) (nomark _)) (pwd_or (ptd_not (ptd_val (pd_call G_is_name (hr.mono (by decide)) rfl tk (pas_cons (po_v (pd_var 2 (pv 2))) pas_nil)))) (pwd_or1 (ptd_not (ptd_val (pd_call G_are_weights (hr.mono (by decide)) rfl tk (pas_cons (po_v (pd_var 8 (pv 8))) (pas_cons (po_v (pd_var 9 (pv 9))) pas_nil)))))))))
    (pssd_one (psd_ret pd_bl))
    pssd_nil)
    (pssd_cons (psd_if (ptd_of (pwd_or (ptd_not (ptd_val (pd_isi .str rfl T.n_isinstance (po_r 5 (pv 5)) (pe_bltn rfl T.n_str (by decide +kernel) rfl)))) (pwd_or (ptd_cmp (op_notInX hr.units1) od_notIn (po_r 5 (pv 5)) (po_v (pd_con rfl T.k_WAYS)) (by with_unfolding_all rfl)) (pwd_or1 (ptd_not (ptd_val (pd_callB (cr_all rfl) od_all rfl T.n_all (by decide +kernel) (pas_cons (po_v (pd_lc (own := [("one", 10)]) rfl sc_is_plank.nd (pwk_seq (pd_tup (pas_cons (po_v (pd_var 3 (pv 3))) (pas_cons (po_v (pd_var 4 (pv 4))) (pas_cons (po_v (pd_var 7 (pv 7))) pas_nil))))) (blkOk_by (by kernel_rfl)) (fun _ _ _ _ _ => (pgv_name (i := 10) sc_is_plank.nd rfl (by first | exact Or.inl rfl | exact Or.inr rfl) (by decide) (by first | exact Or.inl rfl | exact Or.inr rfl))) (fun _ _ _ _ _ => ptsd_nil) (fun _ _ _ _ _ => (pd_call G_is_within (hr.mono (by decide)) rfl (takesF _) (pas_cons (po_v (pd_var 10 (pv 10))) (pas_cons (po_v pd_int) pas_nil)))) (by intro _ _ h; first | (cases h; done) | (cases h; decide)))) pas_nil))))))))
    (pssd_one (psd_ret pd_bl))
    pssd_nil)
    (pssd_one (psd_ret (pd_and (pd_call G_is_within (hr.mono (by decide)) rfl tk (pas_cons (po_v (pd_var 6 (pv 6))) (pas_cons (po_v pd_int) pas_nil))) (pd_one (pd_call G_ends_within (hr.mono (by decide)) rfl tk (pas_cons (po_v (pd_var 3 (pv 3))) (pas_cons (po_v (pd_var 4 (pv 4))) (pas_cons (po_v (pd_var 5 (pv 5))) (pas_cons (po_v (pd_var 6 (pv 6))) pas_nil))))))))))))
theorem sc_is_part : FnScope ["thing"] ["thing"] (defScope (top 19)) := ⟨rfl, rfl, rfl, by decide +kernel, rfl, by decide +kernel, by decide +kernel⟩
theorem ok_is_part {f : Addr} {fd : FuncData} (T : Tx K mg cl) (F : Fun K "is_part" "is_part" (top 19) f fd) (gx : mg "is_part" = some (.ref f)) (bd : Binds K fd ["thing"] []) (G_is_pole : Means P w K mg base cl 4 "is_pole" ["thing"] Sc.dn_is_pole) (G_is_plank : Means P w K mg base cl 4 "is_plank" ["thing"] Sc.dn_is_plank) : Means P w K mg base cl 5 "is_part" ["thing"] Sc.dn_is_part :=
  means_mk (k := 4) (N := ["thing"]) (mask := [false]) F sc_is_part rfl gx bd fun cdv A outer s H E hr =>
    have tk : Takes (cxOf (L2.CX P w) P w K mg base ["thing"] "is_part" (defScope (top 19)) f cdv A outer s H E) (fun c d _ H => E c d H) := takes_of rfl rfl rfl rfl
    have po := passes_of (X := cxOf (L2.CX P w) P w K mg base ["thing"] "is_part" (defScope (top 19)) f cdv A outer s H E) rfl
    (pssd_cons (psd_if (ptd_not (ptd_val (pd_isi .tuple rfl T.n_isinstance (po_r 0 (pv 0)) (pe_bltn rfl T.n_tuple (by decide +kernel) rfl))))
    (pssd_one (psd_ret pd_bl))
    pssd_nil)
    (pssd_one (psd_ret (pd_or (pd_and (pd_cmp (op_eqX hr.units) od_eqX (po_v (pd_callB call_len od_len rfl T.n_len (by decide +kernel) (pas_cons (po_r 0 (pv 0)) pas_nil))) (po_v pd_int) (nomark _)) (pd_one (pd_call G_is_pole (hr.mono (by decide)) rfl tk (pas_cons (po_v (pd_var 0 (pv 0))) pas_nil)))) (pd_one (pd_and (pd_cmp (op_eqX hr.units) od_eqX (po_v (pd_callB call_len od_len rfl T.n_len (by decide +kernel) (pas_cons (po_r 0 (pv 0)) pas_nil))) (po_v pd_int) (nomark _)) (pd_one (pd_call G_is_plank (hr.mono (by decide)) rfl tk (pas_cons (po_v (pd_var 0 (pv 0))) pas_nil)))))))))
theorem sc_is_board : FnScope ["part"] ["part"] (defScope (top 20)) := ⟨rfl, rfl, rfl, by decide +kernel, rfl, by decide +kernel, by decide +kernel⟩
theorem ok_is_board {f : Addr} {fd : FuncData} (T : Tx K mg cl) (F : Fun K "is_board" "is_board" (top 20) f fd) (gx : mg "is_board" = some (.ref f)) (bd : Binds K fd ["part"] []) : Means P w K mg base cl 1 "is_board" ["part"] Sc.dn_is_board :=
  means_mk (k := 0) (N := ["part"]) (mask := [false]) F sc_is_board rfl gx bd fun cdv A outer s H E hr =>
    have tk : Takes (cxOf (L2.CX P w) P w K mg base ["part"] "is_board" (defScope (top 20)) f cdv A outer s H E) (fun c d _ H => E c d H) := takes_of rfl rfl rfl rfl
    have po := passes_of (X := cxOf (L2.CX P w) P w K mg base ["part"] "is_board" (defScope (top 20)) f cdv A outer s H E) rfl
    (pssd_one (psd_ret (pd_cmp (op_eqX hr.units) od_eqX (po_v (pd_ix ix_X od_ix (po_r 0 (pv 0)) (po_v pd_int) (fun _ _ => rfl))) (po_v (pd_con rfl T.k_BOARD)) (nomark _))))
theorem sc_bottom_of : FnScope ["part"] ["part"] (defScope (top 21)) := ⟨rfl, rfl, rfl, by decide +kernel, rfl, by decide +kernel, by decide +kernel⟩
theorem ok_bottom_of {f : Addr} {fd : FuncData} (T : Tx K mg cl) (F : Fun K "bottom_of" "bottom_of" (top 21) f fd) (gx : mg "bottom_of" = some (.ref f)) (bd : Binds K fd ["part"] []) (G_is_board : Means P w K mg base cl 1 "is_board" ["part"] Sc.dn_is_board) : Means P w K mg base cl 2 "bottom_of" ["part"] Sc.dn_bottom_of :=
  means_mk (k := 1) (N := ["part"]) (mask := [false]) F sc_bottom_of rfl gx bd fun cdv A outer s H E hr =>
    have tk : Takes (cxOf (L2.CX P w) P w K mg base ["part"] "bottom_of" (defScope (top 21)) f cdv A outer s H E) (fun c d _ H => E c d H) := takes_of rfl rfl rfl rfl
    have po := passes_of (X := cxOf (L2.CX P w) P w K mg base ["part"] "bottom_of" (defScope (top 21)) f cdv A outer s H E) rfl
    (pssd_cons (psd_if (ptd_val (pd_call G_is_board (hr.mono (by decide)) rfl tk (pas_cons (po_v (pd_var 0 (pv 0))) pas_nil)))
    (pssd_one (psd_ret (pd_ix ix_X od_ix (po_r 0 (pv 0)) (po_v pd_int) (fun _ _ => rfl))))
    pssd_nil)
    (pssd_one (psd_ret (pd_ix ix_X od_ix (po_r 0 (pv 0)) (po_v pd_int) (fun _ _ => rfl)))))
theorem sc_top_of : FnScope ["part"] ["part"] (defScope (top 22)) := ⟨rfl, rfl, rfl, by decide +kernel, rfl, by decide +kernel, by decide +kernel⟩
theorem ok_top_of {f : Addr} {fd : FuncData} (T : Tx K mg cl) (F : Fun K "top_of" "top_of" (top 22) f fd) (gx : mg "top_of" = some (.ref f)) (bd : Binds K fd ["part"] []) (G_is_board : Means P w K mg base cl 1 "is_board" ["part"] Sc.dn_is_board) : Means P w K mg base cl 2 "top_of" ["part"] Sc.dn_top_of :=
  means_mk (k := 1) (N := ["part"]) (mask := [false]) F sc_top_of rfl gx bd fun cdv A outer s H E hr =>
    have tk : Takes (cxOf (L2.CX P w) P w K mg base ["part"] "top_of" (defScope (top 22)) f cdv A outer s H E) (fun c d _ H => E c d H) := takes_of rfl rfl rfl rfl
    have po := passes_of (X := cxOf (L2.CX P w) P w K mg base ["part"] "top_of" (defScope (top 22)) f cdv A outer s H E) rfl
    (pssd_cons (psd_if (ptd_val (pd_call G_is_board (hr.mono (by decide)) rfl tk (pas_cons (po_v (pd_var 0 (pv 0))) pas_nil)))
    (pssd_one (psd_ret (pd_bin op_addX od_add (po_v (pd_ix ix_X od_ix (po_r 0 (pv 0)) (po_v pd_int) (fun _ _ => rfl))) (po_v pd_int))))
    pssd_nil)
    (pssd_one (psd_ret (pd_ix ix_X od_ix (po_r 0 (pv 0)) (po_v pd_int) (fun _ _ => rfl)))))
theorem sc_places_of : FnScope ["part", "x", "y", "k"] ["part"] (defScope (top 23)) := ⟨rfl, rfl, rfl, by decide +kernel, rfl, by decide +kernel, by decide +kernel⟩
theorem ok_places_of {f : Addr} {fd : FuncData} (T : Tx K mg cl) (F : Fun K "places_of" "places_of" (top 23) f fd) (gx : mg "places_of" = some (.ref f)) (bd : Binds K fd ["part"] []) (G_is_board : Means P w K mg base cl 1 "is_board" ["part"] Sc.dn_is_board) : Means P w K mg base cl 2 "places_of" ["part"] Sc.dn_places_of :=
  means_mk (k := 1) (N := ["part", "x", "y", "k"]) (mask := [false]) F sc_places_of rfl gx bd fun cdv A outer s H E hr =>
    have tk : Takes (cxOf (L2.CX P w) P w K mg base ["part", "x", "y", "k"] "places_of" (defScope (top 23)) f cdv A outer s H E) (fun c d _ H => E c d H) := takes_of rfl rfl rfl rfl
    have po := passes_of (X := cxOf (L2.CX P w) P w K mg base ["part", "x", "y", "k"] "places_of" (defScope (top 23)) f cdv A outer s H E) rfl
    (pssd_cons (psd_asg (pd_tup (pas_cons (po_v (pd_ix ix_X od_ix (po_r 0 (pv 0)) (po_v pd_int) (fun _ _ => rfl))) (pas_cons (po_v (pd_ix ix_X od_ix (po_r 0 (pv 0)) (po_v pd_int) (fun _ _ => rfl))) pas_nil))) (pgd_tup rfl (pgsd_cons (W := fun _ _ _ _ => False) (pgd_name (i := 1) sc_places_of.nd rfl (Or.inr rfl)) (pgsd_cons (W := fun _ _ _ _ => False) (pgd_name (i := 2) sc_places_of.nd rfl (Or.inr rfl)) pgsd_nil))) gTup_nx)
    (pssd_cons (psd_if (ptd_not (ptd_val (pd_call G_is_board (hr.mono (by decide)) rfl tk (pas_cons (po_v (pd_var 0 (pv 0))) pas_nil))))
    (pssd_one (psd_ret (pd_lst (pas_cons (po_v (pd_tup (pas_cons (po_v (pd_var 1 (pv 1))) (pas_cons (po_v (pd_var 2 (pv 2))) pas_nil)))) pas_nil))))
    pssd_nil)
    (pssd_cons (psd_if (ptd_cmp (op_eqX hr.units) od_eqX (po_v (pd_ix ix_X od_ix (po_r 0 (pv 0)) (po_v pd_int) (fun _ _ => rfl))) (po_v (pd_ix ix_X od_ix (po_v (pd_con rfl T.k_WAYS)) (po_v pd_int) (fun _ _ => rfl))) (nomark _))
    (pssd_one (psd_ret (pd_lc (own := [("k", 3)]) rfl sc_places_of.nd (pwk_r1 rfl T.n_range (po_v (pd_bin op_addX od_add (po_v (pd_ix ix_X od_ix (po_r 0 (pv 0)) (po_v pd_int) (fun _ _ => rfl))) (po_v pd_int)))) (blkOk_by (by kernel_rfl)) (fun _ _ _ _ _ => (pgv_name (i := 3) sc_places_of.nd rfl (by first | exact Or.inl rfl | exact Or.inr rfl) (by decide) (by first | exact Or.inl rfl | exact Or.inr rfl))) (fun _ _ _ _ _ => ptsd_nil) (fun _ _ _ _ _ => (pd_tup (pas_cons (po_v (pd_bin op_addX od_add (po_r 1 (pv 1)) (po_r 3 (pv 3)))) (pas_cons (po_v (pd_var 2 (pv 2))) pas_nil)))) (by intro _ _ h; first | (cases h; done) | (cases h; decide)))))
    pssd_nil)
    (pssd_one (psd_ret (pd_lc (own := [("k", 3)]) rfl sc_places_of.nd (pwk_r1 rfl T.n_range (po_v (pd_bin op_addX od_add (po_v (pd_ix ix_X od_ix (po_r 0 (pv 0)) (po_v pd_int) (fun _ _ => rfl))) (po_v pd_int)))) (blkOk_by (by kernel_rfl)) (fun _ _ _ _ _ => (pgv_name (i := 3) sc_places_of.nd rfl (by first | exact Or.inl rfl | exact Or.inr rfl) (by decide) (by first | exact Or.inl rfl | exact Or.inr rfl))) (fun _ _ _ _ _ => ptsd_nil) (fun _ _ _ _ _ => (pd_tup (pas_cons (po_v (pd_var 1 (pv 1))) (pas_cons (po_v (pd_bin op_addX od_add (po_r 2 (pv 2)) (po_r 3 (pv 3)))) pas_nil)))) (by intro _ _ h; first | (cases h; done) | (cases h; decide))))))))
theorem sc__law_cell : FnScope ["_law_script", "_law_k"] ["_law_script", "_law_k"] (defScope (top 25)) := ⟨rfl, rfl, rfl, by decide +kernel, rfl, by decide +kernel, by decide +kernel⟩
theorem ok__law_cell {f : Addr} {fd : FuncData} (T : Tx K mg cl) (F : Fun K "_law_cell" "_law_cell" (top 25) f fd) (gx : mg "_law_cell" = some (.ref f)) (bd : Binds K fd ["_law_script", "_law_k"] []) : Means P w K mg base cl 1 "_law_cell" ["_law_script", "_law_k"] Sc.dn__law_cell :=
  means_mk (k := 0) (N := ["_law_script", "_law_k"]) (mask := [false, false]) F sc__law_cell rfl gx bd fun cdv A outer s H E hr =>
    have tk : Takes (cxOf (L2.CX P w) P w K mg base ["_law_script", "_law_k"] "_law_cell" (defScope (top 25)) f cdv A outer s H E) (fun c d _ H => E c d H) := takes_of rfl rfl rfl rfl
    have po := passes_of (X := cxOf (L2.CX P w) P w K mg base ["_law_script", "_law_k"] "_law_cell" (defScope (top 25)) f cdv A outer s H E) rfl
    (pssd_cons (psd_if (ptd_cmp op_lt od_lt (po_r 1 (pv 1)) (po_v (pd_callB call_len od_len rfl T.n_len (by decide +kernel) (pas_cons (po_r 0 (pv 0)) pas_nil))) (nomark _))
    (pssd_one (psd_ret (pd_ix ix_X od_ix (po_r 0 (pv 0)) (po_r 1 (pv 1)) (fun _ _ => rfl))))
    pssd_nil)
    (pssd_one (psd_ret pd_int)))
theorem sc__law_pot : FnScope ["_law_cell_here"] ["_law_cell_here"] (defScope (top 26)) := ⟨rfl, rfl, rfl, by decide +kernel, rfl, by decide +kernel, by decide +kernel⟩
theorem ok__law_pot {f : Addr} {fd : FuncData} (T : Tx K mg cl) (F : Fun K "_law_pot" "_law_pot" (top 26) f fd) (gx : mg "_law_pot" = some (.ref f)) (bd : Binds K fd ["_law_cell_here"] []) : Means P w K mg base cl 1 "_law_pot" ["_law_cell_here"] Sc.dn__law_pot :=
  means_mk (k := 0) (N := ["_law_cell_here"]) (mask := [false]) F sc__law_pot rfl gx bd fun cdv A outer s H E hr =>
    have tk : Takes (cxOf (L2.CX P w) P w K mg base ["_law_cell_here"] "_law_pot" (defScope (top 26)) f cdv A outer s H E) (fun c d _ H => E c d H) := takes_of rfl rfl rfl rfl
    have po := passes_of (X := cxOf (L2.CX P w) P w K mg base ["_law_cell_here"] "_law_pot" (defScope (top 26)) f cdv A outer s H E) rfl
    (pssd_one (psd_ret (pd_lst (pas_cons (po_v (pd_callB (call_max2 rfl) od_max2 rfl T.n_max (by decide +kernel) (pas_cons (po_v pd_int) (pas_cons (po_v (pd_bin op_sub od_sub (po_v (pd_callB call_abs od_abs rfl T.n_abs (by decide +kernel) (pas_cons (po_r 0 (pv 0)) pas_nil))) (po_v (pd_bin op_pow od_pow (po_v pd_int) (po_v pd_int))))) pas_nil)))) (pas_cons (po_v (pd_bin op_addX od_add (po_v (pd_bin op_modN od_mod (po_v (pd_callB call_abs od_abs rfl T.n_abs (by decide +kernel) (pas_cons (po_r 0 (pv 0)) pas_nil))) (po_v pd_int))) (po_v pd_int))) pas_nil)))))
theorem sc__law_draw : FnScope ["_law_pot_here", "_law_many", "_law_digit"] ["_law_pot_here", "_law_many"] (defScope (top 27)) := ⟨rfl, rfl, rfl, by decide +kernel, rfl, by decide +kernel, by decide +kernel⟩
theorem ok__law_draw {f : Addr} {fd : FuncData} (T : Tx K mg cl) (F : Fun K "_law_draw" "_law_draw" (top 27) f fd) (gx : mg "_law_draw" = some (.ref f)) (bd : Binds K fd ["_law_pot_here", "_law_many"] []) : Means P w K mg base cl 1 "_law_draw" ["_law_pot_here", "_law_many"] Sc.dn__law_draw :=
  means_mk (k := 0) (N := ["_law_pot_here", "_law_many", "_law_digit"]) (mask := [true, false]) F sc__law_draw rfl gx bd fun cdv A outer s H E hr =>
    have tk : Takes (cxOf (L2.CX P w) P w K mg base ["_law_pot_here", "_law_many", "_law_digit"] "_law_draw" (defScope (top 27)) f cdv A outer s H E) (fun c d _ H => E c d H) := takes_of rfl rfl rfl rfl
    have po := passes_of (X := cxOf (L2.CX P w) P w K mg base ["_law_pot_here", "_law_many", "_law_digit"] "_law_draw" (defScope (top 27)) f cdv A outer s H E) rfl
    (pssd_cons (psd_if (ptd_cmp op_gt od_gt (po_v (pd_ix ix_X od_ix (po_r 0 (pv 0)) (po_v pd_int) (fun _ _ => rfl))) (po_v pd_int) (nomark _))
    (pssd_cons (psd_asg (pd_callB call_divmodW od_divmod rfl T.n_divmod (by decide +kernel) (pas_cons (po_v (pd_ix ix_X od_ix (po_r 0 (pv 0)) (po_v pd_int) (fun _ _ => rfl))) (pas_cons (po_r 1 (pv 1)) pas_nil))) (pgd_tup rfl (pgsd_cons (W := fun _ _ _ _ => False) (pgd_set (pv 0) (po_v pd_int)) (pgsd_cons (W := fun _ _ _ _ => False) (pgd_name (i := 2) sc__law_draw.nd rfl (Or.inl rfl)) pgsd_nil))) gTup_nx)
    (pssd_one (psd_ret (pd_mov 2 (pv 2)))))
    pssd_nil)
    (pssd_cons (psd_asg (pd_bin op_modN od_mod (po_v (pd_bin op_addX od_add (po_v (pd_bin op_mulW od_mul (po_v (pd_ix ix_X od_ix (po_r 0 (pv 0)) (po_v pd_int) (fun _ _ => rfl))) (po_v pd_int))) (po_v pd_int))) (po_v pd_int)) (pgd_set (pv 0) (po_v pd_int)) gSet_nx)
    (pssd_one (psd_ret (pd_bin op_modN od_mod (po_v (pd_bin op_fdivX od_fdiv (po_v (pd_bin op_modN od_mod (po_v (pd_bin op_mulW od_mul (po_v (pd_ix ix_X od_ix (po_r 0 (pv 0)) (po_v pd_int) (fun _ _ => rfl))) (po_v (pd_ix ix_X od_ix (po_r 0 (pv 0)) (po_v pd_int) (fun _ _ => rfl))))) (po_v pd_int))) (po_v pd_int))) (po_r 1 (pv 1)))))))
theorem sc__law_low : FnScope ["_law_top_here", "_law_bottom_here", "_law_one", "_law_other"] ["_law_top_here", "_law_bottom_here"] (defScope (top 28)) := ⟨rfl, rfl, rfl, by decide +kernel, rfl, by decide +kernel, by decide +kernel⟩
theorem ok__law_low {f : Addr} {fd : FuncData} (T : Tx K mg cl) (F : Fun K "_law_low" "_law_low" (top 28) f fd) (gx : mg "_law_low" = some (.ref f)) (bd : Binds K fd ["_law_top_here", "_law_bottom_here"] []) : Means P w K mg base cl 1 "_law_low" ["_law_top_here", "_law_bottom_here"] Sc.dn__law_low :=
  means_mk (k := 0) (N := ["_law_top_here", "_law_bottom_here", "_law_one", "_law_other"]) (mask := [false, false]) F sc__law_low rfl gx bd fun cdv A outer s H E hr =>
    have tk : Takes (cxOf (L2.CX P w) P w K mg base ["_law_top_here", "_law_bottom_here", "_law_one", "_law_other"] "_law_low" (defScope (top 28)) f cdv A outer s H E) (fun c d _ H => E c d H) := takes_of rfl rfl rfl rfl
    have po := passes_of (X := cxOf (L2.CX P w) P w K mg base ["_law_top_here", "_law_bottom_here", "_law_one", "_law_other"] "_law_low" (defScope (top 28)) f cdv A outer s H E) rfl
    (pssd_cons (psd_par (i := 2) (j := 3) rfl sc__law_low.nd rfl rfl (by decide) rfl rfl (pas_cons (po_v (pd_callB call_abs od_abs rfl T.n_abs (by decide +kernel) (pas_cons (po_r 0 (pv 0)) pas_nil))) (pas_cons (po_v (pd_callB call_abs od_abs rfl T.n_abs (by decide +kernel) (pas_cons (po_r 1 (pv 1)) pas_nil))) pas_nil)) rfl rfl (by rfl))
    (pssd_cons (psd_while po (ptd_cmp op_gt od_gt (po_r 3 (pv 3)) (po_v pd_int) (nomark _))
    (pssd_one (psd_par (i := 2) (j := 3) rfl sc__law_low.nd rfl rfl (by decide) rfl rfl (pas_cons (po_v (pd_var 3 (pv 3))) (pas_cons (po_v (pd_bin op_modN od_mod (po_r 2 (pv 2)) (po_r 3 (pv 3)))) pas_nil)) rfl rfl (by rfl))))
    (pssd_cons (psd_if (ptd_cmp op_lt od_lt (po_r 1 (pv 1)) (po_v pd_int) (nomark _))
    (pssd_one (psd_asg (pd_un un_neg od_neg (po_r 2 (pv 2))) (pgd_name (i := 2) sc__law_low.nd rfl (Or.inl rfl)) gN_nx))
    pssd_nil)
    (pssd_one (psd_ret (pd_tup (pas_cons (po_v (pd_bin op_fdivX od_fdiv (po_r 0 (pv 0)) (po_r 2 (pv 2)))) (pas_cons (po_v (pd_bin op_fdivX od_fdiv (po_r 1 (pv 1)) (po_r 2 (pv 2)))) pas_nil))))))))
theorem sc__law_sum : FnScope ["_law_one", "_law_other"] ["_law_one", "_law_other"] (defScope (top 29)) := ⟨rfl, rfl, rfl, by decide +kernel, rfl, by decide +kernel, by decide +kernel⟩
theorem ok__law_sum {f : Addr} {fd : FuncData} (T : Tx K mg cl) (F : Fun K "_law_sum" "_law_sum" (top 29) f fd) (gx : mg "_law_sum" = some (.ref f)) (bd : Binds K fd ["_law_one", "_law_other"] []) (G__law_low : Means P w K mg base cl 1 "_law_low" ["_law_top_here", "_law_bottom_here"] Sc.dn__law_low) : Means P w K mg base cl 2 "_law_sum" ["_law_one", "_law_other"] Sc.dn__law_sum :=
  means_mk (k := 1) (N := ["_law_one", "_law_other"]) (mask := [false, false]) F sc__law_sum rfl gx bd fun cdv A outer s H E hr =>
    have tk : Takes (cxOf (L2.CX P w) P w K mg base ["_law_one", "_law_other"] "_law_sum" (defScope (top 29)) f cdv A outer s H E) (fun c d _ H => E c d H) := takes_of rfl rfl rfl rfl
    have po := passes_of (X := cxOf (L2.CX P w) P w K mg base ["_law_one", "_law_other"] "_law_sum" (defScope (top 29)) f cdv A outer s H E) rfl
    (pssd_one (psd_ret (pd_call G__law_low (hr.mono (by decide)) rfl tk (pas_cons (po_v (pd_bin op_addX od_add (po_v (pd_bin op_mulW od_mul (po_v (pd_ix ix_X od_ix (po_r 0 (pv 0)) (po_v pd_int) (fun _ _ => rfl))) (po_v (pd_ix ix_X od_ix (po_r 1 (pv 1)) (po_v pd_int) (fun _ _ => rfl))))) (po_v (pd_bin op_mulW od_mul (po_v (pd_ix ix_X od_ix (po_r 1 (pv 1)) (po_v pd_int) (fun _ _ => rfl))) (po_v (pd_ix ix_X od_ix (po_r 0 (pv 0)) (po_v pd_int) (fun _ _ => rfl))))))) (pas_cons (po_v (pd_bin op_mulW od_mul (po_v (pd_ix ix_X od_ix (po_r 0 (pv 0)) (po_v pd_int) (fun _ _ => rfl))) (po_v (pd_ix ix_X od_ix (po_r 1 (pv 1)) (po_v pd_int) (fun _ _ => rfl))))) pas_nil)))))
theorem sc__law_product : FnScope ["_law_one", "_law_other"] ["_law_one", "_law_other"] (defScope (top 30)) := ⟨rfl, rfl, rfl, by decide +kernel, rfl, by decide +kernel, by decide +kernel⟩
theorem ok__law_product {f : Addr} {fd : FuncData} (T : Tx K mg cl) (F : Fun K "_law_product" "_law_product" (top 30) f fd) (gx : mg "_law_product" = some (.ref f)) (bd : Binds K fd ["_law_one", "_law_other"] []) (G__law_low : Means P w K mg base cl 1 "_law_low" ["_law_top_here", "_law_bottom_here"] Sc.dn__law_low) : Means P w K mg base cl 2 "_law_product" ["_law_one", "_law_other"] Sc.dn__law_product :=
  means_mk (k := 1) (N := ["_law_one", "_law_other"]) (mask := [false, false]) F sc__law_product rfl gx bd fun cdv A outer s H E hr =>
    have tk : Takes (cxOf (L2.CX P w) P w K mg base ["_law_one", "_law_other"] "_law_product" (defScope (top 30)) f cdv A outer s H E) (fun c d _ H => E c d H) := takes_of rfl rfl rfl rfl
    have po := passes_of (X := cxOf (L2.CX P w) P w K mg base ["_law_one", "_law_other"] "_law_product" (defScope (top 30)) f cdv A outer s H E) rfl
    (pssd_one (psd_ret (pd_call G__law_low (hr.mono (by decide)) rfl tk (pas_cons (po_v (pd_bin op_mulW od_mul (po_v (pd_ix ix_X od_ix (po_r 0 (pv 0)) (po_v pd_int) (fun _ _ => rfl))) (po_v (pd_ix ix_X od_ix (po_r 1 (pv 1)) (po_v pd_int) (fun _ _ => rfl))))) (pas_cons (po_v (pd_bin op_mulW od_mul (po_v (pd_ix ix_X od_ix (po_r 0 (pv 0)) (po_v pd_int) (fun _ _ => rfl))) (po_v (pd_ix ix_X od_ix (po_r 1 (pv 1)) (po_v pd_int) (fun _ _ => rfl))))) pas_nil)))))
theorem sc__law_bottom : FnScope ["_law_part_here"] ["_law_part_here"] (defScope (top 31)) := ⟨rfl, rfl, rfl, by decide +kernel, rfl, by decide +kernel, by decide +kernel⟩
theorem ok__law_bottom {f : Addr} {fd : FuncData} (T : Tx K mg cl) (F : Fun K "_law_bottom" "_law_bottom" (top 31) f fd) (gx : mg "_law_bottom" = some (.ref f)) (bd : Binds K fd ["_law_part_here"] []) : Means P w K mg base cl 1 "_law_bottom" ["_law_part_here"] Sc.dn__law_bottom :=
  means_mk (k := 0) (N := ["_law_part_here"]) (mask := [false]) F sc__law_bottom rfl gx bd fun cdv A outer s H E hr =>
    have tk : Takes (cxOf (L2.CX P w) P w K mg base ["_law_part_here"] "_law_bottom" (defScope (top 31)) f cdv A outer s H E) (fun c d _ H => E c d H) := takes_of rfl rfl rfl rfl
    have po := passes_of (X := cxOf (L2.CX P w) P w K mg base ["_law_part_here"] "_law_bottom" (defScope (top 31)) f cdv A outer s H E) rfl
    (pssd_one (psd_ret (pd_ife (ptd_cmp (op_eqX hr.units) od_eqX (po_v (pd_ix ix_X od_ix (po_r 0 (pv 0)) (po_v pd_int) (fun _ _ => rfl))) (po_v pd_str) (nomark _)) (pd_ix ix_X od_ix (po_r 0 (pv 0)) (po_v pd_int) (fun _ _ => rfl)) (pd_ix ix_X od_ix (po_r 0 (pv 0)) (po_v pd_int) (fun _ _ => rfl)))))
theorem sc__law_top : FnScope ["_law_part_here"] ["_law_part_here"] (defScope (top 32)) := ⟨rfl, rfl, rfl, by decide +kernel, rfl, by decide +kernel, by decide +kernel⟩
theorem ok__law_top {f : Addr} {fd : FuncData} (T : Tx K mg cl) (F : Fun K "_law_top" "_law_top" (top 32) f fd) (gx : mg "_law_top" = some (.ref f)) (bd : Binds K fd ["_law_part_here"] []) : Means P w K mg base cl 1 "_law_top" ["_law_part_here"] Sc.dn__law_top :=
  means_mk (k := 0) (N := ["_law_part_here"]) (mask := [false]) F sc__law_top rfl gx bd fun cdv A outer s H E hr =>
    have tk : Takes (cxOf (L2.CX P w) P w K mg base ["_law_part_here"] "_law_top" (defScope (top 32)) f cdv A outer s H E) (fun c d _ H => E c d H) := takes_of rfl rfl rfl rfl
    have po := passes_of (X := cxOf (L2.CX P w) P w K mg base ["_law_part_here"] "_law_top" (defScope (top 32)) f cdv A outer s H E) rfl
    (pssd_one (psd_ret (pd_ife (ptd_cmp (op_eqX hr.units) od_eqX (po_v (pd_ix ix_X od_ix (po_r 0 (pv 0)) (po_v pd_int) (fun _ _ => rfl))) (po_v pd_str) (nomark _)) (pd_bin op_addX od_add (po_v (pd_ix ix_X od_ix (po_r 0 (pv 0)) (po_v pd_int) (fun _ _ => rfl))) (po_v pd_int)) (pd_ix ix_X od_ix (po_r 0 (pv 0)) (po_v pd_int) (fun _ _ => rfl)))))
theorem sc__law_places : FnScope ["_law_part_here", "_law_k"] ["_law_part_here"] (defScope (top 33)) := ⟨rfl, rfl, rfl, by decide +kernel, rfl, by decide +kernel, by decide +kernel⟩
theorem ok__law_places {f : Addr} {fd : FuncData} (T : Tx K mg cl) (F : Fun K "_law_places" "_law_places" (top 33) f fd) (gx : mg "_law_places" = some (.ref f)) (bd : Binds K fd ["_law_part_here"] []) : Means P w K mg base cl 1 "_law_places" ["_law_part_here"] Sc.dn__law_places :=
  means_mk (k := 0) (N := ["_law_part_here", "_law_k"]) (mask := [false]) F sc__law_places rfl gx bd fun cdv A outer s H E hr =>
    have tk : Takes (cxOf (L2.CX P w) P w K mg base ["_law_part_here", "_law_k"] "_law_places" (defScope (top 33)) f cdv A outer s H E) (fun c d _ H => E c d H) := takes_of rfl rfl rfl rfl
    have po := passes_of (X := cxOf (L2.CX P w) P w K mg base ["_law_part_here", "_law_k"] "_law_places" (defScope (top 33)) f cdv A outer s H E) rfl
    (pssd_cons (psd_if (ptd_cmp (op_eqX hr.units) od_eqX (po_v (pd_ix ix_X od_ix (po_r 0 (pv 0)) (po_v pd_int) (fun _ _ => rfl))) (po_v pd_str) (nomark _))
    (pssd_one (psd_ret (pd_lst (pas_cons (po_v (pd_tup (pas_cons (po_v (pd_ix ix_X od_ix (po_r 0 (pv 0)) (po_v pd_int) (fun _ _ => rfl))) (pas_cons (po_v (pd_ix ix_X od_ix (po_r 0 (pv 0)) (po_v pd_int) (fun _ _ => rfl))) pas_nil)))) pas_nil))))
    pssd_nil)
    (pssd_cons (psd_if (ptd_cmp (op_eqX hr.units) od_eqX (po_v (pd_ix ix_X od_ix (po_r 0 (pv 0)) (po_v pd_int) (fun _ _ => rfl))) (po_v pd_str) (nomark _))
    (pssd_one (psd_ret (pd_lc (own := [("_law_k", 1)]) rfl sc__law_places.nd (pwk_r1 rfl T.n_range (po_v (pd_bin op_addX od_add (po_v (pd_ix ix_X od_ix (po_r 0 (pv 0)) (po_v pd_int) (fun _ _ => rfl))) (po_v pd_int)))) (blkOk_by (by kernel_rfl)) (fun _ _ _ _ _ => (pgv_name (i := 1) sc__law_places.nd rfl (by first | exact Or.inl rfl | exact Or.inr rfl) (by decide) (by first | exact Or.inl rfl | exact Or.inr rfl))) (fun _ _ _ _ _ => ptsd_nil) (fun _ _ _ _ _ => (pd_tup (pas_cons (po_v (pd_bin op_addX od_add (po_v (pd_ix ix_X od_ix (po_r 0 (pv 0)) (po_v pd_int) (fun _ _ => rfl))) (po_r 1 (pv 1)))) (pas_cons (po_v (pd_ix ix_X od_ix (po_r 0 (pv 0)) (po_v pd_int) (fun _ _ => rfl))) pas_nil)))) (by intro _ _ h; first | (cases h; done) | (cases h; decide)))))
    pssd_nil)
    (pssd_one (psd_ret (pd_lc (own := [("_law_k", 1)]) rfl sc__law_places.nd (pwk_r1 rfl T.n_range (po_v (pd_bin op_addX od_add (po_v (pd_ix ix_X od_ix (po_r 0 (pv 0)) (po_v pd_int) (fun _ _ => rfl))) (po_v pd_int)))) (blkOk_by (by kernel_rfl)) (fun _ _ _ _ _ => (pgv_name (i := 1) sc__law_places.nd rfl (by first | exact Or.inl rfl | exact Or.inr rfl) (by decide) (by first | exact Or.inl rfl | exact Or.inr rfl))) (fun _ _ _ _ _ => ptsd_nil) (fun _ _ _ _ _ => (pd_tup (pas_cons (po_v (pd_ix ix_X od_ix (po_r 0 (pv 0)) (po_v pd_int) (fun _ _ => rfl))) (pas_cons (po_v (pd_bin op_addX od_add (po_v (pd_ix ix_X od_ix (po_r 0 (pv 0)) (po_v pd_int) (fun _ _ => rfl))) (po_r 1 (pv 1)))) pas_nil)))) (by intro _ _ h; first | (cases h; done) | (cases h; decide)))))))
theorem sc__law_clash : FnScope ["_law_one", "_law_other", "_law_place"] ["_law_one", "_law_other"] (defScope (top 34)) := ⟨rfl, rfl, rfl, by decide +kernel, rfl, by decide +kernel, by decide +kernel⟩
theorem ok__law_clash {f : Addr} {fd : FuncData} (T : Tx K mg cl) (F : Fun K "_law_clash" "_law_clash" (top 34) f fd) (gx : mg "_law_clash" = some (.ref f)) (bd : Binds K fd ["_law_one", "_law_other"] []) (G__law_bottom : Means P w K mg base cl 1 "_law_bottom" ["_law_part_here"] Sc.dn__law_bottom) (G__law_top : Means P w K mg base cl 1 "_law_top" ["_law_part_here"] Sc.dn__law_top) (G__law_places : Means P w K mg base cl 1 "_law_places" ["_law_part_here"] Sc.dn__law_places) : Means P w K mg base cl 2 "_law_clash" ["_law_one", "_law_other"] Sc.dn__law_clash :=
  means_mk (k := 1) (N := ["_law_one", "_law_other", "_law_place"]) (mask := [false, false]) F sc__law_clash rfl gx bd fun cdv A outer s H E hr =>
    have tk : Takes (cxOf (L2.CX P w) P w K mg base ["_law_one", "_law_other", "_law_place"] "_law_clash" (defScope (top 34)) f cdv A outer s H E) (fun c d _ H => E c d H) := takes_of rfl rfl rfl rfl
    have po := passes_of (X := cxOf (L2.CX P w) P w K mg base ["_law_one", "_law_other", "_law_place"] "_law_clash" (defScope (top 34)) f cdv A outer s H E) rfl
    (pssd_cons (psd_if (ptd_of (pwd_or (ptd_cmp op_ge od_ge (po_v (pd_call G__law_bottom (hr.mono (by decide)) rfl tk (pas_cons (po_v (pd_var 0 (pv 0))) pas_nil))) (po_v (pd_call G__law_top (hr.mono (by decide)) rfl tk (pas_cons (po_v (pd_var 1 (pv 1))) pas_nil))) (nomark _)) (pwd_or1 (ptd_cmp op_ge od_ge (po_v (pd_call G__law_bottom (hr.mono (by decide)) rfl tk (pas_cons (po_v (pd_var 1 (pv 1))) pas_nil))) (po_v (pd_call G__law_top (hr.mono (by decide)) rfl tk (pas_cons (po_v (pd_var 0 (pv 0))) pas_nil))) (nomark _)))))
    (pssd_one (psd_ret pd_bl))
    pssd_nil)
    (pssd_one (psd_ret (pd_cmp (op_neX hr.units) od_neX (po_v (pd_lc (own := [("_law_place", 2)]) rfl sc__law_clash.nd (pwk_seq (pd_call G__law_places (hr.mono (by decide)) rfl tk (pas_cons (po_v (pd_var 0 (pv 0))) pas_nil))) (blkOk_by (by kernel_rfl)) (fun _ _ _ _ _ => (pgv_name (i := 2) sc__law_clash.nd rfl (by first | exact Or.inl rfl | exact Or.inr rfl) (by decide) (by first | exact Or.inl rfl | exact Or.inr rfl))) (fun _ _ _ _ _ => (ptsd_one (ptd_cmp (op_inX hr.units1) od_in (po_r 2 (pv 2)) (po_v (pd_call G__law_places (hr.mono (by decide)) rfl (takesF _) (pas_cons (po_v (pd_var 1 (pv 1))) pas_nil))) (by with_unfolding_all rfl)))) (fun _ _ _ _ _ => (pd_var 2 (pv 2))) (by intro _ _ h; first | (cases h; done) | (cases h; decide)))) (po_v (pd_lst pas_nil)) (nomark _)))))
theorem sc__law_word : FnScope ["_law_pot_here", "_law_k"] ["_law_pot_here"] (defScope (top 35)) := ⟨rfl, rfl, rfl, by decide +kernel, rfl, by decide +kernel, by decide +kernel⟩
theorem ok__law_word {f : Addr} {fd : FuncData} (T : Tx K mg cl) (F : Fun K "_law_word" "_law_word" (top 35) f fd) (gx : mg "_law_word" = some (.ref f)) (bd : Binds K fd ["_law_pot_here"] []) (G__law_draw : Means P w K mg base cl 1 "_law_draw" ["_law_pot_here", "_law_many"] Sc.dn__law_draw) : Means P w K mg base cl 2 "_law_word" ["_law_pot_here"] dn__law_word :=
  means_mk (k := 1) (N := ["_law_pot_here", "_law_k"]) (mask := [true]) F sc__law_word rfl gx bd fun cdv A outer s H E hr =>
    have tk : Takes (cxOf (L2.CX P w) P w K mg base ["_law_pot_here", "_law_k"] "_law_word" (defScope (top 35)) f cdv A outer s H E) (fun c d _ H => E c d H) := takes_of rfl rfl rfl rfl
    have po := passes_of (X := cxOf (L2.CX P w) P w K mg base ["_law_pot_here", "_law_k"] "_law_word" (defScope (top 35)) f cdv A outer s H E) rfl
    (pssd_one (psd_ret (pd_meth .str PySem.F.plainAttrs_str PySem.F.slot_str_join PySem.F.type_str_join mt_join od_join (po_v pd_str) (pas_cons (po_v (pd_lc (own := [("_law_k", 1)]) rfl sc__law_word.nd (pwk_r1 rfl T.n_range (po_v (pd_bin op_addX od_add (po_v pd_int) (po_v (pd_call G__law_draw (hr.mono (by decide)) rfl tk (pas_cons (po_r 0 (pv 0)) (pas_cons (po_v pd_int) pas_nil))))))) (blkOk_by (by kernel_rfl)) (fun _ _ _ _ _ => (pgv_name (i := 1) sc__law_word.nd rfl (by first | exact Or.inl rfl | exact Or.inr rfl) (by decide) (by first | exact Or.inl rfl | exact Or.inr rfl))) (fun _ _ _ _ _ => ptsd_nil) (fun _ _ _ _ _ => (pd_ix ix_X od_ix (po_v pd_str) (po_v (pd_call G__law_draw (hr.mono (by decide)) rfl (takesF _) (pas_cons (po_r 0 (pv 0)) (pas_cons (po_v pd_int) pas_nil)))) (fun _ _ => rfl))) (by intro _ _ h; first | (cases h; done) | (cases h; decide)))) pas_nil))))
theorem sc__law_share : FnScope ["_law_pot_here", "_law_least"] ["_law_pot_here", "_law_least"] (defScope (top 36)) := ⟨rfl, rfl, rfl, by decide +kernel, rfl, by decide +kernel, by decide +kernel⟩
theorem ok__law_share {f : Addr} {fd : FuncData} (T : Tx K mg cl) (F : Fun K "_law_share" "_law_share" (top 36) f fd) (gx : mg "_law_share" = some (.ref f)) (bd : Binds K fd ["_law_pot_here", "_law_least"] []) (G__law_draw : Means P w K mg base cl 1 "_law_draw" ["_law_pot_here", "_law_many"] Sc.dn__law_draw) (G__law_low : Means P w K mg base cl 1 "_law_low" ["_law_top_here", "_law_bottom_here"] Sc.dn__law_low) : Means P w K mg base cl 2 "_law_share" ["_law_pot_here", "_law_least"] dn__law_share :=
  means_mk (k := 1) (N := ["_law_pot_here", "_law_least"]) (mask := [true, false]) F sc__law_share rfl gx bd fun cdv A outer s H E hr =>
    have tk : Takes (cxOf (L2.CX P w) P w K mg base ["_law_pot_here", "_law_least"] "_law_share" (defScope (top 36)) f cdv A outer s H E) (fun c d _ H => E c d H) := takes_of rfl rfl rfl rfl
    have po := passes_of (X := cxOf (L2.CX P w) P w K mg base ["_law_pot_here", "_law_least"] "_law_share" (defScope (top 36)) f cdv A outer s H E) rfl
    (pssd_cons (psd_if (ptd_cmp (op_eqX hr.units) od_eqX (po_v (pd_call G__law_draw (hr.mono (by decide)) rfl tk (pas_cons (po_r 0 (pv 0)) (pas_cons (po_v pd_int) pas_nil)))) (po_v pd_int) (nomark _))
    (pssd_one (psd_ret (pd_call G__law_low (hr.mono (by decide)) rfl tk (pas_cons (po_v (pd_bin op_addX od_add (po_r 1 (pv 1)) (po_v (pd_call G__law_draw (hr.mono (by decide)) rfl tk (pas_cons (po_r 0 (pv 0)) (pas_cons (po_v pd_int) pas_nil)))))) (pas_cons (po_v (pd_bin op_addX od_add (po_v pd_int) (po_v (pd_call G__law_draw (hr.mono (by decide)) rfl tk (pas_cons (po_r 0 (pv 0)) (pas_cons (po_v pd_int) pas_nil)))))) pas_nil)))))
    pssd_nil)
    (pssd_one (psd_ret (pd_call G__law_low (hr.mono (by decide)) rfl tk (pas_cons (po_v (pd_bin op_addX od_add (po_r 1 (pv 1)) (po_v (pd_call G__law_draw (hr.mono (by decide)) rfl tk (pas_cons (po_r 0 (pv 0)) (pas_cons (po_v (pd_bin op_sub od_sub (po_v (pd_bin op_pow od_pow (po_v pd_int) (po_v pd_int))) (po_v pd_int))) pas_nil)))))) (pas_cons (po_v (pd_bin op_addX od_add (po_v pd_int) (po_v (pd_call G__law_draw (hr.mono (by decide)) rfl tk (pas_cons (po_r 0 (pv 0)) (pas_cons (po_v (pd_bin op_sub od_sub (po_v (pd_bin op_pow od_pow (po_v pd_int) (po_v pd_int))) (po_v pd_int))) pas_nil)))))) pas_nil))))))
theorem sc__law_part : FnScope ["_law_pot_here", "_law_name", "_law_ends", "_law_length", "_law_begin", "_law_beside", "_law_height", "_law_low_here"] ["_law_pot_here"] (defScope (top 37)) := ⟨rfl, rfl, rfl, by decide +kernel, rfl, by decide +kernel, by decide +kernel⟩
theorem ok__law_part {f : Addr} {fd : FuncData} (T : Tx K mg cl) (F : Fun K "_law_part" "_law_part" (top 37) f fd) (gx : mg "_law_part" = some (.ref f)) (bd : Binds K fd ["_law_pot_here"] []) (G__law_word : Means P w K mg base cl 2 "_law_word" ["_law_pot_here"] dn__law_word) (G__law_share : Means P w K mg base cl 2 "_law_share" ["_law_pot_here", "_law_least"] dn__law_share) (G__law_draw : Means P w K mg base cl 1 "_law_draw" ["_law_pot_here", "_law_many"] Sc.dn__law_draw) : Means P w K mg base cl 3 "_law_part" ["_law_pot_here"] dn__law_part :=
  means_mk (k := 2) (N := ["_law_pot_here", "_law_name", "_law_ends", "_law_length", "_law_begin", "_law_beside", "_law_height", "_law_low_here"]) (mask := [true]) F sc__law_part rfl gx bd fun cdv A outer s H E hr =>
    have tk : Takes (cxOf (L2.CX P w) P w K mg base ["_law_pot_here", "_law_name", "_law_ends", "_law_length", "_law_begin", "_law_beside", "_law_height", "_law_low_here"] "_law_part" (defScope (top 37)) f cdv A outer s H E) (fun c d _ H => E c d H) := takes_of rfl rfl rfl rfl
    have po := passes_of (X := cxOf (L2.CX P w) P w K mg base ["_law_pot_here", "_law_name", "_law_ends", "_law_length", "_law_begin", "_law_beside", "_law_height", "_law_low_here"] "_law_part" (defScope (top 37)) f cdv A outer s H E) rfl
    (pssd_cons (psd_asg (pd_call G__law_word (hr.mono (by decide)) rfl tk (pas_cons (po_r 0 (pv 0)) pas_nil)) (pgd_name (i := 1) sc__law_part.nd rfl (Or.inl rfl)) gN_nx)
    (pssd_cons (psd_asg (pd_tup (pas_cons (po_v (pd_call G__law_share (hr.mono (by decide)) rfl tk (pas_cons (po_r 0 (pv 0)) (pas_cons (po_v pd_int) pas_nil)))) (pas_cons (po_v (pd_call G__law_share (hr.mono (by decide)) rfl tk (pas_cons (po_r 0 (pv 0)) (pas_cons (po_v pd_int) pas_nil)))) pas_nil))) (pgd_name (i := 2) sc__law_part.nd rfl (Or.inl rfl)) gN_nx)
    (pssd_cons (psd_if (ptd_cmp (op_eqX hr.units) od_eqX (po_v (pd_call G__law_draw (hr.mono (by decide)) rfl tk (pas_cons (po_r 0 (pv 0)) (pas_cons (po_v pd_int) pas_nil)))) (po_v pd_int) (nomark _))
    (pssd_cons (psd_asg (pd_call G__law_draw (hr.mono (by decide)) rfl tk (pas_cons (po_r 0 (pv 0)) (pas_cons (po_v pd_int) pas_nil))) (pgd_name (i := 7) sc__law_part.nd rfl (Or.inl rfl)) gN_nx)
    (pssd_one (psd_ret (pd_bin op_addX od_add (po_v (pd_tup (pas_cons (po_v pd_str) (pas_cons (po_v (pd_var 1 (pv 1))) (pas_cons (po_v (pd_call G__law_draw (hr.mono (by decide)) rfl tk (pas_cons (po_r 0 (pv 0)) (pas_cons (po_v pd_int) pas_nil)))) (pas_cons (po_v (pd_call G__law_draw (hr.mono (by decide)) rfl tk (pas_cons (po_r 0 (pv 0)) (pas_cons (po_v pd_int) pas_nil)))) (pas_cons (po_v (pd_var 7 (pv 7))) (pas_cons (po_v (pd_bin op_addX od_add (po_v (pd_bin op_addX od_add (po_r 7 (pv 7)) (po_v pd_int))) (po_v (pd_call G__law_draw (hr.mono (by decide)) rfl tk (pas_cons (po_r 0 (pv 0)) (pas_cons (po_v (pd_bin op_sub od_sub (po_v pd_int) (po_r 7 (pv 7)))) pas_nil)))))) pas_nil)))))))) (po_r 2 (pv 2))))))
    pssd_nil)
    (pssd_cons (psd_asg (pd_bin op_addX od_add (po_v pd_int) (po_v (pd_call G__law_draw (hr.mono (by decide)) rfl tk (pas_cons (po_r 0 (pv 0)) (pas_cons (po_v pd_int) pas_nil))))) (pgd_name (i := 3) sc__law_part.nd rfl (Or.inl rfl)) gN_nx)
    (pssd_cons (psd_asg (pd_call G__law_draw (hr.mono (by decide)) rfl tk (pas_cons (po_r 0 (pv 0)) (pas_cons (po_v (pd_bin op_sub od_sub (po_v pd_int) (po_r 3 (pv 3)))) pas_nil))) (pgd_name (i := 4) sc__law_part.nd rfl (Or.inl rfl)) gN_nx)
    (pssd_cons (psd_asg (pd_call G__law_draw (hr.mono (by decide)) rfl tk (pas_cons (po_r 0 (pv 0)) (pas_cons (po_v pd_int) pas_nil))) (pgd_name (i := 5) sc__law_part.nd rfl (Or.inl rfl)) gN_nx)
    (pssd_cons (psd_asg (pd_call G__law_draw (hr.mono (by decide)) rfl tk (pas_cons (po_r 0 (pv 0)) (pas_cons (po_v pd_int) pas_nil))) (pgd_name (i := 6) sc__law_part.nd rfl (Or.inl rfl)) gN_nx)
    (pssd_cons (psd_if (ptd_cmp (op_eqX hr.units) od_eqX (po_v (pd_call G__law_draw (hr.mono (by decide)) rfl tk (pas_cons (po_r 0 (pv 0)) (pas_cons (po_v pd_int) pas_nil)))) (po_v pd_int) (nomark _))
    (pssd_one (psd_ret (pd_bin op_addX od_add (po_v (pd_tup (pas_cons (po_v pd_str) (pas_cons (po_v (pd_var 1 (pv 1))) (pas_cons (po_v (pd_var 4 (pv 4))) (pas_cons (po_v (pd_var 5 (pv 5))) (pas_cons (po_v pd_str) (pas_cons (po_v (pd_var 3 (pv 3))) (pas_cons (po_v (pd_var 6 (pv 6))) pas_nil))))))))) (po_r 2 (pv 2)))))
    pssd_nil)
    (pssd_one (psd_ret (pd_bin op_addX od_add (po_v (pd_tup (pas_cons (po_v pd_str) (pas_cons (po_v (pd_var 1 (pv 1))) (pas_cons (po_v (pd_var 5 (pv 5))) (pas_cons (po_v (pd_var 4 (pv 4))) (pas_cons (po_v pd_str) (pas_cons (po_v (pd_var 3 (pv 3))) (pas_cons (po_v (pd_var 6 (pv 6))) pas_nil))))))))) (po_r 2 (pv 2)))))))))))))
theorem sc__law_spoiled : FnScope ["_law_pot_here", "_law_part_here", "_law_odd", "_law_way", "_law_at"] ["_law_pot_here", "_law_part_here"] (defScope (top 38)) := ⟨rfl, rfl, rfl, by decide +kernel, rfl, by decide +kernel, by decide +kernel⟩
theorem ok__law_spoiled {f : Addr} {fd : FuncData} (T : Tx K mg cl) (F : Fun K "_law_spoiled" "_law_spoiled" (top 38) f fd) (gx : mg "_law_spoiled" = some (.ref f)) (bd : Binds K fd ["_law_pot_here", "_law_part_here"] []) (G__law_draw : Means P w K mg base cl 1 "_law_draw" ["_law_pot_here", "_law_many"] Sc.dn__law_draw) : Means P w K mg base cl 2 "_law_spoiled" ["_law_pot_here", "_law_part_here"] dn__law_spoiled :=
  means_mk (k := 1) (N := ["_law_pot_here", "_law_part_here", "_law_odd", "_law_way", "_law_at"]) (mask := [true, false]) F sc__law_spoiled rfl gx bd fun cdv A outer s H E hr =>
    have tk : Takes (cxOf (L2.CX P w) P w K mg base ["_law_pot_here", "_law_part_here", "_law_odd", "_law_way", "_law_at"] "_law_spoiled" (defScope (top 38)) f cdv A outer s H E) (fun c d _ H => E c d H) := takes_of rfl rfl rfl rfl
    have po := passes_of (X := cxOf (L2.CX P w) P w K mg base ["_law_pot_here", "_law_part_here", "_law_odd", "_law_way", "_law_at"] "_law_spoiled" (defScope (top 38)) f cdv A outer s H E) rfl
    (pssd_cons (psd_asg (pd_lst (pas_cons (po_v (pd_un un_neg od_neg (po_v pd_int))) (pas_cons (po_v pd_int) (pas_cons (po_v pd_int) (pas_cons (po_v pd_int) (pas_cons (po_v pd_bl) (pas_cons (po_v pd_non) (pas_cons (po_v pd_str) (pas_cons (po_v pd_str) (pas_cons (po_v pd_str) (pas_cons (po_v pd_str) (pas_cons (po_v pd_str) (pas_cons (po_v pd_str) (pas_cons (po_v pd_str) (pas_cons (po_v pd_str) (pas_cons (po_v (pd_tup (pas_cons (po_v pd_int) (pas_cons (po_v pd_int) pas_nil)))) (pas_cons (po_v (pd_tup (pas_cons (po_v pd_int) (pas_cons (po_v pd_int) pas_nil)))) (pas_cons (po_v (pd_tup (pas_cons (po_v pd_int) (pas_cons (po_v pd_int) pas_nil)))) pas_nil)))))))))))))))))) (pgd_name (i := 2) sc__law_spoiled.nd rfl (Or.inl rfl)) gN_nx)
    (pssd_cons (psd_asg (pd_bin op_addX od_add (po_r 2 (pv 2)) (po_v (pd_lst (pas_cons (po_v (pd_tup (pas_cons (po_v (pd_un un_neg od_neg (po_v pd_int))) (pas_cons (po_v pd_int) pas_nil)))) (pas_cons (po_v (pd_tup (pas_cons (po_v pd_int) (pas_cons (po_v pd_int) pas_nil)))) (pas_cons (po_v (pd_lst (pas_cons (po_v pd_int) (pas_cons (po_v pd_int) pas_nil)))) (pas_cons (po_v (pd_tup (pas_cons (po_v pd_bl) (pas_cons (po_v pd_int) pas_nil)))) (pas_cons (po_v (pd_tup (pas_cons (po_v pd_int) (pas_cons (po_v pd_int) (pas_cons (po_v pd_int) pas_nil))))) (pas_cons (po_v pd_str) (pas_cons (po_v (pd_lst (pas_cons (po_v pd_str) pas_nil))) (pas_cons (po_v pd_newK) pas_nil))))))))))) (pgd_name (i := 2) sc__law_spoiled.nd rfl (Or.inl rfl)) gN_nx)
    (pssd_cons (psd_asg (pd_call G__law_draw (hr.mono (by decide)) rfl tk (pas_cons (po_r 0 (pv 0)) (pas_cons (po_v pd_int) pas_nil))) (pgd_name (i := 3) sc__law_spoiled.nd rfl (Or.inl rfl)) gN_nx)
    (pssd_cons (psd_asg (pd_call G__law_draw (hr.mono (by decide)) rfl tk (pas_cons (po_r 0 (pv 0)) (pas_cons (po_v (pd_callB call_len od_len rfl T.n_len (by decide +kernel) (pas_cons (po_r 1 (pv 1)) pas_nil))) pas_nil))) (pgd_name (i := 4) sc__law_spoiled.nd rfl (Or.inl rfl)) gN_nx)
    (pssd_cons (psd_if (ptd_cmp op_lt od_lt (po_r 3 (pv 3)) (po_v pd_int) (nomark _))
    (pssd_one (psd_ret (pd_bin op_addX od_add (po_v (pd_bin op_addX od_add (po_v (pd_slice sl_X sd_X (po_r 1 (pv 1)) pid_none (pid_some (po_r 4 (pv 4))))) (po_v (pd_tup (pas_cons (po_v (pd_ix ix_X od_ix (po_r 2 (pv 2)) (po_v (pd_call G__law_draw (hr.mono (by decide)) rfl tk (pas_cons (po_r 0 (pv 0)) (pas_cons (po_v (pd_callB call_len od_len rfl T.n_len (by decide +kernel) (pas_cons (po_r 2 (pv 2)) pas_nil))) pas_nil)))) (fun _ _ => rfl))) pas_nil))))) (po_v (pd_slice sl_X sd_X (po_r 1 (pv 1)) (pid_some (po_v (pd_bin op_addX od_add (po_r 4 (pv 4)) (po_v pd_int)))) pid_none)))))
    pssd_nil)
    (pssd_cons (psd_if (ptd_cmp (op_eqX hr.units) od_eqX (po_r 3 (pv 3)) (po_v pd_int) (nomark _))
    (pssd_one (psd_ret (pd_ix ix_X od_ix (po_v (pd_lst (pas_cons (po_v (pd_callTy call_list_of od_list rfl T.n_list (by decide +kernel) (pas_cons (po_r 1 (pv 1)) pas_nil))) (pas_cons (po_v (pd_slice sl_X sd_X (po_r 1 (pv 1)) pid_none (pid_some (po_v (pd_un un_neg od_neg (po_v pd_int)))))) (pas_cons (po_v (pd_bin op_addX od_add (po_r 1 (pv 1)) (po_v (pd_tup (pas_cons (po_v (pd_tup (pas_cons (po_v pd_int) (pas_cons (po_v pd_int) pas_nil)))) pas_nil))))) (pas_cons (po_v (pd_tup pas_nil)) (pas_cons (po_v pd_non) (pas_cons (po_v (pd_ix ix_X od_ix (po_r 1 (pv 1)) (po_v pd_int) (fun _ _ => rfl))) pas_nil)))))))) (po_v (pd_call G__law_draw (hr.mono (by decide)) rfl tk (pas_cons (po_r 0 (pv 0)) (pas_cons (po_v pd_int) pas_nil)))) (fun _ _ => rfl))))
    pssd_nil)
    (pssd_one (psd_ret (pd_mov 1 (pv 1))))))))))
theorem sc__law_whole : FnScope ["_law_thing", "_law_least", "_law_most"] ["_law_thing", "_law_least", "_law_most"] (defScope (top 39)) := ⟨rfl, rfl, rfl, by decide +kernel, rfl, by decide +kernel, by decide +kernel⟩
theorem ok__law_whole {f : Addr} {fd : FuncData} (T : Tx K mg cl) (F : Fun K "_law_whole" "_law_whole" (top 39) f fd) (gx : mg "_law_whole" = some (.ref f)) (bd : Binds K fd ["_law_thing", "_law_least", "_law_most"] []) : Means P w K mg base cl 1 "_law_whole" ["_law_thing", "_law_least", "_law_most"] dn__law_whole :=
  means_mk (k := 0) (N := ["_law_thing", "_law_least", "_law_most"]) (mask := [false, false, false]) F sc__law_whole rfl gx bd fun cdv A outer s H E hr =>
    have tk : Takes (cxOf (L2.CX P w) P w K mg base ["_law_thing", "_law_least", "_law_most"] "_law_whole" (defScope (top 39)) f cdv A outer s H E) (fun c d _ H => E c d H) := takes_of rfl rfl rfl rfl
    have po := passes_of (X := cxOf (L2.CX P w) P w K mg base ["_law_thing", "_law_least", "_law_most"] "_law_whole" (defScope (top 39)) f cdv A outer s H E) rfl
    (pssd_one (psd_ret (pd_and (pd_isi .int rfl T.n_isinstance (po_r 0 (pv 0)) (pe_bltn rfl T.n_int (by decide +kernel) rfl)) (pd_and (pd_not (pd_isi .bool rfl T.n_isinstance (po_r 0 (pv 0)) (pe_bltn rfl T.n_bool (by decide +kernel) rfl))) (pd_one (pd_chain op_le op_le (po_r 1 (pv 1)) (po_r 0 (pv 0)) (po_r 2 (pv 2))))))))
theorem sc__law_is_share : FnScope ["_law_thing", "_law_least"] ["_law_thing", "_law_least"] (defScope (top 40)) := ⟨rfl, rfl, rfl, by decide +kernel, rfl, by decide +kernel, by decide +kernel⟩
theorem ok__law_is_share {f : Addr} {fd : FuncData} (T : Tx K mg cl) (F : Fun K "_law_is_share" "_law_is_share" (top 40) f fd) (gx : mg "_law_is_share" = some (.ref f)) (bd : Binds K fd ["_law_thing", "_law_least"] []) (G__law_whole : Means P w K mg base cl 1 "_law_whole" ["_law_thing", "_law_least", "_law_most"] dn__law_whole) (G__law_low : Means P w K mg base cl 1 "_law_low" ["_law_top_here", "_law_bottom_here"] Sc.dn__law_low) : Means P w K mg base cl 2 "_law_is_share" ["_law_thing", "_law_least"] dn__law_is_share :=
  means_mk (k := 1) (N := ["_law_thing", "_law_least"]) (mask := [false, false]) F sc__law_is_share rfl gx bd fun cdv A outer s H E hr =>
    have tk : Takes (cxOf (L2.CX P w) P w K mg base ["_law_thing", "_law_least"] "_law_is_share" (defScope (top 40)) f cdv A outer s H E) (fun c d _ H => E c d H) := takes_of rfl rfl rfl rfl
    have po := passes_of (X := cxOf (L2.CX P w) P w K mg base ["_law_thing", "_law_least"] "_law_is_share" (defScope (top 40)) f cdv A outer s H E) rfl
    (pssd_cons (psd_if (ptd_of (pwd_or (ptd_not (ptd_val (pd_isi .tuple rfl T.n_isinstance (po_r 0 (pv 0)) (pe_bltn rfl T.n_tuple (by decide +kernel) rfl)))) (pwd_or (ptd_cmp (op_neX hr.units) od_neX (po_v (pd_callB call_len od_len rfl T.n_len (by decide +kernel) (pas_cons (po_r 0 (pv 0)) pas_nil))) (po_v pd_int) (nomark _)) (pwd_or1 (ptd_not (ptd_val (pd_call G__law_whole (hr.mono (by decide)) rfl tk (pas_cons (po_v (pd_ix ix_X od_ix (po_r 0 (pv 0)) (po_v pd_int) (fun _ _ => rfl))) (pas_cons (po_v (pd_var 1 (pv 1))) (pas_cons (po_v (pd_bin op_pow od_pow (po_v pd_int) (po_v pd_int))) pas_nil))))))))))
    (pssd_one (psd_ret pd_bl))
    pssd_nil)
    (pssd_one (psd_ret (pd_and (pd_call G__law_whole (hr.mono (by decide)) rfl tk (pas_cons (po_v (pd_ix ix_X od_ix (po_r 0 (pv 0)) (po_v pd_int) (fun _ _ => rfl))) (pas_cons (po_v pd_int) (pas_cons (po_v (pd_bin op_pow od_pow (po_v pd_int) (po_v pd_int))) pas_nil)))) (pd_one (pd_cmp (op_eqX hr.units) od_eqX (po_v (pd_call G__law_low (hr.mono (by decide)) rfl tk (pas_cons (po_v (pd_ix ix_X od_ix (po_r 0 (pv 0)) (po_v pd_int) (fun _ _ => rfl))) (pas_cons (po_v (pd_ix ix_X od_ix (po_r 0 (pv 0)) (po_v pd_int) (fun _ _ => rfl))) pas_nil)))) (po_r 0 (pv 0)) (nomark _)))))))
theorem sc__law_is_name : FnScope ["_law_thing", "_law_sign"] ["_law_thing"] (defScope (top 41)) := ⟨rfl, rfl, rfl, by decide +kernel, rfl, by decide +kernel, by decide +kernel⟩
theorem ok__law_is_name {f : Addr} {fd : FuncData} (T : Tx K mg cl) (F : Fun K "_law_is_name" "_law_is_name" (top 41) f fd) (gx : mg "_law_is_name" = some (.ref f)) (bd : Binds K fd ["_law_thing"] []) : Means P w K mg base cl 1 "_law_is_name" ["_law_thing"] dn__law_is_name :=
  means_mk (k := 0) (N := ["_law_thing", "_law_sign"]) (mask := [false]) F sc__law_is_name rfl gx bd fun cdv A outer s H E hr =>
    have tk : Takes (cxOf (L2.CX P w) P w K mg base ["_law_thing", "_law_sign"] "_law_is_name" (defScope (top 41)) f cdv A outer s H E) (fun c d _ H => E c d H) := takes_of rfl rfl rfl rfl
    have po := passes_of (X := cxOf (L2.CX P w) P w K mg base ["_law_thing", "_law_sign"] "_law_is_name" (defScope (top 41)) f cdv A outer s H E) rfl
    (pssd_cons (psd_if (ptd_of (pwd_or (ptd_not (ptd_val (pd_isi .str rfl T.n_isinstance (po_r 0 (pv 0)) (pe_bltn rfl T.n_str (by decide +kernel) rfl)))) (pwd_or (ptd_cmp op_lt od_lt (po_v (pd_callB call_len od_len rfl T.n_len (by decide +kernel) (pas_cons (po_r 0 (pv 0)) pas_nil))) (po_v pd_int) (nomark _)) (pwd_or1 (ptd_cmp op_gt od_gt (po_v (pd_callB call_len od_len rfl T.n_len (by decide +kernel) (pas_cons (po_r 0 (pv 0)) pas_nil))) (po_v pd_int) (nomark _))))))
    (pssd_one (psd_ret pd_bl))
    pssd_nil)
    (pssd_one (psd_ret (pd_cmp (op_eqX hr.units) od_eqX (po_v (pd_lc (own := [("_law_sign", 1)]) rfl sc__law_is_name.nd (pwk_seq (pd_var 0 (pv 0))) (blkOk_by (by kernel_rfl)) (fun _ _ _ _ _ => (pgv_name (i := 1) sc__law_is_name.nd rfl (by first | exact Or.inl rfl | exact Or.inr rfl) (by decide) (by first | exact Or.inl rfl | exact Or.inr rfl))) (fun _ _ _ _ _ => (ptsd_one (ptd_cmp (op_notInX hr.units1) od_notIn (po_r 1 (pv 1)) (po_v pd_str) (by with_unfolding_all rfl)))) (fun _ _ _ _ _ => (pd_var 1 (pv 1))) (by intro _ _ h; first | (cases h; done) | (cases h; decide)))) (po_v (pd_lst pas_nil)) (nomark _)))))
theorem sc__law_is_part : FnScope ["_law_thing", "_law_one"] ["_law_thing"] (defScope (top 42)) := ⟨rfl, rfl, rfl, by decide +kernel, rfl, by decide +kernel, by decide +kernel⟩
theorem ok__law_is_part {f : Addr} {fd : FuncData} (T : Tx K mg cl) (F : Fun K "_law_is_part" "_law_is_part" (top 42) f fd) (gx : mg "_law_is_part" = some (.ref f)) (bd : Binds K fd ["_law_thing"] []) (G__law_is_name : Means P w K mg base cl 1 "_law_is_name" ["_law_thing"] dn__law_is_name) (G__law_is_share : Means P w K mg base cl 2 "_law_is_share" ["_law_thing", "_law_least"] dn__law_is_share) (G__law_whole : Means P w K mg base cl 1 "_law_whole" ["_law_thing", "_law_least", "_law_most"] dn__law_whole) : Means P w K mg base cl 3 "_law_is_part" ["_law_thing"] dn__law_is_part :=
  means_mk (k := 2) (N := ["_law_thing", "_law_one"]) (mask := [false]) F sc__law_is_part rfl gx bd fun cdv A outer s H E hr =>
    have tk : Takes (cxOf (L2.CX P w) P w K mg base ["_law_thing", "_law_one"] "_law_is_part" (defScope (top 42)) f cdv A outer s H E) (fun c d _ H => E c d H) := takes_of rfl rfl rfl rfl
    have po := passes_of (X := cxOf (L2.CX P w) P w K mg base ["_law_thing", "_law_one"] "_law_is_part" (defScope (top 42)) f cdv A outer s H E) rfl
    (pssd_cons (psd_if (ptd_of (pwd_or (ptd_not (ptd_val (pd_isi .tuple rfl T.n_isinstance (po_r 0 (pv 0)) (pe_bltn rfl T.n_tuple (by decide +kernel) rfl)))) (pwd_or (ptd_cmp (op_notInX hr.units1) od_notIn (po_v (pd_callB call_len od_len rfl T.n_len (by decide +kernel) (pas_cons (po_r 0 (pv 0)) pas_nil))) (po_v (pd_tup (pas_cons (po_v pd_int) (pas_cons (po_v pd_int) pas_nil)))) (by with_unfolding_all rfl)) (pwd_or1 (ptd_not (ptd_val (pd_call G__law_is_name (hr.mono (by decide)) rfl tk (pas_cons (po_v (pd_ix ix_X od_ix (po_r 0 (pv 0)) (po_v pd_int) (fun _ _ => rfl))) pas_nil))))))))
    (pssd_one (psd_ret pd_bl))
    pssd_nil)
    (pssd_cons (psd_if (ptd_of (pwd_or (ptd_not (ptd_val (pd_call G__law_is_share (hr.mono (by decide)) rfl tk (pas_cons (po_v (pd_ix ix_X od_ix (po_r 0 (pv 0)) (po_v (pd_un un_neg od_neg (po_v pd_int))) (fun _ _ => rfl))) (pas_cons (po_v pd_int) pas_nil))))) (pwd_or1 (ptd_not (ptd_val (pd_call G__law_is_share (hr.mono (by decide)) rfl tk (pas_cons (po_v (pd_ix ix_X od_ix (po_r 0 (pv 0)) (po_v (pd_un un_neg od_neg (po_v pd_int))) (fun _ _ => rfl))) (pas_cons (po_v pd_int) pas_nil))))))))
    (pssd_one (psd_ret pd_bl))
    pssd_nil)
    (pssd_cons (psd_if (ptd_cmp (op_eqX hr.units) od_eqX (po_v (pd_callB call_len od_len rfl T.n_len (by decide +kernel) (pas_cons (po_r 0 (pv 0)) pas_nil))) (po_v pd_int) (nomark _))
    (pssd_cons (psd_if (ptd_of (pwd_or (ptd_cmp (op_neX hr.units) od_neX (po_v (pd_ix ix_X od_ix (po_r 0 (pv 0)) (po_v pd_int) (fun _ _ => rfl))) (po_v pd_str) (nomark _)) (pwd_or1 (ptd_cmp (op_neX hr.units) od_neX (po_v (pd_lc (own := [("_law_one", 1)]) rfl sc__law_is_part.nd (pwk_seq (pd_slice sl_X sd_X (po_r 0 (pv 0)) (pid_some (po_v pd_int)) (pid_some (po_v pd_int)))) (blkOk_by (by kernel_rfl)) (fun _ _ _ _ _ => (pgv_name (i := 1) sc__law_is_part.nd rfl (by first | exact Or.inl rfl | exact Or.inr rfl) (by decide) (by first | exact Or.inl rfl | exact Or.inr rfl))) (fun _ _ _ _ _ => (ptsd_one (ptd_not (ptd_val (pd_call G__law_whole (hr.mono (by decide)) rfl (takesF _) (pas_cons (po_v (pd_var 1 (pv 1))) (pas_cons (po_v pd_int) (pas_cons (po_v pd_int) pas_nil)))))))) (fun _ _ _ _ _ => (pd_var 1 (pv 1))) (by intro _ _ h; first | (cases h; done) | (cases h; decide)))) (po_v (pd_lst pas_nil)) (nomark _)))))
    (pssd_one (psd_ret pd_bl))
    pssd_nil)
    (pssd_one (psd_ret (pd_cmp op_lt od_lt (po_v (pd_ix ix_X od_ix (po_r 0 (pv 0)) (po_v pd_int) (fun _ _ => rfl))) (po_v (pd_ix ix_X od_ix (po_r 0 (pv 0)) (po_v pd_int) (fun _ _ => rfl))) (nomark _)))))
    pssd_nil)
    (pssd_cons (psd_if (ptd_of (pwd_or (ptd_cmp (op_neX hr.units) od_neX (po_v (pd_ix ix_X od_ix (po_r 0 (pv 0)) (po_v pd_int) (fun _ _ => rfl))) (po_v pd_str) (nomark _)) (pwd_or (ptd_not (ptd_val (pd_call G__law_whole (hr.mono (by decide)) rfl tk (pas_cons (po_v (pd_ix ix_X od_ix (po_r 0 (pv 0)) (po_v pd_int) (fun _ _ => rfl))) (pas_cons (po_v pd_int) (pas_cons (po_v pd_int) pas_nil)))))) (pwd_or1 (ptd_not (ptd_val (pd_call G__law_whole (hr.mono (by decide)) rfl tk (pas_cons (po_v (pd_ix ix_X od_ix (po_r 0 (pv 0)) (po_v pd_int) (fun _ _ => rfl))) (pas_cons (po_v pd_int) (pas_cons (po_v pd_int) pas_nil))))))))))
    (pssd_one (psd_ret pd_bl))
    pssd_nil)
    (pssd_cons (psd_if (ptd_of (pwd_or (ptd_not (ptd_val (pd_call G__law_whole (hr.mono (by decide)) rfl tk (pas_cons (po_v (pd_ix ix_X od_ix (po_r 0 (pv 0)) (po_v pd_int) (fun _ _ => rfl))) (pas_cons (po_v pd_int) (pas_cons (po_v pd_int) pas_nil)))))) (pwd_or1 (ptd_not (ptd_val (pd_call G__law_whole (hr.mono (by decide)) rfl tk (pas_cons (po_v (pd_ix ix_X od_ix (po_r 0 (pv 0)) (po_v pd_int) (fun _ _ => rfl))) (pas_cons (po_v pd_int) (pas_cons (po_v pd_int) pas_nil)))))))))
    (pssd_one (psd_ret pd_bl))
    pssd_nil)
    (pssd_one (psd_ret (pd_or (pd_and (pd_cmp (op_eqX hr.units) od_eqX (po_v (pd_ix ix_X od_ix (po_r 0 (pv 0)) (po_v pd_int) (fun _ _ => rfl))) (po_v pd_str) (nomark _)) (pd_one (pd_cmp op_lt od_lt (po_v (pd_bin op_addX od_add (po_v (pd_ix ix_X od_ix (po_r 0 (pv 0)) (po_v pd_int) (fun _ _ => rfl))) (po_v (pd_ix ix_X od_ix (po_r 0 (pv 0)) (po_v pd_int) (fun _ _ => rfl))))) (po_v pd_int) (nomark _)))) (pd_one (pd_and (pd_cmp (op_eqX hr.units) od_eqX (po_v (pd_ix ix_X od_ix (po_r 0 (pv 0)) (po_v pd_int) (fun _ _ => rfl))) (po_v pd_str) (nomark _)) (pd_one (pd_cmp op_lt od_lt (po_v (pd_bin op_addX od_add (po_v (pd_ix ix_X od_ix (po_r 0 (pv 0)) (po_v pd_int) (fun _ _ => rfl))) (po_v (pd_ix ix_X od_ix (po_r 0 (pv 0)) (po_v pd_int) (fun _ _ => rfl))))) (po_v pd_int) (nomark _)))))))))))))
theorem sc_law : FnScope ["_law_script", "_law_cell_here", "_law_pot_here", "_law_thing", "_law_found", "_law_told"] ["_law_script"] (defScope (top 43)) := ⟨rfl, rfl, rfl, by decide +kernel, rfl, by decide +kernel, by decide +kernel⟩
theorem ok_law {f : Addr} {fd : FuncData} (T : Tx K mg cl) (F : Fun K "law" "law" (top 43) f fd) (G__law_pot : Means P w K mg base cl 1 "_law_pot" ["_law_cell_here"] Sc.dn__law_pot) (G__law_spoiled : Means P w K mg base cl 2 "_law_spoiled" ["_law_pot_here", "_law_part_here"] dn__law_spoiled) (G__law_part : Means P w K mg base cl 3 "_law_part" ["_law_pot_here"] dn__law_part) (G_is_part : Means P w K mg base cl 5 "is_part" ["thing"] Sc.dn_is_part) (G__law_is_part : Means P w K mg base cl 3 "_law_is_part" ["_law_thing"] dn__law_is_part) (G_bottom_of : Means P w K mg base cl 2 "bottom_of" ["part"] Sc.dn_bottom_of) (G__law_bottom : Means P w K mg base cl 1 "_law_bottom" ["_law_part_here"] Sc.dn__law_bottom) (G_top_of : Means P w K mg base cl 2 "top_of" ["part"] Sc.dn_top_of) (G__law_top : Means P w K mg base cl 1 "_law_top" ["_law_part_here"] Sc.dn__law_top) (G_places_of : Means P w K mg base cl 2 "places_of" ["part"] Sc.dn_places_of) (G__law_places : Means P w K mg base cl 1 "_law_places" ["_law_part_here"] Sc.dn__law_places) : FnOk P w K mg base (L2.CX P w) 6 f fd ["_law_script"] (spF ⟨K, cl⟩ 1 dn_law) :=
  fn_D (k := 5) (N := ["_law_script", "_law_cell_here", "_law_pot_here", "_law_thing", "_law_found", "_law_told"]) (mask := [false]) F sc_law rfl fun cdv A outer s H E hr =>
    have tk : Takes (cxOf (L2.CX P w) P w K mg base ["_law_script", "_law_cell_here", "_law_pot_here", "_law_thing", "_law_found", "_law_told"] "law" (defScope (top 43)) f cdv A outer s H E) (fun c d _ H => E c d H) := takes_of rfl rfl rfl rfl
    have po := passes_of (X := cxOf (L2.CX P w) P w K mg base ["_law_script", "_law_cell_here", "_law_pot_here", "_law_thing", "_law_found", "_law_told"] "law" (defScope (top 43)) f cdv A outer s H E) rfl
    (pssd_cons (psd_forI po rfl (pwk_seq (pd_slice sl_X sd_X (po_r 0 (pv 0)) pid_none (pid_some (po_v pd_int)))) (pgd_name (i := 1) sc_law.nd rfl (Or.inl rfl))
    (pssd_cons (psd_asg (pd_call G__law_pot (hr.mono (by decide)) rfl tk (pas_cons (po_v (pd_var 1 (pv 1))) pas_nil)) (pgd_name (i := 2) sc_law.nd rfl (Or.inl rfl)) gN_nx)
    (pssd_cons (psd_asg (pd_call G__law_spoiled (hr.mono (by decide)) rfl tk (pas_cons (po_r 2 (pv 2)) (pas_cons (po_v (pd_call G__law_part (hr.mono (by decide)) rfl tk (pas_cons (po_r 2 (pv 2)) pas_nil))) pas_nil))) (pgd_name (i := 3) sc_law.nd rfl (Or.inl rfl)) gN_nx)
    (pssd_cons (psd_asg (pd_call G_is_part (hr.mono (by decide)) rfl tk (pas_cons (po_v (pd_var 3 (pv 3))) pas_nil)) (pgd_name (i := 4) sc_law.nd rfl (Or.inl rfl)) gN_nx)
    (pssd_cons (psd_if (ptd_of (pwd_or (ptd_not (ptd_val (pd_isi .bool rfl T.n_isinstance (po_r 4 (pv 4)) (pe_bltn rfl T.n_bool (by decide +kernel) rfl)))) (pwd_or1 (ptd_cmp (op_neX hr.units) od_neX (po_r 4 (pv 4)) (po_v (pd_call G__law_is_part (hr.mono (by decide)) rfl tk (pas_cons (po_v (pd_var 3 (pv 3))) pas_nil))) (nomark _)))))
    (pssd_one (psd_ret pd_bl))
    pssd_nil)
    (pssd_one (psd_if (ptd_val (pd_var 4 (pv 4)))
    (pssd_cons (psd_if (ptd_of (pwd_or (ptd_cmp (op_neX hr.units) od_neX (po_v (pd_call G_bottom_of (hr.mono (by decide)) rfl tk (pas_cons (po_v (pd_var 3 (pv 3))) pas_nil))) (po_v (pd_call G__law_bottom (hr.mono (by decide)) rfl tk (pas_cons (po_v (pd_var 3 (pv 3))) pas_nil))) (nomark _)) (pwd_or1 (ptd_cmp (op_neX hr.units) od_neX (po_v (pd_call G_top_of (hr.mono (by decide)) rfl tk (pas_cons (po_v (pd_var 3 (pv 3))) pas_nil))) (po_v (pd_call G__law_top (hr.mono (by decide)) rfl tk (pas_cons (po_v (pd_var 3 (pv 3))) pas_nil))) (nomark _)))))
    (pssd_one (psd_ret pd_bl))
    pssd_nil)
    (pssd_cons (psd_asg (pd_call G_places_of (hr.mono (by decide)) rfl tk (pas_cons (po_v (pd_var 3 (pv 3))) pas_nil)) (pgd_name (i := 5) sc_law.nd rfl (Or.inl rfl)) gN_nx)
    (pssd_cons (psd_if (ptd_of (pwd_or (ptd_cmp (op_neX hr.units) od_neX (po_r 5 (pv 5)) (po_v (pd_call G__law_places (hr.mono (by decide)) rfl tk (pas_cons (po_v (pd_var 3 (pv 3))) pas_nil))) (nomark _)) (pwd_or1 (ptd_not (ptd_val (pd_isi .list rfl T.n_isinstance (po_r 5 (pv 5)) (pe_bltn rfl T.n_list (by decide +kernel) rfl)))))))
    (pssd_one (psd_ret pd_bl))
    pssd_nil)
    (pssd_cons (psd_append (pv 5) (pd_tup (pas_cons (po_v pd_int) (pas_cons (po_v pd_int) pas_nil))))
    (pssd_one (psd_if (ptd_cmp (op_neX hr.units) od_neX (po_v (pd_call G_places_of (hr.mono (by decide)) rfl tk (pas_cons (po_v (pd_var 3 (pv 3))) pas_nil))) (po_v (pd_call G__law_places (hr.mono (by decide)) rfl tk (pas_cons (po_v (pd_var 3 (pv 3))) pas_nil))) (nomark _))
    (pssd_one (psd_ret pd_bl))
    pssd_nil))))))
    pssd_nil)))))) gN_nx)
    (pssd_one (psd_ret (pd_and (pd_cmp op_isX od_is (po_v (pd_call G_is_part (hr.mono (by decide)) rfl tk (pas_cons (po_v (pd_tup pas_nil)) pas_nil))) (po_v pd_bl) (nomark _)) (pd_one (pd_cmp op_isX od_is (po_v (pd_call G_is_part (hr.mono (by decide)) rfl tk (pas_cons (po_v (pd_tup (pas_cons (po_v pd_str) (pas_cons (po_v pd_str) (pas_cons (po_v pd_int) (pas_cons (po_v pd_int) (pas_cons (po_v pd_int) (pas_cons (po_v pd_int) (pas_cons (po_v (pd_tup (pas_cons (po_v pd_int) (pas_cons (po_v pd_int) pas_nil)))) (pas_cons (po_v (pd_tup (pas_cons (po_v pd_int) (pas_cons (po_v pd_int) pas_nil)))) pas_nil)))))))))) pas_nil))) (po_v pd_bl) (nomark _)))))))
end
end L_k12

/-! Plain lemmas: sizes, gcd, fractions. -/
namespace Py
open PySem
theorem log2_lt {n k : Nat} (h : n < 2 ^ k) (hk : 0 < k) : n.log2 < k := by
  by_cases hn : n = 0
  · subst hn
    simpa using hk
  · exact (Nat.log2_lt hn).mpr h
theorem mulOk_of {x y : Int} {a b : Nat} (hx : x.natAbs < 2 ^ a) (hy : y.natAbs < 2 ^ b) (ha : 0 < a) (hb : 0 < b) (h : a + b ≤ 1000000) : mulOk x y = true := by
  have h1 := log2_lt hx ha
  have h2 := log2_lt hy hb
  unfold mulOk
  exact decide_eq_true (by omega)
theorem divOk_of {y : Int} {b : Nat} (h0 : y ≠ 0) (hy : y.natAbs < 2 ^ b) (hb : 0 < b) (h : b ≤ 9000) : divOk y = true := by
  have h2 := log2_lt hy hb
  unfold divOk
  exact decide_eq_true ⟨h0, by omega⟩
theorem natAbs_mul_lt {x y : Int} {a b : Nat} (hx : x.natAbs < 2 ^ a) (hy : y.natAbs < 2 ^ b) : (x * y).natAbs < 2 ^ (a + b) := by
  rw [Int.natAbs_mul, Nat.pow_add]
  exact Nat.mul_lt_mul'' hx hy
theorem natAbs_add_lt {x y : Int} {a : Nat} (hx : x.natAbs < 2 ^ a) (hy : y.natAbs < 2 ^ a) : (x + y).natAbs < 2 ^ (a + 1) := by
  have := Int.natAbs_add_le x y
  rw [Nat.pow_succ]
  omega
/-! lowest terms -/
def byZ (a b : Int) : Int := if b < 0 then -(Int.gcd a b : Int) else (Int.gcd a b : Int)
abbrev dF (a b : Int) : D := .tup [.int a, .int b]
def lowT (a b : Int) : Int := a.fdiv (byZ a b)
def lowB (a b : Int) : Int := b.fdiv (byZ a b)
abbrev lowD (a b : Int) : D := dF (lowT a b) (lowB a b)
theorem gcd_pos {a b : Int} (h : b ≠ 0) : 0 < Int.gcd a b := by
  rcases Nat.eq_zero_or_pos (Int.gcd a b) with z | z
  · exact absurd (Int.gcd_eq_zero_iff.mp z).2 h
  · exact z
theorem gcd_le {a b : Int} (h : b ≠ 0) : Int.gcd a b ≤ b.natAbs := Nat.le_of_dvd (Int.natAbs_pos.mpr h) (Int.natAbs_dvd_natAbs.mpr (Int.gcd_dvd_right a b))
theorem byZ_ne {a b : Int} (h : b ≠ 0) : byZ a b ≠ 0 := by
  have := gcd_pos (a := a) h
  unfold byZ
  split <;> omega
theorem byZ_abs (a b : Int) : (byZ a b).natAbs = Int.gcd a b := by
  unfold byZ
  split <;> omega
theorem byZ_div {a b : Int} (h : b ≠ 0) {n : Nat} (hb : b.natAbs < 2 ^ n) (hn : 0 < n) (h9 : n ≤ 9000) : divOk (byZ a b) = true := divOk_of (byZ_ne h) (by rw [byZ_abs]; exact Nat.lt_of_le_of_lt (gcd_le h) hb) hn h9
theorem fdiv_exact {a c : Int} (hc : c ≠ 0) (h : c ∣ a) : a.fdiv c * c = a := by
  obtain ⟨k, rfl⟩ := h
  rw [Int.mul_comm c k, Int.mul_fdiv_cancel _ hc]
theorem byZ_dvd_left (a b : Int) : byZ a b ∣ a := by
  unfold byZ
  split
  · exact Int.neg_dvd.mpr (Int.gcd_dvd_left a b)
  · exact Int.gcd_dvd_left a b
theorem byZ_dvd_right (a b : Int) : byZ a b ∣ b := by
  unfold byZ
  split
  · exact Int.neg_dvd.mpr (Int.gcd_dvd_right a b)
  · exact Int.gcd_dvd_right a b
theorem lowT_mul {a b : Int} (h : b ≠ 0) : lowT a b * byZ a b = a := fdiv_exact (byZ_ne h) (byZ_dvd_left a b)
theorem lowB_mul {a b : Int} (h : b ≠ 0) : lowB a b * byZ a b = b := fdiv_exact (byZ_ne h) (byZ_dvd_right a b)
theorem lowB_pos {a b : Int} (h : b ≠ 0) : 0 < lowB a b := by
  have hm := lowB_mul (a := a) h
  have hg := gcd_pos (a := a) h
  by_cases hb : b < 0
  · have e : byZ a b = -(Int.gcd a b : Int) := if_pos hb
    rw [e] at hm
    by_cases hl : 0 < lowB a b
    · exact hl
    · have : 0 ≤ lowB a b * -(Int.gcd a b : Int) := Int.mul_nonneg_of_nonpos_of_nonpos (by omega) (by omega)
      omega
  · have e : byZ a b = (Int.gcd a b : Int) := if_neg hb
    rw [e] at hm
    by_cases hl : 0 < lowB a b
    · exact hl
    · have : lowB a b * (Int.gcd a b : Int) ≤ 0 := Int.mul_nonpos_of_nonpos_of_nonneg (by omega) (by omega)
      omega
theorem low_coprime {a b : Int} (h : b ≠ 0) : Int.gcd (lowT a b) (lowB a b) = 1 := by
  have h1 := lowT_mul (a := a) h
  have h2 := lowB_mul (a := a) h
  have hg := gcd_pos (a := a) h
  have e : Int.gcd (lowT a b * byZ a b) (lowB a b * byZ a b) = Int.gcd (lowT a b) (lowB a b) * (byZ a b).natAbs := Int.gcd_mul_right ..
  rw [h1, h2, byZ_abs] at e
  have e2 : 1 * Int.gcd a b = Int.gcd (lowT a b) (lowB a b) * Int.gcd a b := by omega
  exact (Nat.eq_of_mul_eq_mul_right hg e2).symm
theorem lowT_le {a b : Int} (h : b ≠ 0) : (lowT a b).natAbs ≤ a.natAbs := by
  have e := congrArg Int.natAbs (lowT_mul (a := a) h)
  rw [Int.natAbs_mul, byZ_abs] at e
  have hg := gcd_pos (a := a) h
  rw [← e]
  exact Nat.le_mul_of_pos_right _ hg
theorem lowB_le {a b : Int} (h : b ≠ 0) : (lowB a b).natAbs ≤ b.natAbs := by
  have e := congrArg Int.natAbs (lowB_mul (a := a) h)
  rw [Int.natAbs_mul, byZ_abs] at e
  have hg := gcd_pos (a := a) h
  have := Nat.le_mul_of_pos_right (lowB a b).natAbs hg
  omega
theorem low_neg (a b : Int) (h : 0 < b) : lowT a (-b) = lowT (-a) b ∧ lowB a (-b) = lowB (-a) b := by
  have e1 : byZ a (-b) = -(byZ (-a) b) := by
    unfold byZ
    rw [if_pos (by omega), if_neg (by omega), Int.gcd_neg, Int.neg_gcd]
  unfold lowT lowB
  rw [e1]
  refine ⟨?_, ?_⟩
  · rw [← Int.neg_fdiv_neg (-a)]
    rw [Int.neg_neg]
  · exact Int.neg_fdiv_neg b _
/-! texts -/
theorem cps_ok (s : String) : (Str.ofString s).cps.all (fun c => decide (c < 0x110000)) = true := by
  rw [Str.ofString_eq_toList, Array.all_eq_true']
  intro c hc
  simp only [List.mem_toArray, List.mem_map] at hc
  obtain ⟨ch, -, rfl⟩ := hc
  refine decide_eq_true ?_
  have h := ch.valid
  show ch.val.toNat < 1114112
  rcases h with h | h
  · have : ch.val.toNat < 55296 := h
    omega
  · exact h.2
theorem cps_app (x y : Str) : (x ++ y).cps = x.cps ++ y.cps := rfl
theorem len_app (x y : Str) : (x ++ y).length = x.length + y.length := by
  show (x.cps ++ y.cps).size = _
  exact Array.size_append
theorem len_of (s : String) : (Str.ofString s).length = s.toList.length := by
  rw [Str.ofString_eq_toList]
  show (List.map _ _).toArray.size = _
  simp
theorem len_int (i : Int) {k : Nat} (h : i.natAbs < 10 ^ k) (hk : 0 < k) : (Str.ofString (toString i)).length ≤ k + 1 := by
  rw [len_of]
  have e : ∀ m : Nat, m < 10 ^ k → (Nat.repr m).toList.length ≤ k := by
    intro m hm
    rw [Nat.toList_repr]
    exact (Nat.length_toDigits_le_iff (by decide) hk).mpr hm
  rw [Int.toString_eq_repr]
  cases i with
  | ofNat m => exact Nat.le_succ_of_le (e m h)
  | negSucc m =>
    have := e (m + 1) h
    rw [show (Int.negSucc m).repr = "-" ++ Nat.repr (m+1) from by simp [Int.repr], String.toList_append, List.length_append]
    have : ("-" : String).toList.length = 1 := by decide
    omega
end Py

/-! LmFrac: what the defs of fractions and of the pot give. -/
namespace Sc
open PySem Py
set_option maxRecDepth 10000
set_option linter.all false
noncomputable def gW : S := sWhile (tV (eOp (asC (aR 3) (asC (aV (eC (.int 0))) asN)) oGt))
    (sPar 2 3 (asC (aV (eVar 3)) (asC (aV (eOp (asC (aR 2) (asC (aR 3) asN)) oMod)) asN)))
theorem gW_spec (x y : Sl) : ∀ (n l r : Nat), r ≤ n → gW [x, y, .sh (.int l), .sh (.int r)] = some (.nx [x, y, .sh (.int (Nat.gcd l r)), .sh (.int 0)]) := by
  intro n
  induction n with
  | zero =>
    intro l r hn
    have : r = 0 := by omega
    subst this
    refine (sWhile_stop (r1 := [x, y, .sh (.int l), .sh (.int 0)]) ?_).trans ?_
    · simp
    · simp
  | succ n ih =>
    intro l r hn
    by_cases h0 : r = 0
    · subst h0
      refine (sWhile_stop (r1 := [x, y, .sh (.int l), .sh (.int 0)]) ?_).trans ?_
      · simp
      · simp
    · have hr0 : 0 < r := by omega
      have em : (l : Int).fmod r = ((l % r : Nat) : Int) := by
        rw [Int.fmod_eq_emod_of_nonneg _ (by omega)]
        exact (Int.natCast_emod l r).symm
      have h2 := Nat.mod_lt l hr0
      refine sWhile_step (r1 := [x, y, .sh (.int l), .sh (.int r)]) (r2 := [x, y, .sh (.int r), .sh (.int (l % r : Nat))]) ?_ ?_ ?_
      · simp [hr0]
      · simp only [sPar, sE, asC, aV, eVar, M.bind, M.pure, eOp, aR, M.get]
        simp [h0, em]
      · have := ih r (l % r) (by omega)
        rw [show sWhile _ _ = gW from rfl, this]
        rw [Nat.gcd_comm l r, Nat.gcd_rec r l, Nat.gcd_comm (l % r) r]
theorem abs_nat (a : Int) : (if a < 0 then -a else a) = (a.natAbs : Int) := by
  split <;> omega
theorem common_spec (a b : Int) : dn_common_part [.sh (.int a), .sh (.int b)] = some (.ret (.sh (.int (Int.gcd a b))) [.no, .no]) := by
  have h := gW_spec (.sh (.int a)) (.sh (.int b)) b.natAbs a.natAbs b.natAbs (Nat.le_refl _)
  unfold gW at h
  simp only [dn_common_part, mkFn]
  simp [abs_nat]
  simp at h
  rw [h]
  simp [Int.gcd]
theorem fraction_zero (a : Int) : dn_fraction [.sh (.int a), .sh (.int 0)] = some (.ex ⟨"NoFraction", []⟩ [.no, .no]) := by
  simp [dn_fraction]
theorem fraction_spec (a b : Int) (hb : b ≠ 0) (hs : divOk (byZ a b) = true) : dn_fraction [.sh (.int a), .sh (.int b)] = some (.ret (.sh (lowD a b)) [.no, .no]) := by
  by_cases h : b < 0
  · have e : byZ a b = -(Int.gcd a b : Int) := if_pos h
    rw [e] at hs
    simp [dn_fraction, hb, common_spec, h, hs, lowT, lowB, e, lim]
  · have e : byZ a b = (Int.gcd a b : Int) := if_neg h
    rw [e] at hs
    simp [dn_fraction, hb, common_spec, h, hs, lowT, lowB, e, lim]
theorem low_spec (a b : Int) (hb : b ≠ 0) (hs : divOk (byZ a b) = true) : dn__law_low [.sh (.int a), .sh (.int b)] = some (.ret (.sh (lowD a b)) [.no, .no]) := by
  have h0 := gW_spec (.sh (.int a)) (.sh (.int b)) b.natAbs a.natAbs b.natAbs (Nat.le_refl _)
  unfold gW at h0
  simp at h0
  by_cases h : b < 0
  · have e : byZ a b = -(Int.gcd a b : Int) := if_pos h
    rw [e] at hs
    simp only [dn__law_low, mkFn]
    simp [abs_nat]
    rw [h0]
    simp only [Int.gcd] at hs e
    simp [h, hs, lowT, lowB, e, lim]
  · have e : byZ a b = (Int.gcd a b : Int) := if_neg h
    rw [e] at hs
    simp only [dn__law_low, mkFn]
    simp [abs_nat]
    rw [h0]
    simp only [Int.gcd] at hs e
    simp [h, hs, lowT, lowB, e, lim]
/-- small numbers: below 2 ^ n -/
abbrev sm (n : Nat) (x : Int) : Prop := x.natAbs < 2 ^ n
section
variable {a b c d : Int}
theorem mul_sm {m n : Nat} {x y : Int} (hx : sm m x) (hy : sm n y) (hm : 0 < m) (hn : 0 < n) (h : m + n ≤ 1000000) : mulOk x y = true := mulOk_of hx hy hm hn h
theorem is_less_spec (h1 : sm 50 a) (h2 : sm 50 b) (h3 : sm 50 c) (h4 : sm 50 d) : dn_is_less [.sh (dF a b), .sh (dF c d)] = some (.ret (.sh (.bl (decide (a * d < c * b)))) [.no, .no]) := by
  simp [dn_is_less, mul_sm h1 h4, mul_sm h3 h2]
theorem frac_sm {a b : Int} {n : Nat} (hb : b ≠ 0) (h : sm n b) (hn : 0 < n := by decide) (h9 : n ≤ 9000 := by decide) : dn_fraction [.sh (.int a), .sh (.int b)] = some (.ret (.sh (lowD a b)) [.no, .no]) := fraction_spec a b hb (byZ_div hb h hn h9)
theorem low_sm {a b : Int} {n : Nat} (hb : b ≠ 0) (h : sm n b) (hn : 0 < n := by decide) (h9 : n ≤ 9000 := by decide) : dn__law_low [.sh (.int a), .sh (.int b)] = some (.ret (.sh (lowD a b)) [.no, .no]) := low_spec a b hb (byZ_div hb h hn h9)
theorem mul_ne {x y : Int} (hx : x ≠ 0) (hy : y ≠ 0) : x * y ≠ 0 := Int.mul_ne_zero hx hy
theorem plus_spec (h1 : sm 50 a) (h2 : sm 50 b) (h3 : sm 50 c) (h4 : sm 50 d) (hb : b ≠ 0) (hd : d ≠ 0) : dn_plus [.sh (dF a b), .sh (dF c d)] = some (.ret (.sh (lowD (a * d + c * b) (b * d))) [.no, .no]) := by
  simp [dn_plus, mul_sm h1 h4, mul_sm h3 h2, mul_sm h2 h4, frac_sm (mul_ne hb hd) (natAbs_mul_lt h2 h4)]
theorem sum_spec (h1 : sm 50 a) (h2 : sm 50 b) (h3 : sm 50 c) (h4 : sm 50 d) (hb : b ≠ 0) (hd : d ≠ 0) : dn__law_sum [.sh (dF a b), .sh (dF c d)] = some (.ret (.sh (lowD (a * d + c * b) (b * d))) [.no, .no]) := by
  simp [dn__law_sum, mul_sm h1 h4, mul_sm h3 h2, mul_sm h2 h4, low_sm (mul_ne hb hd) (natAbs_mul_lt h2 h4)]
theorem minus_spec (h1 : sm 50 a) (h2 : sm 50 b) (h3 : sm 50 c) (h4 : sm 50 d) (hb : b ≠ 0) (hd : d ≠ 0) : dn_minus [.sh (dF a b), .sh (dF c d)] = some (.ret (.sh (lowD (a * d - c * b) (b * d))) [.no, .no]) := by
  simp [dn_minus, mul_sm h1 h4, mul_sm h3 h2, mul_sm h2 h4, frac_sm (mul_ne hb hd) (natAbs_mul_lt h2 h4)]
theorem times_spec (h1 : sm 50 a) (h2 : sm 50 b) (h3 : sm 50 c) (h4 : sm 50 d) (hb : b ≠ 0) (hd : d ≠ 0) : dn_times [.sh (dF a b), .sh (dF c d)] = some (.ret (.sh (lowD (a * c) (b * d))) [.no, .no]) := by
  simp [dn_times, mul_sm h1 h3, mul_sm h2 h4, frac_sm (mul_ne hb hd) (natAbs_mul_lt h2 h4)]
theorem product_spec (h1 : sm 50 a) (h2 : sm 50 b) (h3 : sm 50 c) (h4 : sm 50 d) (hb : b ≠ 0) (hd : d ≠ 0) : dn__law_product [.sh (dF a b), .sh (dF c d)] = some (.ret (.sh (lowD (a * c) (b * d))) [.no, .no]) := by
  simp [dn__law_product, mul_sm h1 h3, mul_sm h2 h4, low_sm (mul_ne hb hd) (natAbs_mul_lt h2 h4)]
theorem over_spec (h1 : sm 50 a) (h2 : sm 50 b) (h3 : sm 50 c) (h4 : sm 50 d) (hb : b ≠ 0) (hc : c ≠ 0) : dn_over [.sh (dF a b), .sh (dF c d)] = some (.ret (.sh (lowD (a * d) (b * c))) [.no, .no]) := by
  simp [dn_over, mul_sm h1 h4, mul_sm h2 h3, frac_sm (mul_ne hb hc) (natAbs_mul_lt h2 h3)]
theorem over_zero (h1 : sm 50 a) (h2 : sm 50 b) (h4 : sm 50 d) : dn_over [.sh (dF a b), .sh (dF 0 d)] = some (.ex ⟨"NoFraction", []⟩ [.no, .no]) := by
  have h0 : sm 50 0 := by decide
  simp [dn_over, mul_sm h1 h4, mul_sm h2 h0, fraction_zero]
end
theorem whole_int (i : Int) : dn_is_whole [.sh (.int i)] = some (.ret (.sh (.bl true)) [.no]) := by simp [dn_is_whole]
theorem is_fraction_dF (a b : Int) : dn_is_fraction [.sh (dF a b)] = some (.ret (.sh (.bl (decide (0 < b) && decide (Int.gcd a b = 1)))) [.no]) := by
  by_cases hb : 0 < b
  · have e : ((Int.gcd a b : Int) == 1) = decide (Int.gcd a b = 1) := by
      rw [Bool.eq_iff_iff]
      simp
      omega
    simp [dn_is_fraction, whole_int, common_spec, hb, e]
  · simp [dn_is_fraction, whole_int, common_spec, hb]
/-! the pot -/
abbrev potD (a b : Int) : D := .lst [.int a, .int b]
def okP (a b : Int) : Prop := 0 ≤ a ∧ 0 ≤ b ∧ b < 2147483648
theorem pot_spec (n : Int) : ∃ a b, okP a b ∧ dn__law_pot [.sh (.int n)] = some (.ret (.ow (potD a b)) [.no]) := by
  have e1 : (n.natAbs : Int).fmod 2147483629 = (n.natAbs : Int) % 2147483629 := Int.fmod_eq_emod_of_nonneg _ (by decide)
  refine ⟨if (n.natAbs : Int) - 10 ^ 18 > 0 then (n.natAbs : Int) - 10 ^ 18 else 0, (n.natAbs : Int) % 2147483629 + 1, ⟨by split <;> omega, by omega, by omega⟩, ?_⟩
  simp [dn__law_pot, abs_nat, e1, lim]
theorem draw_spec (a b m : Int) (h : okP a b) (hm : 0 < m) (hs : sm 100 m) : ∃ d a' b', 0 ≤ d ∧ d < m ∧ okP a' b' ∧ dn__law_draw [.ow (potD a b), .sh (.int m)] = some (.ret (.sh (.int d)) [.ow (potD a' b'), .no]) := by
  obtain ⟨h1, h2, h3⟩ := h
  have hl : m.natAbs.log2 < 9000 := Nat.lt_trans (log2_lt hs (by decide)) (by decide)
  by_cases ha : 0 < a
  · refine ⟨a % m, a / m, b, Int.emod_nonneg _ (by omega), Int.emod_lt_of_pos _ hm, ⟨Int.ediv_nonneg h1 (by omega), h2, h3⟩, ?_⟩
    simp [dn__law_draw, ha, hm, hl, lim]
  · have ha0 : a = 0 := by omega
    subst ha0
    have m1 : mulOk b 48271 = true := mul_sm (m := 32) (n := 20) (by show b.natAbs < 2 ^ 32; omega) (by decide) (by decide) (by decide) (by decide)
    obtain ⟨b', hb'⟩ : ∃ b', b' = (b * 48271 + 11).fmod 2147483647 := ⟨_, rfl⟩
    have e0 : (b * 48271 + 11).fmod 2147483647 = (b * 48271 + 11) % 2147483647 := Int.fmod_eq_emod_of_nonneg _ (by decide)
    have b1 : 0 ≤ b' := by rw [hb', e0]; omega
    have b2 : b' < 2147483647 := by rw [hb', e0]; omega
    have m2 : mulOk b' b' = true := mul_sm (m := 32) (n := 32) (by show b'.natAbs < 2 ^ 32; omega) (by show b'.natAbs < 2 ^ 32; omega) (by decide) (by decide) (by decide)
    have d3 : divOk 3 = true := by decide
    refine ⟨(((b' * b').fmod 2147483629).fdiv 3).fmod m, 0, b', ?_, ?_, ⟨by omega, b1, by omega⟩, ?_⟩
    · rw [Int.fmod_eq_emod_of_nonneg _ (by omega)]
      exact Int.emod_nonneg _ (by omega)
    · rw [Int.fmod_eq_emod_of_nonneg _ (by omega)]
      exact Int.emod_lt_of_pos _ hm
    · have hm0 : m ≠ 0 := by omega
      simp [dn__law_draw, m1, ← hb', m2, d3, hm0]

/-! texts -/
theorem sm10 {x : Int} (h : sm 50 x) : x.natAbs < 10 ^ 16 := Nat.lt_trans h (by decide)
theorem smlog {x : Int} (h : sm 50 x) : x.natAbs.log2 < 1920 := Nat.lt_trans (log2_lt h (by decide)) (by decide)
abbrev txt (x : Int) : Str := Str.ofString x.repr
theorem txt_len {x : Int} (h : sm 50 x) : (txt x).length ≤ 17 := len_int x (sm10 h) (by decide)
theorem slash_len : (Str.ofString "/").length = 1 := by decide
def fracTxt (a b : Int) : Str := if b = 1 then txt a else txt a ++ Str.ofString "/" ++ txt b
theorem text_spec {a b : Int} (h1 : sm 50 a) (h2 : sm 50 b) : dn_fraction_text [.sh (dF a b)] = some (.ret (.sh (.str (fracTxt a b))) [.no]) := by
  have l1 := txt_len h1
  have l2 := txt_len h2
  have e1 : (txt a).length + (Str.ofString "/").length ≤ lim := by rw [slash_len]; unfold lim; omega
  have e2 : (txt a ++ Str.ofString "/").length + (txt b).length ≤ lim := by rw [len_app, slash_len]; unfold lim; omega
  by_cases hb : b = 1
  · simp [dn_fraction_text, hb, smlog h1, fracTxt]
  · simp [dn_fraction_text, hb, smlog h1, smlog h2, fracTxt, e1, e2]
theorem fracTxt_ok (a b : Int) : (fracTxt a b).cps.all (fun c => decide (c < 0x110000)) = true := by
  unfold fracTxt
  split
  · exact cps_ok _
  · rw [cps_app, cps_app, Array.all_append, Array.all_append, cps_ok, cps_ok, cps_ok]
    rfl
theorem forL_inv (P : Py.Env → Prop) (g : G) (b : S) : ∀ (ds : List D) (r : Py.Env), (∀ d ∈ ds, ∀ r, P r → ∃ r1 r2, g (.sh d) r = some (.nx r1) ∧ b r1 = some (.nx r2) ∧ P r2) → P r → ∃ r', forL g b ds r = some (.nx r') ∧ P r'
  | [], r, _, hp => ⟨r, rfl, hp⟩
  | d :: ds, r, h, hp => by
    obtain ⟨r1, r2, e1, e2, p2⟩ := h d (.head _) r hp
    obtain ⟨r', e3, p3⟩ := forL_inv P g b ds r2 (fun d' hd' => h d' (.tail _ hd')) p2
    refine ⟨r', ?_, p3⟩
    simp only [forL, e1, e2]
    exact e3
theorem cutD_mem {xs : List D} {lo hi : Option Int} {d : D} (h : d ∈ cutD xs lo hi) : d ∈ xs := List.mem_of_mem_drop (List.mem_of_mem_take h)
end Sc

/-! LmPart: what the defs of parts give. -/
namespace Sc
open PySem Py
set_option maxRecDepth 10000
set_option linter.all false
theorem lcL_map1 {n : G} {m : E} {vs : List Nat} {f : D → D} {r : Py.Env} : ∀ (ds acc : List D), (∀ d ∈ ds, ∃ r1 x r3, n (.sh d) r = some (.nx r1) ∧ m r1 = some (.ok x r3) ∧ x.val = some (f d) ∧ wipeE r3 vs = r) →
    acc.length + ds.length ≤ lim → lcL n tYesE m vs ds acc r = some (acc ++ ds.map f, r) := by
  intro ds acc h hl
  have := lcL_map (n := n) (t := tYesE) (m := m) (vs := vs) (p := fun _ => true) (f := f) (r := r) ds acc (fun d hd => by
    obtain ⟨r1, x, r3, h1, h2, h3, h4⟩ := h d hd
    exact .inl ⟨rfl, r1, r1, x, r3, h1, rfl, h2, h3, h4⟩) hl
  rw [this, List.filter_eq_self.mpr (fun _ _ => rfl)]
theorem blsD_map {α : Type} (f : α → Bool) : ∀ xs : List α, blsD (xs.map fun x => D.bl (f x)) = some (xs.map f)
  | [] => rfl
  | x :: xs => by
    rw [List.map_cons, blsD, blsD_map f xs]
    rfl
/-! ### things that are looked at -/
def atm : D → Bool
  | .int i => decide (i.natAbs ≤ 10000000000000)
  | .bl _ => true
  | .non => true
  | .str z => decide (z.length ≤ 1000) && z.cps.all (fun c => decide (c < 0x110000))
  | _ => false
def itm : D → Bool
  | .tup ds => ds.all atm
  | .lst ds => ds.all atm
  | .dic [] [] => true
  | d => atm d
theorem atm_cmp {d : D} (h : atm d = true) : cmpOk d = true ∧ dep d = 0 := by
  cases d <;> first | (cases h; done) | (simp [atm] at h ⊢; try exact h.2)
theorem atms_cmp : ∀ {ds : List D}, ds.all atm = true → cmpOks ds = true ∧ deps ds = 0
  | [], _ => ⟨rfl, rfl⟩
  | d :: ds, h => by
    rw [List.all_cons, Bool.and_eq_true] at h
    obtain ⟨a1, a2⟩ := atm_cmp h.1
    obtain ⟨b1, b2⟩ := atms_cmp h.2
    simp [a1, a2, b1, b2]
def dicB : D → Bool
  | .dic _ _ => true
  | _ => false
theorem itm_eq {d : D} (h : itm d = true) : eqOk d = true ∨ dicB d = true := by
  cases d with
  | tup ds =>
    obtain ⟨b1, b2⟩ := atms_cmp (show ds.all atm = true from h)
    exact .inl (by simp [b1, b2])
  | lst ds =>
    obtain ⟨b1, b2⟩ := atms_cmp (show ds.all atm = true from h)
    exact .inl (by simp [b1, b2])
  | dic ks ds => exact .inr rfl
  | int i => exact .inl rfl
  | bl i => exact .inl rfl
  | non => exact .inl rfl
  | str z =>
    obtain ⟨b1, b2⟩ := atm_cmp (show atm (.str z) = true from h)
    exact .inl (by unfold eqOk; rw [b1, b2]; rfl)
  | scr ds => cases h
  | obj _ _ _ => cases h
  | exc _ _ _ => cases h
/-- is the text s -/
def isB (s : Str) : D → Bool
  | .str z => z == s
  | _ => false
theorem eqvs_len : ∀ (xs ys : List D), xs.length ≠ ys.length → eqvs xs ys = false
  | [], [], h => absurd rfl h
  | [], _ :: _, _ => by simp only [eqvs]
  | _ :: _, [], _ => by simp only [eqvs]
  | x :: xs, y :: ys, h => by
    simp only [eqvs]
    rw [eqvs_len xs ys (fun e => h (by simp [e]))]
    simp
theorem eqX_of {d e : D} (hd : dicB d = false) (h1 : eqOk d = true) (h2 : eqOk e = true) : oEqX [d, e] = rB (eqv d e) := by
  have k : oEq [d, e] = rB (eqv d e) := by
    show (if _ ∧ _ then _ else _) = _
    rw [if_pos ⟨h1, h2⟩]
  cases d with
  | dic _ _ => cases hd
  | lst xs =>
    cases e with
    | lst ys =>
      show (if xs.length = ys.length then oEq [.lst xs, .lst ys] else rB false) = _
      split
      · exact k
      · rename_i hne
        simp only [eqv]
        rw [eqvs_len xs ys hne]
    | _ => exact k
  | _ => exact k
theorem neX_of {d e : D} (hd : dicB d = false) (h1 : eqOk d = true) (h2 : eqOk e = true) : oNeX [d, e] = rB (!eqv d e) := by
  have k : oNe [d, e] = rB (!eqv d e) := by
    show (if _ ∧ _ then _ else _) = _
    rw [if_pos ⟨h1, h2⟩]
  cases d with
  | dic _ _ => cases hd
  | lst xs =>
    cases e with
    | lst ys =>
      show (if xs.length = ys.length then oNe [.lst xs, .lst ys] else rB true) = _
      split
      · exact k
      · rename_i hne
        simp only [eqv]
        rw [eqvs_len xs ys hne]
        rfl
    | _ => exact k
  | _ => exact k
theorem eqv_str (d : D) (s : Str) : eqv d (.str s) = isB s d := by
  cases d <;> simp [isB]
theorem eq_str {d : D} (s : Str) (h : itm d = true) (hs : s.cps.all (fun c => decide (c < 0x110000)) = true) : oEqX [d, .str s] = rB (isB s d) := by
  have hs2 : eqOk (.str s) = true := by simp [hs]
  by_cases hd : dicB d = true
  · cases d <;> first | (cases hd; done) | rfl
  · rcases itm_eq h with e | e
    · rw [eqX_of (by simpa using hd) e hs2, eqv_str]
    · exact absurd e hd
theorem ne_str {d : D} (s : Str) (h : itm d = true) (hs : s.cps.all (fun c => decide (c < 0x110000)) = true) : oNeX [d, .str s] = rB (!isB s d) := by
  have hs2 : eqOk (.str s) = true := by simp [hs]
  by_cases hd : dicB d = true
  · cases d <;> first | (cases hd; done) | rfl
  · rcases itm_eq h with e | e
    · rw [neX_of (by simpa using hd) e hs2, eqv_str]
    · exact absurd e hd
theorem isi_itm {d : D} (h : itm d = true) (t : Ty) : ∃ b, t.has d = some b := by
  cases d <;> first | (cases h; done) | (cases t <;> exact ⟨_, rfl⟩)
/-- a turn that keeps d' and leaves the slots -/
@[simp] def turnOk (n : G) (m : E) (vs : List Nat) (r : Py.Env) (d d' : D) : Prop := match n (.sh d) r with
  | some (.nx r1) => match m r1 with
    | some (.ok x r3) => x.val = some d' ∧ wipeE r3 vs = r
    | _ => False
  | _ => False
theorem turnOk_get {n : G} {m : E} {vs : List Nat} {r : Py.Env} {d d' : D} (h : turnOk n m vs r d d') : ∃ r1 x r3, n (.sh d) r = some (.nx r1) ∧ m r1 = some (.ok x r3) ∧ x.val = some d' ∧ wipeE r3 vs = r := by
  unfold turnOk at h
  split at h
  · rename_i r1 e1
    split at h
    · rename_i x r3 e2
      exact ⟨r1, x, r3, e1, e2, h⟩
    · exact h.elim
  · exact h.elim
theorem lcL_of {α : Type} {n : G} {m : E} {vs : List Nat} (g f : α → D) {r : Py.Env} : ∀ (xs : List α) (acc : List D), (∀ a ∈ xs, turnOk n m vs r (g a) (f a)) →
    acc.length + xs.length ≤ lim → lcL n tYesE m vs (xs.map g) acc r = some (acc ++ xs.map f, r)
  | [], acc, _, _ => by simp [lcL]
  | a :: xs, acc, h, hl => by
    obtain ⟨r1, x, r3, h1, h2, h3, h4⟩ := turnOk_get (h a (.head _))
    rw [List.map_cons, lcL_take h1 rfl h2 h3 (by simp at hl; omega), h4, lcL_of g f xs _ (fun b hb => h b (.tail _ hb)) (by simp at hl ⊢; omega)]
    simp
/-! ### names -/
def isLetter (c : Nat) : Bool := decide (c ∈ (Str.ofString "abcdefghijklmnopqrstuvwxyz").cps)
def nameB : D → Bool
  | .str z => decide (1 ≤ z.length) && (decide (z.length ≤ 8) && z.cps.toList.all isLetter)
  | _ => false
theorem is_name_spec {d : D} (h : itm d = true) : dn_is_name [.sh d] = some (.ret (.sh (.bl (nameB d))) [.no]) := by
  cases d with
  | str z =>
    have hz : z.length ≤ 1000 := by
      have : (decide (z.length ≤ 1000) && z.cps.all (fun c => decide (c < 0x110000))) = true := h
      rw [Bool.and_eq_true] at this
      exact of_decide_eq_true this.1
    have hl : z.length ≤ lim := Nat.le_trans hz (by decide)
    have e1 : (1 ≤ (z.length : Int)) = (1 ≤ z.length) := by simp; omega
    have e2 : ((z.length : Int) ≤ 8) = (z.length ≤ 8) := by simp; omega
    by_cases h1 : 1 ≤ z.length
    · by_cases h8 : z.length ≤ 8
      · have key : lcL (gN 1) tYesE (eOp (asC (aR 1) (asC (aV (eC (.str "abcdefghijklmnopqrstuvwxyz"))) asN)) oIn) [1] (signsD z) [] [.sh (.str z), .no] = some (z.cps.toList.map fun c => D.bl (isLetter c), [.sh (.str z), .no]) :=
          lcL_of (fun c => D.str ⟨#[c]⟩) (fun c => .bl (isLetter c)) z.cps.toList [] (fun c _ => by simp [isLetter]) (by simpa [Str.length] using hl)
        simp only [dn_is_name, mkFn]
        simp [hl, e1, e2, h1, h8, nameB]
        simp at key
        rw [key]
        simp [blsD_map, List.all_map]
      · simp [dn_is_name, hl, e1, e2, h1, h8, nameB]
    · simp [dn_is_name, hl, e1, e2, h1, nameB]
  | scr ds => cases h
  | obj _ _ _ => cases h
  | exc _ _ _ => cases h
  | _ => simp [dn_is_name, nameB]

/-! ### numbers within -/
def wholeB (lo : Int) : D → Bool
  | .int i => decide (lo ≤ i) && decide (i ≤ 20)
  | _ => false
theorem is_whole_spec {d : D} (h : itm d = true) : dn_is_whole [.sh d] = some (.ret (.sh (.bl (match d with
  | .int _ => true
  | _ => false))) [.no]) := by
  cases d with
  | scr ds => cases h
  | obj _ _ _ => cases h
  | exc _ _ _ => cases h
  | _ => simp [dn_is_whole]
theorem is_within_spec {d : D} (lo : Int) (h : itm d = true) : dn_is_within [.sh d, .sh (.int lo)] = some (.ret (.sh (.bl (wholeB lo d))) [.no, .no]) := by
  have hw := is_whole_spec h
  cases d with
  | scr ds => cases h
  | obj _ _ _ => cases h
  | exc _ _ _ => cases h
  | int i =>
    by_cases h1 : lo ≤ i
    · simp [dn_is_within, hw, wholeB, h1]
    · simp [dn_is_within, hw, wholeB, h1]
  | _ => simp [dn_is_within, hw, wholeB]
theorem withins_spec {k : Nat} {r : Py.Env} (ds : List D) (h : ds.all itm = true) (hk : r[k]? = some .no) (hl : ds.length ≤ lim) : lcL (gN k) tYesE (eCall dn_is_within (asC (aV (eVar k)) (asC (aV (eC (.int 0))) asN))) [k] ds [] r = some (ds.map fun d => D.bl (wholeB 0 d), r) := by
  have hlt : k < r.length := (List.getElem?_eq_some_iff.mp hk).1
  have := lcL_of (n := gN k) (m := eCall dn_is_within (asC (aV (eVar k)) (asC (aV (eC (.int 0))) asN))) (vs := [k]) (r := r) id (fun d => D.bl (wholeB 0 d)) ds [] (fun d hd => by
    have hi := List.all_eq_true.mp h d hd
    have e2 : (r.set k Sl.no) = r := by
      apply List.ext_getElem?
      intro j
      by_cases hj : k = j
      · subst hj
        rw [List.getElem?_set_self hlt, hk]
      · rw [List.getElem?_set_ne hj]
    simp [hlt, is_within_spec 0 hi, List.getElem?_set_self hlt, e2]) (by simpa using hl)
  rw [List.map_id] at this
  simpa using this
/-! ### fractions -/
def fracB : D → Bool
  | .tup [.int a, .int b] => decide (0 < b) && decide (Int.gcd a b = 1)
  | _ => false
def fracN : D → Int
  | .tup [.int a, _] => a
  | _ => 0
theorem atm_itm {d : D} (h : atm d = true) : itm d = true := by
  cases d <;> first | exact h | cases h
theorem is_fraction_spec {d : D} (h : itm d = true) : dn_is_fraction [.sh d] = some (.ret (.sh (.bl (fracB d))) [.no]) := by
  cases d with
  | scr ds => cases h
  | obj _ _ _ => cases h
  | exc _ _ _ => cases h
  | tup ds =>
    have ha : ds.all atm = true := h
    match ds, ha with
    | [], _ => simp [dn_is_fraction, fracB]
    | [_], _ => simp [dn_is_fraction, fracB]
    | [x, y], ha =>
      simp only [List.all_cons, List.all_nil, Bool.and_true, Bool.and_eq_true] at ha
      have h1 := is_whole_spec (atm_itm ha.1)
      have h2 := is_whole_spec (atm_itm ha.2)
      cases x with
      | int a =>
        cases y with
        | int b => exact is_fraction_dF a b
        | _ => simp [dn_is_fraction, fracB, h1, h2]
      | _ => simp [dn_is_fraction, fracB, h1, h2]
    | _ :: _ :: _ :: l, _ =>
      have : ¬ ((l.length : Int) + 1 + 1 + 1 = 2) := by omega
      simp [dn_is_fraction, fracB, this]
  | _ => simp [dn_is_fraction, fracB]
def weightsB (w h : D) : Bool := fracB w && (fracB h && (decide (0 < fracN w) && decide (0 ≤ fracN h)))
theorem fracB_get {d : D} (h : fracB d = true) (hi : itm d = true) : ∃ a b, d = dF a b ∧ 0 < b ∧ Int.gcd a b = 1 ∧ sm 50 a ∧ sm 50 b := by
  unfold fracB at h
  split at h
  · rename_i a b
    rw [Bool.and_eq_true] at h
    have hi : ([D.int a, D.int b].all atm) = true := hi
    simp only [List.all_cons, List.all_nil, Bool.and_true, Bool.and_eq_true, atm] at hi
    exact ⟨a, b, rfl, of_decide_eq_true h.1, of_decide_eq_true h.2, Nat.lt_of_le_of_lt (of_decide_eq_true hi.1) (by decide), Nat.lt_of_le_of_lt (of_decide_eq_true hi.2) (by decide)⟩
  · cases h
theorem are_weights_spec {w h : D} (h1 : itm w = true) (h2 : itm h = true) : dn_are_weights [.sh w, .sh h] = some (.ret (.sh (.bl (weightsB w h))) [.no, .no]) := by
  have f1 := is_fraction_spec h1
  have f2 := is_fraction_spec h2
  by_cases b1 : fracB w = true
  · by_cases b2 : fracB h = true
    · obtain ⟨a, b, rfl, p1, p2, p3, p4⟩ := fracB_get b1 h1
      obtain ⟨c, d, rfl, q1, q2, q3, q4⟩ := fracB_get b2 h2
      have s0 : sm 50 0 := by decide
      have s1 : sm 50 1 := by decide
      have l1 := is_less_spec s0 s1 p3 p4
      have l2 := is_less_spec q3 q4 s0 s1
      by_cases c1 : 0 < a
      · by_cases c2 : c < 0
        · have c3 : ¬ 0 ≤ c := by omega
          simp [dn_are_weights, f1, f2, b1, b2, l1, l2, weightsB, fracN, c1, c2, c3]
        · have c3 : 0 ≤ c := by omega
          simp [dn_are_weights, f1, f2, b1, b2, l1, l2, weightsB, fracN, c1, c2, c3]
      · simp [dn_are_weights, f1, f2, b1, b2, l1, l2, weightsB, fracN, c1]
    · simp [dn_are_weights, f1, f2, b1, b2, weightsB]
  · simp [dn_are_weights, f1, f2, b1, weightsB]

/-! ### parts -/
def lessB : D → D → Bool
  | .int i, .int j => decide (i < j)
  | _, _ => false
def poleB (s n x y lo hi w h : D) : Bool := isB "pole" s && (nameB n && (weightsB w h && (wholeB 0 x && (wholeB 0 y && (wholeB 0 lo && (wholeB 0 hi && lessB lo hi))))))
theorem wholeB_get {lo : Int} {d : D} (h : wholeB lo d = true) : ∃ i, d = .int i ∧ lo ≤ i ∧ i ≤ 20 := by
  unfold wholeB at h
  split at h
  · rename_i i
    rw [Bool.and_eq_true] at h
    exact ⟨i, rfl, of_decide_eq_true h.1, of_decide_eq_true h.2⟩
  · cases h
theorem pole_ok : (Str.ofString "pole").cps.all (fun c => decide (c < 0x110000)) = true := cps_ok _
theorem board_ok : (Str.ofString "board").cps.all (fun c => decide (c < 0x110000)) = true := cps_ok _
theorem is_pole_spec {s n x y lo hi w h : D} (hs : itm s = true) (hn : itm n = true) (hx : itm x = true) (hy : itm y = true) (hlo : itm lo = true) (hhi : itm hi = true) (hw : itm w = true) (hh : itm h = true) :
    dn_is_pole [.sh (.tup [s, n, x, y, lo, hi, w, h])] = some (.ret (.sh (.bl (poleB s n x y lo hi w h))) [.no]) := by
  have e1 := ne_str "pole" hs pole_ok
  have e2 := is_name_spec hn
  have e3 := are_weights_spec hw hh
  have e4 := withins_spec (k := 9) (r := [.sh (.tup [s, n, x, y, lo, hi, w, h]), .sh s, .sh n, .sh x, .sh y, .sh lo, .sh hi, .sh w, .sh h, .no]) [x, y, lo, hi] (by simp [hx, hy, hlo, hhi]) rfl (by simp [lim])
  simp at e4
  cases b1 : isB "pole" s
  · simp only [dn_is_pole, mkFn]
    simp [-oNeX, e1, b1, poleB]
  · cases b2 : nameB n
    · simp only [dn_is_pole, mkFn]
      simp [-oNeX, e1, b1, e2, b2, poleB]
    · cases b3 : weightsB w h
      · simp only [dn_is_pole, mkFn]
        simp [-oNeX, e1, b1, e2, b2, e3, b3, poleB]
      · simp only [dn_is_pole, mkFn]
        simp [-oNeX, e1, b1, e2, b2, e3, b3, e4, poleB, lim]
        cases c1 : wholeB 0 x
        · simp
        · cases c2 : wholeB 0 y
          · simp
          · cases c3 : wholeB 0 lo
            · simp
            · cases c4 : wholeB 0 hi
              · simp
              · obtain ⟨i, rfl, -, -⟩ := wholeB_get c3
                obtain ⟨j, rfl, -, -⟩ := wholeB_get c4
                simp [lessB]

def wayB (d : D) : Bool := isB "x" d || isB "y" d
def endB (x y way len : D) : Bool := match x, y, len with
  | .int i, .int j, .int l => if isB "x" way = true then decide (i + l ≤ 20) else decide (j + l ≤ 20)
  | _, _, _ => false
def boardB (s n x y way len ht w h : D) : Bool := isB "board" s && (nameB n && (weightsB w h && (wayB way && (wholeB 0 x && (wholeB 0 y && (wholeB 0 ht && (wholeB 1 len && endB x y way len)))))))
theorem x_ok : (Str.ofString "x").cps.all (fun c => decide (c < 0x110000)) = true := cps_ok _
theorem ends_spec {i j l : Int} {way : D} (hw : itm way = true) : dn_ends_within [.sh (.int i), .sh (.int j), .sh way, .sh (.int l)] = some (.ret (.sh (.bl (endB (.int i) (.int j) way (.int l)))) [.no, .no, .no, .no]) := by
  have e1 := eq_str "x" hw x_ok
  cases b1 : isB "x" way
  · simp only [dn_ends_within, mkFn]
    simp [-oEqX, e1, b1, endB]
  · simp only [dn_ends_within, mkFn]
    simp [-oEqX, e1, b1, endB]
theorem is_plank_spec {s n x y way len ht w h : D} (hs : itm s = true) (hn : itm n = true) (hx : itm x = true) (hy : itm y = true) (hwa : itm way = true) (hlen : itm len = true) (hht : itm ht = true) (hw : itm w = true) (hh : itm h = true) :
    dn_is_plank [.sh (.tup [s, n, x, y, way, len, ht, w, h])] = some (.ret (.sh (.bl (boardB s n x y way len ht w h))) [.no]) := by
  have e1 := ne_str "board" hs board_ok
  have e2 := is_name_spec hn
  have e3 := are_weights_spec hw hh
  have e4 := withins_spec (k := 10) (r := [.sh (.tup [s, n, x, y, way, len, ht, w, h]), .sh s, .sh n, .sh x, .sh y, .sh way, .sh len, .sh ht, .sh w, .sh h, .no]) [x, y, ht] (by simp [hx, hy, hht]) rfl (by simp [lim])
  simp at e4
  have e5 := is_within_spec 1 hlen
  cases b1 : isB "board" s
  · simp only [dn_is_plank, mkFn]
    simp [-oNeX, e1, b1, boardB]
  · cases b2 : nameB n
    · simp only [dn_is_plank, mkFn]
      simp [-oNeX, e1, b1, e2, b2, boardB]
    · cases b3 : weightsB w h
      · simp only [dn_is_plank, mkFn]
        simp [-oNeX, e1, b1, e2, b2, e3, b3, boardB]
      · have hst : ∀ b, Ty.str.has way = some b → b = false → wayB way = false := by
          intro b hb hf
          cases way <;> first | rfl | (cases hb; cases hf)
        cases b4 : wayB way
        · cases way with
          | str z =>
            have : (z == Str.ofString "x") = false ∧ (z == Str.ofString "y") = false := by
              simpa [wayB, isB] using b4
            simp only [dn_is_plank, mkFn]
            have t1 : ¬ (z = Str.ofString "x") := by simpa using this.1
            have t2 : ¬ (z = Str.ofString "y") := by simpa using this.2
            have t3 : ¬ (Str.ofString "x" = z) := fun e => t1 e.symm
            have t4 : ¬ (Str.ofString "y" = z) := fun e => t2 e.symm
            simp [-oNeX, e1, b1, e2, b2, e3, b3, boardB, b4, t3, t4]
          | scr ds => cases hwa
          | obj _ _ _ => cases hwa
          | exc _ _ _ => cases hwa
          | _ =>
            simp only [dn_is_plank, mkFn]
            simp [-oNeX, e1, b1, e2, b2, e3, b3, boardB, b4]
        · cases way with
          | str z =>
            have hz : z = Str.ofString "x" ∨ z = Str.ofString "y" := by
              simpa [wayB, isB] using b4
            have hin : (Str.ofString "x" = z ∨ Str.ofString "y" = z) := hz.imp Eq.symm Eq.symm
            have hin2 : ¬ (¬ Str.ofString "x" = z ∧ ¬ Str.ofString "y" = z) := fun q => hin.elim q.1 q.2
            simp only [dn_is_plank, mkFn]
            simp [-oNeX, e1, b1, e2, b2, e3, b3, e4, e5, boardB, b4, lim, hin, hin2]
            cases c1 : wholeB 0 x
            · simp
            · cases c2 : wholeB 0 y
              · simp
              · cases c3 : wholeB 0 ht
                · simp
                · cases c4 : wholeB 1 len
                  · simp [e5, c4]
                  · obtain ⟨i, rfl, -, -⟩ := wholeB_get c1
                    obtain ⟨j, rfl, -, -⟩ := wholeB_get c2
                    obtain ⟨l, rfl, -, -⟩ := wholeB_get c4
                    simp [e5, c4, ends_spec hwa]
          | _ => cases b4

/-- the things of a part -/
def partB : List D → Bool
  | [s, n, x, y, lo, hi, w, h] => poleB s n x y lo hi w h
  | [s, n, x, y, way, len, ht, w, h] => boardB s n x y way len ht w h
  | _ => false
theorem is_part_tup {ds : List D} (h : ds.all itm = true) : dn_is_part [.sh (.tup ds)] = some (.ret (.sh (.bl (partB ds))) [.no]) := by
  by_cases h8 : ds.length = 8
  · match ds, h8 with
    | [s, n, x, y, lo, hi, w, hh], _ =>
      simp only [List.all_cons, List.all_nil, Bool.and_true, Bool.and_eq_true] at h
      obtain ⟨q1, q2, q3, q4, q5, q6, q7, q8⟩ := h
      have e := is_pole_spec q1 q2 q3 q4 q5 q6 q7 q8
      cases b : poleB s n x y lo hi w hh
      · simp [dn_is_part, e, b, partB]
      · simp [dn_is_part, e, b, partB]
  · by_cases h9 : ds.length = 9
    · match ds, h9 with
      | [s, n, x, y, way, len, ht, w, hh], _ =>
        simp only [List.all_cons, List.all_nil, Bool.and_true, Bool.and_eq_true] at h
        obtain ⟨q1, q2, q3, q4, q5, q6, q7, q8, q9⟩ := h
        have e := is_plank_spec q1 q2 q3 q4 q5 q6 q7 q8 q9
        simp [dn_is_part, e, partB]
    · have e8 : ((ds.length : Int) == 8) = false := by
        rw [beq_eq_false_iff_ne]
        omega
      have e9 : ((ds.length : Int) == 9) = false := by
        rw [beq_eq_false_iff_ne]
        omega
      have : partB ds = false := by
        unfold partB
        split
        · exact absurd rfl h8
        · exact absurd rfl h9
        · rfl
      simp [dn_is_part, e8, e9, this]
theorem is_part_other {d : D} (h : (∀ ds, d ≠ .tup ds) ∧ ∃ b, Ty.tuple.has d = some b) : dn_is_part [.sh d] = some (.ret (.sh (.bl false)) [.no]) := by
  obtain ⟨h1, b, h2⟩ := h
  cases d with
  | tup ds => exact absurd rfl (h1 ds)
  | scr ds => cases h2
  | obj _ _ _ => cases h2
  | exc _ _ _ => cases h2
  | _ => simp [dn_is_part]

/-! ### where a part is -/
def bottomZ : List D → Option Int
  | [_, _, _, _, .int lo, _, _, _] => some lo
  | [_, _, _, _, _, _, .int ht, _, _] => some ht
  | _ => none
def pl (x y : Int) : D := .tup [.int x, .int y]
/-- the places of a part of numbers -/
def placesD (b w : Bool) (x y l : Int) : List D := if b = true then (if w = true then (List.range (l + 1).toNat).map fun (k : Nat) => pl (x + k) y else (List.range (l + 1).toNat).map fun (k : Nat) => pl x (y + k)) else [pl x y]
/-- a pole, a board as data -/
abbrev poleD (n : Str) (x y lo hi : Int) (w h : D) : D := .tup [.str "pole", .str n, .int x, .int y, .int lo, .int hi, w, h]
abbrev boardD (n : Str) (x y : Int) (way : Str) (len ht : Int) (w h : D) : D := .tup [.str "board", .str n, .int x, .int y, .str way, .int len, .int ht, w, h]
theorem sn1 : ¬ (Str.ofString "pole" = Str.ofString "board") := by decide +kernel
theorem sn2 : ¬ (Str.ofString "board" = Str.ofString "pole") := by decide +kernel
theorem sn3 : ¬ (Str.ofString "y" = Str.ofString "x") := by decide +kernel
section
variable {n : Str} {x y lo hi len ht : Int} {w h : D} {way : Str}
theorem is_board_pole : dn_is_board [.sh (poleD n x y lo hi w h)] = some (.ret (.sh (.bl false)) [.no]) := by
  simp [dn_is_board, cps_ok, sn1]
theorem is_board_board : dn_is_board [.sh (boardD n x y way len ht w h)] = some (.ret (.sh (.bl true)) [.no]) := by
  simp [dn_is_board, cps_ok]
theorem bottom_pole : dn_bottom_of [.sh (poleD n x y lo hi w h)] = some (.ret (.sh (.int lo)) [.no]) := by
  simp [dn_bottom_of, is_board_pole]
theorem bottom_board : dn_bottom_of [.sh (boardD n x y way len ht w h)] = some (.ret (.sh (.int ht)) [.no]) := by
  simp [dn_bottom_of, is_board_board]
theorem top_pole : dn_top_of [.sh (poleD n x y lo hi w h)] = some (.ret (.sh (.int hi)) [.no]) := by
  simp [dn_top_of, is_board_pole]
theorem top_board : dn_top_of [.sh (boardD n x y way len ht w h)] = some (.ret (.sh (.int (ht + 1))) [.no]) := by
  simp [dn_top_of, is_board_board]
theorem places_pole : dn_places_of [.sh (poleD n x y lo hi w h)] = some (.ret (.ow (.lst [pl x y])) [.no]) := by
  simp [dn_places_of, is_board_pole, lim, pl]
theorem range_len (lo : Int) (k : Nat) : (rangeD lo k) = (List.range k).map fun (i : Nat) => D.int (lo + (i : Int)) := rfl
theorem small_of {i : Int} (h0 : 0 ≤ i) (h1 : i ≤ 1000) : small62 i = true := by
  unfold small62
  exact decide_eq_true ⟨by omega, by omega⟩
theorem l2 : 2 ≤ lim := by decide
theorem l1 : 1 ≤ lim := by decide
theorem places_x (h0 : 0 ≤ len) (h1 : len ≤ 20) : dn_places_of [.sh (boardD n x y "x" len ht w h)] = some (.ret (.ow (.lst ((List.range (len + 1).toNat).map fun (k : Nat) => pl (x + k) y))) [.no]) := by
  have key : lcL (gN 3) tYesE (eTup (asC (aV (eOp (asC (aR 1) (asC (aR 3) asN)) oAdd)) (asC (aV (eVar 2)) asN))) [3] (rangeD 0 (len + 1).toNat) [] [.sh (boardD n x y "x" len ht w h), .sh (.int x), .sh (.int y), .no] = some ((List.range (len + 1).toNat).map fun (k : Nat) => pl (x + k) y, [.sh (boardD n x y "x" len ht w h), .sh (.int x), .sh (.int y), .no]) :=
    lcL_of (fun (k : Nat) => D.int (0 + (k : Int))) (fun (k : Nat) => pl (x + k) y) (List.range (len + 1).toNat) [] (fun k _ => by simp [lim, pl]) (by simp [lim]; omega)
  simp only [dn_places_of, mkFn]
  simp at key
  simp [is_board_board, l2, cps_ok, small_of (i := len + 1) (by omega) (by omega)]
  rw [key]
  simp
theorem places_y (h0 : 0 ≤ len) (h1 : len ≤ 20) : dn_places_of [.sh (boardD n x y "y" len ht w h)] = some (.ret (.ow (.lst ((List.range (len + 1).toNat).map fun (k : Nat) => pl x (y + k)))) [.no]) := by
  have key : lcL (gN 3) tYesE (eTup (asC (aV (eVar 1)) (asC (aV (eOp (asC (aR 2) (asC (aR 3) asN)) oAdd)) asN))) [3] (rangeD 0 (len + 1).toNat) [] [.sh (boardD n x y "y" len ht w h), .sh (.int x), .sh (.int y), .no] = some ((List.range (len + 1).toNat).map fun (k : Nat) => pl x (y + k), [.sh (boardD n x y "y" len ht w h), .sh (.int x), .sh (.int y), .no]) :=
    lcL_of (fun (k : Nat) => D.int (0 + (k : Int))) (fun (k : Nat) => pl x (y + k)) (List.range (len + 1).toNat) [] (fun k _ => by simp [lim, pl]) (by simp [lim]; omega)
  simp only [dn_places_of, mkFn]
  simp at key
  simp [is_board_board, l2, cps_ok, sn3, small_of (i := len + 1) (by omega) (by omega)]
  rw [key]
  simp

/-! ### the laws' own -/
theorem lawbottom_pole : dn__law_bottom [.sh (poleD n x y lo hi w h)] = some (.ret (.sh (.int lo)) [.no]) := by
  simp [dn__law_bottom, cps_ok, sn1]
theorem lawbottom_board : dn__law_bottom [.sh (boardD n x y way len ht w h)] = some (.ret (.sh (.int ht)) [.no]) := by
  simp [dn__law_bottom, cps_ok]
theorem lawtop_pole : dn__law_top [.sh (poleD n x y lo hi w h)] = some (.ret (.sh (.int hi)) [.no]) := by
  simp [dn__law_top, cps_ok, sn1]
theorem lawtop_board : dn__law_top [.sh (boardD n x y way len ht w h)] = some (.ret (.sh (.int (ht + 1))) [.no]) := by
  simp [dn__law_top, cps_ok]
theorem lawplaces_pole : dn__law_places [.sh (poleD n x y lo hi w h)] = some (.ret (.ow (.lst [pl x y])) [.no]) := by
  simp [dn__law_places, cps_ok, lim, pl]
theorem lawplaces_x (h0 : 0 ≤ len) (h1 : len ≤ 20) : dn__law_places [.sh (boardD n x y "x" len ht w h)] = some (.ret (.ow (.lst ((List.range (len + 1).toNat).map fun (k : Nat) => pl (x + k) y))) [.no]) := by
  have key : lcL (gN 1) tYesE (eTup (asC (aV (eOp (asC (aV (eOp (asC (aR 0) (asC (aV (eC (.int 2))) asN)) oIx)) (asC (aR 1) asN)) oAdd)) (asC (aV (eOp (asC (aR 0) (asC (aV (eC (.int 3))) asN)) oIx)) asN))) [1] (rangeD 0 (len + 1).toNat) [] [.sh (boardD n x y "x" len ht w h), .no] = some ((List.range (len + 1).toNat).map fun (k : Nat) => pl (x + k) y, [.sh (boardD n x y "x" len ht w h), .no]) :=
    lcL_of (fun (k : Nat) => D.int (0 + (k : Int))) (fun (k : Nat) => pl (x + k) y) (List.range (len + 1).toNat) [] (fun k _ => by simp [lim, pl]) (by simp [lim]; omega)
  simp only [dn__law_places, mkFn]
  simp at key
  simp [l2, cps_ok, sn2, small_of (i := len + 1) (by omega) (by omega)]
  rw [key]
  simp
theorem lawplaces_y (h0 : 0 ≤ len) (h1 : len ≤ 20) : dn__law_places [.sh (boardD n x y "y" len ht w h)] = some (.ret (.ow (.lst ((List.range (len + 1).toNat).map fun (k : Nat) => pl x (y + k)))) [.no]) := by
  have key : lcL (gN 1) tYesE (eTup (asC (aV (eOp (asC (aR 0) (asC (aV (eC (.int 2))) asN)) oIx)) (asC (aV (eOp (asC (aV (eOp (asC (aR 0) (asC (aV (eC (.int 3))) asN)) oIx)) (asC (aR 1) asN)) oAdd)) asN))) [1] (rangeD 0 (len + 1).toNat) [] [.sh (boardD n x y "y" len ht w h), .no] = some ((List.range (len + 1).toNat).map fun (k : Nat) => pl x (y + k), [.sh (boardD n x y "y" len ht w h), .no]) :=
    lcL_of (fun (k : Nat) => D.int (0 + (k : Int))) (fun (k : Nat) => pl x (y + k)) (List.range (len + 1).toNat) [] (fun k _ => by simp [lim, pl]) (by simp [lim]; omega)
  simp only [dn__law_places, mkFn]
  simp at key
  simp [l2, cps_ok, sn2, sn3, small_of (i := len + 1) (by omega) (by omega)]
  rw [key]
  simp
end
/-- turns that may change the slots -/
theorem lcL_inv (P : Py.Env → Prop) (Q : D → Prop) {n : G} {m : E} {vs : List Nat} : ∀ (ds acc : List D) (r : Py.Env), (∀ d ∈ ds, ∀ r, P r → ∃ r1 x r3 y, n (.sh d) r = some (.nx r1) ∧ m r1 = some (.ok x r3) ∧ x.val = some y ∧ Q y ∧ P (wipeE r3 vs)) →
    acc.length + ds.length ≤ lim → P r → ∃ out r', lcL n tYesE m vs ds acc r = some (acc ++ out, r') ∧ out.length = ds.length ∧ (∀ y ∈ out, Q y) ∧ P r'
  | [], acc, r, _, _, hp => ⟨[], r, by simp [lcL], rfl, by simp, hp⟩
  | d :: ds, acc, r, h, hl, hp => by
    obtain ⟨r1, x, r3, y, h1, h2, h3, h4, h5⟩ := h d (.head _) r hp
    obtain ⟨out, r', e1, e2, e3, e4⟩ := lcL_inv P Q ds (acc ++ [y]) (wipeE r3 vs) (fun d' hd' => h d' (.tail _ hd')) (by simp at hl ⊢; omega) h5
    refine ⟨y :: out, r', ?_, by simp [e2], fun z hz => ?_, e4⟩
    · rw [lcL_take h1 rfl h2 h3 (by simp at hl; omega), e1]
      simp
    · rcases List.mem_cons.mp hz with e | e
      · exact e ▸ h4
      · exact e3 z e
/-- the shape of a part -/
theorem partB_shape {ds : List D} (h : partB ds = true) : (∃ n x y lo hi w h, .tup ds = poleD n x y lo hi w h ∧ 0 ≤ lo ∧ lo < hi ∧ hi ≤ 20 ∧ 0 ≤ x ∧ x ≤ 20 ∧ 0 ≤ y ∧ y ≤ 20 ∧ nameB (.str n) = true ∧ weightsB w h = true) ∨
    ∃ n x y way len ht w h, .tup ds = boardD n x y way len ht w h ∧ (way = Str.ofString "x" ∨ way = Str.ofString "y") ∧ 1 ≤ len ∧ len ≤ 20 ∧ 0 ≤ ht ∧ ht ≤ 20 ∧ 0 ≤ x ∧ x ≤ 20 ∧ 0 ≤ y ∧ y ≤ 20 ∧ (way = Str.ofString "x" → x + len ≤ 20) ∧ (way = Str.ofString "y" → y + len ≤ 20) ∧ nameB (.str n) = true ∧ weightsB w h = true := by
  have isB_get : ∀ {s : Str} {d : D}, isB s d = true → d = .str s := by
    intro s d h
    cases d <;> first | (cases h; done) | (simp [isB] at h; rw [h])
  have nameB_get : ∀ {d : D}, nameB d = true → ∃ z, d = .str z := by
    intro d h
    cases d <;> first | (cases h; done) | exact ⟨_, rfl⟩
  unfold partB at h
  split at h
  · rename_i s n x y lo hi w hh
    unfold poleB at h
    simp only [Bool.and_eq_true] at h
    obtain ⟨q1, q2, q3, q4, q5, q6, q7, q8⟩ := h
    obtain ⟨z, rfl⟩ := nameB_get q2
    obtain ⟨x, rfl, -, -⟩ := wholeB_get q4
    obtain ⟨y, rfl, -, -⟩ := wholeB_get q5
    obtain ⟨lo, rfl, -, -⟩ := wholeB_get q6
    obtain ⟨hi, rfl, -, -⟩ := wholeB_get q7
    rw [isB_get q1]
    simp [wholeB] at q4 q5 q6 q7
    simp [lessB] at q8
    exact .inl ⟨z, x, y, lo, hi, w, hh, rfl, q6.1, q8, q7.2, q4.1, q4.2, q5.1, q5.2, q2, q3⟩
  · rename_i s n x y way len ht w hh
    unfold boardB at h
    simp only [Bool.and_eq_true] at h
    obtain ⟨q1, q2, q3, q4, q5, q6, q7, q8, q9⟩ := h
    obtain ⟨z, rfl⟩ := nameB_get q2
    obtain ⟨x, rfl, -, -⟩ := wholeB_get q5
    obtain ⟨y, rfl, -, -⟩ := wholeB_get q6
    obtain ⟨ht, rfl, -, -⟩ := wholeB_get q7
    obtain ⟨len, rfl, -, -⟩ := wholeB_get q8
    rw [isB_get q1]
    simp [wholeB] at q5 q6 q7 q8
    unfold wayB at q4
    rw [Bool.or_eq_true] at q4
    refine .inr ?_
    rcases q4 with q | q
    · rw [isB_get q] at q9 ⊢
      simp [endB, isB] at q9
      exact ⟨z, x, y, _, len, ht, w, hh, rfl, .inl rfl, q8.1, q8.2, q7.1, q7.2, q5.1, q5.2, q6.1, q6.2, fun _ => q9, fun e => absurd e.symm sn3, q2, q3⟩
    · rw [isB_get q] at q9 ⊢
      simp [endB, isB, sn3] at q9
      exact ⟨z, x, y, _, len, ht, w, hh, rfl, .inr rfl, q8.1, q8.2, q7.1, q7.2, q5.1, q5.2, q6.1, q6.2, fun e => absurd e sn3, fun _ => q9, q2, q3⟩
  · cases h
end Sc

/-! LmWord: plain facts of texts, fractions, ==. -/
namespace Sc
open PySem Py
set_option maxRecDepth 10000
set_option linter.all false
mutual
theorem eqv_refl : ∀ {d : D}, cmpOk d = true → eqv d d = true
  | .non, _ => rfl
  | .bl b, _ => by simp
  | .int i, _ => by simp
  | .str z, _ => by simp
  | .tup ds, h => by
    have h' : cmpOks ds = true := by simpa only [cmpOk] using h
    simp only [eqv]
    exact eqvs_refl h'
  | .lst ds, h => by
    have h' : cmpOks ds = true := by simpa only [cmpOk] using h
    simp only [eqv]
    exact eqvs_refl h'
  | .scr ds, h => by simp [cmpOk] at h
  | .dic _ _, h => by simp [cmpOk] at h
  | .obj _ _ _, h => by simp [cmpOk] at h
  | .exc _ _ _, h => by simp [cmpOk] at h
theorem eqvs_refl : ∀ {ds : List D}, cmpOks ds = true → eqvs ds ds = true
  | [], _ => rfl
  | d :: ds, h => by
    have h' : cmpOk d = true ∧ cmpOks ds = true := by simpa only [cmpOks, Bool.and_eq_true] using h
    simp only [eqvs]
    rw [eqv_refl h'.1, eqvs_refl h'.2]
    rfl
end
theorem cmpOks_of : ∀ {ds : List D}, (∀ d ∈ ds, cmpOk d = true) → cmpOks ds = true
  | [], _ => rfl
  | d :: ds, h => by
    simp only [cmpOks]
    rw [h d (.head _), cmpOks_of fun e he => h e (.tail _ he)]
    rfl
theorem deps_le {n : Nat} : ∀ {ds : List D}, (∀ d ∈ ds, dep d ≤ n) → deps ds ≤ n
  | [], _ => Nat.zero_le _
  | d :: ds, h => by
    simp only [deps]
    exact Nat.max_le.mpr ⟨h d (.head _), deps_le fun e he => h e (.tail _ he)⟩
theorem eqOk_lst {ds : List D} (h1 : ∀ d ∈ ds, cmpOk d = true) (h2 : ∀ d ∈ ds, dep d ≤ 60) : eqOk (.lst ds) = true := by
  have := deps_le h2
  unfold eqOk
  rw [show cmpOk (.lst ds) = true from by simp only [cmpOk]; exact cmpOks_of h1, show dep (.lst ds) = deps ds + 1 from by simp only [dep]]
  simp
  omega
theorem ne_self {d : D} (h : eqOk d = true) : oNeX [d, d] = rB false := by
  have hc : cmpOk d = true := by
    unfold eqOk at h
    exact (Bool.and_eq_true_iff.mp h).1
  rw [neX_of (by cases d <;> first | rfl | (simp [cmpOk] at hc)) h h, eqv_refl hc]
  rfl
theorem lowT_nonneg {a b : Int} (ha : 0 ≤ a) (hb : 0 < b) : 0 ≤ lowT a b ∧ (0 < a → 0 < lowT a b) := by
  have hm := lowT_mul (a := a) (b := b) (by omega)
  have hg := gcd_pos (a := a) (b := b) (by omega)
  have e : byZ a b = (Int.gcd a b : Int) := if_neg (by omega)
  rw [e] at hm
  refine ⟨?_, fun h => ?_⟩
  · by_cases hl : 0 ≤ lowT a b
    · exact hl
    · have : lowT a b * (Int.gcd a b : Int) < 0 := Int.mul_neg_of_neg_of_pos (by omega) (by omega)
      omega
  · by_cases hl : 0 < lowT a b
    · exact hl
    · have : lowT a b * (Int.gcd a b : Int) ≤ 0 := Int.mul_nonpos_of_nonpos_of_nonneg (by omega) (by omega)
      omega
/-- in lowest terms already -/
theorem low_same {a b : Int} (hb : 0 < b) (hg : Int.gcd a b = 1) : lowT a b = a ∧ lowB a b = b := by
  have e : byZ a b = 1 := by
    unfold byZ
    rw [if_neg (by omega), hg]
    rfl
  have h1 := lowT_mul (a := a) (b := b) (by omega)
  have h2 := lowB_mul (a := a) (b := b) (by omega)
  rw [e] at h1 h2
  omega
theorem low_same_iff {a b : Int} (hb : 0 < b) : (lowT a b = a ∧ lowB a b = b) ↔ Int.gcd a b = 1 := by
  refine ⟨fun ⟨h1, h2⟩ => ?_, low_same hb⟩
  have := low_coprime (a := a) (b := b) (by omega)
  rw [h1, h2] at this
  exact this
/-! ### texts of single signs -/
def sign (c : Nat) : Str := ⟨#[c]⟩
theorem join_signs : ∀ cs : List Nat, (Str.join ⟨#[]⟩ (cs.map sign)).cps.toList = cs
  | [] => rfl
  | [c] => rfl
  | c :: e :: cs => by
    have ih := join_signs (e :: cs)
    show ((sign c ++ ⟨#[]⟩ ++ Str.join ⟨#[]⟩ ((e :: cs).map sign)).cps).toList = _
    rw [cps_app, cps_app, Array.toList_append, Array.toList_append, ih]
    rfl
theorem signs_of : ∀ {out : List D}, (∀ y ∈ out, ∃ c, y = .str (sign c) ∧ isLetter c = true) → ∃ cs : List Nat, out = cs.map (fun c => D.str (sign c)) ∧ (∀ c ∈ cs, isLetter c = true)
  | [], _ => ⟨[], rfl, by simp⟩
  | y :: out, h => by
    obtain ⟨c, e1, e2⟩ := h y (.head _)
    obtain ⟨cs, e3, e4⟩ := signs_of fun z hz => h z (.tail _ hz)
    refine ⟨c :: cs, by rw [e1, e3]; rfl, fun d hd => ?_⟩
    rcases List.mem_cons.mp hd with e | e
    · exact e ▸ e2
    · exact e4 d e
theorem strsD_signs : ∀ cs : List Nat, strsD (cs.map fun c => D.str (sign c)) = some (cs.map sign)
  | [] => rfl
  | c :: cs => by
    rw [List.map_cons, strsD, strsD_signs cs]
    rfl
theorem sum_signs : ∀ cs : List Nat, ((cs.map sign).map (·.length)).sum = cs.length
  | [] => rfl
  | c :: cs => by
    rw [List.map_cons, List.map_cons, List.sum_cons, sum_signs cs]
    simp [sign, Str.length]
    omega
theorem letter_lt {c : Nat} (h : isLetter c = true) : c < 0x110000 := by
  have h1 : c ∈ (Str.ofString "abcdefghijklmnopqrstuvwxyz").cps := of_decide_eq_true h
  have h2 := cps_ok "abcdefghijklmnopqrstuvwxyz"
  rw [Array.all_eq_true'] at h2
  exact of_decide_eq_true (h2 c h1)
theorem abc_size : (Str.ofString "abcdefghijklmnopqrstuvwxyz").cps.size = 26 := by decide +kernel
theorem abc_len : (Str.ofString "abcdefghijklmnopqrstuvwxyz").length ≤ lim := by decide +kernel
/-- a letter by its number -/
theorem abc_get {k : Int} (h0 : 0 ≤ k) (h1 : k < 26) : ∃ c, isLetter c = true ∧ oIx [.str "abcdefghijklmnopqrstuvwxyz", .int k] = some (.sh (.str (sign c))) := by
  have hlt : k.toNat < (Str.ofString "abcdefghijklmnopqrstuvwxyz").cps.size := by rw [abc_size]; omega
  refine ⟨(Str.ofString "abcdefghijklmnopqrstuvwxyz").cps[k.toNat], decide_eq_true (Array.getElem_mem hlt), ?_⟩
  have e : (k < ((Str.ofString "abcdefghijklmnopqrstuvwxyz").cps.size : Int)) := by rw [abc_size]; omega
  simp [abc_len, h0, e, Array.getElem?_eq_getElem hlt, sign]
/-- a name of letters -/
theorem name_signs {cs : List Nat} (h1 : 1 ≤ cs.length) (h8 : cs.length ≤ 8) (hl : ∀ c ∈ cs, isLetter c = true) : nameB (.str (Str.join ⟨#[]⟩ (cs.map sign))) = true ∧ itm (.str (Str.join ⟨#[]⟩ (cs.map sign))) = true := by
  have e := join_signs cs
  have el : (Str.join ⟨#[]⟩ (cs.map sign)).length = cs.length := by
    show Array.size _ = _
    rw [← Array.length_toList, e]
  refine ⟨?_, ?_⟩
  · show (decide (1 ≤ (Str.join ⟨#[]⟩ (cs.map sign)).length) && (decide ((Str.join ⟨#[]⟩ (cs.map sign)).length ≤ 8) && (Str.join ⟨#[]⟩ (cs.map sign)).cps.toList.all isLetter)) = true
    rw [el, e]
    simp [h1, h8]
    exact hl
  · show (decide _ && _) = true
    rw [el, Bool.and_eq_true]
    refine ⟨decide_eq_true (by omega), ?_⟩
    rw [Array.all_eq_true']
    intro c hc
    refine decide_eq_true (letter_lt (hl c ?_))
    rw [← e]
    exact Array.mem_toList_iff.mpr hc

/-- a turn with a test -/
@[simp] def turnF (n : G) (t : T) (m : E) (vs : List Nat) (r : Py.Env) (d : D) (p : Bool) (d' : D) : Prop := match n (.sh d) r with
  | some (.nx r1) => match t r1 with
    | some (.ok b r2) => b = p ∧ (if p = true then (match m r2 with
      | some (.ok x r3) => x.val = some d' ∧ wipeE r3 vs = r
      | _ => False) else wipeE r2 vs = r)
    | _ => False
  | _ => False
theorem lcL_filt {α : Type} {n : G} {t : T} {m : E} {vs : List Nat} (g f : α → D) (p : α → Bool) {r : Py.Env} : ∀ (xs : List α) (acc : List D), (∀ a ∈ xs, turnF n t m vs r (g a) (p a) (f a)) →
    acc.length + xs.length ≤ lim → lcL n t m vs (xs.map g) acc r = some (acc ++ (xs.filter p).map f, r)
  | [], acc, _, _ => by simp [lcL]
  | a :: xs, acc, h, hl => by
    have h0 := h a (.head _)
    unfold turnF at h0
    split at h0
    · rename_i r1 e1
      split at h0
      · rename_i b r2 e2
        obtain ⟨hb, h0⟩ := h0
        subst hb
        cases hp : p a with
        | true =>
          rw [if_pos hp] at h0
          rw [hp] at e2
          split at h0
          · rename_i x r3 e3
            rw [List.map_cons, lcL_take e1 e2 e3 h0.1 (by simp at hl; omega), h0.2, lcL_filt g f p xs _ (fun b hb => h b (.tail _ hb)) (by simp at hl ⊢; omega)]
            simp [hp]
          · exact h0.elim
        | false =>
          rw [if_neg (by rw [hp]; decide)] at h0
          rw [hp] at e2
          rw [List.map_cons, lcL_skip e1 e2, h0, lcL_filt g f p xs _ (fun b hb => h b (.tail _ hb)) (by simp at hl ⊢; omega)]
          simp [hp]
      · exact h0.elim
    · exact h0.elim
theorem eq_nil (ds : List D) : oEqX [.lst ds, .lst []] = rB ds.isEmpty := by
  cases ds with
  | nil => rfl
  | cons d ds => rfl
theorem ne_nil (ds : List D) : oNeX [.lst ds, .lst []] = rB (!ds.isEmpty) := by
  cases ds with
  | nil => rfl
  | cons d ds => rfl
theorem itm_dep {d : D} (h : itm d = true) (hd : dicB d = false) : cmpOk d = true ∧ dep d ≤ 60 := by
  cases d with
  | tup ds =>
    obtain ⟨b1, b2⟩ := atms_cmp (show ds.all atm = true from h)
    simp [b1, b2]
  | lst ds =>
    obtain ⟨b1, b2⟩ := atms_cmp (show ds.all atm = true from h)
    simp [b1, b2]
  | dic ks ds => cases hd
  | int i => simp
  | bl i => simp
  | non => simp
  | str z =>
    obtain ⟨b1, b2⟩ := atm_cmp (show atm (.str z) = true from h)
    exact ⟨b1, by rw [b2]; decide⟩
  | scr ds => cases h
  | obj _ _ _ => cases h
  | exc _ _ _ => cases h
end Sc

namespace L_k12
open PySem Py Sc
set_option maxRecDepth 10000
set_option linter.all false
theorem empty_str : Str.ofString "" = ⟨#[]⟩ := by decide +kernel
theorem word_spec (a b : Int) (h : okP a b) : ∃ z a' b', okP a' b' ∧ nameB (.str z) = true ∧ itm (.str z) = true ∧ dn__law_word [.ow (potD a b)] = some (.ret (.sh (.str z)) [.ow (potD a' b')]) := by
  obtain ⟨d, a1, b1, p1, p2, p3, p4⟩ := draw_spec a b 8 h (by decide) (by decide)
  obtain ⟨out, r', e1, e2, e3, e4⟩ := lcL_inv (fun r => ∃ a b, okP a b ∧ r = [.ow (potD a b), .no]) (fun y => ∃ c, y = .str (sign c) ∧ isLetter c = true) (n := gN 1)
    (m := eOp (asC (aV (eC (.str "abcdefghijklmnopqrstuvwxyz"))) (asC (aV (eCall Sc.dn__law_draw (asC (aR 0) (asC (aV (eC (.int 26))) asN)))) asN)) oIx) (vs := [1]) (rangeD 0 (1 + d).toNat) [] [.ow (potD a1 b1), .no]
    (fun y _ r hr => by
      obtain ⟨a, b, hk, rfl⟩ := hr
      obtain ⟨k, a2, b2, q1, q2, q3, q4⟩ := draw_spec a b 26 hk (by decide) (by decide)
      obtain ⟨c, c1, c2⟩ := abc_get q1 q2
      exact ⟨[.ow (potD a b), .sh y], .sh (.str (sign c)), [.ow (potD a2 b2), .sh y], .str (sign c), by simp, by simp [-oIx, q4, c2], rfl, ⟨c, rfl, c1⟩, a2, b2, q3, by simp⟩)
    (by simp [rangeD, lim]; omega) ⟨a1, b1, p3, rfl⟩
  obtain ⟨a', b', hk, rfl⟩ := e4
  obtain ⟨cs, c1, c2⟩ := signs_of e3
  have hlen : cs.length = (1 + d).toNat := by
    have := e2
    rw [c1] at this
    simpa [rangeD] using this
  obtain ⟨n1, n2⟩ := name_signs (cs := cs) (by omega) (by omega) c2
  refine ⟨_, a', b', hk, n1, n2, ?_⟩
  simp only [List.nil_append] at e1
  subst c1
  have hs := sum_signs cs
  have h8 : small62 (1 + d) = true := small_of (by omega) (by omega)
  have hsum : ((cs.map sign).map (·.length)).sum + (cs.map sign).length * (Str.ofString "").length ≤ 16777216 := by
    rw [hs, empty_str]
    simp [Str.length]
    omega
  simp at e1
  simp only [dn__law_word, mkFn]
  simp [p4, h8]
  rw [e1]
  rw [empty_str] at hsum ⊢
  simp at hsum
  simp [strsD_signs, hsum]
theorem share_spec (a b : Int) (h : okP a b) (least : Int) (h0 : 0 ≤ least) (h1 : least ≤ 1) : ∃ p q a' b', okP a' b' ∧ 0 < q ∧ Int.gcd p q = 1 ∧ 0 ≤ p ∧ (least = 1 → 0 < p) ∧ p ≤ 10000000000000 ∧ q ≤ 10000000000000 ∧ dn__law_share [.ow (potD a b), .sh (.int least)] = some (.ret (.sh (dF p q)) [.ow (potD a' b'), .no]) := by
  obtain ⟨d1, a1, b1, p1, p2, p3, p4⟩ := draw_spec a b 2 h (by decide) (by decide)
  have fin : ∀ x y : Int, 0 ≤ x → x < 1000000000000 → 0 ≤ y → y < 1000000000000 → 0 < lowB (least + x) (1 + y) ∧ Int.gcd (lowT (least + x) (1 + y)) (lowB (least + x) (1 + y)) = 1 ∧ 0 ≤ lowT (least + x) (1 + y) ∧ (least = 1 → 0 < lowT (least + x) (1 + y)) ∧ lowT (least + x) (1 + y) ≤ 10000000000000 ∧ lowB (least + x) (1 + y) ≤ 10000000000000 := by
    intro x y hx0 hx hy0 hy
    have hb : (1 + y) ≠ 0 := by omega
    obtain ⟨q1, q2⟩ := lowT_nonneg (a := least + x) (b := 1 + y) (by omega) (by omega)
    have l1 := lowT_le (a := least + x) hb
    have l2 := lowB_le (a := least + x) hb
    have l3 := lowB_pos (a := least + x) hb
    exact ⟨l3, low_coprime hb, q1, fun e => q2 (by omega), by omega, by omega⟩
  by_cases hd : d1 = 0
  · subst hd
    obtain ⟨x, a2, b2, q1, q2, q3, q4⟩ := draw_spec a1 b1 9 p3 (by decide) (by decide)
    obtain ⟨y, a3, b3, r1, r2, r3, r4⟩ := draw_spec a2 b2 4 q3 (by decide) (by decide)
    obtain ⟨f1, f2, f3, f4, f5, f6⟩ := fin x y q1 (by omega) r1 (by omega)
    refine ⟨_, _, a3, b3, r3, f1, f2, f3, f4, f5, f6, ?_⟩
    have hl := low_sm (a := least + x) (b := 1 + y) (n := 50) (by omega) (by show (1 + y).natAbs < 1125899906842624; omega)
    simp [dn__law_share, p4, q4, r4, hl]
  · obtain ⟨x, a2, b2, q1, q2, q3, q4⟩ := draw_spec a1 b1 999999999999 p3 (by decide) (by decide)
    obtain ⟨y, a3, b3, r1, r2, r3, r4⟩ := draw_spec a2 b2 999999999999 q3 (by decide) (by decide)
    obtain ⟨f1, f2, f3, f4, f5, f6⟩ := fin x y q1 (by omega) r1 (by omega)
    refine ⟨_, _, a3, b3, r3, f1, f2, f3, f4, f5, f6, ?_⟩
    have hl := low_sm (a := least + x) (b := 1 + y) (n := 50) (by omega) (by show (1 + y).natAbs < 1125899906842624; omega)
    simp [dn__law_share, p4, hd, q4, r4, hl]

theorem weights_of {p q p' q' : Int} (h1 : 0 < q) (h2 : Int.gcd p q = 1) (h3 : 0 < p) (h4 : 0 < q') (h5 : Int.gcd p' q' = 1) (h6 : 0 ≤ p') : weightsB (dF p q) (dF p' q') = true := by
  simp [weightsB, fracB, fracN, h1, h2, h3, h4, h5, h6]
theorem itm_frac {p q : Int} (h1 : 0 ≤ p) (h2 : p ≤ 10000000000000) (h3 : 0 < q) (h4 : q ≤ 10000000000000) : itm (dF p q) = true := by
  have e1 : p.natAbs ≤ 10000000000000 := by omega
  have e2 : q.natAbs ≤ 10000000000000 := by omega
  simp [itm, atm, e1, e2]
theorem itm_int {p : Int} (h1 : 0 ≤ p) (h2 : p ≤ 10000000000000) : itm (.int p) = true := by
  have e1 : p.natAbs ≤ 10000000000000 := by omega
  simp [itm, atm, e1]
theorem itm_lit (s : String) (h : (Str.ofString s).length ≤ 1000) : itm (.str (Str.ofString s)) = true := by
  simp [itm, atm, h, cps_ok]
theorem part_spec (a b : Int) (h : okP a b) : ∃ ds a' b', okP a' b' ∧ ds.all itm = true ∧ (ds.length = 8 ∨ ds.length = 9) ∧ dn__law_part [.ow (potD a b)] = some (.ret (.sh (.tup ds)) [.ow (potD a' b')]) := by
  obtain ⟨z, a1, b1, k1, n1, n2, e1⟩ := word_spec a b h
  obtain ⟨p, q, a2, b2, k2, s1, s2, s3, s4, s5, s6, e2⟩ := share_spec a1 b1 k1 1 (by decide) (by decide)
  obtain ⟨p', q', a3, b3, k3, t1, t2, t3, t4, t5, t6, e3⟩ := share_spec a2 b2 k2 0 (by decide) (by decide)
  obtain ⟨d, a4, b4, u1, u2, k4, e4⟩ := draw_spec a3 b3 2 k3 (by decide) (by decide)
  have i1 := itm_frac s3 s5 s1 s6
  have i2 := itm_frac t3 t5 t1 t6
  have ip := itm_lit "pole" (by decide +kernel)
  have ib := itm_lit "board" (by decide +kernel)
  have ix := itm_lit "x" (by decide +kernel)
  have iy := itm_lit "y" (by decide +kernel)
  by_cases hd : d = 0
  · subst hd
    obtain ⟨lo, a5, b5, v1, v2, k5, e5⟩ := draw_spec a4 b4 20 k4 (by decide) (by decide)
    obtain ⟨x, a6, b6, w1, w2, k6, e6⟩ := draw_spec a5 b5 21 k5 (by decide) (by decide)
    obtain ⟨y, a7, b7, x1, x2, k7, e7⟩ := draw_spec a6 b6 21 k6 (by decide) (by decide)
    obtain ⟨hh, a8, b8, y1, y2, k8, e8⟩ := draw_spec a7 b7 (20 - lo) k7 (by omega) (by show (20 - lo).natAbs < 1267650600228229401496703205376; omega)
    refine ⟨[.str "pole", .str z, .int x, .int y, .int lo, .int (lo + 1 + hh), dF p q, dF p' q'], a8, b8, k8, ?_, .inl rfl, ?_⟩
    · simp [ip, n2, itm_int w1 (by omega), itm_int x1 (by omega), itm_int v1 (by omega), itm_int (p := lo + 1 + hh) (by omega) (by omega), i1, i2]
    · simp [dn__law_part, e1, e2, e3, e4, e5, e6, e7, e8, lim]
  · obtain ⟨l, a5, b5, v1, v2, k5, e5⟩ := draw_spec a4 b4 20 k4 (by decide) (by decide)
    obtain ⟨x, a6, b6, w1, w2, k6, e6⟩ := draw_spec a5 b5 (21 - (1 + l)) k5 (by omega) (by show (21 - (1 + l)).natAbs < 1267650600228229401496703205376; omega)
    obtain ⟨y, a7, b7, x1, x2, k7, e7⟩ := draw_spec a6 b6 21 k6 (by decide) (by decide)
    obtain ⟨ht, a8, b8, y1, y2, k8, e8⟩ := draw_spec a7 b7 21 k7 (by decide) (by decide)
    obtain ⟨d2, a9, b9, z1, z2, k9, e9⟩ := draw_spec a8 b8 2 k8 (by decide) (by decide)
    by_cases hd2 : d2 = 0
    · subst hd2
      refine ⟨[.str "board", .str z, .int x, .int y, .str "x", .int (1 + l), .int ht, dF p q, dF p' q'], a9, b9, k9, ?_, .inr rfl, ?_⟩
      · simp [ib, n2, ix, itm_int w1 (by omega), itm_int x1 (by omega), itm_int y1 (by omega), itm_int (p := 1 + l) (by omega) (by omega), i1, i2]
      · simp [dn__law_part, e1, e2, e3, e4, e5, e6, e7, e8, e9, hd, lim]
    · refine ⟨[.str "board", .str z, .int y, .int x, .str "y", .int (1 + l), .int ht, dF p q, dF p' q'], a9, b9, k9, ?_, .inr rfl, ?_⟩
      · simp [ib, n2, iy, itm_int w1 (by omega), itm_int x1 (by omega), itm_int y1 (by omega), itm_int (p := 1 + l) (by omega) (by omega), i1, i2]
      · simp [dn__law_part, e1, e2, e3, e4, e5, e6, e7, e8, e9, hd, hd2, lim]

/-- things that are looked at -/
def Cl (d : D) : Prop := (∃ es : List D, d = .tup es ∧ es.all itm = true) ∨ ((∀ es, d ≠ .tup es) ∧ ∃ b, Ty.tuple.has d = some b)
theorem cl_itm {d : D} (h : itm d = true) : Cl d := by
  cases d with
  | tup ds => exact .inl ⟨ds, rfl, List.all_eq_true.mpr fun e he => atm_itm (List.all_eq_true.mp (show ds.all atm = true from h) e he)⟩
  | scr ds => cases h
  | obj _ _ _ => cases h
  | exc _ _ _ => cases h
  | _ => exact .inr ⟨fun es e => (nomatch e), _, rfl⟩
def odds : List D := [.int (-1), .int 21, .int 20, .int 0, .bl true, .non, .str "", .str "x", .str "y", .str "z", .str "pole", .str "board", .str "A", .str "aaaaaaaaa", dF 0 1, dF 2 4, dF 1 0,
  dF (-1) 2, dF 1 2, .lst [.int 1, .int 2], .tup [.bl true, .int 2], .tup [.int 1, .int 2, .int 3], .str "3", .lst [.str "a"], .dic [] []]
theorem odds_itm : ∀ d ∈ odds, itm d = true := by
  have e : ∀ s : String, (Str.ofString s).length ≤ 1000 → itm (.str (Str.ofString s)) = true := itm_lit
  intro d hd
  simp only [odds, List.mem_cons, List.not_mem_nil, or_false] at hd
  rcases hd with rfl | rfl | rfl | rfl | rfl | rfl | rfl | rfl | rfl | rfl | rfl | rfl | rfl | rfl | rfl | rfl | rfl | rfl | rfl | rfl | rfl | rfl | rfl | rfl | rfl
  all_goals first | rfl | exact e _ (by decide +kernel) | (simp [itm, atm, cps_ok]; decide +kernel)
theorem cutD_len (xs : List D) (lo hi : Option Int) : (cutD xs lo hi).length ≤ xs.length := by
  unfold cutD
  rw [List.length_take, List.length_drop]
  omega
theorem l17 : 17 ≤ lim := by decide
theorem l8 : 8 ≤ lim := by decide
theorem l3 : 3 ≤ lim := by decide
theorem spoiled_spec (a b : Int) (h : okP a b) (ds : List D) (hi : ds.all itm = true) (hl : ds.length = 8 ∨ ds.length = 9) : ∃ th a' b', okP a' b' ∧ Cl th ∧ dn__law_spoiled [.ow (potD a b), .sh (.tup ds)] = some (.ret (.sh th) [.ow (potD a' b'), .no]) := by
  obtain ⟨way, a1, b1, p1, p2, k1, e1⟩ := draw_spec a b 6 h (by decide) (by decide)
  obtain ⟨at_, a2, b2, q1, q2, k2, e2⟩ := draw_spec a1 b1 (ds.length : Int) k1 (by omega) (by show ((ds.length : Nat) : Int).natAbs < 1267650600228229401496703205376; omega)
  have hall := List.all_eq_true.mp hi
  by_cases hw : way < 3
  · obtain ⟨k, a3, b3, r1, r2, k3, e3⟩ := draw_spec a2 b2 25 k2 (by decide) (by decide)
    have hk : k.toNat < odds.length := by simp [odds]; omega
    obtain ⟨o, ho, hm⟩ : ∃ o, odds[k.toNat]? = some o ∧ o ∈ odds := ⟨_, List.getElem?_eq_getElem hk, List.getElem_mem hk⟩
    have c1 := cutD_len ds none (some at_)
    have c2 := cutD_len ds (some (at_ + 1)) none
    have g1 : (cutD ds none (some at_)).length + 1 ≤ 16777216 := by omega
    have g2 : (cutD ds none (some at_)).length + 1 + (cutD ds (some (at_ + 1)) none).length ≤ 16777216 := by omega
    have g3 : (cutD ds none (some at_)).length + ((cutD ds (some (at_ + 1)) none).length + 1) ≤ 16777216 := by omega
    refine ⟨.tup (cutD ds none (some at_) ++ o :: cutD ds (some (at_ + 1)) none), a3, b3, k3, .inl ⟨_, rfl, List.all_eq_true.mpr fun e he => ?_⟩, ?_⟩
    · rw [List.mem_append, List.mem_cons] at he
      rcases he with he | he | he
      · exact hall e (cutD_mem he)
      · exact he ▸ odds_itm _ hm
      · exact hall e (cutD_mem he)
    · simp only [odds] at ho
      simp [dn__law_spoiled, lim, e1, e2, e3, hw, r1, r2, g1, g2, g3]
      exact (List.getElem?_eq_some_iff.mp ho).2
  · by_cases hw3 : way = 3
    · subst hw3
      obtain ⟨k, a3, b3, r1, r2, k3, e3⟩ := draw_spec a2 b2 6 k2 (by decide) (by decide)
      have h1 : 1 < ds.length := by omega
      obtain ⟨y, hy, hm⟩ : ∃ y, ds[1]? = some y ∧ y ∈ ds := ⟨_, List.getElem?_eq_getElem h1, List.getElem_mem h1⟩
      have g0 : ds.length ≤ 16777216 := by omega
      have g1 : ds.length + 1 ≤ 16777216 := by omega
      have hk : k.toNat < [D.lst ds, .tup (cutD ds none (some (-1))), .tup (ds ++ [dF 1 1]), .tup [], .non, y].length := by simp; omega
      obtain ⟨o, ho, hmo⟩ : ∃ o, [D.lst ds, .tup (cutD ds none (some (-1))), .tup (ds ++ [dF 1 1]), .tup [], .non, y][k.toNat]? = some o ∧ o ∈ [D.lst ds, .tup (cutD ds none (some (-1))), .tup (ds ++ [dF 1 1]), .tup [], .non, y] := ⟨_, List.getElem?_eq_getElem hk, List.getElem_mem hk⟩
      refine ⟨o, a3, b3, k3, ?_, ?_⟩
      · simp only [List.mem_cons, List.not_mem_nil, or_false] at hmo
        rcases hmo with rfl | rfl | rfl | rfl | rfl | rfl
        · exact .inr ⟨fun es e => (nomatch e), _, rfl⟩
        · exact .inl ⟨_, rfl, List.all_eq_true.mpr fun e he => hall e (cutD_mem he)⟩
        · refine .inl ⟨_, rfl, List.all_eq_true.mpr fun e he => ?_⟩
          rw [List.mem_append, List.mem_singleton] at he
          rcases he with he | he
          · exact hall e he
          · rw [he]
            rfl
        · exact .inl ⟨_, rfl, rfl⟩
        · exact .inr ⟨fun es e => (nomatch e), _, rfl⟩
        · exact cl_itm (hall _ hm)
      · have i1 : (1 : Int) < (ds.length : Int) := by omega
        simp [dn__law_spoiled, lim, e1, e2, e3, hy, r1, r2, g0, g1, i1]
        exact (List.getElem?_eq_some_iff.mp ho).2
    · refine ⟨.tup ds, a2, b2, k2, .inl ⟨ds, rfl, hi⟩, ?_⟩
      simp [dn__law_spoiled, lim, e1, e2, hw, hw3]

/-! what the law looks at -/
def wholeL (lo hi : Int) : D → Bool
  | .int i => decide (lo ≤ i) && decide (i ≤ hi)
  | _ => false
theorem lwhole_spec {d : D} (lo hi : Int) (h : itm d = true) : dn__law_whole [.sh d, .sh (.int lo), .sh (.int hi)] = some (.ret (.sh (.bl (wholeL lo hi d))) [.no, .no, .no]) := by
  cases d with
  | scr ds => cases h
  | obj _ _ _ => cases h
  | exc _ _ _ => cases h
  | int i =>
    by_cases h1 : lo ≤ i
    · simp [dn__law_whole, wholeL, h1]
    · simp [dn__law_whole, wholeL, h1]
  | _ => simp [dn__law_whole, wholeL]
theorem wholeL_20 (lo : Int) (d : D) : wholeL lo 20 d = wholeB lo d := by
  cases d <;> rfl
def shareB (lo : Int) (d : D) : Bool := fracB d && decide (lo ≤ fracN d)
theorem lshare_spec {d : D} (lo : Int) (h : itm d = true) : dn__law_is_share [.sh d, .sh (.int lo)] = some (.ret (.sh (.bl (shareB lo d))) [.no, .no]) := by
  cases d with
  | scr ds => cases h
  | obj _ _ _ => cases h
  | exc _ _ _ => cases h
  | tup ds =>
    have ha : ds.all atm = true := h
    match ds, ha with
    | [], _ => simp [dn__law_is_share, shareB, fracB]
    | [_], _ => simp [dn__law_is_share, shareB, fracB]
    | [x, y], ha =>
      simp only [List.all_cons, List.all_nil, Bool.and_true, Bool.and_eq_true] at ha
      have h1 := lwhole_spec lo 10000000000000 (atm_itm ha.1)
      have h2 := lwhole_spec 1 10000000000000 (atm_itm ha.2)
      cases x with
      | int a =>
        have a1 : a ≤ 10000000000000 := by
          have := of_decide_eq_true (show decide (a.natAbs ≤ 10000000000000) = true from ha.1)
          omega
        by_cases hlo : lo ≤ a
        · cases y with
          | int b =>
            have b1 : b ≤ 10000000000000 := by
              have := of_decide_eq_true (show decide (b.natAbs ≤ 10000000000000) = true from ha.2)
              omega
            by_cases hb : 1 ≤ b
            · have hl := low_sm (a := a) (b := b) (n := 50) (by omega) (by show b.natAbs < 1125899906842624; omega)
              have key : ((lowT a b == a) && (lowB a b == b)) = decide (Int.gcd a b = 1) := by
                rw [Bool.eq_iff_iff]
                simp
                exact low_same_iff (by omega)
              have hb2 : 0 < b := by omega
              simp [dn__law_is_share, shareB, fracB, fracN, h1, h2, wholeL, hlo, a1, hb, b1, hl, key, hb2]
            · have hb2 : ¬ 0 < b := by omega
              simp [dn__law_is_share, shareB, fracB, fracN, h1, h2, wholeL, hlo, a1, hb, hb2]
          | _ => simp [dn__law_is_share, shareB, fracB, h1, h2, wholeL, hlo, a1]
        · cases y with
          | int b => simp [dn__law_is_share, shareB, fracB, fracN, h1, wholeL, hlo]
          | _ => simp [dn__law_is_share, shareB, fracB, h1, wholeL, hlo]
      | _ => simp [dn__law_is_share, shareB, fracB, h1, wholeL]
    | _ :: _ :: _ :: l, _ =>
      have : ((l.length : Int) + 1 + 1 + 1 == 2) = false := by
        rw [beq_eq_false_iff_ne]
        omega
      simp [dn__law_is_share, shareB, fracB, this]
  | _ => simp [dn__law_is_share, shareB, fracB]

theorem filter_empty {α : Type} (p : α → Bool) : ∀ l : List α, (l.filter fun c => !p c).isEmpty = l.all p
  | [] => rfl
  | a :: l => by
    cases h : p a <;> simp [h, filter_empty p l]
theorem lname_spec {d : D} (h : itm d = true) : dn__law_is_name [.sh d] = some (.ret (.sh (.bl (nameB d))) [.no]) := by
  cases d with
  | str z =>
    have hz : (decide (z.length ≤ 1000) && z.cps.all (fun c => decide (c < 0x110000))) = true := h
    rw [Bool.and_eq_true] at hz
    have hl : z.length ≤ lim := Nat.le_trans (of_decide_eq_true hz.1) (by decide)
    have e1 : ((z.length : Int) < 1) = (z.length < 1) := by simp; omega
    have e2 : (8 < (z.length : Int)) = (8 < z.length) := by simp; omega
    by_cases h1 : z.length < 1
    · have n1 : (z.length : Int) < 1 := by omega
      have n2 : nameB (.str z) = false := by simp [nameB]; omega
      simp [dn__law_is_name, hl, n1, n2]
    · by_cases h8 : 8 < z.length
      · have n1 : ¬ (z.length : Int) < 1 := by omega
        have n3 : (8 : Int) < z.length := by omega
        have n2 : nameB (.str z) = false := by simp [nameB]; omega
        simp [dn__law_is_name, hl, n1, n3, n2]
      · have key : lcL (gN 1) (tV (eOp (asC (aR 1) (asC (aV (eC (.str "abcdefghijklmnopqrstuvwxyz"))) asN)) oNotIn)) (eVar 1) [1] (signsD z) [] [.sh (.str z), .no] = some ((z.cps.toList.filter fun c => !isLetter c).map (fun c => D.str ⟨#[c]⟩), [.sh (.str z), .no]) :=
          lcL_filt (fun c => D.str ⟨#[c]⟩) (fun c => D.str ⟨#[c]⟩) (fun c => !isLetter c) z.cps.toList [] (fun c _ => by cases hc : isLetter c <;> simp [isLetter] at hc <;> simp [hc, isLetter]) (by simpa [Str.length] using hl)
        have e3 := eq_nil ((z.cps.toList.filter fun c => !isLetter c).map (fun c => D.str ⟨#[c]⟩))
        simp only [dn__law_is_name, mkFn]
        simp at key
        have n1 : ¬ (z.length : Int) < 1 := by omega
        have n3 : ¬ (8 : Int) < z.length := by omega
        have n4 : 1 ≤ z.length := by omega
        have n5 : z.length ≤ 8 := by omega
        simp [-oEqX, hl, n1, n3]
        rw [key]
        simp [-oEqX, e3, nameB, n4, n5]
        rw [filter_empty, Array.all_toList]
  | scr ds => cases h
  | obj _ _ _ => cases h
  | exc _ _ _ => cases h
  | _ => simp [dn__law_is_name, nameB]

theorem cut26 (s n x y lo hi w h : D) : cutD [s, n, x, y, lo, hi, w, h] (some 2) (some 6) = [x, y, lo, hi] := rfl
theorem lpart_pole {s n x y lo hi w h : D} (hs : itm s = true) (hn : itm n = true) (hx : itm x = true) (hy : itm y = true) (hlo : itm lo = true) (hhi : itm hi = true) (hw : itm w = true) (hh : itm h = true) :
    dn__law_is_part [.sh (.tup [s, n, x, y, lo, hi, w, h])] = some (.ret (.sh (.bl (poleB s n x y lo hi w h))) [.no]) := by
  have e1 := ne_str "pole" hs pole_ok
  have e2 := lname_spec hn
  have e3 := lshare_spec 1 hw
  have e4 := lshare_spec 0 hh
  have hwb : weightsB w h = (shareB 1 w && shareB 0 h) := by
    unfold weightsB shareB
    have : decide (0 < fracN w) = decide (1 ≤ fracN w) := by
      rw [Bool.eq_iff_iff]
      simp
      omega
    rw [this]
    cases fracB w <;> cases fracB h <;> cases decide (1 ≤ fracN w) <;> rfl
  have key : lcL (gN 1) (tNot (tV (eCall dn__law_whole (asC (aV (eVar 1)) (asC (aV (eC (.int 0))) (asC (aV (eC (.int 20))) asN)))))) (eVar 1) [1] ([x, y, lo, hi].map id) [] [.sh (.tup [s, n, x, y, lo, hi, w, h]), .no] = some (([x, y, lo, hi].filter fun d => !wholeB 0 d).map id, [.sh (.tup [s, n, x, y, lo, hi, w, h]), .no]) :=
    lcL_filt id id (fun d => !wholeB 0 d) [x, y, lo, hi] [] (fun d hd => by
      have hi : itm d = true := by
        simp only [List.mem_cons, List.not_mem_nil, or_false] at hd
        rcases hd with rfl | rfl | rfl | rfl <;> assumption
      have := lwhole_spec 0 20 hi
      rw [wholeL_20] at this
      cases hb : wholeB 0 d <;> simp [this, hb]) (by simp [lim])
  rw [List.map_id, List.map_id] at key
  simp at key
  cases b2 : nameB n
  · simp only [dn__law_is_part, mkFn]
    simp [e2, b2, poleB, lim]
  · cases b3 : shareB 1 w
    · simp only [dn__law_is_part, mkFn]
      simp [e2, b2, e3, b3, poleB, hwb, lim]
    · cases b4 : shareB 0 h
      · simp only [dn__law_is_part, mkFn]
        simp [e2, b2, e3, b3, e4, b4, poleB, hwb, lim]
      · cases b1 : isB "pole" s
        · simp only [dn__law_is_part, mkFn]
          simp [-oNeX, e1, b1, e2, b2, e3, b3, e4, b4, poleB, hwb, lim]
        · simp only [dn__law_is_part, mkFn]
          simp [-oNeX, e1, b1, e2, b2, e3, b3, e4, b4, poleB, hwb, lim, cut26]
          rw [key]
          simp [-oNeX, ne_nil, filter_empty]
          cases c1 : wholeB 0 x
          · simp [c1]
          · cases c2 : wholeB 0 y
            · simp [c1, c2]
            · cases c3 : wholeB 0 lo
              · simp [c1, c2, c3]
              · cases c4 : wholeB 0 hi
                · simp [c1, c2, c3, c4]
                · obtain ⟨i, rfl, -, -⟩ := wholeB_get c3
                  obtain ⟨j, rfl, -, -⟩ := wholeB_get c4
                  simp [c1, c2, c3, c4, lessB]
/-! boards -/
theorem weights_share (w h : D) : weightsB w h = (shareB 1 w && shareB 0 h) := by
  unfold weightsB shareB
  have : decide (0 < fracN w) = decide (1 ≤ fracN w) := by
    rw [Bool.eq_iff_iff]
    simp
    omega
  rw [this]
  cases fracB w <;> cases fracB h <;> cases decide (1 ≤ fracN w) <;> rfl
theorem y_ok : (Str.ofString "y").cps.all (fun c => decide (c < 0x110000)) = true := cps_ok _
theorem isB_xy {d : D} (h : isB "x" d = true) : isB "y" d = false := by
  cases d <;> first | (cases h; done) | skip
  simp [isB] at h ⊢
  rw [h]
  exact fun e => sn3 e.symm
theorem lpart_board {s n x y way len ht w h : D} (hs : itm s = true) (hn : itm n = true) (hx : itm x = true) (hy : itm y = true) (hwa : itm way = true) (hlen : itm len = true) (hht : itm ht = true) (hw : itm w = true) (hh : itm h = true) :
    dn__law_is_part [.sh (.tup [s, n, x, y, way, len, ht, w, h])] = some (.ret (.sh (.bl (boardB s n x y way len ht w h))) [.no]) := by
  have e1 := ne_str "board" hs board_ok
  have e2 := lname_spec hn
  have e3 := lshare_spec 1 hw
  have e4 := lshare_spec 0 hh
  have hwb := weights_share w h
  have f1 := lwhole_spec 1 20 hlen
  have f2 := lwhole_spec 0 20 hht
  have f3 := lwhole_spec 0 20 hx
  have f4 := lwhole_spec 0 20 hy
  rw [wholeL_20] at f1 f2 f3 f4
  have g1 := eq_str "x" hwa x_ok
  have g2 := eq_str "y" hwa y_ok
  cases b2 : nameB n
  · simp only [dn__law_is_part, mkFn]
    simp [e2, b2, boardB, lim]
  · cases b3 : shareB 1 w
    · simp only [dn__law_is_part, mkFn]
      simp [e2, b2, e3, b3, boardB, hwb, lim]
    · cases b4 : shareB 0 h
      · simp only [dn__law_is_part, mkFn]
        simp [e2, b2, e3, b3, e4, b4, boardB, hwb, lim]
      · cases b1 : isB "board" s
        · simp only [dn__law_is_part, mkFn]
          simp [-oNeX, -oEqX, e1, b1, e2, b2, e3, b3, e4, b4, boardB, hwb, lim, (show oEqX [.int 9, .int 8] = rB false from rfl)]
        · cases c1 : wholeB 1 len
          · simp only [dn__law_is_part, mkFn]
            simp [-oNeX, -oEqX, e1, b1, e2, b2, e3, b3, e4, b4, boardB, hwb, lim, f1, c1, (show oEqX [.int 9, .int 8] = rB false from rfl)]
          · cases c2 : wholeB 0 ht
            · simp only [dn__law_is_part, mkFn]
              simp [-oNeX, -oEqX, e1, b1, e2, b2, e3, b3, e4, b4, boardB, hwb, lim, f1, c1, f2, c2, (show oEqX [.int 9, .int 8] = rB false from rfl)]
            · cases c3 : wholeB 0 x
              · simp only [dn__law_is_part, mkFn]
                simp [-oNeX, -oEqX, e1, b1, e2, b2, e3, b3, e4, b4, boardB, hwb, lim, f1, c1, f2, c2, f3, c3, (show oEqX [.int 9, .int 8] = rB false from rfl)]
              · cases c4 : wholeB 0 y
                · simp only [dn__law_is_part, mkFn]
                  simp [-oNeX, -oEqX, e1, b1, e2, b2, e3, b3, e4, b4, boardB, hwb, lim, f1, c1, f2, c2, f3, c3, f4, c4, (show oEqX [.int 9, .int 8] = rB false from rfl)]
                · obtain ⟨i, rfl, -, -⟩ := wholeB_get c3
                  obtain ⟨j, rfl, -, -⟩ := wholeB_get c4
                  obtain ⟨l, rfl, -, -⟩ := wholeB_get c1
                  have k1 : decide (i + l < 21) = decide (i + l ≤ 20) := by rw [Bool.eq_iff_iff]; simp; omega
                  have k2 : decide (j + l < 21) = decide (j + l ≤ 20) := by rw [Bool.eq_iff_iff]; simp; omega
                  cases d1 : isB "x" way
                  · cases d2 : isB "y" way
                    · simp only [dn__law_is_part, mkFn]
                      simp [-oNeX, -oEqX, e1, b1, e2, b2, e3, b3, e4, b4, boardB, hwb, lim, f1, c1, f2, c2, f3, c3, f4, c4, (show oEqX [.int 9, .int 8] = rB false from rfl), g1, d1, g2, d2, wayB]
                    · simp only [dn__law_is_part, mkFn]
                      simp [-oNeX, -oEqX, e1, b1, e2, b2, e3, b3, e4, b4, boardB, hwb, lim, f1, c1, f2, c2, f3, c3, f4, c4, (show oEqX [.int 9, .int 8] = rB false from rfl), g1, d1, g2, d2, wayB, endB, k1, k2]
                  · have d2 := isB_xy d1
                    simp only [dn__law_is_part, mkFn]
                    cases z : decide (i + l ≤ 20)
                    · simp [-oNeX, -oEqX, e1, b1, e2, b2, e3, b3, e4, b4, boardB, hwb, lim, f1, c1, f2, c2, f3, c3, f4, c4, (show oEqX [.int 9, .int 8] = rB false from rfl), g1, d1, g2, d2, wayB, endB, k1, k2, z]
                    · simp [-oNeX, -oEqX, e1, b1, e2, b2, e3, b3, e4, b4, boardB, hwb, lim, f1, c1, f2, c2, f3, c3, f4, c4, (show oEqX [.int 9, .int 8] = rB false from rfl), g1, d1, g2, d2, wayB, endB, k1, k2, z]
theorem lpart_tup {ds : List D} (h : ds.all itm = true) : dn__law_is_part [.sh (.tup ds)] = some (.ret (.sh (.bl (partB ds))) [.no]) := by
  by_cases h8 : ds.length = 8
  · match ds, h8 with
    | [s, n, x, y, lo, hi, w, hh], _ =>
      simp only [List.all_cons, List.all_nil, Bool.and_true, Bool.and_eq_true] at h
      obtain ⟨q1, q2, q3, q4, q5, q6, q7, q8⟩ := h
      exact lpart_pole q1 q2 q3 q4 q5 q6 q7 q8
  · by_cases h9 : ds.length = 9
    · match ds, h9 with
      | [s, n, x, y, way, len, ht, w, hh], _ =>
        simp only [List.all_cons, List.all_nil, Bool.and_true, Bool.and_eq_true] at h
        obtain ⟨q1, q2, q3, q4, q5, q6, q7, q8, q9⟩ := h
        exact lpart_board q1 q2 q3 q4 q5 q6 q7 q8 q9
    · have e8 : (8 == (ds.length : Int)) = false := by
        rw [beq_eq_false_iff_ne]
        omega
      have e9 : (9 == (ds.length : Int)) = false := by
        rw [beq_eq_false_iff_ne]
        omega
      have n8 : ¬ (8 = (ds.length : Int)) := by omega
      have n9 : ¬ (9 = (ds.length : Int)) := by omega
      have : partB ds = false := by
        unfold partB
        split
        · exact absurd rfl h8
        · exact absurd rfl h9
        · rfl
      simp [dn__law_is_part, n8, n9, this, lim]
theorem lpart_other {d : D} (h : (∀ ds, d ≠ .tup ds) ∧ ∃ b, Ty.tuple.has d = some b) : dn__law_is_part [.sh d] = some (.ret (.sh (.bl false)) [.no]) := by
  obtain ⟨h1, b, h2⟩ := h
  cases d with
  | tup ds => exact absurd rfl (h1 ds)
  | scr ds => cases h2
  | obj _ _ _ => cases h2
  | exc _ _ _ => cases h2
  | _ => simp [dn__law_is_part]
/-! the law -/
noncomputable def lawB : S := (sSeq (sAsg (eCall Sc.dn__law_pot (asC (aV (eVar 1)) asN)) (gN 2))
    (sSeq (sAsg (eCall dn__law_spoiled (asC (aR 2) (asC (aV (eCall dn__law_part (asC (aR 2) asN))) asN))) (gN 3))
    (sSeq (sAsg (eCall Sc.dn_is_part (asC (aV (eVar 3)) asN)) (gN 4))
    (sSeq (sIf (tOr (tNot (tV (eOp (asC (aR 4) asN) (oIsi .bool)))) (tV (eOp (asC (aR 4) (asC (aV (eCall dn__law_is_part (asC (aV (eVar 3)) asN))) asN)) oNeX)))
    (sRet (eC (.bl false)))
    sPass)
    (sIf (tV (eVar 4))
    (sSeq (sIf (tOr (tV (eOp (asC (aV (eCall Sc.dn_bottom_of (asC (aV (eVar 3)) asN))) (asC (aV (eCall Sc.dn__law_bottom (asC (aV (eVar 3)) asN))) asN)) oNeX)) (tV (eOp (asC (aV (eCall Sc.dn_top_of (asC (aV (eVar 3)) asN))) (asC (aV (eCall Sc.dn__law_top (asC (aV (eVar 3)) asN))) asN)) oNeX)))
    (sRet (eC (.bl false)))
    sPass)
    (sSeq (sAsg (eCall Sc.dn_places_of (asC (aV (eVar 3)) asN)) (gN 5))
    (sSeq (sIf (tOr (tV (eOp (asC (aR 5) (asC (aV (eCall Sc.dn__law_places (asC (aV (eVar 3)) asN))) asN)) oNeX)) (tNot (tV (eOp (asC (aR 5) asN) (oIsi .list)))))
    (sRet (eC (.bl false)))
    sPass)
    (sSeq (sAppend 5 (eTup (asC (aV (eC (.int 0))) (asC (aV (eC (.int 0))) asN))))
    (sIf (tV (eOp (asC (aV (eCall Sc.dn_places_of (asC (aV (eVar 3)) asN))) (asC (aV (eCall Sc.dn__law_places (asC (aV (eVar 3)) asN))) asN)) oNeX))
    (sRet (eC (.bl false)))
    sPass)))))
    sPass)))))
theorem law_eq : dn_law = mkFn 6 [false]
  (sSeq (sForI (wSeq (eSl (aR 0) oaN (oaS (aV (eC (.int 16)))) oSlice)) (gN 1)
    lawB)
    (sRet (eAnd (eOp (asC (aV (eCall Sc.dn_is_part (asC (aV (eTup asN)) asN))) (asC (aV (eC (.bl false))) asN)) oIs) (eOp (asC (aV (eCall Sc.dn_is_part (asC (aV (eTup (asC (aV (eC (.str "pole"))) (asC (aV (eC (.str "a"))) (asC (aV (eC (.int 0))) (asC (aV (eC (.int 0))) (asC (aV (eC (.int 0))) (asC (aV (eC (.int 20))) (asC (aV (eTup (asC (aV (eC (.int 1))) (asC (aV (eC (.int 1))) asN)))) (asC (aV (eTup (asC (aV (eC (.int 0))) (asC (aV (eC (.int 1))) asN)))) asN)))))))))) asN))) (asC (aV (eC (.bl true))) asN)) oIs)))) := rfl

theorem pl_ok (L : List Nat) (f g : Nat → Int) : eqOk (.lst (L.map fun k => pl (f k) (g k))) = true := eqOk_lst (fun d hd => by
  obtain ⟨k, _, rfl⟩ := List.mem_map.mp hd
  simp [pl]) fun d hd => by
  obtain ⟨k, _, rfl⟩ := List.mem_map.mp hd
  simp [pl]
theorem place_both {ds : List D} (h : partB ds = true) : ∃ bo to L, dn_bottom_of [.sh (.tup ds)] = some (.ret (.sh (.int bo)) [.no]) ∧ dn__law_bottom [.sh (.tup ds)] = some (.ret (.sh (.int bo)) [.no]) ∧ dn_top_of [.sh (.tup ds)] = some (.ret (.sh (.int to)) [.no]) ∧ dn__law_top [.sh (.tup ds)] = some (.ret (.sh (.int to)) [.no]) ∧
    dn_places_of [.sh (.tup ds)] = some (.ret (.ow (.lst L)) [.no]) ∧ dn__law_places [.sh (.tup ds)] = some (.ret (.ow (.lst L)) [.no]) ∧ eqOk (.lst L) = true ∧ L.length < lim := by
  rcases partB_shape h with ⟨n, x, y, lo, hi, w, hh, e, -⟩ | ⟨n, x, y, way, len, ht, w, hh, e, hway, h1, h2, -⟩
  · rw [e]
    exact ⟨lo, hi, [pl x y], bottom_pole, lawbottom_pole, top_pole, lawtop_pole, places_pole, lawplaces_pole, by simp [pl], by simp [lim]⟩
  · rw [e]
    rcases hway with rfl | rfl
    · exact ⟨ht, ht + 1, _, bottom_board, lawbottom_board, top_board, lawtop_board, places_x (by omega) h2, lawplaces_x (by omega) h2, pl_ok _ _ _, by simp [lim]; omega⟩
    · exact ⟨ht, ht + 1, _, bottom_board, lawbottom_board, top_board, lawtop_board, places_y (by omega) h2, lawplaces_y (by omega) h2, pl_ok _ _ _, by simp [lim]; omega⟩
theorem ne_int (i : Int) : oNeX [.int i, .int i] = rB false := by simp
theorem ne_bl (b : Bool) : oNeX [.bl b, .bl b] = rB false := by simp
theorem lawB_spec (n : Int) (s0 s2 s3 s4 s5 : Sl) : ∃ r1 r2 r3 r4 r5, lawB [s0, .sh (.int n), s2, s3, s4, s5] = some (.nx [s0, r1, r2, r3, r4, r5]) := by
  obtain ⟨a0, b0, k0, e0⟩ := pot_spec n
  obtain ⟨ds, a1, b1, k1, i1, l1, e1⟩ := part_spec a0 b0 k0
  obtain ⟨th, a2, b2, k2, c2, e2⟩ := spoiled_spec a1 b1 k1 ds i1 l1
  rcases c2 with ⟨es, rfl, hi⟩ | hother
  · have f1 := is_part_tup hi
    have f2 := lpart_tup hi
    cases hp : partB es
    · simp [-oNeX, lawB, e0, e1, e2, f1, f2, hp, ne_bl]
    · obtain ⟨bo, to, L, g1, g2, g3, g4, g5, g6, g7, g8⟩ := place_both hp
      have g9 := ne_self g7
      simp [-oNeX, lawB, e0, e1, e2, f1, f2, hp, ne_bl, g1, g2, g3, g4, ne_int, g5, g6, g9, g8, l2]
  · have f1 := is_part_other hother
    have f2 := lpart_other hother
    simp [-oNeX, lawB, e0, e1, e2, f1, f2, ne_bl]
theorem law_true (ns : List Int) (h : ns.length ≤ 63) : ∃ ps, dn_law [.sh (.scr (ns.map .int))] = some (.ret (.sh (.bl true)) ps) := by
  obtain ⟨r', e, x1, x2, x3, x4, x5, rfl⟩ := forL_inv (fun r => ∃ s1 s2 s3 s4 s5 : Sl, r = [Sl.sh (.scr (ns.map .int)), s1, s2, s3, s4, s5]) (gN 1) lawB (cutD (ns.map .int) none (some 16)) [Sl.sh (.scr (ns.map .int)), .no, .no, .no, .no, .no] (by
    rintro d hd r ⟨s1, s2, s3, s4, s5, rfl⟩
    obtain ⟨n, -, rfl⟩ := List.mem_map.mp (cutD_mem hd)
    obtain ⟨r1, r2, r3, r4, r5, e⟩ := lawB_spec n (Sl.sh (.scr (ns.map .int))) s2 s3 s4 s5
    exact ⟨_, _, by simp, e, _, _, _, _, _, rfl⟩) ⟨_, _, _, _, _, rfl⟩
  have p1 := is_part_tup (ds := []) rfl
  have p2 := is_part_tup (ds := [.str "pole", .str "a", .int 0, .int 0, .int 0, .int 20, dF 1 1, dF 0 1]) (by simp [itm_lit "pole" (by decide +kernel), itm_lit "a" (by decide +kernel), itm_int, itm_frac])
  have q2 : partB [.str "pole", .str "a", .int 0, .int 0, .int 0, .int 20, dF 1 1, dF 0 1] = true := by
    have e1 : nameB (.str "a") = true := by decide +kernel
    simp [partB, poleB, isB, e1, weightsB, fracB, fracN, wholeB, lessB]
  rw [q2] at p2
  rw [law_eq]
  simp [e, p1, p2, lim, partB]
end L_k12

set_option Elab.async false
set_option linter.all false
set_option maxRecDepth 100000
set_option maxHeartbeats 0
namespace L_k12
open PySem PySem.Spec PyProof.Rows L2 Py
def df (n : Str) (i : Nat) : He.DefD := ⟨(n, none), n, n, defArgs (top i), defBody (top i), defScope (top i), [], []⟩
def fn : List He.DefD := ([df "is_whole" 2, df "common_part" 3, df "is_fraction" 4, df "is_less" 5, df "is_name" 13, df "is_within" 14, df "are_weights" 15, df "is_pole" 16, df "ends_within" 17, df "is_plank" 18, df "is_part" 19, df "is_board" 20, df "bottom_of" 21, df "top_of" 22, df "places_of" 23, df "_law_cell" 25, df "_law_pot" 26, df "_law_draw" 27, df "_law_low" 28, df "_law_sum" 29] : List He.DefD) ++ ([df "_law_product" 30, df "_law_bottom" 31, df "_law_top" 32, df "_law_places" 33, df "_law_clash" 34, df "_law_word" 35, df "_law_share" 36, df "_law_part" 37, df "_law_spoiled" 38, df "_law_whole" 39, df "_law_is_share" 40, df "_law_is_name" 41, df "_law_is_part" 42, df "law" 43] : List He.DefD)
def fs : List FactK := ([fun K => (He.Fa.glo "is_whole").ok K,
  fun K => (He.Fa.glo "common_part").ok K,
  fun K => (He.Fa.glo "is_fraction").ok K,
  fun K => (He.Fa.glo "is_less").ok K,
  fun K => (He.Fa.glo "is_name").ok K,
  fun K => (He.Fa.glo "is_within").ok K,
  fun K => (He.Fa.glo "are_weights").ok K,
  fun K => (He.Fa.glo "is_pole").ok K,
  fun K => (He.Fa.glo "ends_within").ok K,
  fun K => (He.Fa.glo "is_plank").ok K,
  fun K => (He.Fa.glo "is_part").ok K,
  fun K => (He.Fa.glo "is_board").ok K,
  fun K => (He.Fa.glo "bottom_of").ok K,
  fun K => (He.Fa.glo "top_of").ok K,
  fun K => (He.Fa.glo "places_of").ok K,
  fun K => (He.Fa.glo "_law_cell").ok K,
  fun K => (He.Fa.glo "_law_pot").ok K,
  fun K => (He.Fa.glo "_law_draw").ok K,
  fun K => (He.Fa.glo "_law_low").ok K,
  fun K => (He.Fa.glo "_law_sum").ok K] : List FactK) ++ ([fun K => (He.Fa.glo "_law_product").ok K,
  fun K => (He.Fa.glo "_law_bottom").ok K,
  fun K => (He.Fa.glo "_law_top").ok K,
  fun K => (He.Fa.glo "_law_places").ok K,
  fun K => (He.Fa.glo "_law_clash").ok K,
  fun K => (He.Fa.glo "_law_word").ok K,
  fun K => (He.Fa.glo "_law_share").ok K,
  fun K => (He.Fa.glo "_law_part").ok K,
  fun K => (He.Fa.glo "_law_spoiled").ok K,
  fun K => (He.Fa.glo "_law_whole").ok K,
  fun K => (He.Fa.glo "_law_is_share").ok K,
  fun K => (He.Fa.glo "_law_is_name").ok K,
  fun K => (He.Fa.glo "_law_is_part").ok K,
  fun K => (He.Fa.glo "law").ok K,
  fun K => (He.Fa.free "abs").ok K,
  fun K => (He.Fa.free "all").ok K,
  fun K => (He.Fa.free "bool").ok K,
  fun K => (He.Fa.free "divmod").ok K,
  fun K => (He.Fa.free "int").ok K,
  fun K => (He.Fa.free "isinstance").ok K] : List FactK) ++ ([fun K => (He.Fa.free "len").ok K,
  fun K => (He.Fa.free "list").ok K,
  fun K => (He.Fa.free "max").ok K,
  fun K => (He.Fa.free "range").ok K,
  fun K => (He.Fa.free "str").ok K,
  fun K => (He.Fa.free "tuple").ok K,
  fun K => conK "BOARD" (.str "board") K,
  fun K => conK "LETTERS" (.str "abcdefghijklmnopqrstuvwxyz") K,
  fun K => conK "MOST" (.int 20) K,
  fun K => conK "MOST_LETTERS" (.int 8) K,
  fun K => conK "NOUGHT" (.tup [(.int 0), (.int 1)]) K,
  fun K => conK "POLE" (.str "pole") K,
  fun K => conK "WAYS" (.tup [(.str "x"), (.str "y")]) K] : List FactK)
abbrev Rw : PySem.W.OpenRow := PySem.W.OpenLaw.row PySem.Challenge.rw_scaffold_k12_parts_judged
abbrev hk : PySem.W.Hook := hookX 5 fs fn
def ob (s : PySem.W.SharedT) : He.AlD := obsXG 5 fs fn (HandSHeadRun.getT s)
theorem ob_eq (s : PySem.W.SharedT) : ob s = hk.obs s.abs := obsXG_eq (HandSHeadRun.getT_eq s)
def loose : List PySem.Str := (["NOUGHT", "is_whole", "common_part", "is_fraction", "is_less", "POLE", "BOARD", "WAYS", "LETTERS", "MOST_LETTERS", "MOST", "is_name", "is_within", "are_weights", "is_pole", "ends_within", "is_plank", "is_part", "is_board", "bottom_of"] : List PySem.Str) ++ (["top_of", "places_of", "_law_cell", "_law_pot", "_law_draw", "_law_low", "_law_sum", "_law_product", "_law_bottom", "_law_top", "_law_places", "_law_clash", "_law_word", "_law_share", "_law_part", "_law_spoiled", "_law_whole", "_law_is_share", "_law_is_name", "_law_is_part"] : List PySem.Str)
theorem run (w : World) : HandSHeadRun.RunEq Rw (PySem.W.view Rw.prog [43]) hk ob 40000 loose w := by
  intro os
  kernel_rfl
/-- the classes that may be raised -/
def clK (K : PySem.W.Frag) : Str → Option Addr := fun x =>  none
section
variable {P : Program} {w : World} {K : PySem.W.Frag} {h : Heap} {mg : Str → Option Value}
theorem tx (X : K.In h) (G : h.Ns mainGlobals mg) (c : SaysX fs fn K) : Tx K mg (clK K) where
  n_abs := He.free_ok X G (c.fact 34 rfl)
  n_all := He.free_ok X G (c.fact 35 rfl)
  n_bool := He.free_ok X G (c.fact 36 rfl)
  n_divmod := He.free_ok X G (c.fact 37 rfl)
  n_int := He.free_ok X G (c.fact 38 rfl)
  n_isinstance := He.free_ok X G (c.fact 39 rfl)
  n_len := He.free_ok X G (c.fact 40 rfl)
  n_list := He.free_ok X G (c.fact 41 rfl)
  n_max := He.free_ok X G (c.fact 42 rfl)
  n_range := He.free_ok X G (c.fact 43 rfl)
  n_str := He.free_ok X G (c.fact 44 rfl)
  n_tuple := He.free_ok X G (c.fact 45 rfl)
  k_BOARD := con_ok X G (c.fact 46 rfl)
  k_LETTERS := con_ok X G (c.fact 47 rfl)
  k_MOST := con_ok X G (c.fact 48 rfl)
  k_MOST_LETTERS := con_ok X G (c.fact 49 rfl)
  k_NOUGHT := con_ok X G (c.fact 50 rfl)
  k_POLE := con_ok X G (c.fact 51 rfl)
  k_WAYS := con_ok X G (c.fact 52 rfl)
theorem facts {fa : Addr} (X : K.In h) (G : h.Ns mainGlobals mg) (hfa : mg ("law" : Str) = some (.ref fa)) (c : SaysX fs fn K) :
    ∃ fd : FuncData, (∀ (s : Shared) (v : Value), BindsTo s fd ⟨[v], []⟩ [("_law_script", v)]) ∧ ∀ base : Heap, K.In base → base.Ns mainGlobals mg → FnOk P w K mg base (L2.CX P w) 6 fa fd ["_law_script"] (spF ⟨K, clK K⟩ 1 dn_law) := by
  have T := tx X G c
  obtain ⟨fd_is_whole, D_is_whole⟩ := c.def_ 0 (d := df "is_whole" 2) rfl
  have F_is_whole := fun_of_D (st := top 2) D_is_whole
  have g_is_whole := He.glo_ok X G (c.fact 0 rfl)
  have b_is_whole := F_is_whole.binds (ps := ["thing"]) fun _ _ _ _ _ _ us hl => match us, hl with | [_], _ => rfl
  obtain ⟨fd_common_part, D_common_part⟩ := c.def_ 1 (d := df "common_part" 3) rfl
  have F_common_part := fun_of_D (st := top 3) D_common_part
  have g_common_part := He.glo_ok X G (c.fact 1 rfl)
  have b_common_part := F_common_part.binds (ps := ["one", "other"]) fun _ _ _ _ _ _ us hl => match us, hl with | [_, _], _ => rfl
  obtain ⟨fd_is_fraction, D_is_fraction⟩ := c.def_ 2 (d := df "is_fraction" 4) rfl
  have F_is_fraction := fun_of_D (st := top 4) D_is_fraction
  have g_is_fraction := He.glo_ok X G (c.fact 2 rfl)
  have b_is_fraction := F_is_fraction.binds (ps := ["thing"]) fun _ _ _ _ _ _ us hl => match us, hl with | [_], _ => rfl
  obtain ⟨fd_is_less, D_is_less⟩ := c.def_ 3 (d := df "is_less" 5) rfl
  have F_is_less := fun_of_D (st := top 5) D_is_less
  have g_is_less := He.glo_ok X G (c.fact 3 rfl)
  have b_is_less := F_is_less.binds (ps := ["one", "other"]) fun _ _ _ _ _ _ us hl => match us, hl with | [_, _], _ => rfl
  obtain ⟨fd_is_name, D_is_name⟩ := c.def_ 4 (d := df "is_name" 13) rfl
  have F_is_name := fun_of_D (st := top 13) D_is_name
  have g_is_name := He.glo_ok X G (c.fact 4 rfl)
  have b_is_name := F_is_name.binds (ps := ["thing"]) fun _ _ _ _ _ _ us hl => match us, hl with | [_], _ => rfl
  obtain ⟨fd_is_within, D_is_within⟩ := c.def_ 5 (d := df "is_within" 14) rfl
  have F_is_within := fun_of_D (st := top 14) D_is_within
  have g_is_within := He.glo_ok X G (c.fact 5 rfl)
  have b_is_within := F_is_within.binds (ps := ["thing", "least"]) fun _ _ _ _ _ _ us hl => match us, hl with | [_, _], _ => rfl
  obtain ⟨fd_are_weights, D_are_weights⟩ := c.def_ 6 (d := df "are_weights" 15) rfl
  have F_are_weights := fun_of_D (st := top 15) D_are_weights
  have g_are_weights := He.glo_ok X G (c.fact 6 rfl)
  have b_are_weights := F_are_weights.binds (ps := ["weight", "hold"]) fun _ _ _ _ _ _ us hl => match us, hl with | [_, _], _ => rfl
  obtain ⟨fd_is_pole, D_is_pole⟩ := c.def_ 7 (d := df "is_pole" 16) rfl
  have F_is_pole := fun_of_D (st := top 16) D_is_pole
  have g_is_pole := He.glo_ok X G (c.fact 7 rfl)
  have b_is_pole := F_is_pole.binds (ps := ["thing"]) fun _ _ _ _ _ _ us hl => match us, hl with | [_], _ => rfl
  obtain ⟨fd_ends_within, D_ends_within⟩ := c.def_ 8 (d := df "ends_within" 17) rfl
  have F_ends_within := fun_of_D (st := top 17) D_ends_within
  have g_ends_within := He.glo_ok X G (c.fact 8 rfl)
  have b_ends_within := F_ends_within.binds (ps := ["x", "y", "way", "length"]) fun _ _ _ _ _ _ us hl => match us, hl with | [_, _, _, _], _ => rfl
  obtain ⟨fd_is_plank, D_is_plank⟩ := c.def_ 9 (d := df "is_plank" 18) rfl
  have F_is_plank := fun_of_D (st := top 18) D_is_plank
  have g_is_plank := He.glo_ok X G (c.fact 9 rfl)
  have b_is_plank := F_is_plank.binds (ps := ["thing"]) fun _ _ _ _ _ _ us hl => match us, hl with | [_], _ => rfl
  obtain ⟨fd_is_part, D_is_part⟩ := c.def_ 10 (d := df "is_part" 19) rfl
  have F_is_part := fun_of_D (st := top 19) D_is_part
  have g_is_part := He.glo_ok X G (c.fact 10 rfl)
  have b_is_part := F_is_part.binds (ps := ["thing"]) fun _ _ _ _ _ _ us hl => match us, hl with | [_], _ => rfl
  obtain ⟨fd_is_board, D_is_board⟩ := c.def_ 11 (d := df "is_board" 20) rfl
  have F_is_board := fun_of_D (st := top 20) D_is_board
  have g_is_board := He.glo_ok X G (c.fact 11 rfl)
  have b_is_board := F_is_board.binds (ps := ["part"]) fun _ _ _ _ _ _ us hl => match us, hl with | [_], _ => rfl
  obtain ⟨fd_bottom_of, D_bottom_of⟩ := c.def_ 12 (d := df "bottom_of" 21) rfl
  have F_bottom_of := fun_of_D (st := top 21) D_bottom_of
  have g_bottom_of := He.glo_ok X G (c.fact 12 rfl)
  have b_bottom_of := F_bottom_of.binds (ps := ["part"]) fun _ _ _ _ _ _ us hl => match us, hl with | [_], _ => rfl
  obtain ⟨fd_top_of, D_top_of⟩ := c.def_ 13 (d := df "top_of" 22) rfl
  have F_top_of := fun_of_D (st := top 22) D_top_of
  have g_top_of := He.glo_ok X G (c.fact 13 rfl)
  have b_top_of := F_top_of.binds (ps := ["part"]) fun _ _ _ _ _ _ us hl => match us, hl with | [_], _ => rfl
  obtain ⟨fd_places_of, D_places_of⟩ := c.def_ 14 (d := df "places_of" 23) rfl
  have F_places_of := fun_of_D (st := top 23) D_places_of
  have g_places_of := He.glo_ok X G (c.fact 14 rfl)
  have b_places_of := F_places_of.binds (ps := ["part"]) fun _ _ _ _ _ _ us hl => match us, hl with | [_], _ => rfl
  obtain ⟨fd__law_cell, D__law_cell⟩ := c.def_ 15 (d := df "_law_cell" 25) rfl
  have F__law_cell := fun_of_D (st := top 25) D__law_cell
  have g__law_cell := He.glo_ok X G (c.fact 15 rfl)
  have b__law_cell := F__law_cell.binds (ps := ["_law_script", "_law_k"]) fun _ _ _ _ _ _ us hl => match us, hl with | [_, _], _ => rfl
  obtain ⟨fd__law_pot, D__law_pot⟩ := c.def_ 16 (d := df "_law_pot" 26) rfl
  have F__law_pot := fun_of_D (st := top 26) D__law_pot
  have g__law_pot := He.glo_ok X G (c.fact 16 rfl)
  have b__law_pot := F__law_pot.binds (ps := ["_law_cell_here"]) fun _ _ _ _ _ _ us hl => match us, hl with | [_], _ => rfl
  obtain ⟨fd__law_draw, D__law_draw⟩ := c.def_ 17 (d := df "_law_draw" 27) rfl
  have F__law_draw := fun_of_D (st := top 27) D__law_draw
  have g__law_draw := He.glo_ok X G (c.fact 17 rfl)
  have b__law_draw := F__law_draw.binds (ps := ["_law_pot_here", "_law_many"]) fun _ _ _ _ _ _ us hl => match us, hl with | [_, _], _ => rfl
  obtain ⟨fd__law_low, D__law_low⟩ := c.def_ 18 (d := df "_law_low" 28) rfl
  have F__law_low := fun_of_D (st := top 28) D__law_low
  have g__law_low := He.glo_ok X G (c.fact 18 rfl)
  have b__law_low := F__law_low.binds (ps := ["_law_top_here", "_law_bottom_here"]) fun _ _ _ _ _ _ us hl => match us, hl with | [_, _], _ => rfl
  obtain ⟨fd__law_sum, D__law_sum⟩ := c.def_ 19 (d := df "_law_sum" 29) rfl
  have F__law_sum := fun_of_D (st := top 29) D__law_sum
  have g__law_sum := He.glo_ok X G (c.fact 19 rfl)
  have b__law_sum := F__law_sum.binds (ps := ["_law_one", "_law_other"]) fun _ _ _ _ _ _ us hl => match us, hl with | [_, _], _ => rfl
  obtain ⟨fd__law_product, D__law_product⟩ := c.def_ 20 (d := df "_law_product" 30) rfl
  have F__law_product := fun_of_D (st := top 30) D__law_product
  have g__law_product := He.glo_ok X G (c.fact 20 rfl)
  have b__law_product := F__law_product.binds (ps := ["_law_one", "_law_other"]) fun _ _ _ _ _ _ us hl => match us, hl with | [_, _], _ => rfl
  obtain ⟨fd__law_bottom, D__law_bottom⟩ := c.def_ 21 (d := df "_law_bottom" 31) rfl
  have F__law_bottom := fun_of_D (st := top 31) D__law_bottom
  have g__law_bottom := He.glo_ok X G (c.fact 21 rfl)
  have b__law_bottom := F__law_bottom.binds (ps := ["_law_part_here"]) fun _ _ _ _ _ _ us hl => match us, hl with | [_], _ => rfl
  obtain ⟨fd__law_top, D__law_top⟩ := c.def_ 22 (d := df "_law_top" 32) rfl
  have F__law_top := fun_of_D (st := top 32) D__law_top
  have g__law_top := He.glo_ok X G (c.fact 22 rfl)
  have b__law_top := F__law_top.binds (ps := ["_law_part_here"]) fun _ _ _ _ _ _ us hl => match us, hl with | [_], _ => rfl
  obtain ⟨fd__law_places, D__law_places⟩ := c.def_ 23 (d := df "_law_places" 33) rfl
  have F__law_places := fun_of_D (st := top 33) D__law_places
  have g__law_places := He.glo_ok X G (c.fact 23 rfl)
  have b__law_places := F__law_places.binds (ps := ["_law_part_here"]) fun _ _ _ _ _ _ us hl => match us, hl with | [_], _ => rfl
  obtain ⟨fd__law_clash, D__law_clash⟩ := c.def_ 24 (d := df "_law_clash" 34) rfl
  have F__law_clash := fun_of_D (st := top 34) D__law_clash
  have g__law_clash := He.glo_ok X G (c.fact 24 rfl)
  have b__law_clash := F__law_clash.binds (ps := ["_law_one", "_law_other"]) fun _ _ _ _ _ _ us hl => match us, hl with | [_, _], _ => rfl
  obtain ⟨fd__law_word, D__law_word⟩ := c.def_ 25 (d := df "_law_word" 35) rfl
  have F__law_word := fun_of_D (st := top 35) D__law_word
  have g__law_word := He.glo_ok X G (c.fact 25 rfl)
  have b__law_word := F__law_word.binds (ps := ["_law_pot_here"]) fun _ _ _ _ _ _ us hl => match us, hl with | [_], _ => rfl
  obtain ⟨fd__law_share, D__law_share⟩ := c.def_ 26 (d := df "_law_share" 36) rfl
  have F__law_share := fun_of_D (st := top 36) D__law_share
  have g__law_share := He.glo_ok X G (c.fact 26 rfl)
  have b__law_share := F__law_share.binds (ps := ["_law_pot_here", "_law_least"]) fun _ _ _ _ _ _ us hl => match us, hl with | [_, _], _ => rfl
  obtain ⟨fd__law_part, D__law_part⟩ := c.def_ 27 (d := df "_law_part" 37) rfl
  have F__law_part := fun_of_D (st := top 37) D__law_part
  have g__law_part := He.glo_ok X G (c.fact 27 rfl)
  have b__law_part := F__law_part.binds (ps := ["_law_pot_here"]) fun _ _ _ _ _ _ us hl => match us, hl with | [_], _ => rfl
  obtain ⟨fd__law_spoiled, D__law_spoiled⟩ := c.def_ 28 (d := df "_law_spoiled" 38) rfl
  have F__law_spoiled := fun_of_D (st := top 38) D__law_spoiled
  have g__law_spoiled := He.glo_ok X G (c.fact 28 rfl)
  have b__law_spoiled := F__law_spoiled.binds (ps := ["_law_pot_here", "_law_part_here"]) fun _ _ _ _ _ _ us hl => match us, hl with | [_, _], _ => rfl
  obtain ⟨fd__law_whole, D__law_whole⟩ := c.def_ 29 (d := df "_law_whole" 39) rfl
  have F__law_whole := fun_of_D (st := top 39) D__law_whole
  have g__law_whole := He.glo_ok X G (c.fact 29 rfl)
  have b__law_whole := F__law_whole.binds (ps := ["_law_thing", "_law_least", "_law_most"]) fun _ _ _ _ _ _ us hl => match us, hl with | [_, _, _], _ => rfl
  obtain ⟨fd__law_is_share, D__law_is_share⟩ := c.def_ 30 (d := df "_law_is_share" 40) rfl
  have F__law_is_share := fun_of_D (st := top 40) D__law_is_share
  have g__law_is_share := He.glo_ok X G (c.fact 30 rfl)
  have b__law_is_share := F__law_is_share.binds (ps := ["_law_thing", "_law_least"]) fun _ _ _ _ _ _ us hl => match us, hl with | [_, _], _ => rfl
  obtain ⟨fd__law_is_name, D__law_is_name⟩ := c.def_ 31 (d := df "_law_is_name" 41) rfl
  have F__law_is_name := fun_of_D (st := top 41) D__law_is_name
  have g__law_is_name := He.glo_ok X G (c.fact 31 rfl)
  have b__law_is_name := F__law_is_name.binds (ps := ["_law_thing"]) fun _ _ _ _ _ _ us hl => match us, hl with | [_], _ => rfl
  obtain ⟨fd__law_is_part, D__law_is_part⟩ := c.def_ 32 (d := df "_law_is_part" 42) rfl
  have F__law_is_part := fun_of_D (st := top 42) D__law_is_part
  have g__law_is_part := He.glo_ok X G (c.fact 32 rfl)
  have b__law_is_part := F__law_is_part.binds (ps := ["_law_thing"]) fun _ _ _ _ _ _ us hl => match us, hl with | [_], _ => rfl
  obtain ⟨fd_law, D_law⟩ := c.def_ 33 (d := df "law" 43) rfl
  have F_law := fun_of_D (st := top 43) D_law
  have g_law := He.glo_ok X G (c.fact 33 rfl)
  have b_law := F_law.binds (ps := ["_law_script"]) fun _ _ _ _ _ _ us hl => match us, hl with | [_], _ => rfl
  have e := hfa.symm.trans g_law
  cases e
  refine ⟨fd_law, fun s v => bind1 F_law (fun _ _ _ _ _ _ us hl => match us, hl with | [_], _ => rfl) s v, fun base _ _ => ?_⟩
  have G_is_whole : Means P w K mg base (clK K) 1 "is_whole" ["thing"] Sc.dn_is_whole := ok_is_whole T F_is_whole g_is_whole b_is_whole  
  have G_common_part : Means P w K mg base (clK K) 1 "common_part" ["one", "other"] Sc.dn_common_part := ok_common_part T F_common_part g_common_part b_common_part  
  have G_is_fraction : Means P w K mg base (clK K) 2 "is_fraction" ["thing"] Sc.dn_is_fraction := ok_is_fraction T F_is_fraction g_is_fraction b_is_fraction G_is_whole G_common_part 
  have G_is_less : Means P w K mg base (clK K) 1 "is_less" ["one", "other"] Sc.dn_is_less := ok_is_less T F_is_less g_is_less b_is_less  
  have G_is_name : Means P w K mg base (clK K) 1 "is_name" ["thing"] Sc.dn_is_name := ok_is_name T F_is_name g_is_name b_is_name  
  have G_is_within : Means P w K mg base (clK K) 2 "is_within" ["thing", "least"] Sc.dn_is_within := ok_is_within T F_is_within g_is_within b_is_within G_is_whole 
  have G_are_weights : Means P w K mg base (clK K) 3 "are_weights" ["weight", "hold"] Sc.dn_are_weights := ok_are_weights T F_are_weights g_are_weights b_are_weights G_is_fraction G_is_less 
  have G_is_pole : Means P w K mg base (clK K) 4 "is_pole" ["thing"] Sc.dn_is_pole := ok_is_pole T F_is_pole g_is_pole b_is_pole G_is_name G_are_weights G_is_within 
  have G_ends_within : Means P w K mg base (clK K) 1 "ends_within" ["x", "y", "way", "length"] Sc.dn_ends_within := ok_ends_within T F_ends_within g_ends_within b_ends_within  
  have G_is_plank : Means P w K mg base (clK K) 4 "is_plank" ["thing"] Sc.dn_is_plank := ok_is_plank T F_is_plank g_is_plank b_is_plank G_is_name G_are_weights G_is_within G_ends_within 
  have G_is_part : Means P w K mg base (clK K) 5 "is_part" ["thing"] Sc.dn_is_part := ok_is_part T F_is_part g_is_part b_is_part G_is_pole G_is_plank 
  have G_is_board : Means P w K mg base (clK K) 1 "is_board" ["part"] Sc.dn_is_board := ok_is_board T F_is_board g_is_board b_is_board  
  have G_bottom_of : Means P w K mg base (clK K) 2 "bottom_of" ["part"] Sc.dn_bottom_of := ok_bottom_of T F_bottom_of g_bottom_of b_bottom_of G_is_board 
  have G_top_of : Means P w K mg base (clK K) 2 "top_of" ["part"] Sc.dn_top_of := ok_top_of T F_top_of g_top_of b_top_of G_is_board 
  have G_places_of : Means P w K mg base (clK K) 2 "places_of" ["part"] Sc.dn_places_of := ok_places_of T F_places_of g_places_of b_places_of G_is_board 
  have G__law_cell : Means P w K mg base (clK K) 1 "_law_cell" ["_law_script", "_law_k"] Sc.dn__law_cell := ok__law_cell T F__law_cell g__law_cell b__law_cell  
  have G__law_pot : Means P w K mg base (clK K) 1 "_law_pot" ["_law_cell_here"] Sc.dn__law_pot := ok__law_pot T F__law_pot g__law_pot b__law_pot  
  have G__law_draw : Means P w K mg base (clK K) 1 "_law_draw" ["_law_pot_here", "_law_many"] Sc.dn__law_draw := ok__law_draw T F__law_draw g__law_draw b__law_draw  
  have G__law_low : Means P w K mg base (clK K) 1 "_law_low" ["_law_top_here", "_law_bottom_here"] Sc.dn__law_low := ok__law_low T F__law_low g__law_low b__law_low  
  have G__law_sum : Means P w K mg base (clK K) 2 "_law_sum" ["_law_one", "_law_other"] Sc.dn__law_sum := ok__law_sum T F__law_sum g__law_sum b__law_sum G__law_low 
  have G__law_product : Means P w K mg base (clK K) 2 "_law_product" ["_law_one", "_law_other"] Sc.dn__law_product := ok__law_product T F__law_product g__law_product b__law_product G__law_low 
  have G__law_bottom : Means P w K mg base (clK K) 1 "_law_bottom" ["_law_part_here"] Sc.dn__law_bottom := ok__law_bottom T F__law_bottom g__law_bottom b__law_bottom  
  have G__law_top : Means P w K mg base (clK K) 1 "_law_top" ["_law_part_here"] Sc.dn__law_top := ok__law_top T F__law_top g__law_top b__law_top  
  have G__law_places : Means P w K mg base (clK K) 1 "_law_places" ["_law_part_here"] Sc.dn__law_places := ok__law_places T F__law_places g__law_places b__law_places  
  have G__law_clash : Means P w K mg base (clK K) 2 "_law_clash" ["_law_one", "_law_other"] Sc.dn__law_clash := ok__law_clash T F__law_clash g__law_clash b__law_clash G__law_bottom G__law_top G__law_places 
  have G__law_word : Means P w K mg base (clK K) 2 "_law_word" ["_law_pot_here"] dn__law_word := ok__law_word T F__law_word g__law_word b__law_word G__law_draw 
  have G__law_share : Means P w K mg base (clK K) 2 "_law_share" ["_law_pot_here", "_law_least"] dn__law_share := ok__law_share T F__law_share g__law_share b__law_share G__law_draw G__law_low 
  have G__law_part : Means P w K mg base (clK K) 3 "_law_part" ["_law_pot_here"] dn__law_part := ok__law_part T F__law_part g__law_part b__law_part G__law_word G__law_share G__law_draw 
  have G__law_spoiled : Means P w K mg base (clK K) 2 "_law_spoiled" ["_law_pot_here", "_law_part_here"] dn__law_spoiled := ok__law_spoiled T F__law_spoiled g__law_spoiled b__law_spoiled G__law_draw 
  have G__law_whole : Means P w K mg base (clK K) 1 "_law_whole" ["_law_thing", "_law_least", "_law_most"] dn__law_whole := ok__law_whole T F__law_whole g__law_whole b__law_whole  
  have G__law_is_share : Means P w K mg base (clK K) 2 "_law_is_share" ["_law_thing", "_law_least"] dn__law_is_share := ok__law_is_share T F__law_is_share g__law_is_share b__law_is_share G__law_whole G__law_low 
  have G__law_is_name : Means P w K mg base (clK K) 1 "_law_is_name" ["_law_thing"] dn__law_is_name := ok__law_is_name T F__law_is_name g__law_is_name b__law_is_name  
  have G__law_is_part : Means P w K mg base (clK K) 3 "_law_is_part" ["_law_thing"] dn__law_is_part := ok__law_is_part T F__law_is_part g__law_is_part b__law_is_part G__law_is_name G__law_is_share G__law_whole 
  exact ok_law T F_law G__law_pot G__law_spoiled G__law_part G_is_part G__law_is_part G_bottom_of G__law_bottom G_top_of G__law_top G_places_of G__law_places 
end
end L_k12
open PySem PySem.W PySem.Calls PyProof.Rows in
set_option maxRecDepth 100000 in
set_option maxHeartbeats 0 in
theorem PySem.Challenge.cw_scaffold_k12_parts_judged_holds : PySem.Challenge.rw_scaffold_k12_parts_judged.Holds := by
  w_on; o_law
  refine HandSHeadRun.head_any (r := OpenLaw.row PySem.Challenge.rw_scaffold_k12_parts_judged) (q := view (OpenLaw.row PySem.Challenge.rw_scaffold_k12_parts_judged).prog [43]) (H := L_k12.hk) (ob := L_k12.ob) (M := 40000) (loose := L_k12.loose) (d := HandSHeadRun.topDef (OpenLaw.row PySem.Challenge.rw_scaffold_k12_parts_judged).prog 43) (kwd := []) L_k12.ob_eq
    (by kernel_rfl) (fun s => by kernel_rfl) L_k12.run (by kernel_rfl) (by kernel_rfl) (by kernel_rfl) (by rfl) (by first | assumption | decide +kernel) (by decide +kernel) ⟨rfl, rfl, rfl, rfl, rfl, by decide +kernel⟩ ?hw ?hc
  case hw => w_witness2
  case hc =>
    refine L2.walk_ofE (l := PySem.Challenge.rw_scaffold_k12_parts_judged) (n := 63) (k := 6) (x := "_law_script") (CX := L2.CX0) rfl (by decide) (by kernel_rfl) ⟨rfl, by decide, by decide⟩ ?F (fun _ _ _ _ z => z)
    intro w mg fa h Y G hmg0
    obtain ⟨K, KX, c⟩ := Y
    have hmg : mg ("law" : PySem.Str) = some (.ref fa) := by
      have e : (HandSHeadRun.topDef (OpenLaw.row PySem.Challenge.rw_scaffold_k12_parts_judged).prog 43).name = ("law" : PySem.Str) := by kernel_rfl
      rw [← e]
      exact hmg0
    obtain ⟨fd, hb, hF⟩ := L_k12.facts (P := (PySem.Challenge.rw_scaffold_k12_parts_judged).prog) (w := w) KX G hmg c
    refine ⟨K, fd, _, KX, hb, fun H a ns hl _ hS => ?_, fun base b1 b2 => Py.fnok_calm (hF base b1 b2)⟩
    obtain ⟨ps, hps⟩ := L_k12.law_true ns hl
    exact Py.sp_law hps hS
