import PyProof.Rows.All
import PySem.Str
import HandS.ForMost
import HandS.ForSpec
import HandS.Zip
import HandS.ExcInit
import HandS.WordsExc
import HandS.CallSlots
import HandS.ExcOwn
import HandS.ExcField
import HandS.ExcIs
import HandS.TryMany
import HandS.ExcSuper
import KE.KExcSuper
import KE.RegKSuper
import HandS.FStr
import HandS.IsInst
import HandS.ForExc
import HandS.OwnEq
import KE.GoesMore
import PySem.Challenge.RW_backinstep_k04_texts_of_devices
set_option Elab.async false
section
set_option linter.all false
/-! VMir: a mirror of a small Python over values without a heap. -/
namespace VM
open PySem (Str)
inductive D where
  | non | bl (b : Bool) | int (i : Int) | str (x : Str)
  | lst (ds : List D) | tup (ds : List D) | scr (ds : List D) | ty (n : String) | cl (c : Nat) | ins (c : Nat) (fs : List (Str × D))
/-- a slot: nothing known; a value that is never changed any more; an object of one's own -/
inductive Sl where
  | un | fr (d : D) | ow (d : D)
abbrev Ev := List Sl
inductive R (α : Type) where
  | ok (a : α) (σ : Ev) | exc (c : Nat) (fs : List (Str × D)) (σ : Ev) | stuck
def R.bind {α β : Type} (r : R α) (f : α → Ev → R β) : R β :=
  match r with
  | .ok a σ => f a σ
  | .exc c fs σ => .exc c fs σ
  | .stuck => .stuck
/-- an option's value, or stuck -/
def R.opt {α : Type} (o : Option α) (σ : Ev) : R α :=
  match o with
  | some a => .ok a σ
  | none => .stuck
inductive RS where
  | nx (σ : Ev) | rt (d : D) (σ : Ev) | bk (σ : Ev) | ct (σ : Ev) | exc (c : Nat) (fs : List (Str × D)) (σ : Ev) | stuck
abbrev EM := Ev → R D
abbrev TM := Ev → R Bool
abbrev LM := Ev → R (List D)
abbrev SM := Ev → RS

/-! expressions -/
/-- a list's value as its items -/
def lOf (e : EM) : LM := fun σ => (e σ).bind fun d σ1 =>
  match d with
  | .lst ds => .ok ds σ1
  | _ => .stuck
def eC (d : D) : EM := fun σ => .ok d σ
def eV (i : Nat) : EM := fun σ =>
  match σ[i]? with
  | some (.fr d) => .ok d σ
  | _ => .stuck
def eFz (i : Nat) : EM := fun σ =>
  match σ[i]? with
  | some (.fr d) => .ok d σ
  | some (.ow d) => .ok d (σ.set i (.fr d))
  | _ => .stuck
def e1 (f : D → Option D) (a : EM) : EM := fun σ => (a σ).bind fun x σ1 => .opt (f x) σ1
def e2 (f : D → D → Option D) (a b : EM) : EM := fun σ => (a σ).bind fun x σ1 => (b σ1).bind fun y σ2 => .opt (f x y) σ2
def lNil : LM := fun σ => .ok [] σ
def lCons (a : EM) (l : LM) : LM := fun σ => (a σ).bind fun x σ1 => (l σ1).bind fun xs σ2 => .ok (x :: xs) σ2
def eL (f : List D → Option D) (l : LM) : EM := fun σ => (l σ).bind fun xs σ1 => .opt (f xs) σ1
/-- an item of one's own list -/
def eIxO (f : D → D → Option D) (i : Nat) (b : EM) : EM := fun σ =>
  match σ[i]? with
  | some (.ow _) => (b σ).bind fun y σ1 =>
    match σ1[i]? with
    | some (.ow d) => .opt (f d y) σ1
    | _ => .stuck
  | _ => .stuck
def tE (a : EM) : TM := fun σ => (a σ).bind fun x σ1 =>
  match x with
  | .bl b => .ok b σ1
  | _ => .stuck
def tTru (f : D → Option Bool) (a : EM) : TM := fun σ => (a σ).bind fun x σ1 => .opt (f x) σ1
def tAnd (a b : TM) : TM := fun σ => (a σ).bind fun c σ1 => if c = true then b σ1 else .ok false σ1
def tOr (a b : TM) : TM := fun σ => (a σ).bind fun c σ1 => if c = true then .ok true σ1 else b σ1
def tNot (a : TM) : TM := fun σ => (a σ).bind fun c σ1 => .ok (!c) σ1
/-- and, or, not of bools as values -/
def eAnd (a b : EM) : EM := fun σ => (tE a σ).bind fun c σ1 => if c = true then b σ1 else .ok (.bl false) σ1
def eOr (a b : EM) : EM := fun σ => (tE a σ).bind fun c σ1 => if c = true then .ok (.bl true) σ1 else b σ1
def eNot (a : EM) : EM := fun σ => (tE a σ).bind fun c σ1 => .ok (.bl (!c)) σ1
def eIf (t : TM) (a b : EM) : EM := fun σ => (t σ).bind fun c σ1 => if c = true then a σ1 else b σ1
/-- a op b op c -/
def eChain (f g : D → D → Option D) (a b c : EM) : EM := fun σ => (a σ).bind fun x σ1 => (b σ1).bind fun y σ2 =>
  match f x y with
  | some (.bl true) => (c σ2).bind fun z σ3 => .opt (g y z) σ3
  | some (.bl false) => .ok (.bl false) σ2
  | _ => .stuck

/-- a text's method of one argument, of none -/
def eM1 (f : Str → D → Option D) (a b : EM) : EM := fun σ => (a σ).bind fun x σ1 =>
  match x with
  | .str z => (b σ1).bind fun y σ2 => .opt (f z y) σ2
  | _ => .stuck
def eM0 (f : Str → Option D) (a : EM) : EM := fun σ => (a σ).bind fun x σ1 =>
  match x with
  | .str z => .opt (f z) σ1
  | _ => .stuck
/-- a part of a slice -/
abbrev OM := Ev → R (Option Int)
def oN : OM := fun σ => .ok none σ
def oS (a : EM) : OM := fun σ => (a σ).bind fun x σ1 =>
  match x with
  | .int i => .ok (some i) σ1
  | _ => .stuck
def eSl (f : D → Option Int → Option Int → Option D) (a : EM) (l h : OM) : EM := fun σ => (a σ).bind fun x σ1 => (l σ1).bind fun lo σ2 => (h σ2).bind fun hi σ3 => .opt (f x lo hi) σ3
/-- a field of an instance of one of the classes cs -/
def fldD (cs : List Nat) (f : Str) : D → Option D
  | .ins c fs => if cs.contains c = true then fs.lookup f else none
  | _ => none

/-! calls -/
inductive Arg where
  | dv (d : D) | ox (i : Nat)
abbrev AM := Ev → R (List Arg)
def aNil : AM := fun σ => .ok [] σ
def aD (a : EM) (l : AM) : AM := fun σ => (a σ).bind fun x σ1 => (l σ1).bind fun xs σ2 => .ok (.dv x :: xs) σ2
def aO (i : Nat) (l : AM) : AM := fun σ =>
  match σ[i]? with
  | some (.ow _) => (l σ).bind fun xs σ2 => .ok (.ox i :: xs) σ2
  | _ => .stuck
def Arg.sl (σ : Ev) : Arg → Sl
  | .dv d => .fr d
  | .ox i => σ.getD i .un
def Arg.ix : Arg → Option Nat
  | .dv _ => none
  | .ox i => some i
def isOw : Option Sl → Bool
  | some (.ow _) => true
  | _ => false
def argsOk (l : List Arg) (σ : Ev) : Bool := (l.filterMap Arg.ix).all (fun i => isOw σ[i]?) && decide (l.filterMap Arg.ix).Nodup
def putOuts : List Arg → List Sl → Ev → Ev
  | .ox i :: l, s :: outs, σ => (putOuts l outs σ).set i s
  | .dv _ :: l, _ :: outs, σ => putOuts l outs σ
  | _, _, σ => σ
abbrev FM := List Sl → R D
def eCall (F : FM) (as : AM) : EM := fun σ => (as σ).bind fun l σ1 =>
  if argsOk l σ1 = true then
    match F (l.map (Arg.sl σ1)) with
    | .ok d outs => .ok d (putOuts l outs σ1)
    | .exc c fs outs => .exc c fs (putOuts l outs σ1)
    | .stuck => .stuck
  else .stuck
/-- a def of one parameter gets a new list for its own -/
def eCallN (F : FM) (l : LM) : EM := fun σ => (l σ).bind fun ds σ1 =>
  match F [.ow (.lst ds)] with
  | .ok d _ => .ok d σ1
  | .exc c fs _ => .exc c fs σ1
  | .stuck => .stuck
/-- a new instance of class c, F its __init__ -/
def eMake (c : Nat) (F : FM) (as : AM) : EM := fun σ => (as σ).bind fun l σ1 =>
  if argsOk l σ1 = true then
    match F (.ow (.ins c []) :: l.map (Arg.sl σ1)) with
    | .ok .non (.ow d :: outs) => .ok d (putOuts l outs σ1)
    | .exc c' fs (_ :: outs) => .exc c' fs (putOuts l outs σ1)
    | _ => .stuck
  else .stuck
def mask (io : List Nat) (n : Nat) (σ : Ev) : List Sl := (List.range n).map fun j => if io.contains j = true then σ.getD j .un else .un
/-- a def of n parameters, N slots, its body m -/
def fnM (n N : Nat) (io : List Nat) (m : SM) : FM := fun args =>
  match m (args ++ List.replicate (N - n) .un) with
  | .nx σ => .ok .non (mask io n σ)
  | .rt d σ => .ok d (mask io n σ)
  | .exc c fs σ => .exc c fs (mask io n σ)
  | _ => .stuck

/-- .. that hands out a value always -/
def fnF (n N : Nat) (io : List Nat) (m : SM) : FM := fun args =>
  match m (args ++ List.replicate (N - n) .un) with
  | .rt d σ => .ok d (mask io n σ)
  | .exc c fs σ => .exc c fs (mask io n σ)
  | _ => .stuck

/-! statements -/
def sNext : SM := fun σ => .nx σ
def sSeq (a b : SM) : SM := fun σ =>
  match a σ with
  | .nx σ1 => b σ1
  | r => r
def R.st {α : Type} (r : R α) (f : α → Ev → RS) : RS :=
  match r with
  | .ok a σ => f a σ
  | .exc c fs σ => .exc c fs σ
  | .stuck => .stuck
def sSet (i : Nat) (e : EM) : SM := fun σ => (e σ).st fun d σ1 => .nx (σ1.set i (.fr d))
/-- a new list into a slot of one's own -/
def sOwn (i : Nat) (e : LM) : SM := fun σ => (e σ).st fun ds σ1 => .nx (σ1.set i (.ow (.lst ds)))
def sRet (e : EM) : SM := fun σ => (e σ).st fun d σ1 => .rt d σ1
def sRetF (l : LM) : SM := fun σ => (l σ).st fun ds σ1 => .rt (.lst ds) σ1
def sRetN : SM := fun σ => .rt .non σ
def sExpr (e : EM) : SM := fun σ => (e σ).st fun _ σ1 => .nx σ1
def sIf (t : TM) (a b : SM) : SM := fun σ => (t σ).st fun c σ1 => if c = true then a σ1 else b σ1
def sBreak : SM := fun σ => .bk σ
def sCont : SM := fun σ => .ct σ
def sRaise (c : Nat) (fs : D → List (Str × D)) (e : EM) : SM := fun σ => (e σ).st fun d σ1 => .exc c (fs d) σ1
/-- own list changed: f d of the old -/
def sApp (i : Nat) (e : EM) : SM := fun σ =>
  match σ[i]? with
  | some (.ow (.lst _)) => (e σ).st fun d σ1 =>
    match σ1[i]? with
    | some (.ow (.lst ds)) => if ds.length < 16777216 then .nx (σ1.set i (.ow (.lst (ds ++ [d])))) else .stuck
    | _ => .stuck
  | _ => .stuck
/-- x[j] = e, x one's own, j a known place -/
def sPut (i : Nat) (j : EM) (e : EM) : SM := fun σ => (e σ).st fun d σ1 =>
  match σ1[i]? with
  | some (.ow (.lst _)) => (j σ1).st fun jd σ2 =>
    match σ2[i]?, jd with
    | some (.ow (.lst ds)), .int k => if 0 ≤ k ∧ k < (ds.length : Int) then .nx (σ2.set i (.ow (.lst (ds.set k.toNat d)))) else .stuck
    | _, _ => .stuck
  | _ => .stuck
def putD (f : Str) (d : D) : List (Str × D) → List (Str × D)
  | [] => [(f, d)]
  | (g, x) :: r => if g = f then (g, d) :: r else (g, x) :: putD f d r
/-- x.f = e, x an instance of one's own -/
def sFld (cs : List Nat) (i : Nat) (f : Str) (e : EM) : SM := fun σ => (e σ).st fun d σ1 =>
  match σ1[i]? with
  | some (.ow (.ins c fs)) => if fs.length < 1000 ∧ cs.contains c = true then .nx (σ1.set i (.ow (.ins c (putD f d fs)))) else .stuck
  | _ => .stuck
abbrev TgM := D → Ev → Option Ev
def gN (i : Nat) : TgM := fun d σ => some (σ.set i (.fr d))
def gTs : List TgM → List D → Ev → Option Ev
  | [], [], σ => some σ
  | g :: gs, d :: ds, σ => (g d σ).bind fun σ1 => gTs gs ds σ1
  | _, _, _ => none
def gT (gs : List TgM) : TgM := fun d σ =>
  match d with
  | .tup ds => gTs gs ds σ
  | _ => none
def forL (tg : TgM) (body : SM) : List D → Ev → RS
  | [], σ => .nx σ
  | x :: xs, σ =>
    match tg x σ with
    | none => .stuck
    | some σ1 =>
      match body σ1 with
      | .nx σ2 => forL tg body xs σ2
      | .ct σ2 => forL tg body xs σ2
      | .bk σ2 => .nx σ2
      | r => r
def sFor (it : LM) (tg : TgM) (body : SM) : SM := fun σ => (it σ).st fun xs σ1 => forL tg body xs σ1
def whileL (t : TM) (body : SM) : Nat → Ev → RS
  | 0, _ => .stuck
  | n + 1, σ => (t σ).st fun c σ1 => if c = true then
      match body σ1 with
      | .nx σ2 => whileL t body n σ2
      | .ct σ2 => whileL t body n σ2
      | .bk σ2 => .nx σ2
      | r => r
    else .nx σ1
open Classical in
noncomputable def sWhile (t : TM) (body : SM) : SM := fun σ =>
  if h : ∃ n, whileL t body n σ ≠ .stuck then whileL t body h.choose σ else .stuck
/-- try: body, except C as n: return what h tells of the error's class and fields; sel: whether the clause names the class; i: n's slot -/
def sTry (body : SM) (sel : Nat → Option Bool) (h : Nat → List (Str × D) → Option D) (i : Nat) : SM := fun σ =>
  match body σ with
  | .exc c fs σ1 =>
    match sel c, σ1[i]? with
    | some true, some _ =>
      match h c fs with
      | some d => .rt d (σ1.set i .un)
      | none => .stuck
    | some false, _ => .exc c fs σ1
    | _, _ => .stuck
  | r => r
/-- in such a suite -/
def xFld (cs : List Nat) (f : Str) (c : Nat) (fs : List (Str × D)) : Option D := if cs.contains c = true then fs.lookup f else none
def xIs (sel : Nat → Option Bool) (c : Nat) : Option D := (sel c).map D.bl
def xAnd (a b : Option D) : Option D :=
  match a with
  | some (.bl true) => b
  | some (.bl false) => some (.bl false)
  | _ => none
def xOr (a b : Option D) : Option D :=
  match a with
  | some (.bl true) => some (.bl true)
  | some (.bl false) => b
  | _ => none
def xNot (a : Option D) : Option D :=
  match a with
  | some (.bl b) => some (.bl (!b))
  | _ => none
def xIf (t a b : Option D) : Option D :=
  match t with
  | some (.bl true) => a
  | some (.bl false) => b
  | _ => none
/-! list comprehension: the items that are told; own: the block's own slots -/
def wipeW (σ : Ev) : List Nat → Ev
  | [] => σ
  | v :: vs => (wipeW σ vs).set v .un
def lcL (tg : TgM) (t : TM) (e : EM) (own : List Nat) : List D → List D → Ev → R (List D)
  | [], acc, σ => .ok acc σ
  | x :: xs, acc, σ =>
    match tg x (wipeW σ own) with
    | none => .stuck
    | some σ1 =>
      match t σ1 with
      | .ok true σ2 =>
        match e σ2 with
        | .ok d σ3 => if acc.length < 16777216 then lcL tg t e own xs (acc ++ [d]) (wipeW σ3 own) else .stuck
        | _ => .stuck
      | .ok false σ2 => lcL tg t e own xs acc (wipeW σ2 own)
      | _ => .stuck
def restW (σ0 : Ev) (σ : Ev) : List Nat → Ev
  | [] => σ
  | v :: vs => (restW σ0 σ vs).set v (match σ0[v]? with
    | some (.fr d) => .fr d
    | _ => .un)
def lLc (it : LM) (tg : TgM) (t : TM) (e : EM) (own : List Nat) : LM := fun σ => (it σ).bind fun xs σ1 =>
  (lcL tg t e own xs [] (wipeW σ1 own)).bind fun ds σ2 => .ok ds (restW σ1 σ2 own)
def tYes : TM := fun σ => .ok true σ
/-! what a loop walks, as its items -/
def itD : D → Option (List D)
  | .lst ds => some ds
  | .scr ds => some ds
  | .tup ds => some ds
  | .str x => some (x.cps.toList.map fun c => .str ⟨#[c]⟩)
  | _ => none
def lIt (m : EM) : LM := fun σ => (m σ).bind fun d σ1 => .opt (itD d) σ1
def rng (lo : Int) (n : Nat) : List D := (List.range n).map fun (k : Nat) => D.int (lo + (k : Int))
def lR1 (m : EM) : LM := fun σ => (m σ).bind fun d σ1 =>
  match d with
  | .int j => if -4611686018427387904 ≤ j ∧ j < 4611686018427387904 then .ok (rng 0 j.toNat) σ1 else .stuck
  | _ => .stuck
def lR2 (l : LM) : LM := fun σ => (l σ).bind fun ds σ1 =>
  match ds with
  | [.int i, .int j] => if -4611686018427387904 ≤ i ∧ i < 4611686018427387904 ∧ -4611686018427387904 ≤ j ∧ j < 4611686018427387904 then .ok (rng i (j - i).toNat) σ1 else .stuck
  | _ => .stuck
def enumD (k : Nat) : List D → List D
  | [] => []
  | d :: ds => .tup [.int k, d] :: enumD (k + 1) ds
/-- enumerate of a list -/
def lEnum (m : EM) : LM := fun σ => (m σ).bind fun d σ1 =>
  match d with
  | .lst ds => .ok (enumD 0 ds) σ1
  | .scr ds => .ok (enumD 0 ds) σ1
  | _ => .stuck
/-- zip of a text and a tuple, of two tuples, of two lists -/
def lZip (f : D → D → Option (List D)) (a b : EM) : LM := fun σ => (a σ).bind fun x σ1 => (b σ1).bind fun y σ2 => .opt (f x y) σ2
def zipD : List D → List D → List D
  | d :: ds, e :: es => .tup [d, e] :: zipD ds es
  | _, _ => []
/-- the items of a display -/
def lD (l : LM) : LM := fun σ => (l σ).bind fun ds σ1 => if ds.length ≤ 1000 then .ok ds σ1 else .stuck
/-- a new list as a value -/
def eNew (l : LM) : EM := fun σ => (l σ).bind fun ds σ1 => .ok (.lst ds) σ1
def eTup (l : LM) : EM := fun σ => (l σ).bind fun ds σ1 => if ds.length ≤ 1000 then .ok (.tup ds) σ1 else .stuck
end VM
end
section
set_option linter.all false
set_option maxRecDepth 100000
/-! VCore: how the mirror's values stand in the heap; readings by mirrors; the rules' common part. -/
namespace VM
open PySem PySem.Spec L2

structure GC where
  K : PySem.W.Frag
  ca : Nat → Addr

/-- a list of the written part -/
def KL (K : PySem.W.Frag) (a : Addr) (xs : List V) : Prop := ∃ (o : Obj) (its : Array Value) (n : Nat), K.lookup a = some o ∧ o.cls = .type "list" ∧ o.dict = none ∧ o.data = .seq its n ∧ its.size ≤ sizeLine ∧ Vals xs its.toList
/-- a list that is read alone -/
def LSrc (K : PySem.W.Frag) (H : Hp) (S : Addr → Prop) (a : Addr) (xs : List V) : Prop := (S a ∧ Rd H a (.lst xs)) ∨ KL K a xs
theorem LSrc.sql {K : PySem.W.Frag} {H : Hp} {S : Addr → Prop} {a : Addr} {xs : List V} (h : LSrc K H S a xs) : SqL K H a xs := h.elim (fun q => .inl q.2) .inr
section
variable (G : GC) (H : Hp) (S : Addr → Prop)
mutual
inductive Rep : D → V → Prop
  | non : Rep .non .non
  | bl (b : Bool) : Rep (.bl b) (.bl b)
  | int (i : Int) : Rep (.int i) (.int i)
  | str (x : Str) : Rep (.str x) (.str x)
  | lst {a : Addr} {vs : List V} {ds : List D} : S a → H a = some (.lst vs) → Reps ds vs → Rep (.lst ds) (.ref a)
  | scr {a : Addr} {vs : List V} {ds : List D} : LSrc G.K H S a vs → Reps ds vs → Rep (.scr ds) (.ref a)
  | ty (n : String) : Rep (.ty n) (.ty n)
  | cl (c : Nat) : Rep (.cl c) (.ref (G.ca c))
  | tup {a : Addr} {vs : List V} {ds : List D} : H a = some (.tup vs) → Reps ds vs → Rep (.tup ds) (.ref a)
  | ins {a dx : Addr} {c : Nat} {fs : List (Str × D)} {gs : List (Str × V)} : S a → H a = some (.ins (G.ca c) dx gs) → RepF fs gs → Rep (.ins c fs) (.ref a)
inductive Reps : List D → List V → Prop
  | nil : Reps [] []
  | cons {d : D} {v : V} {ds : List D} {vs : List V} : Rep d v → Reps ds vs → Reps (d :: ds) (v :: vs)
inductive RepF : List (Str × D) → List (Str × V) → Prop
  | nil : RepF [] []
  | cons {f : Str} {d : D} {v : V} {fs : List (Str × D)} {gs : List (Str × V)} : Rep d v → RepF fs gs → RepF ((f, d) :: fs) ((f, v) :: gs)
end
end

section
variable {G : GC} {H H' : Hp} {S S' : Addr → Prop}
/-- what keeps readings -/
structure Kp (H : Hp) (S : Addr → Prop) (H' : Hp) (S' : Addr → Prop) : Prop where
  sub : ∀ a, S a → S' a
  keep : ∀ a o, S a → H a = some o → H' a = some o
  tups : ∀ a xs, H a = some (.tup xs) → H' a = some (.tup xs)
theorem Kp.rd (k : Kp H S H' S') {a : Addr} {u : HO} (s : S a) (h : Rd H a u) : Rd H' a u := by
  rcases h with h | ⟨o, h⟩
  · exact .inl (k.keep _ _ s h)
  · exact .inr ⟨o, k.keep _ _ s h⟩
theorem LSrc.kp {K : PySem.W.Frag} (k : Kp H S H' S') {a : Addr} {xs : List V} (h : LSrc K H S a xs) : LSrc K H' S' a xs := h.imp (fun q => ⟨k.sub _ q.1, k.rd q.1 q.2⟩) fun q => q
theorem Rep.kp (k : Kp H S H' S') {d : D} {v : V} (h : Rep G H S d v) : Rep G H' S' d v :=
  Rep.rec (motive_1 := fun d v _ => Rep G H' S' d v) (motive_2 := fun ds vs _ => Reps G H' S' ds vs) (motive_3 := fun fs gs _ => RepF G H' S' fs gs)
    .non .bl .int .str (fun s r _ ih => .lst (k.sub _ s) (k.keep _ _ s r) ih) (fun s _ ih => .scr (s.kp k) ih) .ty .cl (fun r _ ih => .tup (k.tups _ _ r) ih) (fun s r _ ih => .ins (k.sub _ s) (k.keep _ _ s r) ih)
    .nil (fun _ _ a b => .cons a b) .nil (fun _ _ a b => .cons a b) h
theorem Reps.kp (k : Kp H S H' S') : ∀ {ds : List D} {vs : List V}, Reps G H S ds vs → Reps G H' S' ds vs
  | _, _, .nil => .nil
  | _, _, .cons a b => .cons (a.kp k) (Reps.kp k b)
theorem RepF.kp (k : Kp H S H' S') : ∀ {ds : List (Str × D)} {vs : List (Str × V)}, RepF G H S ds vs → RepF G H' S' ds vs
  | _, _, .nil => .nil
  | _, _, .cons a b => .cons (a.kp k) (RepF.kp k b)
theorem Reps.length : ∀ {ds : List D} {vs : List V}, Reps G H S ds vs → ds.length = vs.length
  | _, _, .nil => rfl
  | _, _, .cons _ b => by rw [List.length_cons, List.length_cons, Reps.length b]
theorem Reps.get : ∀ {ds : List D} {vs : List V} {i : Nat} {d : D}, Reps G H S ds vs → ds[i]? = some d → ∃ v, vs[i]? = some v ∧ Rep G H S d v
  | _, _, i, _, .nil, e => by simp at e
  | _, _, 0, _, .cons a b, e => by simp at e; subst e; exact ⟨_, rfl, a⟩
  | _, _, i + 1, _, .cons a b, e => by
    obtain ⟨v, h1, h2⟩ := Reps.get (i := i) b (by simpa using e)
    exact ⟨v, by simpa using h1, h2⟩
theorem Reps.append : ∀ {ds es : List D} {vs ws : List V}, Reps G H S ds vs → Reps G H S es ws → Reps G H S (ds ++ es) (vs ++ ws)
  | _, _, _, _, .nil, s => s
  | _, _, _, _, .cons a b, s => .cons a (Reps.append b s)
theorem Reps.take (n : Nat) : ∀ {ds : List D} {vs : List V}, Reps G H S ds vs → Reps G H S (ds.take n) (vs.take n) := by
  induction n with
  | zero => intro ds vs _; exact .nil
  | succ n ih =>
    intro ds vs h
    cases h with
    | nil => exact .nil
    | cons a b => exact .cons a (ih b)
theorem Reps.drop (n : Nat) : ∀ {ds : List D} {vs : List V}, Reps G H S ds vs → Reps G H S (ds.drop n) (vs.drop n) := by
  induction n with
  | zero => intro ds vs h; exact h
  | succ n ih =>
    intro ds vs h
    cases h with
    | nil => exact .nil
    | cons a b => exact ih b
theorem Reps.set : ∀ {ds : List D} {vs : List V} (i : Nat) {d : D} {v : V}, Reps G H S ds vs → Rep G H S d v → Reps G H S (ds.set i d) (vs.set i v)
  | _, _, _, _, _, .nil, _ => .nil
  | _, _, 0, _, _, .cons a b, r => .cons r b
  | _, _, i + 1, _, _, .cons a b, r => .cons a (Reps.set i b r)
theorem RepF.get {f : Str} : ∀ {fs : List (Str × D)} {gs : List (Str × V)} {d : D}, RepF G H S fs gs → fs.lookup f = some d → ∃ v, gs.lookup f = some v ∧ Rep G H S d v
  | _, _, _, .nil, e => by simp at e
  | (g, _) :: _, _, _, .cons a b, e => by
    rw [List.lookup_cons] at e ⊢
    cases hb : (f == g) with
    | true => rw [hb] at e; simp at e; subst e; exact ⟨_, rfl, a⟩
    | false => rw [hb] at e; exact RepF.get b e
theorem RepF.length : ∀ {fs : List (Str × D)} {gs : List (Str × V)}, RepF G H S fs gs → fs.length = gs.length
  | _, _, .nil => rfl
  | _, _, .cons _ b => by rw [List.length_cons, List.length_cons, RepF.length b]
theorem RepF.lookN {f : Str} : ∀ {fs : List (Str × D)} {gs : List (Str × V)}, RepF G H S fs gs → fs.lookup f = none → gs.lookup f = none
  | _, _, .nil, _ => rfl
  | (g, _) :: _, _, .cons a b, e => by
    rw [List.lookup_cons] at e ⊢
    cases hb : (f == g) with
    | true => rw [hb] at e; simp at e
    | false => rw [hb] at e; exact RepF.lookN b e
theorem RepF.put {f : Str} {d : D} {v : V} : ∀ {fs : List (Str × D)} {gs : List (Str × V)}, RepF G H S fs gs → Rep G H S d v → RepF G H S (putD f d fs) (putF f v gs)
  | _, _, .nil, r => .cons r .nil
  | (g, _) :: _, _, .cons a b, r => by
    unfold putD putF
    by_cases e : g = f
    · rw [if_pos e, if_pos e]; exact .cons r b
    · rw [if_neg e, if_neg e]; exact .cons a (RepF.put b r)

/-- an object of one's own at a -/
def OwnAt (G : GC) (H : Hp) (S : Addr → Prop) (d : D) (a : Addr) : Prop :=
  match d with
  | .lst ds => ∃ vs, H a = some (.lst vs) ∧ Reps G H S ds vs
  | .ins c fs => ∃ dx gs, H a = some (.ins (G.ca c) dx gs) ∧ RepF G H S fs gs
  | _ => False
theorem OwnAt.has {d : D} {a : Addr} (h : OwnAt G H S d a) : ∃ o, H a = some o ∧ ∀ xs, o ≠ .tup xs := by
  cases d with
  | lst ds => obtain ⟨vs, e, _⟩ := h; exact ⟨_, e, fun _ z => by cases z⟩
  | ins c fs => obtain ⟨dx, gs, e, _⟩ := h; exact ⟨_, e, fun _ z => by cases z⟩
  | _ => exact h.elim
theorem OwnAt.kp (k : Kp H S H' S') {d : D} {a : Addr} (h : OwnAt G H S d a) (e : ∀ o, H a = some o → H' a = some o) : OwnAt G H' S' d a := by
  cases d with
  | lst ds => obtain ⟨vs, q, r⟩ := h; exact ⟨vs, e _ q, r.kp k⟩
  | ins c fs => obtain ⟨dx, gs, q, r⟩ := h; exact ⟨dx, gs, e _ q, r.kp k⟩
  | _ => exact h.elim
/-- it is frozen -/
theorem OwnAt.frz {d : D} {a : Addr} (h : OwnAt G H S d a) : Rep G H (fun b => S b ∨ b = a) d (.ref a) := by
  have k : Kp H S H (fun b => S b ∨ b = a) := ⟨fun _ s => .inl s, fun _ _ _ h => h, fun _ _ h => h⟩
  cases d with
  | lst ds => obtain ⟨vs, q, r⟩ := h; exact .lst (.inr rfl) q (r.kp k)
  | ins c fs => obtain ⟨dx, gs, q, r⟩ := h; exact .ins (.inr rfl) q (r.kp k)
  | _ => exact h.elim
end

/-- what the slots own -/
def Own (σ : St) (σw : Ev) (a : Addr) : Prop := ∃ (i : Nat) (d : D), σw[i]? = some (.ow d) ∧ σ[i]? = some (some (.ref a))

structure Rel (G : GC) (H : Hp) (S : Addr → Prop) (σ : St) (σw : Ev) : Prop where
  len : σ.length = σw.length
  fr : ∀ (i : Nat) (d : D), σw[i]? = some (.fr d) → ∃ v, σ[i]? = some (some v) ∧ Rep G H S d v
  ow : ∀ (i : Nat) (d : D), σw[i]? = some (.ow d) → ∃ a : Addr, σ[i]? = some (some (.ref a)) ∧ ¬ S a ∧ OwnAt G H S d a
  inj : ∀ (i j : Nat) (d e : D) (a : Addr), σw[i]? = some (.ow d) → σw[j]? = some (.ow e) → σ[i]? = some (some (.ref a)) → σ[j]? = some (some (.ref a)) → i = j
  trk : ∀ a, S a → H a ≠ none

structure Ext (H : Hp) (S O : Addr → Prop) (H' : Hp) (S' O' : Addr → Prop) : Prop where
  keep : ∀ a o, H a = some o → ¬ O a → H' a = some o
  sub : ∀ a, S a → S' a
  grow : ∀ a, S' a → S a ∨ O a ∨ H a = none
  own : ∀ a, O' a → O a ∨ H a = none
  there : ∀ a, H a ≠ none → H' a ≠ none
section
variable {G : GC} {H H1 H2 : Hp} {S O S1 O1 S2 O2 : Addr → Prop} {σ σ1 : St} {σw σw1 : Ev}
theorem Ext.refl : Ext H S O H S O := ⟨fun _ _ h _ => h, fun _ h => h, fun _ h => .inl h, fun _ h => .inl h, fun _ h => h⟩
theorem Ext.trans (a : Ext H S O H1 S1 O1) (b : Ext H1 S1 O1 H2 S2 O2) : Ext H S O H2 S2 O2 where
  keep := fun x o h n => b.keep x o (a.keep x o h n) fun z => (a.own x z).elim n fun q => by rw [q] at h; cases h
  sub := fun x s => b.sub x (a.sub x s)
  grow := fun x s => by
    rcases b.grow x s with h | h | h
    · exact a.grow x h
    · exact .inr (a.own x h)
    · refine .inr (.inr ?_)
      cases q : H x with
      | none => rfl
      | some o => exact absurd h (a.there x (by rw [q]; simp))
  own := fun x s => by
    rcases b.own x s with h | h
    · exact a.own x h
    · refine .inr ?_
      cases q : H x with
      | none => rfl
      | some o => exact absurd h (a.there x (by rw [q]; simp))
  there := fun x h => b.there x (a.there x h)
theorem Ext.free (a : Ext H S O H1 S1 O1) {x : Addr} (h : H1 x = none) : H x = none := by
  cases q : H x with
  | none => rfl
  | some o => exact absurd h (a.there x (by rw [q]; simp))
theorem Rel.noS (r : Rel G H S σ σw) {a : Addr} (o : Own σ σw a) : ¬ S a := by
  obtain ⟨i, d, h1, h2⟩ := o
  obtain ⟨b, e, n, _⟩ := r.ow i d h1
  rw [h2] at e; cases e
  exact n
theorem Rel.ownNe (r : Rel G H S σ σw) {a : Addr} (o : Own σ σw a) : ∃ u, H a = some u ∧ ∀ xs, u ≠ .tup xs := by
  obtain ⟨i, d, h1, h2⟩ := o
  obtain ⟨b, e, n, q⟩ := r.ow i d h1
  rw [h2] at e; cases e
  exact q.has
theorem Rel.kp (r : Rel G H S σ σw) (e : Ext H S (Own σ σw) H1 S1 O1) : Kp H S H1 S1 :=
  ⟨e.sub, fun a o s h => e.keep a o h fun z => r.noS z s, fun a xs h => e.keep a _ h fun z => by
    obtain ⟨u, h1, h2⟩ := r.ownNe z
    rw [h] at h1; cases h1
    exact h2 _ rfl⟩

/-- new objects alone -/
structure Gr (H : Hp) (S : Addr → Prop) (H' : Hp) (S' : Addr → Prop) : Prop where
  keep : ∀ a o, H a = some o → H' a = some o
  sub : ∀ a, S a → S' a
  grow : ∀ a, S' a → S a ∨ (H a = none ∧ H' a ≠ none)
theorem Gr.refl : Gr H S H S := ⟨fun _ _ h => h, fun _ h => h, fun _ h => .inl h⟩
theorem Gr.kp (g : Gr H S H1 S1) : Kp H S H1 S1 := ⟨g.sub, fun a o _ h => g.keep a o h, fun a xs h => g.keep a _ h⟩
theorem Gr.ext (g : Gr H S H1 S1) : Ext H S O H1 S1 O :=
  ⟨fun a o h _ => g.keep a o h, g.sub, fun a s => (g.grow a s).elim .inl fun h => .inr (.inr h.1), fun _ h => .inl h, fun a h => by
    cases q : H a with
    | none => exact absurd q h
    | some o => rw [g.keep a o q]; simp⟩
theorem Gr.trans (a : Gr H S H1 S1) (b : Gr H1 S1 H2 S2) : Gr H S H2 S2 :=
  ⟨fun x o h => b.keep x o (a.keep x o h), fun x s => b.sub x (a.sub x s), fun x s => by
    rcases b.grow x s with h | ⟨h1, h2⟩
    · rcases a.grow x h with h | ⟨h1, h2⟩
      · exact .inl h
      · refine .inr ⟨h1, ?_⟩
        cases q : H1 x with
        | none => exact absurd q h2
        | some o => rw [b.keep x o q]; simp
    · refine .inr ⟨?_, h2⟩
      cases q : H x with
      | none => rfl
      | some o => rw [a.keep x o q] at h1; cases h1⟩
/-- a new object that nothing frozen holds -/
theorem Gr.new {a : Addr} {o : HO} (h : H a = none) : Gr H S (upd H a o) S :=
  ⟨fun b u q => by rw [upd_ne (ne_of_none q h)]; exact q, fun _ s => s, fun _ s => .inl s⟩
/-- a new object, frozen -/
theorem Gr.newS {a : Addr} {o : HO} (h : H a = none) : Gr H S (upd H a o) (fun b => S b ∨ b = a) :=
  ⟨fun b u q => by rw [upd_ne (ne_of_none q h)]; exact q, fun _ s => .inl s, fun b s => s.elim .inl fun e => .inr ⟨by rw [e]; exact h, by rw [e, upd_same]; simp⟩⟩
theorem Rel.gr (r : Rel G H S σ σw) (g : Gr H S H1 S1) : Rel G H1 S1 σ σw where
  len := r.len
  fr := fun i d h => by
    obtain ⟨v, h1, h2⟩ := r.fr i d h
    exact ⟨v, h1, h2.kp g.kp⟩
  ow := fun i d h => by
    obtain ⟨a, h1, h2, h3⟩ := r.ow i d h
    refine ⟨a, h1, fun s => ?_, h3.kp g.kp fun o q => g.keep a o q⟩
    rcases g.grow a s with h | ⟨h, _⟩
    · exact h2 h
    · obtain ⟨o, q, _⟩ := h3.has
      rw [q] at h; cases h
  inj := r.inj
  trk := fun a s => by
    rcases g.grow a s with h | ⟨_, h⟩
    · have := r.trk a h
      cases q : H a with
      | none => exact absurd q this
      | some o => rw [g.keep a o q]; simp
    · exact h
/-- .. behind what leaves what the slots own -/
theorem Own.set {i : Nat} {d : D} {x : Option V} {a : Addr} (o : Own (σ.set i x) (σw.set i (.fr d)) a) : Own σ σw a := by
  obtain ⟨j, e, h1, h2⟩ := o
  by_cases hj : j = i
  · subst hj
    by_cases hl : j < σw.length
    · rw [List.getElem?_set_self hl] at h1; cases h1
    · rw [List.getElem?_eq_none (by simpa using hl)] at h1; cases h1
  · rw [List.getElem?_set_ne (Ne.symm hj)] at h1 h2
    exact ⟨j, e, h1, h2⟩
theorem Own.setU {i : Nat} {a : Addr} {x : Option V} (o : Own (σ.set i x) (σw.set i .un) a) : Own σ σw a := by
  obtain ⟨j, e, h1, h2⟩ := o
  by_cases hj : j = i
  · subst hj
    by_cases hl : j < σw.length
    · rw [List.getElem?_set_self hl] at h1; cases h1
    · rw [List.getElem?_eq_none (by simpa using hl)] at h1; cases h1
  · rw [List.getElem?_set_ne (Ne.symm hj)] at h1 h2
    exact ⟨j, e, h1, h2⟩
theorem Rel.set (r : Rel G H S σ σw) {i : Nat} {d : D} {v : V} (h : Rep G H S d v) : Rel G H S (σ.set i (some v)) (σw.set i (.fr d)) where
  len := by simpa using r.len
  fr := fun j e h1 => by
    by_cases hj : j = i
    · subst hj
      by_cases hl : j < σw.length
      · rw [List.getElem?_set_self hl] at h1; cases h1
        exact ⟨v, by rw [List.getElem?_set_self (by rw [r.len]; exact hl)], h⟩
      · rw [List.getElem?_eq_none (by simpa using hl)] at h1; cases h1
    · rw [List.getElem?_set_ne (Ne.symm hj)] at h1 ⊢
      exact r.fr j e h1
  ow := fun j e h1 => by
    by_cases hj : j = i
    · subst hj
      by_cases hl : j < σw.length
      · rw [List.getElem?_set_self hl] at h1; cases h1
      · rw [List.getElem?_eq_none (by simpa using hl)] at h1; cases h1
    · rw [List.getElem?_set_ne (Ne.symm hj)] at h1 ⊢
      exact r.ow j e h1
  inj := fun j k d1 d2 a h1 h2 h3 h4 => by
    have f : ∀ {j : Nat} {d1 : D}, (σw.set i (.fr d))[j]? = some (.ow d1) → j ≠ i := fun {j d1} h e => by
      subst e
      by_cases hl : j < σw.length
      · rw [List.getElem?_set_self hl] at h; cases h
      · rw [List.getElem?_eq_none (by simpa using hl)] at h; cases h
    have n1 := f h1
    have n2 := f h2
    rw [List.getElem?_set_ne (Ne.symm n1)] at h1 h3
    rw [List.getElem?_set_ne (Ne.symm n2)] at h2 h4
    exact r.inj j k d1 d2 a h1 h2 h3 h4
  trk := r.trk
theorem Rel.setU (r : Rel G H S σ σw) {i : Nat} {x : Option V} : Rel G H S (σ.set i x) (σw.set i .un) where
  len := by simpa using r.len
  fr := fun j e h1 => by
    by_cases hj : j = i
    · subst hj
      by_cases hl : j < σw.length
      · rw [List.getElem?_set_self hl] at h1; cases h1
      · rw [List.getElem?_eq_none (by simpa using hl)] at h1; cases h1
    · rw [List.getElem?_set_ne (Ne.symm hj)] at h1 ⊢
      exact r.fr j e h1
  ow := fun j e h1 => by
    by_cases hj : j = i
    · subst hj
      by_cases hl : j < σw.length
      · rw [List.getElem?_set_self hl] at h1; cases h1
      · rw [List.getElem?_eq_none (by simpa using hl)] at h1; cases h1
    · rw [List.getElem?_set_ne (Ne.symm hj)] at h1 ⊢
      exact r.ow j e h1
  inj := fun j k d1 d2 a h1 h2 h3 h4 => by
    have f : ∀ {j : Nat} {d1 : D}, (σw.set i .un)[j]? = some (.ow d1) → j ≠ i := fun {j d1} h e => by
      subst e
      by_cases hl : j < σw.length
      · rw [List.getElem?_set_self hl] at h; cases h
      · rw [List.getElem?_eq_none (by simpa using hl)] at h; cases h
    have n1 := f h1
    have n2 := f h2
    rw [List.getElem?_set_ne (Ne.symm n1)] at h1 h3
    rw [List.getElem?_set_ne (Ne.symm n2)] at h2 h4
    exact r.inj j k d1 d2 a h1 h2 h3 h4
  trk := r.trk
/-- a new own object into a slot -/
theorem Rel.setO (r : Rel G H S σ σw) {i : Nat} {d : D} {a : Addr} (hS : ¬ S a) (hO : ¬ Own σ σw a) (h : OwnAt G H S d a) : Rel G H S (σ.set i (some (.ref a))) (σw.set i (.ow d)) where
  len := by simpa using r.len
  fr := fun j e h1 => by
    by_cases hj : j = i
    · subst hj
      by_cases hl : j < σw.length
      · rw [List.getElem?_set_self hl] at h1; cases h1
      · rw [List.getElem?_eq_none (by simpa using hl)] at h1; cases h1
    · rw [List.getElem?_set_ne (Ne.symm hj)] at h1 ⊢
      exact r.fr j e h1
  ow := fun j e h1 => by
    by_cases hj : j = i
    · subst hj
      by_cases hl : j < σw.length
      · rw [List.getElem?_set_self hl] at h1; cases h1
        exact ⟨a, by rw [List.getElem?_set_self (by rw [r.len]; exact hl)], hS, h⟩
      · rw [List.getElem?_eq_none (by simpa using hl)] at h1; cases h1
    · rw [List.getElem?_set_ne (Ne.symm hj)] at h1 ⊢
      exact r.ow j e h1
  inj := fun j k d1 d2 b h1 h2 h3 h4 => by
    have me : ∀ {j : Nat} {d1 : D} {b : Addr}, j = i → (σw.set i (.ow d))[j]? = some (.ow d1) → (σ.set i (some (.ref a)))[j]? = some (some (.ref b)) → b = a := fun {j d1 b} e h q => by
      subst e
      by_cases hl : j < σ.length
      · rw [List.getElem?_set_self hl] at q; cases q; rfl
      · rw [List.getElem?_eq_none (by simpa using hl)] at q; cases q
    by_cases n1 : j = i
    · by_cases n2 : k = i
      · rw [n1, n2]
      · have e1 := me n1 h1 h3
        rw [List.getElem?_set_ne (Ne.symm n2)] at h2 h4
        subst e1
        exact absurd ⟨k, d2, h2, h4⟩ hO
    · by_cases n2 : k = i
      · have e1 := me n2 h2 h4
        rw [List.getElem?_set_ne (Ne.symm n1)] at h1 h3
        subst e1
        exact absurd ⟨j, d1, h1, h3⟩ hO
      · rw [List.getElem?_set_ne (Ne.symm n1)] at h1 h3
        rw [List.getElem?_set_ne (Ne.symm n2)] at h2 h4
        exact r.inj j k d1 d2 b h1 h2 h3 h4
  trk := r.trk
theorem Own.setO {i : Nat} {d : D} {a b : Addr} (o : Own (σ.set i (some (.ref a))) (σw.set i (.ow d)) b) : Own σ σw b ∨ b = a := by
  obtain ⟨j, e, h1, h2⟩ := o
  by_cases hj : j = i
  · subst hj
    by_cases hl : j < σ.length
    · rw [List.getElem?_set_self hl] at h2; cases h2; exact .inr rfl
    · rw [List.getElem?_eq_none (by simpa using hl)] at h2; cases h2
  · rw [List.getElem?_set_ne (Ne.symm hj)] at h1 h2
    exact .inl ⟨j, e, h1, h2⟩
/-- what a slot owns is frozen -/
theorem Rel.frz (r : Rel G H S σ σw) {i : Nat} {d : D} {a : Addr} (hi : σw[i]? = some (.ow d)) (ha : σ[i]? = some (some (.ref a))) :
    Rel G H (fun b => S b ∨ b = a) σ (σw.set i (.fr d)) ∧ Rep G H (fun b => S b ∨ b = a) d (.ref a) ∧ Ext H S (Own σ σw) H (fun b => S b ∨ b = a) (Own σ (σw.set i (.fr d))) := by
  obtain ⟨a', h1, h2, h3⟩ := r.ow i d hi
  rw [ha] at h1; cases h1
  have k : Kp H S H (fun b => S b ∨ b = a) := ⟨fun _ s => .inl s, fun _ _ _ h => h, fun _ _ h => h⟩
  have hl : i < σw.length := (List.getElem?_eq_some_iff.mp hi).1
  have sub : ∀ b, Own σ (σw.set i (.fr d)) b → Own σ σw b := fun b ⟨j, e, q1, q2⟩ => by
    by_cases hj : j = i
    · subst hj; rw [List.getElem?_set_self hl] at q1; cases q1
    · rw [List.getElem?_set_ne (Ne.symm hj)] at q1; exact ⟨j, e, q1, q2⟩
  have nw : ∀ {j : Nat} {e : D}, (σw.set i (.fr d))[j]? = some (.ow e) → j ≠ i ∧ σw[j]? = some (.ow e) := fun {j e} h => by
    by_cases hj : j = i
    · subst hj; rw [List.getElem?_set_self hl] at h; cases h
    · rw [List.getElem?_set_ne (Ne.symm hj)] at h; exact ⟨hj, h⟩
  refine ⟨⟨by simpa using r.len, fun j e q => ?_, fun j e q => ?_, fun j m e1 e2 b q1 q2 q3 q4 => r.inj j m e1 e2 b (nw q1).2 (nw q2).2 q3 q4, fun b s => ?_⟩, h3.frz, ⟨fun _ _ h _ => h, fun _ s => .inl s, fun b s => s.elim .inl fun e => .inr (.inl ⟨i, d, hi, by rw [e]; exact ha⟩), fun b o => .inl (sub b o), fun _ h => h⟩⟩
  · by_cases hj : j = i
    · subst hj
      rw [List.getElem?_set_self hl] at q; cases q
      exact ⟨_, ha, h3.frz⟩
    · rw [List.getElem?_set_ne (Ne.symm hj)] at q
      obtain ⟨v, q1, q2⟩ := r.fr j e q
      exact ⟨v, q1, q2.kp k⟩
  · obtain ⟨n, q'⟩ := nw q
    obtain ⟨b, q1, q2, q3⟩ := r.ow j e q'
    refine ⟨b, q1, fun s => s.elim q2 fun eb => ?_, q3.kp k fun _ h => h⟩
    subst eb
    exact n (r.inj j i e d b q' hi q1 ha)
  · rcases s with s | s
    · exact r.trk b s
    · obtain ⟨o, q, _⟩ := h3.has
      rw [s, q]; simp
end

/-! ### what is wanted behind a mirror's answer -/
structure RVal (α β : Type) where
  rel : Hp → Hp → (Addr → Prop) → (Addr → Prop) → α → β → Prop
  back : ∀ {H H1 H2 : Hp} {S O : Addr → Prop} {a : α} {b : β}, (∀ x, H x ≠ none → H1 x ≠ none) → rel H1 H2 S O a b → rel H H2 S O a b
  less : ∀ {H H2 : Hp} {S O O' : Addr → Prop} {a : α} {b : β}, (∀ x, O' x → O x) → rel H H2 S O a b → rel H H2 S O' a b
def vD (G : GC) : RVal D V := ⟨fun _ H S _ d v => Rep G H S d v, fun _ h => h, fun _ h => h⟩
def vL (G : GC) : RVal (List D) (List V) := ⟨fun _ H S _ d v => Reps G H S d v, fun _ h => h, fun _ h => h⟩
def vB : RVal Bool Bool := ⟨fun _ _ _ _ a b => a = b, fun _ h => h, fun _ h => h⟩
/-- a new list -/
def vF (G : GC) : RVal (List D) V := ⟨fun H0 H S O ds v => ∃ a, v = .ref a ∧ H0 a = none ∧ ¬ S a ∧ ¬ O a ∧ OwnAt G H S (.lst ds) a, fun k ⟨a, h1, h2, h3⟩ => ⟨a, h1, Classical.byContradiction fun q => k a q h2, h3⟩, fun k ⟨a, h1, h2, h3, h4, h5⟩ => ⟨a, h1, h2, h3, fun z => h4 (k a z), h5⟩⟩
/-- .. as a def's value -/
def vR (G : GC) : RVal D V := ⟨fun H0 H S O d v => ∃ ds, d = .lst ds ∧ (vF G).rel H0 H S O ds v, fun k ⟨ds, h1, h2⟩ => ⟨ds, h1, (vF G).back k h2⟩, fun k ⟨ds, h1, h2⟩ => ⟨ds, h1, (vF G).less k h2⟩⟩
def vG (G : GC) (σ : St) : RVal (List Arg) (List V) := ⟨fun _ H S _ as vs => Paired (fun (a : Arg) (v : V) => match a with
  | .dv d => Rep G H S d v
  | .ox i => σ[i]? = some (some v)) as vs, fun _ h => h, fun _ h => h⟩

section
variable {G : GC} {W : WX} {σ : St} {H H1 : Hp} {S O S1 O1 : Addr → Prop} {α β γ δ : Type}
def Post (G : GC) (W : WX) (σ : St) (H : Hp) (S O : Addr → Prop) (R0 : RVal α β) (r : R α) (Q : β → Hp → Prop) : Prop :=
  match r with
  | .ok d σ1 => ∀ v H1 S1, Rel G H1 S1 σ σ1 → Ext H S O H1 S1 (Own σ σ1) → R0.rel H H1 S1 (Own σ σ1) d v → Q v H1
  | .exc c fs σ1 => ∀ H1 S1 dx gs, Rel G H1 S1 σ σ1 → Ext H S O H1 S1 (Own σ σ1) → H1 dx = some (.xd gs) → RepF G H1 S1 fs gs → W (.ref (G.ca c)) (some dx) σ H1
  | .stuck => False
theorem Post.ext {R0 : RVal α β} {r : R α} {Q : β → Hp → Prop} (e : Ext H S O H1 S1 O1) (p : Post G W σ H S O R0 r Q) : Post G W σ H1 S1 O1 R0 r Q := by
  cases r with
  | ok d σ1 => exact fun v H2 S2 q1 q2 q3 => p v H2 S2 q1 (e.trans q2) (R0.back e.there q3)
  | exc c fs σ1 => exact fun H2 S2 dx gs q1 q2 q3 => p H2 S2 dx gs q1 (e.trans q2) q3
  | stuck => exact p
theorem Post.mono {R0 : RVal α β} {r : R α} {Q Q' : β → Hp → Prop} (p : Post G W σ H S O R0 r Q) (h : ∀ v H1, Q v H1 → Q' v H1) : Post G W σ H S O R0 r Q' := by
  cases r with
  | ok d σ1 => exact fun v H2 S2 q1 q2 q3 => h _ _ (p v H2 S2 q1 q2 q3)
  | exc c fs σ1 => exact p
  | stuck => exact p
theorem Post.bind {R0 : RVal α β} {R1 : RVal γ δ} {r : R α} {f : α → Ev → R γ} {Q : δ → Hp → Prop} (p : Post G W σ H S O R1 (r.bind f) Q) :
    Post G W σ H S O R0 r fun x H1 => ∃ d σ1 S1, Rel G H1 S1 σ σ1 ∧ Ext H S O H1 S1 (Own σ σ1) ∧ R0.rel H H1 S1 (Own σ σ1) d x ∧ Post G W σ H1 S1 (Own σ σ1) R1 (f d σ1) Q := by
  cases r with
  | ok d σ1 => exact fun v H2 S2 q1 q2 q3 => ⟨d, σ1, S2, q1, q2, q3, Post.ext q2 p⟩
  | exc c fs σ1 => exact p
  | stuck => exact p
end

/-- an expression's reading by its mirror -/
def RD {α β : Type} (G : GC) (W : WX) (R0 : RVal α β) (m : Ev → R α) : St → Hp → (β → Hp → Prop) → Prop := fun σ H Q =>
  ∃ σw S, Rel G H S σ σw ∧ Post G W σ H S (Own σ σw) R0 (m σw) Q
abbrev rE (G : GC) (W : WX) (m : EM) : TE := RD G W (vD G) m
abbrev rL (G : GC) (W : WX) (m : LM) : TA := RD G W (vL G) m
abbrev rT (G : GC) (W : WX) (m : TM) : TT := RD G W vB m
abbrev rF (G : GC) (W : WX) (m : LM) : TE := RD G W (vF G) m
abbrev rG (G : GC) (W : WX) (m : AM) : TA := fun σ => RD G W (vG G σ) m σ
theorem _root_.L2.PE.imp {X : Cx} {e : Expr} {t t' : TE} (p : PE X e t) (h : ∀ σ H Q, t' σ H Q → t σ H Q) : PE X e t' := ⟨fun pins s σ H Q I q => p.run pins s σ H Q I (h σ H Q q)⟩
theorem _root_.L2.PT.imp {X : Cx} {e : Expr} {t t' : TT} (p : PT X e t) (h : ∀ σ H Q, t' σ H Q → t σ H Q) : PT X e t' := ⟨fun pins s σ H Q I q => p.run pins s σ H Q I (h σ H Q q)⟩
theorem _root_.L2.PW.imp {X : Cx} {e : Expr} {t t' : TT} (p : PW X e t) (h : ∀ σ H Q, t' σ H Q → t σ H Q) : PW X e t' := ⟨fun wh pins s σ H Q I q => p.run wh pins s σ H Q I (h σ H Q q)⟩
theorem _root_.L2.PA.imp {X : Cx} {e : List Expr} {t t' : TA} (p : PA X e t) (h : ∀ σ H Q, t' σ H Q → t σ H Q) : PA X e t' := ⟨fun pos pins s σ H Q I q => p.run pos pins s σ H Q I (h σ H Q q)⟩
theorem _root_.L2.PS.imp {X : Cx} {e : Stmt} {t t' : TS} (p : PS X e t) (h : ∀ D σ H, t' D σ H → t D σ H) : PS X e t' := ⟨fun pins s σ H D I q => p.run pins s σ H D I (h D σ H q)⟩
theorem _root_.L2.PSs.imp {X : Cx} {e : List Stmt} {t t' : TS} (p : PSs X e t) (h : ∀ D σ H, t' D σ H → t D σ H) : PSs X e t' := ⟨fun pins s σ H D I q => p.run pins s σ H D I (h D σ H q)⟩
section
variable {G : GC} {W : WX} {σ : St} {H H1 : Hp} {S O : Addr → Prop} {α β γ δ : Type}
/-- the continuation of a bind, as a reading -/
theorem RD.bind {R0 : RVal α β} {R1 : RVal γ δ} {m : Ev → R α} {f : α → Ev → R γ} {Q : δ → Hp → Prop} (h : RD G W R1 (fun σ => (m σ).bind f) σ H Q) :
    RD G W R0 m σ H fun x H1 => ∃ d σ1 S1, Rel G H1 S1 σ σ1 ∧ R0.rel H H1 S1 (Own σ σ1) d x ∧ Post G W σ H1 S1 (Own σ σ1) R1 (f d σ1) Q := by
  obtain ⟨σw, S, r, p⟩ := h
  exact ⟨σw, S, r, (Post.bind (R0 := R0) p).mono fun v H1 ⟨d, σ1, S1, q1, _, q3, q4⟩ => ⟨d, σ1, S1, q1, q3, q4⟩⟩
theorem Post.opt {R0 : RVal α β} {o : Option α} {σw : Ev} {Q : β → Hp → Prop} (p : Post G W σ H S O R0 (.opt o σw) Q) : ∃ d, o = some d ∧ Post G W σ H S O R0 (.ok d σw) Q := by
  cases o with
  | none => exact p.elim
  | some d => exact ⟨d, rfl, p⟩
/-- a value comes, new objects alone -/
theorem Post.fin {R0 : RVal α β} {d : α} {v : β} {σw : Ev} {S1 : Addr → Prop} {Q : β → Hp → Prop} (r : Rel G H S σ σw) (p : Post G W σ H S (Own σ σw) R0 (.ok d σw) Q) (g : Gr H S H1 S1) (h : R0.rel H H1 S1 (Own σ σw) d v) : Q v H1 :=
  p v H1 S1 (r.gr g) g.ext h
end
end VM
end
section
set_option linter.all false
set_option maxRecDepth 100000
/-! VRule: the rules for expressions. -/
namespace VM
open PySem PySem.Spec L2
theorem sz : sizeLine = 16777216 := sizeLine_eq
section
variable {G : GC} {W : WX} {X : Cx} {σ : L2.St} {H H1 : Hp} {S S1 O : Addr → Prop} {σw : Ev} {α β γ δ : Type} {a b c e : Expr} {es : List Expr} {ma mb mc m : EM} {l : LM} {pos : Pos}
theorem RD.mono {R0 : RVal α β} {m : Ev → R α} {Q Q' : β → Hp → Prop} (h : RD G W R0 m σ H Q) (k : ∀ x H1, Q x H1 → Q' x H1) : RD G W R0 m σ H Q' := by
  obtain ⟨σw, S, r, p⟩ := h
  exact ⟨σw, S, r, p.mono k⟩
/-- a new object that is frozen at once -/
theorem Rel.addS (r : Rel G H S σ σw) {x : Addr} (n : ¬ Own σ σw x) (h : H x ≠ none) : Rel G H (fun b => S b ∨ b = x) σ σw := by
  have k : Kp H S H (fun b => S b ∨ b = x) := ⟨fun _ s => .inl s, fun _ _ _ h => h, fun _ _ h => h⟩
  refine ⟨r.len, fun i d q => ?_, fun i d q => ?_, r.inj, fun y s => ?_⟩
  · obtain ⟨v, q1, q2⟩ := r.fr i d q
    exact ⟨v, q1, q2.kp k⟩
  · obtain ⟨y, q1, q2, q3⟩ := r.ow i d q
    refine ⟨y, q1, fun s => s.elim q2 fun z => ?_, q3.kp k fun _ h => h⟩
    subst z
    exact n ⟨i, d, q, q1⟩
  · rcases s with s | s
    · exact r.trk y s
    · rw [s]; exact h

/-! ### constants, names -/
theorem je_c {v : V} {d : D} (h : ∀ H S, Rep G H S d v) (p : PE X e (tC v)) : PE X e (rE G W (eC d)) :=
  p.imp fun σ H Q ⟨σw, S, r, q⟩ => Post.fin r q .refl (h H S)
theorem je_v (i : Nat) (p : PE X e (tVar i)) : PE X e (rE G W (eV i)) := p.imp fun σ H Q ⟨σw, S, r, q⟩ => by
  unfold eV at q
  split at q
  · rename_i d hd
    obtain ⟨v, h1, h2⟩ := r.fr i d hd
    exact ⟨v, h1, Post.fin r q .refl h2⟩
  · exact q.elim
theorem je_fz (i : Nat) (p : PE X e (tVar i)) : PE X e (rE G W (eFz i)) := p.imp fun σ H Q ⟨σw, S, r, q⟩ => by
  unfold eFz at q
  split at q
  · rename_i d hd
    obtain ⟨v, h1, h2⟩ := r.fr i d hd
    exact ⟨v, h1, Post.fin r q .refl h2⟩
  · rename_i d hd
    obtain ⟨x, h1, _, _⟩ := r.ow i d hd
    obtain ⟨f1, f2, f3⟩ := r.frz hd h1
    exact ⟨_, h1, q _ _ _ f1 f3 f2⟩
  · exact q.elim

/-! ### operations -/
def Op2 (G : GC) (X : Cx) (f : Value → Value → Sem Value) (op : D → D → Option D) : Prop :=
  ∃ r : R2, OpR X f r ∧ ∀ (H : Hp) (S : Addr → Prop) (x y z : D) (v u : V) (Q : VK), Rep G H S x v → Rep G H S y u → op x y = some z → (∀ w H1 S1, Gr H S H1 S1 → Rep G H1 S1 z w → Q w H1) → r v u H Q
def orO (f g : D → D → Option D) : D → D → Option D := fun x y =>
  match f x y with
  | some z => some z
  | none => g x y
theorem Op2.or {f : Value → Value → Sem Value} {o1 o2 : D → D → Option D} (h1 : Op2 G X f o1) (h2 : Op2 G X f o2) : Op2 G X f (orO o1 o2) := by
  obtain ⟨r1, p1, q1⟩ := h1
  obtain ⟨r2, p2, q2⟩ := h2
  refine ⟨_, p1.or p2, fun H S x y z v u Q rx ry e k => ?_⟩
  unfold orO at e
  split at e
  · rename_i z' e'
    cases e
    exact .inl (q1 H S x y _ v u Q rx ry e' k)
  · exact .inr (q2 H S x y z v u Q rx ry e k)
theorem op2_imp {r : R2} {op : D → D → Option D} {Q : VK} (of : ∀ (H : Hp) (S : Addr → Prop) (x y z : D) (v u : V) (Q : VK), Rep G H S x v → Rep G H S y u → op x y = some z → (∀ w H1 S1, Gr H S H1 S1 → Rep G H1 S1 z w → Q w H1) → r v u H Q)
    (h : rE G W (e2 op ma mb) σ H Q) : tOp r (rE G W ma) (rE G W mb) σ H Q := by
  refine (RD.bind (R0 := vD G) h).mono fun x H1 ⟨d, σ1, S1, rel, rep, p⟩ => ?_
  refine ⟨σ1, S1, rel, (Post.bind (R0 := vD G) p).mono fun y H2 ⟨d2, σ2, S2, rel2, ext2, rep2, p2⟩ => ?_⟩
  obtain ⟨z, hz, p3⟩ := p2.opt
  exact of _ _ _ _ _ _ _ _ (Rep.kp (rel.kp ext2) rep) rep2 hz fun w H3 S3 g rw => Post.fin rel2 p3 g rw
theorem je_op {o : Operator} {op : D → D → Option D} (ho : Op2 G X (binaryOp o) op) (ha : PE X a (rE G W ma)) (hb : PE X b (rE G W mb)) : PE X (.BinOp a o b pos) (rE G W (e2 op ma mb)) := by
  obtain ⟨r, hr, of⟩ := ho
  exact (pe_op hr ha hb).imp fun σ H Q h => op2_imp of h
theorem je_cmp {o : CmpOp} {op : D → D → Option D} (ho : Op2 G X (compareOp o) op) (ha : PE X a (rE G W ma)) (hb : PE X b (rE G W mb)) (hm : behindInMarks o b = false) : PE X (.Compare a [o] [b] pos) (rE G W (e2 op ma mb)) := by
  obtain ⟨r, hr, of⟩ := ho
  exact (pe_cmpR hr ha hb hm).imp fun σ H Q h => op2_imp of h
theorem tE_imp {Q : Bool → Hp → Prop} (h : rT G W (tE ma) σ H Q) : rE G W ma σ H fun x H1 => ∃ k, x = .bl k ∧ Q k H1 := by
  refine (RD.bind (R0 := vD G) h).mono fun x H1 ⟨d, σ1, S1, rel, rep, p⟩ => ?_
  have rep' : Rep G H1 S1 d x := rep
  cases rep' with
  | bl k => exact ⟨k, rfl, Post.fin rel p .refl rfl⟩
  | _ => exact p.elim
theorem jt_cmp {o : CmpOp} {op : D → D → Option D} (ho : Op2 G X (compareOp o) op) (ha : PE X a (rE G W ma)) (hb : PE X b (rE G W mb)) (hm : behindInMarks o b = false) : PT X (.Compare a [o] [b] pos) (rT G W (tE (e2 op ma mb))) := by
  obtain ⟨r, hr, of⟩ := ho
  exact (pt_cmpR hr ha hb hm).imp fun σ H Q h => op2_imp of (tE_imp h)
theorem jt_val (ha : PE X a (rE G W ma)) (he : ∀ whole, isTrue a X.env whole = (do let v ← whole; standAt a.pos; holding [v] (truthy v)) := by intro _; rfl) : PT X a (rT G W (tE ma)) :=
  (pt_val ha he).imp fun σ H Q h => tE_imp h
def truD : D → Option Bool
  | .non => some false
  | .bl b => some b
  | .int i => some (i != 0)
  | .str x => if x.length ≤ 16777216 then some ((x.length : Int) != 0) else none
  | .lst ds => some (!ds.isEmpty)
  | .tup ds => some (!ds.isEmpty)
  | .scr ds => some (!ds.isEmpty)
  | _ => none
theorem reps_empty {ds : List D} {vs : List V} (h : Reps G H S ds vs) : (!ds.isEmpty) = !vs.isEmpty := by cases h <;> rfl
theorem truD_ok {d : D} {v : V} {k : Bool} (r : Rep G H S d v) (e : truD d = some k) : TruV G.K v H k := by
  cases r with
  | non => cases e; rfl
  | bl b => cases e; rfl
  | int i => cases e; rfl
  | str x =>
    have e' : (if x.length ≤ 16777216 then some ((x.length : Int) != 0) else none) = some k := e
    by_cases hz : x.length ≤ 16777216
    · rw [if_pos hz] at e'; cases e'; exact ⟨by rw [sz]; exact hz, rfl⟩
    · rw [if_neg hz] at e'; cases e'
  | lst s h r => cases e; exact .inl ⟨_, .of h, reps_empty r⟩
  | tup h r => cases e; exact .inr (.inl ⟨_, .of h, reps_empty r⟩)
  | scr s r => cases e; exact .inl ⟨_, s.sql, reps_empty r⟩
  | _ => cases e
theorem jt_tru (hK : X.K = G.K) (ha : PE X a (rE G W ma)) (he : ∀ whole, isTrue a X.env whole = (do let v ← whole; standAt a.pos; holding [v] (truthy v)) := by intro _; rfl) : PT X a (rT G W (tTru truD ma)) :=
  (pt_truth ha he).imp fun σ H Q h => by
    refine (RD.bind (R0 := vD G) h).mono fun x H1 ⟨d, σ1, S1, rel, rep, p⟩ => ?_
    obtain ⟨z, hz, p3⟩ := p.opt
    exact ⟨z, by rw [hK]; exact truD_ok rep hz, Post.fin rel p3 .refl rfl⟩
variable {ta tb : TM} {rest : List Expr}
theorem jt_not (ha : PT X a (rT G W ta)) : PT X (.UnaryOp .Not a pos) (rT G W (tNot ta)) := (L2.pt_not ha).imp fun σ H Q h => by
  refine (RD.bind (R0 := vB) h).mono fun x H1 ⟨d, σ1, S1, rel, rep, p⟩ => ?_
  have e : d = x := rep
  subst e
  exact Post.fin rel p .refl rfl
theorem jw_and1 (ha : PT X a (rT G W ta)) : PW X (.BoolOp .And [a] pos) (rT G W ta) := pw_and1 ha
theorem jw_or1 (ha : PT X a (rT G W ta)) : PW X (.BoolOp .Or [a] pos) (rT G W ta) := pw_or1 ha
theorem jw_and (ha : PT X a (rT G W ta)) (hb : PW X (.BoolOp .And (b :: rest) pos) (rT G W tb)) : PW X (.BoolOp .And (a :: b :: rest) pos) (rT G W (tAnd ta tb)) := (pw_and ha hb).imp fun σ H Q h => by
  refine (RD.bind (R0 := vB) h).mono fun x H1 ⟨d, σ1, S1, rel, rep, p⟩ => ?_
  have e : d = x := rep
  subst e
  cases d with
  | true => exact ⟨σ1, S1, rel, p⟩
  | false => exact Post.fin rel p .refl rfl
theorem jw_or (ha : PT X a (rT G W ta)) (hb : PW X (.BoolOp .Or (b :: rest) pos) (rT G W tb)) : PW X (.BoolOp .Or (a :: b :: rest) pos) (rT G W (tOr ta tb)) := (pw_or ha hb).imp fun σ H Q h => by
  refine (RD.bind (R0 := vB) h).mono fun x H1 ⟨d, σ1, S1, rel, rep, p⟩ => ?_
  have e : d = x := rep
  subst e
  cases d with
  | false => exact ⟨σ1, S1, rel, p⟩
  | true => exact Post.fin rel p .refl rfl
theorem je_one {op} (h : PE X a (rE G W m)) : PE X (.BoolOp op [a] pos) (rE G W m) := pe_one h
theorem je_and (ha : PE X a (rE G W ma)) (hb : PE X (.BoolOp .And (b :: rest) pos) (rE G W mb)) : PE X (.BoolOp .And (a :: b :: rest) pos) (rE G W (eAnd ma mb)) := (pe_and ha hb).imp fun σ H Q h => by
  refine (tE_imp (RD.bind (R0 := vB) h)).mono fun x H1 ⟨k, ek, d, σ1, S1, rel, rep, p⟩ => ?_
  have e : d = k := rep
  subst e
  refine ⟨d, ek, ?_⟩
  cases d with
  | true => exact ⟨σ1, S1, rel, p⟩
  | false => exact Post.fin rel p .refl (Rep.bl false)
theorem je_or (ha : PE X a (rE G W ma)) (hb : PE X (.BoolOp .Or (b :: rest) pos) (rE G W mb)) : PE X (.BoolOp .Or (a :: b :: rest) pos) (rE G W (eOr ma mb)) := (pe_or ha hb).imp fun σ H Q h => by
  refine (tE_imp (RD.bind (R0 := vB) h)).mono fun x H1 ⟨k, ek, d, σ1, S1, rel, rep, p⟩ => ?_
  have e : d = k := rep
  subst e
  refine ⟨d, ek, ?_⟩
  cases d with
  | false => exact ⟨σ1, S1, rel, p⟩
  | true => exact Post.fin rel p .refl (Rep.bl true)
theorem je_not (ha : PE X a (rE G W ma)) : PE X (.UnaryOp .Not a pos) (rE G W (eNot ma)) := (pe_not ha).imp fun σ H Q h => by
  refine (tE_imp (RD.bind (R0 := vB) h)).mono fun x H1 ⟨k, ek, d, σ1, S1, rel, rep, p⟩ => ?_
  have e : d = k := rep
  subst e
  exact ⟨d, ek, Post.fin rel p .refl (Rep.bl _)⟩
theorem je_if (hc : PT X c (rT G W ta)) (ha : PE X a (rE G W ma)) (hb : PE X b (rE G W mb)) : PE X (.IfExp c a b pos) (rE G W (eIf ta ma mb)) := (pe_ifExp hc ha hb).imp fun σ H Q h => by
  refine (RD.bind (R0 := vB) h).mono fun x H1 ⟨d, σ1, S1, rel, rep, p⟩ => ?_
  have e : d = x := rep
  subst e
  cases d with
  | true => exact ⟨σ1, S1, rel, p⟩
  | false => exact ⟨σ1, S1, rel, p⟩
theorem chain_imp {r r' : R2} {f g : D → D → Option D} {Q : VK}
    (of : ∀ (H : Hp) (S : Addr → Prop) (x y z : D) (v u : V) (Q : VK), Rep G H S x v → Rep G H S y u → f x y = some z → (∀ w H1 S1, Gr H S H1 S1 → Rep G H1 S1 z w → Q w H1) → r v u H Q)
    (og : ∀ (H : Hp) (S : Addr → Prop) (x y z : D) (v u : V) (Q : VK), Rep G H S x v → Rep G H S y u → g x y = some z → (∀ w H1 S1, Gr H S H1 S1 → Rep G H1 S1 z w → Q w H1) → r' v u H Q)
    (h : rE G W (eChain f g ma mb mc) σ H Q) : tChain r r' (rE G W ma) (rE G W mb) (rE G W mc) σ H Q := by
  refine (RD.bind (R0 := vD G) h).mono fun x H1 ⟨d, σ1, S1, rel, rep, p⟩ => ?_
  refine ⟨σ1, S1, rel, (Post.bind (R0 := vD G) p).mono fun y H2 ⟨d2, σ2, S2, rel2, ext2, rep2, p2⟩ => ?_⟩
  have rep1 : Rep G H2 S2 d x := Rep.kp (rel.kp ext2) rep
  split at p2
  · rename_i hf
    refine of _ _ _ _ _ _ _ _ rep1 rep2 hf fun w H3 S3 g3 rw => ?_
    cases rw
    refine ⟨true, rfl, ?_⟩
    rw [if_pos rfl]
    have rel3 := rel2.gr g3
    refine ⟨σ2, S3, rel3, (Post.bind (R0 := vD G) (Post.ext g3.ext p2)).mono fun z H4 ⟨d4, σ4, S4, rel4, ext4, rep4, p4⟩ => ?_⟩
    obtain ⟨q, hq, p5⟩ := p4.opt
    exact og _ _ _ _ _ _ _ _ (Rep.kp (rel3.kp ext4) (Rep.kp g3.kp rep2)) rep4 hq fun w H5 S5 g5 rw5 => Post.fin rel4 p5 g5 rw5
  · rename_i hf
    refine of _ _ _ _ _ _ _ _ rep1 rep2 hf fun w H3 S3 g3 rw => ?_
    cases rw
    refine ⟨false, rfl, ?_⟩
    rw [if_neg Bool.false_ne_true]
    exact Post.fin rel2 p2 g3 (Rep.bl false)
  · exact p2.elim
theorem je_chain {o o' : CmpOp} {f g : D → D → Option D} (hf : Op2 G X (compareOp o) f) (hg : Op2 G X (compareOp o') g) (ha : PE X a (rE G W ma)) (hb : PE X b (rE G W mb)) (hc : PE X c (rE G W mc)) (hm : lastMarks [o, o'] [b, c] = false := by with_unfolding_all rfl) :
    PE X (.Compare a [o, o'] [b, c] pos) (rE G W (eChain f g ma mb mc)) := by
  obtain ⟨r, hr, of⟩ := hf
  obtain ⟨r', hr', og⟩ := hg
  exact (pe_chain hr hr' ha hb hc hm).imp fun σ H Q h => chain_imp of og h
theorem jt_chain {o o' : CmpOp} {f g : D → D → Option D} (hf : Op2 G X (compareOp o) f) (hg : Op2 G X (compareOp o') g) (ha : PE X a (rE G W ma)) (hb : PE X b (rE G W mb)) (hc : PE X c (rE G W mc)) (hm : lastMarks [o, o'] [b, c] = false := by with_unfolding_all rfl) :
    PT X (.Compare a [o, o'] [b, c] pos) (rT G W (tE (eChain f g ma mb mc))) := by
  obtain ⟨r, hr, of⟩ := hf
  obtain ⟨r', hr', og⟩ := hg
  exact (pt_chain hr hr' ha hb hc hm).imp fun σ H Q h => chain_imp of og (tE_imp h)

/-! ### lists of values, displays -/
theorem jl_nil : PA X [] (rL G W lNil) := pa_nil.imp fun σ H Q ⟨σw, S, r, q⟩ => Post.fin (v := []) r q .refl (Reps.nil)
theorem jl_cons (ha : PE X a (rE G W ma)) (hl : PA X es (rL G W l)) (hs : starEach (a :: es) X.env = (false, eval a X.env) :: starEach es X.env := by rfl) : PA X (a :: es) (rL G W (lCons ma l)) :=
  (pa_cons ha hl hs).imp fun σ H Q h => by
    refine (RD.bind (R0 := vD G) h).mono fun x H1 ⟨d, σ1, S1, rel, rep, p⟩ => ?_
    refine ⟨σ1, S1, rel, (Post.bind (R0 := vL G) p).mono fun xs H2 ⟨ds, σ2, S2, rel2, ext2, rep2, p2⟩ => ?_⟩
    exact Post.fin rel2 p2 .refl (Reps.cons (Rep.kp (rel.kp ext2) rep) rep2)
/-- a list that was just laid -/
theorem fin_new {ds : List D} {vs : List V} {p : Addr} {Q : VK} (rel : Rel G H S σ σw) (q : Post G W σ H S (Own σ σw) (vF G) (.ok ds σw) Q) (r : Reps G H S ds vs) (hp : H p = none) : Q (.ref p) (upd H p (.lst vs)) := by
  have g : Gr H S (upd H p (.lst vs)) S := .new hp
  refine Post.fin rel q g ⟨p, rfl, hp, fun s => rel.trk p s hp, fun o => ?_, vs, upd_same, r.kp g.kp⟩
  obtain ⟨u, e, _⟩ := rel.ownNe o
  rw [hp] at e; cases e
theorem jf_lst (hl : PA X es (rL G W l)) : PE X (.List es pos) (rF G W (lD l)) := (pe_lst hl).imp fun σ H Q h => by
  refine (RD.bind (R0 := vL G) h).mono fun xs H1 ⟨ds, σ1, S1, rel, rep, p⟩ => ?_
  have rep' : Reps G H1 S1 ds xs := rep
  split at p
  · rename_i hz
    exact ⟨by rw [← rep'.length, sz]; omega, fun p0 hp => fin_new rel p rep' hp⟩
  · exact p.elim
theorem je_tupD (hl : PA X es (rL G W l)) {k : Nat} : PE X (.Tuple es k pos) (rE G W (eTup l)) := (pe_tup hl).imp fun σ H Q h => by
  refine (RD.bind (R0 := vL G) h).mono fun xs H1 ⟨ds, σ1, S1, rel, rep, p⟩ => ?_
  have rep' : Reps G H1 S1 ds xs := rep
  split at p
  · rename_i hz
    refine ⟨by rw [← rep'.length, sz]; omega, fun p0 hp => ?_⟩
    have g : Gr H1 S1 (upd H1 p0 (.tup xs)) S1 := .new hp
    exact Post.fin rel p g (Rep.tup upd_same (rep'.kp g.kp))
  · exact p.elim
/-- a new list as a frozen value -/
theorem je_new (h : PE X e (rF G W l)) : PE X e (rE G W (eNew l)) := h.imp fun σ H Q ⟨σw, S, r, q⟩ => by
  refine ⟨σw, S, r, ?_⟩
  unfold eNew at q
  cases hl : l σw with
  | ok ds σ1 =>
    rw [hl] at q
    intro v H1 S1 rel ext ⟨p, e1, e2, e3, e4, e5⟩
    subst e1
    have q' : ∀ v H1 S1, Rel G H1 S1 σ σ1 → Ext H S (Own σ σw) H1 S1 (Own σ σ1) → Rep G H1 S1 (.lst ds) v → Q v H1 := q
    obtain ⟨o, ho, _⟩ := e5.has
    refine q' _ H1 (fun b => S1 b ∨ b = p) (rel.addS e4 (by rw [ho]; simp)) ⟨ext.keep, fun b s => .inl (ext.sub b s), fun b s => ?_, ext.own, ext.there⟩ e5.frz
    rcases s with s | s
    · exact ext.grow b s
    · rw [s]; exact .inr (.inr e2)
  | exc c fs σ1 =>
    rw [hl] at q
    exact q
  | stuck =>
    rw [hl] at q
    exact q
/-! ### calls of built-ins -/
def Cl (G : GC) (X : Cx) (f : Value) (op : List D → Option D) : Prop :=
  ∃ r : List V → Hp → VK → Prop, CallR X f r ∧ ∀ (H : Hp) (S : Addr → Prop) (xs : List D) (z : D) (vs : List V) (Q : VK), Reps G H S xs vs → op xs = some z → (∀ w H1 S1, Gr H S H1 S1 → Rep G H1 S1 z w → Q w H1) → r vs H Q
theorem cl_imp {r : List V → Hp → VK → Prop} {op : List D → Option D} {Q : VK}
    (of : ∀ (H : Hp) (S : Addr → Prop) (xs : List D) (z : D) (vs : List V) (Q : VK), Reps G H S xs vs → op xs = some z → (∀ w H1 S1, Gr H S H1 S1 → Rep G H1 S1 z w → Q w H1) → r vs H Q)
    (h : rE G W (eL op l) σ H Q) : tCB r (rL G W l) σ H Q := by
  refine (RD.bind (R0 := vL G) h).mono fun xs H1 ⟨ds, σ1, S1, rel, rep, p⟩ => ?_
  obtain ⟨z, hz, p3⟩ := p.opt
  exact of _ _ _ _ _ _ rep hz fun w H3 S3 g rw => Post.fin rel p3 g rw
def orL (f g : List D → Option D) : List D → Option D := fun x =>
  match f x with
  | some z => some z
  | none => g x
theorem CallR.or {f : Value} {r r' : List V → Hp → VK → Prop} (h : CallR X f r) (h' : CallR X f r') : CallR X f (fun xs H Q => r xs H Q ∨ r' xs H Q) := by
  intro pins s σ H xs us Q I rs q
  rcases q with q | q
  · exact h pins s σ H xs us Q I rs q
  · exact h' pins s σ H xs us Q I rs q
theorem Cl.or {f : Value} {o1 o2 : List D → Option D} (h1 : Cl G X f o1) (h2 : Cl G X f o2) : Cl G X f (orL o1 o2) := by
  obtain ⟨r1, p1, q1⟩ := h1
  obtain ⟨r2, p2, q2⟩ := h2
  refine ⟨_, CallR.or p1 p2, fun H S x z v Q rx e k => ?_⟩
  unfold orL at e
  split at e
  · rename_i z' e'
    cases e
    exact .inl (q1 H S x _ v Q rx e' k)
  · exact .inr (q2 H S x z v Q rx e k)
theorem je_cb {x : Str} {p : Pos} {id : String} {op : List D → Option D} (hc : Cl G X (.builtin id) op) (hg : Gl X x) (hm : X.mg x = none) (hv : bootBuiltins x = some (.builtin id)) (ha : PA X (e :: es) (rL G W l)) (hn : x ≠ "__name__" := by decide) (hdb : (x == ("__debug__" : Str)) = false := by decide)
    (he : starEach (e :: es) X.env = (false, eval e X.env) :: starEach es X.env := by rfl) (hpl : (backTo pos (starEach es X.env)).any (·.1) = false := by rfl) : PE X (.Call (.Name x p) (e :: es) [] pos) (rE G W (eL op l)) := by
  obtain ⟨r, hr, of⟩ := hc
  exact (pe_callB hr hg hm hv ha hn hdb he hpl).imp fun σ H Q h => cl_imp of h
theorem je_ct {x : Str} {p : Pos} {T : String} {op : List D → Option D} (hc : Cl G X (.type T) op) (hg : Gl X x) (hm : X.mg x = none) (hv : bootBuiltins x = some (.type T)) (ha : PA X (e :: es) (rL G W l)) (hn : x ≠ "__name__" := by decide) (hdb : (x == ("__debug__" : Str)) = false := by decide)
    (he : starEach (e :: es) X.env = (false, eval e X.env) :: starEach es X.env := by rfl) (hpl : (backTo pos (starEach es X.env)).any (·.1) = false := by rfl) : PE X (.Call (.Name x p) (e :: es) [] pos) (rE G W (eL op l)) := by
  obtain ⟨r, hr, of⟩ := hc
  exact (pe_callTy hr hg hm hv ha hn hdb he hpl).imp fun σ H Q h => cl_imp of h

/-! ### subscripts, slices, fields, methods of texts -/
def Ix2 (G : GC) (X : Cx) (op : D → D → Option D) : Prop :=
  ∃ r : R2, IxR X r ∧ ∀ (H : Hp) (S : Addr → Prop) (x y z : D) (v u : V) (Q : VK), Rep G H S x v → Rep G H S y u → op x y = some z → (∀ w H1 S1, Gr H S H1 S1 → Rep G H1 S1 z w → Q w H1) → r v u H Q
theorem je_ix {op : D → D → Option D} (ho : Ix2 G X op) (ha : PE X a (rE G W ma)) (hb : PE X b (rE G W mb)) (hs : PlainIx b := by exact fun _ _ => rfl) : PE X (.Subscript a b pos) (rE G W (e2 op ma mb)) := by
  obtain ⟨r, hr, of⟩ := ho
  exact (pe_ix hr ha hb hs).imp fun σ H Q h => op2_imp of h
def ixO : D → D → Option D
  | .lst ds, .int i => atI ds i
  | _, _ => none
theorem reps_atI {ds : List D} {vs : List V} {i : Int} {d : D} (r : Reps G H S ds vs) (h : atI ds i = some d) : ∃ v, atI vs i = some v ∧ Rep G H S d v := by
  unfold atI at h ⊢
  rw [r.length] at h
  cases e : ixN vs.length i with
  | none => rw [e] at h; cases h
  | some j =>
    rw [e] at h
    exact r.get h
/-- an item of one's own list -/
theorem je_ixO (i : Nat) (ha : PE X a (tVar i)) (hb : PE X b (rE G W mb)) (hs : PlainIx b := by exact fun _ _ => rfl) : PE X (.Subscript a b pos) (rE G W (eIxO ixO i mb)) := by
  refine (pe_ix ix_list ha hb hs).imp fun σ H Q ⟨σw, S, rel, h⟩ => ?_
  unfold eIxO at h
  split at h
  · rename_i d00 hd00
    obtain ⟨a00, e00, _, _⟩ := rel.ow i d00 hd00
    show ∃ v, σ[i]? = some (some v) ∧ _
    refine ⟨_, e00, σw, S, rel, (Post.bind (R0 := vD G) h).mono fun y H1 ⟨d, σ1, S1, rel1, ext1, rep, p⟩ => ?_⟩
    split at p
    · rename_i d0 hd0
      obtain ⟨z, hz, p3⟩ := p.opt
      obtain ⟨a0, e1, _, e3⟩ := rel1.ow i d0 hd0
      rw [e00] at e1
      cases e1
      cases d0 with
      | lst ds =>
        have rep' : Rep G H1 S1 d y := rep
        obtain ⟨vs, q1, q2⟩ := e3
        cases rep' with
        | int k =>
          obtain ⟨v, g1, g2⟩ := reps_atI q2 hz
          exact ⟨_, vs, k, v, rfl, rfl, .of q1, g1, Post.fin rel1 p3 .refl g2⟩
        | _ => cases hz
      | _ => cases hz
    · exact p.elim
  · exact h.elim
def rOI : RVal (Option Int) (Option Int) := ⟨fun _ _ _ _ a b => a = b, fun _ h => h, fun _ h => h⟩
variable {om ol oh : OM} {lo hi : Option Expr} {p2 : Pos}
abbrev rO (G : GC) (W : WX) (m : OM) : TO := RD G W rOI m
theorem _root_.L2.PO.imp {X : Cx} {e : Option Expr} {t t' : TO} (p : PO X e t) (h : ∀ σ H Q, t' σ H Q → t σ H Q) : PO X e t' := ⟨fun pins s σ H Q I q => p.run pins s σ H Q I (h σ H Q q)⟩
theorem jo_n : PO X none (rO G W oN) := po_none.imp fun σ H Q ⟨σw, S, r, q⟩ => Post.fin r q .refl rfl
theorem jo_s (h : PE X e (rE G W m)) : PO X (some e) (rO G W (oS m)) := (po_some h).imp fun σ H Q h => by
  refine (RD.bind (R0 := vD G) h).mono fun x H1 ⟨d, σ1, S1, rel, rep, p⟩ => ?_
  have rep' : Rep G H1 S1 d x := rep
  cases rep' with
  | int i => exact ⟨i, rfl, Post.fin rel p .refl rfl⟩
  | _ => exact p.elim
def Sl3 (G : GC) (X : Cx) (op : D → Option Int → Option Int → Option D) : Prop :=
  ∃ r : V → Option Int → Option Int → Hp → VK → Prop, SlR X r ∧ ∀ (H : Hp) (S : Addr → Prop) (x z : D) (lo hi : Option Int) (v : V) (Q : VK), Rep G H S x v → op x lo hi = some z → (∀ w H1 S1, Gr H S H1 S1 → Rep G H1 S1 z w → Q w H1) → r v lo hi H Q
theorem je_sl {op : D → Option Int → Option Int → Option D} (ho : Sl3 G X op) (ha : PE X a (rE G W ma)) (hl : PO X lo (rO G W ol)) (hh : PO X hi (rO G W oh)) : PE X (.Subscript a (.Slice lo hi none p2) pos) (rE G W (eSl op ma ol oh)) := by
  obtain ⟨r, hr, of⟩ := ho
  refine (pe_slice hr ha hl hh).imp fun σ H Q h => ?_
  refine (RD.bind (R0 := vD G) h).mono fun x H1 ⟨d, σ1, S1, rel, rep, p⟩ => ?_
  refine ⟨σ1, S1, rel, (Post.bind (R0 := rOI) p).mono fun y H2 ⟨d2, σ2, S2, rel2, ext2, rep2, p2⟩ => ?_⟩
  have e2 : d2 = y := rep2
  subst e2
  refine ⟨σ2, S2, rel2, (Post.bind (R0 := rOI) p2).mono fun z H3 ⟨d3, σ3, S3, rel3, ext3, rep3, p3⟩ => ?_⟩
  have e3 : d3 = z := rep3
  subst e3
  obtain ⟨q, hq, p4⟩ := p3.opt
  exact of _ _ _ _ _ _ _ _ (Rep.kp (rel2.kp ext3) (Rep.kp (rel.kp ext2) rep)) hq fun w H5 S5 g5 rw5 => Post.fin rel3 p4 g5 rw5
/-- e.f -/
theorem je_fld {cs : List Nat} {f : Str} (hC : ∀ c ∈ cs, Cls X.K (G.ca c) ∧ NoAttr X.K (G.ca c) f) (ha : PE X a (rE G W ma)) (hb : attributeBase a f X.env (eval a X.env) = eval a X.env := by rfl) : PE X (.Attribute a f pos) (rE G W (e1 (fldD cs f) ma)) :=
  (pe_fld ha hb).imp fun σ H Q h => by
    refine (RD.bind (R0 := vD G) h).mono fun x H1 ⟨d, σ1, S1, rel, rep, p⟩ => ?_
    obtain ⟨z, hz, p3⟩ := p.opt
    have rep' : Rep G H1 S1 d x := rep
    cases rep' with
    | @ins a0 dx c fs gs s h r =>
      have hz' : (if cs.contains c = true then fs.lookup f else none) = some z := hz
      by_cases hc : cs.contains c = true
      · rw [if_pos hc] at hz'
        obtain ⟨v, g1, g2⟩ := r.get hz'
        obtain ⟨c1, c2⟩ := hC c (by simpa using hc)
        exact ⟨a0, _, dx, gs, v, rfl, h, c1, c2, g1, Post.fin rel p3 .refl g2⟩
      · rw [if_neg hc] at hz'; cases hz'
    | _ => cases hz
/-- methods of texts -/
def Mt2 (G : GC) (X : Cx) (id : String) (op : Str → D → Option D) : Prop :=
  ∃ r : V → List V → Hp → VK → Prop, MtR X id r ∧ ∀ (H : Hp) (S : Addr → Prop) (x : Str) (y z : D) (u : V) (Q : VK), Rep G H S y u → op x y = some z → (∀ w H1 S1, Gr H S H1 S1 → Rep G H1 S1 z w → Q w H1) → r (.str x) [u] H Q
def Mt1 (G : GC) (X : Cx) (id : String) (op : Str → Option D) : Prop :=
  ∃ r : V → List V → Hp → VK → Prop, MtR X id r ∧ ∀ (H : Hp) (S : Addr → Prop) (x : Str) (z : D) (Q : VK), op x = some z → (∀ w H1 S1, Gr H S H1 S1 → Rep G H1 S1 z w → Q w H1) → r (.str x) [] H Q
theorem je_m1 {id : String} {name : Str} {apos : Pos} {op : Str → D → Option D} (ho : Mt2 G X id op) (slot : Slot "str" name id) (ty : typeOf (.builtin id) = pure (.type "method_descriptor")) (ha : PE X a (rE G W ma)) (hb : PE X b (rE G W mb))
    (hs : starEach [b] X.env = [(false, eval b X.env)] := by rfl) (hbase : attributeBase a name X.env (eval a X.env) = eval a X.env := by rfl) (hline : (apos.endLine == pos.line) = true := by rfl) :
    PE X (.Call (.Attribute a name apos) [b] [] pos) (rE G W (eM1 op ma mb)) := by
  obtain ⟨r, hr, of⟩ := ho
  refine (pe_m1 slot ty hr ha hb hs hbase hline).imp fun σ H Q h => ?_
  refine (RD.bind (R0 := vD G) h).mono fun x H1 ⟨d, σ1, S1, rel, rep, p⟩ => ?_
  have rep' : Rep G H1 S1 d x := rep
  cases rep' with
  | str z =>
    refine ⟨⟨z, rfl⟩, σ1, S1, rel, (Post.bind (R0 := vD G) p).mono fun y H2 ⟨d2, σ2, S2, rel2, ext2, rep2, p2⟩ => ?_⟩
    obtain ⟨q, hq, p3⟩ := p2.opt
    exact of _ _ _ _ _ _ _ rep2 hq fun w H5 S5 g5 rw5 => Post.fin rel2 p3 g5 rw5
  | _ => exact p.elim
theorem je_m0 {id : String} {name : Str} {apos : Pos} {op : Str → Option D} (ho : Mt1 G X id op) (slot : Slot "str" name id) (ty : typeOf (.builtin id) = pure (.type "method_descriptor")) (ha : PE X a (rE G W ma))
    (hbase : attributeBase a name X.env (eval a X.env) = eval a X.env := by rfl) (hline : (apos.endLine == pos.line) = true := by rfl) :
    PE X (.Call (.Attribute a name apos) [] [] pos) (rE G W (eM0 op ma)) := by
  obtain ⟨r, hr, of⟩ := ho
  refine (pe_m0 slot ty hr ha hbase hline).imp fun σ H Q h => ?_
  refine (RD.bind (R0 := vD G) h).mono fun x H1 ⟨d, σ1, S1, rel, rep, p⟩ => ?_
  have rep' : Rep G H1 S1 d x := rep
  cases rep' with
  | str z =>
    obtain ⟨q, hq, p3⟩ := p.opt
    exact ⟨⟨z, rfl⟩, of _ _ _ _ _ hq fun w H5 S5 g5 rw5 => Post.fin rel p3 g5 rw5⟩
  | _ => exact p.elim
end
end VM
end
section
set_option linter.all false
set_option maxRecDepth 100000
/-! VStmt: statements. -/
namespace VM
open PySem PySem.Spec L2
/-- the slots at io stay -/
def Keeps (io : List Nat) (σ σ' : L2.St) : Prop := ∀ j ∈ io, σ'[j]? = σ[j]?
section
variable {G : GC} {RR : RVal D V} {W : WX} {io : List Nat} {X : Cx} {σ σ1 : L2.St} {H H1 : Hp} {S O S1 O1 : Addr → Prop} {σw : Ev} {α β γ δ : Type}
theorem Keeps.refl : Keeps io σ σ := fun _ _ => rfl
theorem Keeps.trans {σ2 : L2.St} (a : Keeps io σ σ1) (b : Keeps io σ1 σ2) : Keeps io σ σ2 := fun j h => (b j h).trans (a j h)
theorem Keeps.set {i : Nat} {x : Option V} (h : i ∉ io) : Keeps io σ (σ.set i x) := fun j hj => List.getElem?_set_ne fun e => h (by rw [e]; exact hj)
def PostS (G : GC) (RR : RVal D V) (W : WX) (io : List Nat) (σ : L2.St) (H : Hp) (S O : Addr → Prop) (r : RS) (D : Ends) : Prop :=
  match r with
  | .nx σ1 => ∀ σV H1 S1, Rel G H1 S1 σV σ1 → Ext H S O H1 S1 (Own σV σ1) → Keeps io σ σV → D.nx σV H1
  | .bk σ1 => ∀ σV H1 S1, Rel G H1 S1 σV σ1 → Ext H S O H1 S1 (Own σV σ1) → Keeps io σ σV → D.bk σV H1
  | .ct σ1 => ∀ σV H1 S1, Rel G H1 S1 σV σ1 → Ext H S O H1 S1 (Own σV σ1) → Keeps io σ σV → D.ct σV H1
  | .rt d σ1 => ∀ v σV H1 S1, Rel G H1 S1 σV σ1 → Ext H S O H1 S1 (Own σV σ1) → Keeps io σ σV → RR.rel H H1 S1 (Own σV σ1) d v → D.rt v H1
  | .exc c fs σ1 => ∀ σV H1 S1 dx gs, Rel G H1 S1 σV σ1 → Ext H S O H1 S1 (Own σV σ1) → Keeps io σ σV → H1 dx = some (.xd gs) → RepF G H1 S1 fs gs → W (.ref (G.ca c)) (some dx) σV H1
  | .stuck => False
theorem PostS.move {r : RS} {D : Ends} (e : Ext H S O H1 S1 O1) (k : Keeps io σ σ1) (p : PostS G RR W io σ H S O r D) : PostS G RR W io σ1 H1 S1 O1 r D := by
  cases r with
  | nx σ2 => exact fun σV H2 S2 q1 q2 q3 => p σV H2 S2 q1 (e.trans q2) (k.trans q3)
  | bk σ2 => exact fun σV H2 S2 q1 q2 q3 => p σV H2 S2 q1 (e.trans q2) (k.trans q3)
  | ct σ2 => exact fun σV H2 S2 q1 q2 q3 => p σV H2 S2 q1 (e.trans q2) (k.trans q3)
  | rt d σ2 => exact fun v σV H2 S2 q1 q2 q3 q4 => p v σV H2 S2 q1 (e.trans q2) (k.trans q3) (RR.back e.there q4)
  | exc c fs σ2 => exact fun σV H2 S2 dx gs q1 q2 q3 => p σV H2 S2 dx gs q1 (e.trans q2) (k.trans q3)
  | stuck => exact p
def rS (G : GC) (RR : RVal D V) (W : WX) (io : List Nat) (m : SM) : TS := fun D σ H => ∃ σw S, Rel G H S σ σw ∧ PostS G RR W io σ H S (Own σ σw) (m σw) D
theorem PostS.st {R0 : RVal α β} {r : R α} {f : α → Ev → RS} {D : Ends} (p : PostS G RR W io σ H S O (r.st f) D) :
    Post G W σ H S O R0 r fun x H1 => ∃ d σ1 S1, Rel G H1 S1 σ σ1 ∧ Ext H S O H1 S1 (Own σ σ1) ∧ R0.rel H H1 S1 (Own σ σ1) d x ∧ PostS G RR W io σ H1 S1 (Own σ σ1) (f d σ1) D := by
  cases r with
  | ok d σ1 => exact fun v H2 S2 q1 q2 q3 => ⟨d, σ1, S2, q1, q2, q3, PostS.move q2 .refl p⟩
  | exc c fs σ1 => exact fun H2 S2 dx gs q1 q2 q3 q4 => p σ H2 S2 dx gs q1 q2 .refl q3 q4
  | stuck => exact p
theorem rS.st {R0 : RVal α β} {m : Ev → R α} {f : α → Ev → RS} {D : Ends} (h : rS G RR W io (fun σ => (m σ).st f) D σ H) :
    RD G W R0 m σ H fun x H1 => ∃ d σ1 S1, Rel G H1 S1 σ σ1 ∧ R0.rel H H1 S1 (Own σ σ1) d x ∧ PostS G RR W io σ H1 S1 (Own σ σ1) (f d σ1) D := by
  obtain ⟨σw, S, r, p⟩ := h
  exact ⟨σw, S, r, (PostS.st (R0 := R0) p).mono fun v H1 ⟨d, σ1, S1, q1, _, q3, q4⟩ => ⟨d, σ1, S1, q1, q3, q4⟩⟩
theorem PostS.nxt {D : Ends} (r : Rel G H S σ σw) (p : PostS G RR W io σ H S (Own σ σw) (.nx σw) D) : D.nx σ H := p σ H S r .refl .refl

variable {a b c e : Expr} {ma mb m : EM} {ta tb : TM} {l : LM} {pos pos' : Pos} {s1 s2 : SM} {st : Stmt} {rest : List Stmt} {i : Nat} {x : Str}
theorem js_nil : PSs X [] (rS G RR W io sNext) := pss_nil.imp fun D σ H ⟨σw, S, r, p⟩ => p σ H S r .refl .refl
theorem js_cons (h1 : PS X st (rS G RR W io s1)) (h2 : PSs X rest (rS G RR W io s2)) : PSs X (st :: rest) (rS G RR W io (sSeq s1 s2)) := (pss_cons h1 h2).imp fun D σ H ⟨σw, S, r, p⟩ => by
  refine ⟨σw, S, r, ?_⟩
  unfold sSeq at p
  cases hr : s1 σw with
  | nx σ1 =>
    rw [hr] at p
    exact fun σV H1 S1 q1 q2 q3 => ⟨σ1, S1, q1, PostS.move q2 q3 p⟩
  | bk σ1 => rw [hr] at p; exact p
  | ct σ1 => rw [hr] at p; exact p
  | rt d σ1 => rw [hr] at p; exact p
  | exc c fs σ1 => rw [hr] at p; exact p
  | stuck => rw [hr] at p; exact p
theorem js_one (h1 : PS X st (rS G RR W io s1)) : PSs X [st] (rS G RR W io s1) := pss_one h1
theorem js_pass : PS X (.Pass pos) (rS G RR W io sNext) := ps_pass.imp fun D σ H ⟨σw, S, r, p⟩ => p σ H S r .refl .refl
theorem js_break : PS X (.Break pos) (rS G RR W io sBreak) := ps_break.imp fun D σ H ⟨σw, S, r, p⟩ => p σ H S r .refl .refl
theorem js_cont : PS X (.Continue pos) (rS G RR W io sCont) := ps_continue.imp fun D σ H ⟨σw, S, r, p⟩ => p σ H S r .refl .refl
theorem js_doc {y j} : PS X (.Expr (.Constant (.str y) j pos) pos') (rS G RR W io sNext) := ps_doc.imp fun D σ H ⟨σw, S, r, p⟩ => p σ H S r .refl .refl
theorem js_ret (he : PE X e (rE G W m)) : PS X (.Return (some e) pos) (rS G (vD G) W io (sRet m)) := (ps_ret he).imp fun D σ H h =>
  (rS.st (R0 := vD G) h).mono fun x H1 ⟨d, σ1, S1, rel, rep, p⟩ => p x σ H1 S1 rel .refl .refl rep
/-- a new list is handed out -/
theorem js_retF (he : PE X e (rF G W l)) : PS X (.Return (some e) pos) (rS G (vR G) W io (sRetF l)) := (ps_ret he).imp fun D σ H ⟨σw, S, rel0, h⟩ => by
  refine ⟨σw, S, rel0, ?_⟩
  unfold sRetF at h
  cases hl : l σw with
  | ok ds σ1 =>
    rw [hl] at h
    exact fun v H1 S1 rel ext q => h v σ H1 S1 rel ext .refl ⟨ds, rfl, q⟩
  | exc c fs σ1 =>
    rw [hl] at h
    exact fun H1 S1 dx gs q1 q2 q3 q4 => h σ H1 S1 dx gs q1 q2 .refl q3 q4
  | stuck =>
    rw [hl] at h
    exact h
theorem js_retN : PS X (.Return none pos) (rS G (vD G) W io sRetN) := ps_retN.imp fun D σ H ⟨σw, S, r, p⟩ => p .non σ H S r .refl .refl .non
theorem js_expr (he : PE X e (rE G W m)) (hs : swapsWith e none pos.line X.env = pure false := by rfl) : PS X (.Expr e pos) (rS G RR W io (sExpr m)) := (ps_expr he hs).imp fun D σ H h =>
  (rS.st (R0 := vD G) h).mono fun x H1 ⟨d, σ1, S1, rel, rep, p⟩ => p.nxt rel
theorem js_if {sa sb : List Stmt} (hc : PT X c (rT G W ta)) (ha : PSs X sa (rS G RR W io s1)) (hb : PSs X sb (rS G RR W io s2)) : PS X (.If c sa sb pos) (rS G RR W io (sIf ta s1 s2)) := (ps_if hc ha hb).imp fun D σ H h =>
  (rS.st (R0 := vB) h).mono fun x H1 ⟨d, σ1, S1, rel, rep, p⟩ => by
    have e : d = x := rep
    subst e
    cases d with
    | true => exact ⟨σ1, S1, rel, p⟩
    | false => exact ⟨σ1, S1, rel, p⟩
/-- name = value -/
theorem js_set (i : Nat) (hio : i ∉ io) {px : Pos} (h : PS X (.Assign [.Name x px] e pos) (tAsg (rE G W m) (gName i))) : PS X (.Assign [.Name x px] e pos) (rS G RR W io (sSet i m)) := h.imp fun D σ H h =>
  (rS.st (R0 := vD G) h).mono fun v H1 ⟨d, σ1, S1, rel, rep, p⟩ => p _ H1 S1 (rel.set rep) ⟨fun _ _ q _ => q, fun _ s => s, fun _ s => .inl s, fun _ o => .inl o.set, fun _ q => q⟩ (.set hio)
/-- name = a new list -/
theorem js_own (i : Nat) (hio : i ∉ io) {px : Pos} (h : PS X (.Assign [.Name x px] e pos) (tAsg (rF G W l) (gName i))) : PS X (.Assign [.Name x px] e pos) (rS G RR W io (sOwn i l)) := h.imp fun D σ H ⟨σw, S, rel0, h⟩ => by
  refine ⟨σw, S, rel0, ?_⟩
  unfold sOwn at h
  cases hl : l σw with
  | ok ds σ1 =>
    rw [hl] at h
    intro v H1 S1 rel ext ⟨p, e1, e2, e3, e4, e5⟩
    subst e1
    refine h _ H1 S1 (rel.setO e3 e4 e5) ⟨ext.keep, ext.sub, ext.grow, fun b o => ?_, ext.there⟩ (.set hio)
    rcases o.setO with o | o
    · exact ext.own b o
    · rw [o]; exact .inr e2
  | exc c fs σ1 =>
    rw [hl] at h
    exact fun H1 S1 dx gs q1 q2 q3 q4 => h σ H1 S1 dx gs q1 q2 .refl q3 q4
  | stuck =>
    rw [hl] at h
    exact h
/-- what a slot owns is changed -/
theorem Rel.upd (r : Rel G H S σ σw) {i : Nat} {d d' : D} {p : Addr} {o : HO} (hi : σw[i]? = some (.ow d)) (hp : σ[i]? = some (some (.ref p))) (h : OwnAt G (upd H p o) S d' p) (hn : ∀ xs, H p ≠ some (.tup xs)) :
    Rel G (upd H p o) S σ (σw.set i (.ow d')) ∧ Ext H S (Own σ σw) (upd H p o) S (Own σ (σw.set i (.ow d'))) := by
  obtain ⟨p', e1, e2, e3⟩ := r.ow i d hi
  rw [hp] at e1; cases e1
  have hl : i < σw.length := (List.getElem?_eq_some_iff.mp hi).1
  have k : Kp H S (L2.upd H p o) S := ⟨fun _ s => s, fun b u s q => by rw [upd_ne (fun z => e2 (by rw [← z]; exact s))]; exact q, fun b xs q => by rw [upd_ne (fun z => hn xs (by rw [← z]; exact q))]; exact q⟩
  have nw : ∀ {j : Nat} {e : D}, (σw.set i (.ow d'))[j]? = some (.ow e) → (j = i ∧ e = d') ∨ (j ≠ i ∧ σw[j]? = some (.ow e)) := fun {j e} h => by
    by_cases hj : j = i
    · subst hj; rw [List.getElem?_set_self hl] at h; cases h; exact .inl ⟨rfl, rfl⟩
    · rw [List.getElem?_set_ne (Ne.symm hj)] at h; exact .inr ⟨hj, h⟩
  have old : ∀ {j : Nat} {e : D}, (σw.set i (.ow d'))[j]? = some (.ow e) → ∃ e', σw[j]? = some (.ow e') := fun {j e} h => by
    rcases nw h with ⟨q, _⟩ | ⟨_, q⟩
    · rw [q]; exact ⟨_, hi⟩
    · exact ⟨_, q⟩
  refine ⟨⟨by simpa using r.len, fun j e q => ?_, fun j e q => ?_, fun j m e1 e2 b q1 q2 q3 q4 => ?_, fun b s => ?_⟩, ⟨fun b u q n => ?_, fun _ s => s, fun _ s => .inl s, fun b ⟨j, e, q1, q2⟩ => ?_, fun b q => ?_⟩⟩
  · by_cases hj : j = i
    · subst hj; rw [List.getElem?_set_self hl] at q; cases q
    · rw [List.getElem?_set_ne (Ne.symm hj)] at q
      obtain ⟨v, q1, q2⟩ := r.fr j e q
      exact ⟨v, q1, q2.kp k⟩
  · rcases nw q with ⟨rfl, rfl⟩ | ⟨hj, q'⟩
    · exact ⟨p, hp, e2, h⟩
    · obtain ⟨b, q1, q2, q3⟩ := r.ow j e q'
      refine ⟨b, q1, q2, q3.kp k fun u z => ?_⟩
      rw [upd_ne fun y => hj (r.inj j i e d b q' hi q1 (by rw [y]; exact hp))]
      exact z
  · obtain ⟨e1', y1⟩ := old q1
    obtain ⟨e2', y2⟩ := old q2
    exact r.inj j m e1' e2' b y1 y2 q3 q4
  · have := r.trk b s
    by_cases z : b = p
    · rw [z, upd_same]; simp
    · rw [upd_ne z]; exact this
  · rw [upd_ne (fun z => n ⟨i, d, hi, by rw [z]; exact hp⟩)]; exact q
  · obtain ⟨e', y⟩ := old q1
    exact .inl ⟨j, e', y, q2⟩
  · by_cases z : b = p
    · rw [z, upd_same]; simp
    · rw [upd_ne z]; exact q
/-- x.append(e), x one's own list -/
theorem js_app (i : Nat) {pa pc : Pos} (ha : PE X a (tVar i)) (he : PE X e (rE G W m)) (hbase : attributeBase a "append" X.env (eval a X.env) = eval a X.env := by rfl)
    (hfew : ((backTo pc (starEach [e] X.env)).all (fun x => !x.1) && (backToKw pc (keywordEach [] X.env)).all (fun x => x.1.isSome)
      && decide (([e] : List Expr).length + ([] : List Keyword).length + (if ([] : List Keyword).isEmpty then 0 else 1) < 30)) = true := by rfl)
    (hline : (pa.endLine == pc.line) = true := by rfl) (hst : starEach (e :: []) X.env = (false, eval e X.env) :: starEach [] X.env := by rfl) (hplain : (backTo pc (starEach [] X.env)).any (·.1) = false := by rfl)
    (hs : swapsWith (.Call (.Attribute a "append" pa) [e] [] pc) none pos.line X.env = pure false := by rfl) :
    PS X (.Expr (.Call (.Attribute a "append" pa) [e] [] pc) pos) (rS G RR W io (sApp i m)) := by
  refine (ps_expr (pe_bm PySem.F.plainAttrs_list PySem.F.slot_list_append PySem.F.type_list_append mt_append ha (pa_cons he pa_nil hst) hbase hfew hline hst hplain) hs).imp fun D σ H ⟨σw, S, rel0, h⟩ => ?_
  unfold sApp at h
  split at h
  · rename_i d00 hd00
    obtain ⟨p0, e00, _, o00⟩ := rel0.ow i _ hd00
    obtain ⟨vs00, q00, _⟩ := o00
    refine ⟨.ref p0, e00, .inl ⟨rfl, vs00, .of q00⟩, σw, S, rel0, (PostS.st (R0 := vD G) h).mono fun y H1 ⟨d, σ1, S1, rel1, ext1, rep, p⟩ => ?_⟩
    split at p
    · rename_i ds hds
      obtain ⟨p1, e1, _, o1⟩ := rel1.ow i _ hds
      rw [e00] at e1; cases e1
      obtain ⟨vs, q1, q2⟩ := o1
      have rep' : Rep G H1 S1 d y := rep
      split at p
      · rename_i hz
        have hn : ∀ xs, H1 p0 ≠ some (.tup xs) := fun xs z => by rw [q1] at z; cases z
        have kk : Kp H1 S1 (upd H1 p0 (.lst (vs ++ [y]))) S1 := ⟨fun _ s => s, fun b u s q => by
          rw [upd_ne fun z => (rel1.noS ⟨i, _, hds, e00⟩) (by rw [← z]; exact s)]; exact q, fun b xs q => by rw [upd_ne fun z => hn xs (by rw [← z]; exact q)]; exact q⟩
        obtain ⟨r1, r2⟩ := rel1.upd (d' := .lst (ds ++ [d])) (o := .lst (vs ++ [y])) hds e00 ⟨_, upd_same, (q2.append (.cons rep' .nil)).kp kk⟩ hn
        exact ⟨p0, vs, y, rfl, rfl, q1, by rw [← q2.length, sz]; exact hz, p _ _ _ r1 r2 .refl⟩
      · exact p.elim
    · exact p.elim
  · exact h.elim
end
end VM
end
section
set_option linter.all false
set_option maxRecDepth 100000
/-! VLoop: iterators, for, while, comprehensions. -/
namespace VM
open PySem PySem.Spec L2
section
variable {G : GC} {W : WX} {io : List Nat} {X : Cx} {σ σ1 : L2.St} {H H1 : Hp} {S O S1 O1 O2 : Addr → Prop} {σw : Ev} {α β γ δ : Type}
/-! ### iterators -/
def Follows (G : GC) (J : It) (xs : List D) (C : Hp → (Addr → Prop) → Prop) : Prop :=
  (∀ H S H1 S1, Kp H S H1 S1 → C H S → C H1 S1) ∧
  ∀ (i : Nat) H S, C H S → (∀ d, xs[i]? = some d → J.go i H ∧ ∀ x H', J.yld i H x H' → ∃ S1, Gr H S H' S1 ∧ Rep G H' S1 d x) ∧ (xs.length ≤ i → J.stop i H)
def vI (G : GC) : RVal (List D) It := ⟨fun _ H S _ xs J => ∃ C, Follows G J xs C ∧ C H S, fun _ h => h, fun _ h => h⟩
abbrev rI (G : GC) (W : WX) (m : LM) : TI := RD G W (vI G) m
theorem _root_.L2.PI.imp {X : Cx} {tg e : Expr} {t t' : TI} (p : PI X tg e t) (h : ∀ σ H Q, t' σ H Q → t σ H Q) : PI X tg e t' := ⟨fun pins s σ H Q I q => p.run pins s σ H Q I (h σ H Q q)⟩
theorem PI.or {X : Cx} {tg e : Expr} {t t' : TI} (p : PI X tg e t) (p' : PI X tg e t') : PI X tg e (fun σ H R => t σ H R ∨ t' σ H R) := ⟨fun pins s σ H Q I q => q.elim (p.run pins s σ H Q I) (p'.run pins s σ H Q I)⟩
theorem rng_get {lo : Int} {n i : Nat} {d : D} (h : (rng lo n)[i]? = some d) : i < n ∧ d = .int (lo + i) := by
  unfold rng at h
  rw [List.getElem?_map] at h
  by_cases hi : i < n
  · rw [List.getElem?_range hi] at h
    simp at h
    exact ⟨hi, h.symm⟩
  · rw [List.getElem?_eq_none (by simpa using hi)] at h
    cases h
theorem rng_length {lo : Int} {n : Nat} : (rng lo n).length = n := by simp [rng]
theorem follows_range {lo : Int} {n : Nat} : Follows G (Itr lo n) (rng lo n) (fun _ _ => True) := by
  refine ⟨fun _ _ _ _ _ h => h, fun i H S _ => ⟨fun d hd => ?_, fun h => ?_⟩⟩
  · obtain ⟨h1, h2⟩ := rng_get hd
    refine ⟨h1, fun x H' ⟨e1, e2⟩ => ?_⟩
    subst e1; subst e2; subst h2
    exact ⟨S, .refl, .int _⟩
  · rw [rng_length] at h
    exact h
theorem sql_uniq {K : PySem.W.Frag} {a : Addr} {vs xs : List V} (h : H a = some (.lst vs)) : SqL K H a vs := .of h
theorem follows_list {K : PySem.W.Frag} {a : Addr} {ds : List D} {vs : List V} : Follows G (Itl K a) ds (fun H S => LSrc K H S a vs ∧ Reps G H S ds vs) := by
  refine ⟨fun H S H1 S1 k ⟨h1, h4⟩ => ⟨h1.kp k, h4.kp k⟩, fun i H S ⟨h1, h4⟩ => ⟨fun d hd => ?_, fun h => ?_⟩⟩
  all_goals have h2 : SqL K H a vs := h1.sql
  · obtain ⟨v, g1, g2⟩ := h4.get hd
    refine ⟨⟨vs, v, h2, g1⟩, fun x H' ⟨e1, e2⟩ => ?_⟩
    subst e1
    have := e2 vs h2
    rw [g1] at this; cases this
    exact ⟨S, .refl, g2⟩
  · exact ⟨vs, h2, by rw [← h4.length]; exact h⟩
theorem follows_tup {K : PySem.W.Frag} {a : Addr} {ds : List D} {vs : List V} : Follows G (Itt K a) ds (fun H S => H a = some (.tup vs) ∧ Reps G H S ds vs) := by
  refine ⟨fun H S H1 S1 k ⟨h3, h4⟩ => ⟨k.tups _ _ h3, h4.kp k⟩, fun i H S ⟨h3, h4⟩ => ⟨fun d hd => ?_, fun h => ?_⟩⟩
  · obtain ⟨v, g1, g2⟩ := h4.get hd
    refine ⟨⟨vs, v, .of h3, g1⟩, fun x H' ⟨e1, e2⟩ => ?_⟩
    subst e1
    have := e2 vs (.of h3)
    rw [g1] at this; cases this
    exact ⟨S, .refl, g2⟩
  · exact ⟨vs, .of h3, by rw [← h4.length]; exact h⟩
theorem follows_str {x : Str} : Follows G (Its x) (x.cps.toList.map fun c => .str ⟨#[c]⟩) (fun _ _ => True) := by
  refine ⟨fun _ _ _ _ _ h => h, fun i H S _ => ⟨fun d hd => ?_, fun h => ?_⟩⟩
  · rw [List.getElem?_map] at hd
    have hc : ∃ c, x.cps[i]? = some c ∧ d = .str ⟨#[c]⟩ := by
      cases e : x.cps.toList[i]? with
      | none => rw [e] at hd; cases hd
      | some c => rw [e] at hd; cases hd; exact ⟨c, by rw [← Array.getElem?_toList]; exact e, rfl⟩
    obtain ⟨c, e, rfl⟩ := hc
    refine ⟨(Array.getElem?_eq_some_iff.mp e).1, fun y H' ⟨e1, c', e2, e3⟩ => ?_⟩
    subst e1; subst e3
    rw [e] at e2; cases e2
    exact ⟨S, .refl, .str _⟩
  · show x.cps.size ≤ i
    simpa using h
theorem enumD_get : ∀ {ds : List D} {k i : Nat} {d : D}, (enumD k ds)[i]? = some d → ∃ x, ds[i]? = some x ∧ d = .tup [.int ((k + i : Nat) : Int), x]
  | [], _, _, _, h => by simp [enumD] at h
  | x :: ds, k, 0, d, h => by
    simp [enumD] at h
    exact ⟨x, rfl, by rw [← h]; rfl⟩
  | x :: ds, k, i + 1, d, h => by
    obtain ⟨y, h1, h2⟩ := enumD_get (ds := ds) (k := k + 1) (i := i) (d := d) (by simpa [enumD] using h)
    refine ⟨y, by simpa using h1, ?_⟩
    rw [h2, show k + 1 + i = k + (i + 1) by omega]
theorem enumD_length : ∀ {ds : List D} {k : Nat}, (enumD k ds).length = ds.length
  | [], _ => rfl
  | _ :: ds, k => by show (enumD (k + 1) ds).length + 1 = ds.length + 1; rw [enumD_length]
theorem follows_enum {K : PySem.W.Frag} {a : Addr} {ds : List D} {vs : List V} : Follows G (Ite K a) (enumD 0 ds) (fun H S => LSrc K H S a vs ∧ Reps G H S ds vs) := by
  refine ⟨fun H S H1 S1 k ⟨h1, h4⟩ => ⟨h1.kp k, h4.kp k⟩, fun i H S ⟨h1, h4⟩ => ⟨fun d hd => ?_, fun h => ?_⟩⟩
  all_goals have h2 : SqL K H a vs := h1.sql
  · obtain ⟨y, e1, e2⟩ := enumD_get hd
    subst e2
    obtain ⟨v, g1, g2⟩ := h4.get e1
    refine ⟨⟨vs, v, h2, g1⟩, fun x H' ⟨T, x0, q1, q2, q3, q4⟩ => ?_⟩
    subst q1; subst q3
    have := q4 vs h2
    rw [g1] at this; cases this
    have g : Gr H S (upd H T (.tup [.int (i : Nat), v])) S := .new q2
    refine ⟨S, g, .tup upd_same (.cons ?_ (.cons (g2.kp g.kp) .nil))⟩
    rw [Nat.zero_add]
    exact .int _
  · exact ⟨vs, h2, by rw [← h4.length]; rwa [enumD_length] at h⟩
theorem zipD_get : ∀ {ds es : List D} {i : Nat} {d : D}, (zipD ds es)[i]? = some d → ∃ x y, ds[i]? = some x ∧ es[i]? = some y ∧ d = .tup [x, y]
  | x :: ds, y :: es, 0, d, h => by
    simp [zipD] at h
    exact ⟨x, y, rfl, rfl, h.symm⟩
  | x :: ds, y :: es, i + 1, d, h => by
    obtain ⟨a, b, h1, h2, h3⟩ := zipD_get (ds := ds) (es := es) (i := i) (d := d) (by simpa [zipD] using h)
    exact ⟨a, b, by simpa using h1, by simpa using h2, h3⟩
  | [], _, _, _, h => by simp [zipD] at h
  | _ :: _, [], _, _, h => by simp [zipD] at h
theorem zipD_length : ∀ {ds es : List D} {i : Nat}, (zipD ds es).length ≤ i → ds.length ≤ i ∨ es.length ≤ i
  | x :: ds, y :: es, 0, h => by simp [zipD] at h
  | x :: ds, y :: es, i + 1, h => by
    rcases zipD_length (ds := ds) (es := es) (i := i) (by simpa [zipD] using h) with h | h
    · exact .inl (by simpa using h)
    · exact .inr (by simpa using h)
  | [], _, _, _ => .inl (Nat.zero_le _)
  | _ :: _, [], _, _ => .inr (Nat.zero_le _)
theorem follows_zipT {K : PySem.W.Frag} {a b : Addr} {ds es : List D} {vs ws : List V} : Follows G (RZ.ItzT K a b) (zipD ds es) (fun H S => H a = some (.tup vs) ∧ Reps G H S ds vs ∧ H b = some (.tup ws) ∧ Reps G H S es ws) := by
  refine ⟨fun H S H1 S1 k ⟨h1, h2, h3, h4⟩ => ⟨k.tups _ _ h1, h2.kp k, k.tups _ _ h3, h4.kp k⟩, fun i H S ⟨h1, h2, h3, h4⟩ => ⟨fun d hd => ?_, fun h => ?_⟩⟩
  · obtain ⟨x, y, e1, e2, e3⟩ := zipD_get hd
    subst e3
    obtain ⟨v, g1, g2⟩ := h2.get e1
    obtain ⟨u, g3, g4⟩ := h4.get e2
    refine ⟨⟨vs, ws, v, u, .of h1, .of h3, g1, g3⟩, fun x H' ⟨T, x0, y0, q1, q2, q3, q4, q5⟩ => ?_⟩
    subst q1; subst q3
    have z1 := q4 vs (.of h1)
    rw [g1] at z1; cases z1
    have z2 := q5 ws (.of h3)
    rw [g3] at z2; cases z2
    have g : Gr H S (upd H T (.tup [v, u])) S := .new q2
    exact ⟨S, g, .tup upd_same (.cons (g2.kp g.kp) (.cons (g4.kp g.kp) .nil))⟩
  · rcases zipD_length h with h | h
    · exact ⟨vs, ws, .of h1, .of h3, .inl (by rw [← h2.length]; exact h)⟩
    · exact ⟨vs, ws, .of h1, .of h3, .inr (by rw [← h4.length]; exact h)⟩
theorem follows_zipL {K : PySem.W.Frag} {a b : Addr} {ds es : List D} {vs ws : List V} : Follows G (Itz K a b) (zipD ds es) (fun H S => S a ∧ H a = some (.lst vs) ∧ Reps G H S ds vs ∧ S b ∧ H b = some (.lst ws) ∧ Reps G H S es ws) := by
  refine ⟨fun H S H1 S1 k ⟨s1, h1, h2, s2, h3, h4⟩ => ⟨k.sub _ s1, k.keep _ _ s1 h1, h2.kp k, k.sub _ s2, k.keep _ _ s2 h3, h4.kp k⟩, fun i H S ⟨s1, h1, h2, s2, h3, h4⟩ => ⟨fun d hd => ?_, fun h => ?_⟩⟩
  · obtain ⟨x, y, e1, e2, e3⟩ := zipD_get hd
    subst e3
    obtain ⟨v, g1, g2⟩ := h2.get e1
    obtain ⟨u, g3, g4⟩ := h4.get e2
    refine ⟨⟨vs, ws, v, u, .of h1, .of h3, g1, g3⟩, fun x H' ⟨T, x0, y0, q1, q2, q3, q4, q5⟩ => ?_⟩
    subst q1; subst q3
    have z1 := q4 vs (.of h1)
    rw [g1] at z1; cases z1
    have z2 := q5 ws (.of h3)
    rw [g3] at z2; cases z2
    have g : Gr H S (upd H T (.tup [v, u])) S := .new q2
    exact ⟨S, g, .tup upd_same (.cons (g2.kp g.kp) (.cons (g4.kp g.kp) .nil))⟩
  · rcases zipD_length h with h | h
    · exact ⟨vs, ws, .of h1, .of h3, .inl (by rw [← h2.length]; exact h)⟩
    · exact ⟨vs, ws, .of h1, .of h3, .inr (by rw [← h4.length]; exact h)⟩

variable {tg e : Expr} {es : List Expr} {m : EM} {l : LM} {pos p : Pos}
theorem ji_range1 (hg : Gl X "range") (hm : X.mg "range" = none) (ha : PE X e (rE G W m)) (hs : starEach [e] X.env = [(false, eval e X.env)] := by rfl) : PI X tg (.Call (.Name "range" p) [e] [] pos) (rI G W (lR1 m)) :=
  (pi_range1 hg hm (pa_cons ha pa_nil hs) hs).imp fun σ H Q h => by
    refine (RD.bind (R0 := vD G) h).mono fun x H1 ⟨d, σ1, S1, rel, rep, p⟩ => ?_
    have rep' : Rep G H1 S1 d x := rep
    cases rep' with
    | int j =>
      have p' : Post G W σ H1 S1 (Own σ σ1) (vI G) (if -4611686018427387904 ≤ j ∧ j < 4611686018427387904 then .ok (rng 0 j.toNat) σ1 else .stuck) Q := p
      split at p'
      · rename_i hz
        exact ⟨j, rfl, by omega, by omega, Post.fin rel p' .refl ⟨_, follows_range, trivial⟩⟩
      · exact p'.elim
    | _ => exact p.elim
theorem ji_range2 {e2 : Expr} (hg : Gl X "range") (hm : X.mg "range" = none) (ha : PA X [e, e2] (rL G W l)) (hs : starEach [e, e2] X.env = [(false, eval e X.env), (false, eval e2 X.env)] := by rfl) (hs2 : starEach [e2] X.env = [(false, eval e2 X.env)] := by rfl) :
    PI X tg (.Call (.Name "range" p) [e, e2] [] pos) (rI G W (lR2 l)) :=
  (pi_range2 hg hm ha hs hs2).imp fun σ H Q h => by
    refine (RD.bind (R0 := vL G) h).mono fun xs H1 ⟨ds, σ1, S1, rel, rep, p⟩ => ?_
    have rep' : Reps G H1 S1 ds xs := rep
    split at p
    · rename_i i j
      cases rep' with
      | cons r1 r2 =>
        cases r2 with
        | cons r2 r3 =>
          cases r3
          cases r1
          cases r2
          split at p
          · rename_i hz
            exact ⟨i, j, rfl, ⟨by omega, by omega, by omega, by omega⟩, Post.fin rel p .refl ⟨_, follows_range, trivial⟩⟩
          · exact p.elim
    · exact p.elim
theorem ji_it (hK : X.K = G.K) (ha : PE X e (rE G W m)) : PI X tg e (rI G W (lIt m)) :=
  (PI.or (pi_list ha) (PI.or (pi_tup ha) (pi_str ha))).imp fun σ H Q h => by
    have h0 := RD.bind (R0 := vD G) h
    obtain ⟨σw, S, rel0, h1⟩ := h
    unfold lIt at h1
    have key : ∀ (d : D), (∃ σ1, m σw = .ok d σ1) → rE G W m σ H (fun x H1 => ∃ d' σ1 S1, Rel G H1 S1 σ σ1 ∧ d' = d ∧ Rep G H1 S1 d' x ∧ Post G W σ H1 S1 (Own σ σ1) (vI G) (.opt (itD d') σ1) Q) := fun d ⟨σ1, hd⟩ => by
      refine ⟨σw, S, rel0, ?_⟩
      have h2 := Post.bind (R0 := vD G) h1
      rw [hd] at h2 ⊢
      intro v H1 S1 q1 q2 q3
      refine ⟨d, σ1, S1, q1, rfl, q3, ?_⟩
      have h1' : Post G W σ H S (Own σ σw) (vI G) ((m σw).bind fun d σ1 => .opt (itD d) σ1) Q := h1
      rw [hd] at h1'
      exact Post.ext q2 h1'
    cases hd : m σw with
    | ok d σ1 =>
      have k := key d ⟨σ1, hd⟩
      have h1' : Post G W σ H S (Own σ σw) (vI G) ((m σw).bind fun d σ1 => .opt (itD d) σ1) Q := h1
      rw [hd] at h1'
      cases d with
      | lst ds =>
        refine .inl (k.mono fun x H1 ⟨d', σ2, S2, rel, ed, rep, p⟩ => ?_)
        subst ed
        cases rep with
        | @lst a vs _ s h r => exact ⟨a, rfl, ⟨vs, .of h⟩, Post.fin rel p .refl ⟨_, follows_list (vs := vs), .inl ⟨s, .inl h⟩, r⟩⟩
      | scr ds =>
        refine .inl (k.mono fun x H1 ⟨d', σ2, S2, rel, ed, rep, p⟩ => ?_)
        subst ed
        cases rep with
        | @scr a vs _ s r => exact ⟨a, rfl, ⟨vs, by rw [hK]; exact s.sql⟩, Post.fin rel p .refl ⟨_, follows_list (vs := vs), by rw [hK]; exact s, r⟩⟩
      | tup ds =>
        refine .inr (.inl (k.mono fun x H1 ⟨d', σ2, S2, rel, ed, rep, p⟩ => ?_))
        subst ed
        cases rep with
        | @tup a vs _ h r => exact ⟨a, rfl, ⟨vs, .of h⟩, Post.fin rel p .refl ⟨_, follows_tup (vs := vs), h, r⟩⟩
      | str y =>
        refine .inr (.inr (k.mono fun x H1 ⟨d', σ2, S2, rel, ed, rep, p⟩ => ?_))
        subst ed
        cases rep
        exact ⟨y, rfl, Post.fin rel p .refl ⟨_, follows_str, trivial⟩⟩
      | _ => exact h1'.elim
    | exc c fs σ1 =>
      have h1' : Post G W σ H S (Own σ σw) (vI G) ((m σw).bind fun d σ1 => .opt (itD d) σ1) Q := h1
      rw [hd] at h1'
      exact .inl ⟨σw, S, rel0, by rw [hd]; exact h1'⟩
    | stuck =>
      have h1' : Post G W σ H S (Own σ σw) (vI G) ((m σw).bind fun d σ1 => .opt (itD d) σ1) Q := h1
      rw [hd] at h1'
      exact h1'.elim
theorem ji_enum {elts : List Expr} {kk : Nat} {tpos : Pos} (hK : X.K = G.K) (hg : Gl X "enumerate") (hm : X.mg "enumerate" = none) (ha : PE X e (rE G W m)) (hs : starEach [e] X.env = [(false, eval e X.env)] := by rfl) :
    PI X (.Tuple elts kk tpos) (.Call (.Name "enumerate" p) [e] [] pos) (rI G W (lEnum m)) := (pi_enum hg hm (pa_cons ha pa_nil hs) hs).imp fun σ H Q h => by
  refine (RD.bind (R0 := vD G) h).mono fun x H1 ⟨d, σ1, S1, rel, rep, p⟩ => ?_
  have rep' : Rep G H1 S1 d x := rep
  cases rep' with
  | @lst a vs ds s h r => exact ⟨a, vs, rfl, .of h, Post.fin rel p .refl ⟨_, follows_enum (vs := vs), .inl ⟨s, .inl h⟩, r⟩⟩
  | @scr a vs ds s r => exact ⟨a, vs, rfl, by rw [hK]; exact s.sql, Post.fin rel p .refl ⟨_, follows_enum (vs := vs), by rw [hK]; exact s, r⟩⟩
  | _ => exact p.elim

/-! ### targets -/
structure Diff (ts : List Nat) (σ σ' : L2.St) : Prop where
  len : σ'.length = σ.length
  out : ∀ j, j ∉ ts → σ'[j]? = σ[j]?
def rTg (G : GC) (ts : List Nat) (t : TgM) : TG := fun v σ H Q => ∃ σw S d σ1, Rel G H S σ σw ∧ Rep G H S d v ∧ t d σw = some σ1 ∧
  ∀ σV, Rel G H S σV σ1 → (∀ a, Own σV σ1 a → Own σ σw a) → Diff ts σ σV → Q σV H
def rTgs (G : GC) (ts : List Nat) (t : List TgM) : TGs := fun vs σ H Q => ∃ σw S ds σ1, Rel G H S σ σw ∧ Reps G H S ds vs ∧ gTs t ds σw = some σ1 ∧
  ∀ σV, Rel G H S σV σ1 → (∀ a, Own σV σ1 a → Own σ σw a) → Diff ts σ σV → Q σV H
theorem _root_.L2.PG.imp {X : Cx} {tg : Expr} {t t' : TG} (p : PG X tg t) (h : ∀ v σ H Q, t' v σ H Q → t v σ H Q) : PG X tg t' := ⟨fun pins s σ H v u Q I r q => p.run pins s σ H v u Q I r (h v σ H Q q)⟩
theorem _root_.L2.PGs.imp {X : Cx} {tg : List Expr} {t t' : TGs} (p : PGs X tg t) (h : ∀ v σ H Q, t' v σ H Q → t v σ H Q) : PGs X tg t' := ⟨fun pins s σ H v u Q I r q => p.run pins s σ H v u Q I r (h v σ H Q q)⟩
theorem jg_n (i : Nat) (h : PG X tg (gName i)) : PG X tg (rTg G [i] (gN i)) := h.imp fun v σ H Q ⟨σw, S, d, σ1, rel, rep, ht, q⟩ => by
  cases ht
  exact q _ (rel.set rep) (fun a o => o.set) ⟨by simp, fun j hj => List.getElem?_set_ne fun e => hj (by simp [e])⟩
theorem jgs_nil : PGs X [] (rTgs G [] []) := pgs_nil.imp fun vs σ H Q ⟨σw, S, ds, σ1, rel, rep, ht, q⟩ => by
  cases rep with
  | nil =>
    cases ht
    exact ⟨rfl, q _ rel (fun _ o => o) ⟨rfl, fun _ _ => rfl⟩⟩
  | cons a b => cases ht
theorem jgs_cons {t : TgM} {tl : List TgM} {ts ts2 : List Nat} (h1 : PG X e (rTg G ts t)) (h2 : PGs X es (rTgs G ts2 tl)) (hs : (assignEach (e :: es) X.env).map (·.2) = assign e X.env :: (assignEach es X.env).map (·.2) := by rfl) :
    PGs X (e :: es) (rTgs G (ts ++ ts2) (t :: tl)) := (pgs_cons h1 h2 hs).imp fun vs σ H Q ⟨σw, S, ds, σ1, rel, rep, ht, q⟩ => by
  cases rep with
  | nil => cases ht
  | @cons d v ds vs a b =>
    have ht' : (t d σw).bind (fun σ2 => gTs tl ds σ2) = some σ1 := ht
    cases e : t d σw with
    | none => rw [e] at ht'; cases ht'
    | some σ2 =>
      rw [e] at ht'
      refine ⟨v, vs, rfl, σw, S, d, σ2, rel, a, e, fun σV r1 o1 d1 => ?_⟩
      exact ⟨σ2, S, ds, σ1, r1, b, ht', fun σV2 r2 o2 d2 => q σV2 r2 (fun x o => o1 x (o2 x o)) ⟨d2.len.trans d1.len, fun j hj => (d2.out j fun z => hj (List.mem_append_right _ z)).trans (d1.out j fun z => hj (List.mem_append_left _ z))⟩⟩
theorem gTs_length : ∀ {tl : List TgM} {ds : List D} {σ σ1 : Ev}, gTs tl ds σ = some σ1 → ds.length = tl.length
  | [], [], _, _, _ => rfl
  | [], _ :: _, _, _, h => by cases h
  | _ :: _, [], _, _, h => by cases h
  | t :: tl, d :: ds, σ, σ1, h => by
    have h' : (t d σ).bind (fun σ2 => gTs tl ds σ2) = some σ1 := h
    cases e : t d σ with
    | none => rw [e] at h'; cases h'
    | some σ2 =>
      rw [e] at h'
      rw [List.length_cons, List.length_cons, gTs_length (show gTs tl ds σ2 = some σ1 from h')]
theorem jg_t {tl : List TgM} {ts : List Nat} {k n : Nat} (hc : X.calm = true) (h : PGs X es (rTgs G ts tl)) (hl : tl.length = n)
    (hn : (assignEach es X.env).length = n := by rfl) (hst : (assignEach es X.env).findIdx? (·.1) = none := by rfl) : PG X (.Tuple es k pos) (rTg G ts (gT tl)) := (pg_tup hc h hn hst).imp fun v σ H Q ⟨σw, S, d, σ1, rel, rep, ht, q⟩ => by
  cases rep with
  | @tup a vs ds h r => exact ⟨a, vs, rfl, .of h, by rw [← r.length, gTs_length ht]; exact hl, σw, S, ds, σ1, rel, r, ht, q⟩
  | _ => cases ht
end
end VM
end
section
set_option linter.all false
set_option maxRecDepth 100000
/-! VLoop2: for, while, comprehensions. -/
namespace VM
open PySem PySem.Spec L2
section
variable {G : GC} {RR : RVal D V} {W : WX} {io : List Nat} {X : Cx} {σ σ1 : L2.St} {H H1 : Hp} {S O S1 O1 O2 : Addr → Prop} {σw : Ev} {α β γ δ : Type}
theorem Ext.less (e : Ext H S O H1 S1 O1) (h : ∀ a, O2 a → O1 a) : Ext H S O H1 S1 O2 := ⟨e.keep, e.sub, e.grow, fun a o => e.own a (h a o), e.there⟩
theorem Diff.keeps {ts : List Nat} (d : Diff ts σ σ1) (h : ∀ j ∈ io, j ∉ ts) : Keeps io σ σ1 := fun j hj => d.out j (h j hj)
variable {tg e iter c : Expr} {es : List Expr} {m : EM} {l : LM} {pos p : Pos} {body : List Stmt} {sb : SM} {t : TgM} {ts : List Nat} {tc : TM}
theorem js_for (hio : ∀ j ∈ io, j ∉ ts) (hp : PassesOwn (model X.prog X.w) X.A X.env X.xe) (hc : X.calm = true) (hi : PI X tg iter (rI G W l)) (hg : PG X tg (rTg G ts t)) (hb : PSs X body (rS G RR W io sb))
    (hs : ∀ x, foldedSetIterable iter X.env x = pure x := by intro _; rfl) : PS X (.For tg iter body [] pos) (rS G RR W io (sFor l t sb)) := by
  refine (ps_for hp hc hi hg hb hs).imp fun D σ H h => ?_
  refine (rS.st (R0 := vI G) h).mono fun J H1 ⟨xs, σ1, S1, rel1, ⟨C, ⟨fk, fl⟩, c1⟩, p1⟩ => ?_
  refine ⟨fun i n σ' H' => n = xs.length - i ∧ ∃ σw' S', Rel G H' S' σ' σw' ∧ C H' S' ∧ PostS G RR W io σ' H' S' (Own σ' σw') (forL t sb (xs.drop i) σw') D, ⟨_, rfl, σ1, S1, rel1, c1, p1⟩, ?_⟩
  rintro i n σ' H' ⟨en, σw', S', rel', c', p'⟩
  cases hx : xs[i]? with
  | none =>
    have hle : xs.length ≤ i := List.getElem?_eq_none_iff.mp hx
    rw [List.drop_eq_nil_of_le hle] at p'
    exact .inl ⟨(fl i H' S' c').2 hle, PostS.nxt rel' p'⟩
  | some d =>
    have hlt : i < xs.length := (List.getElem?_eq_some_iff.mp hx).1
    have hd : xs.drop i = d :: xs.drop (i + 1) := by
      rw [List.drop_eq_getElem_cons hlt]
      have : xs[i] = d := (List.getElem?_eq_some_iff.mp hx).2
      rw [this]
    rw [hd] at p'
    obtain ⟨go, yl⟩ := (fl i H' S' c').1 d hx
    refine .inr ⟨go, fun σ2 H2 => ∃ σw2 S2, Rel G H2 S2 σ2 σw2 ∧ C H2 S2 ∧ PostS G RR W io σ2 H2 S2 (Own σ2 σw2) (forL t sb (xs.drop (i + 1)) σw2) D, fun σ2 H2 ⟨σw2, S2, q⟩ => ⟨xs.length - (i + 1), by omega, rfl, σw2, S2, q⟩, fun x H2 hy => ?_⟩
    obtain ⟨S2, g2, rep2⟩ := yl x H2 hy
    have p2 : PostS G RR W io σ' H' S' (Own σ' σw') (match t d σw' with
      | none => .stuck
      | some σ1 => match sb σ1 with
        | .nx σ2 => forL t sb (xs.drop (i + 1)) σ2
        | .ct σ2 => forL t sb (xs.drop (i + 1)) σ2
        | .bk σ2 => .nx σ2
        | r => r) D := p'
    cases ht : t d σw' with
    | none => rw [ht] at p2; exact p2.elim
    | some σ3 =>
      rw [ht] at p2
      refine ⟨σw', S2, d, σ3, rel'.gr g2, rep2, ht, fun σV relV ownV dV => ?_⟩
      have e3 : Ext H' S' (Own σ' σw') H2 S2 (Own σV σ3) := Ext.less (g2.ext (O := Own σ' σw')) ownV
      have k3 : Keeps io σ' σV := dV.keeps hio
      have kp3 := rel'.kp e3
      refine ⟨σ3, S2, relV, ?_⟩
      have p3 := PostS.move e3 k3 p2
      cases hb2 : sb σ3 with
      | nx σ4 =>
        simp only [hb2] at p3
        exact fun σ5 H5 S5 q1 q2 q3 => ⟨σ4, S5, q1, fk _ _ _ _ (relV.kp q2) (fk _ _ _ _ kp3 c'), PostS.move q2 q3 p3⟩
      | ct σ4 =>
        simp only [hb2] at p3
        exact fun σ5 H5 S5 q1 q2 q3 => ⟨σ4, S5, q1, fk _ _ _ _ (relV.kp q2) (fk _ _ _ _ kp3 c'), PostS.move q2 q3 p3⟩
      | bk σ4 =>
        simp only [hb2] at p3
        exact p3
      | rt d σ4 =>
        simp only [hb2] at p3
        exact p3
      | exc c fs σ4 =>
        simp only [hb2] at p3
        exact p3
      | stuck =>
        simp only [hb2] at p3
        exact p3
theorem js_while (hp : PassesOwn (model X.prog X.w) X.A X.env X.xe) (hc : PT X c (rT G W tc)) (hb : PSs X body (rS G RR W io sb)) : PS X (.While c body [] pos) (rS G RR W io (sWhile tc sb)) := by
  refine (ps_while hp hc hb).imp fun D σ H ⟨σw, S, rel, h⟩ => ?_
  unfold sWhile at h
  split at h
  · rename_i hex
    refine ⟨fun n σ' H' => ∃ σw' S', Rel G H' S' σ' σw' ∧ PostS G RR W io σ' H' S' (Own σ' σw') (whileL tc sb n σw') D, ⟨_, σw, S, rel, h⟩, ?_⟩
    rintro n σ' H' ⟨σw', S', rel', p'⟩
    cases n with
    | zero => exact p'.elim
    | succ n =>
      refine ⟨σw', S', rel', (PostS.st (R0 := vB) (show PostS G RR W io σ' H' S' (Own σ' σw') ((tc σw').st fun c σ1 => if c = true then
        match sb σ1 with
        | .nx σ2 => whileL tc sb n σ2
        | .ct σ2 => whileL tc sb n σ2
        | .bk σ2 => .nx σ2
        | r => r
      else .nx σ1) D from p')).mono fun b H1 ⟨d, σ1, S1, rel1, ext1, rep, p⟩ => ?_⟩
      have e : d = b := rep
      subst e
      cases d with
      | false =>
        rw [if_neg Bool.false_ne_true] at p ⊢
        exact p.nxt rel1
      | true =>
        rw [if_pos rfl] at p ⊢
        refine ⟨fun σ2 H2 => ∃ σw2 S2, Rel G H2 S2 σ2 σw2 ∧ PostS G RR W io σ2 H2 S2 (Own σ2 σw2) (whileL tc sb n σw2) D, fun σ2 H2 q => ⟨n, Nat.lt_succ_self n, q⟩, σ1, S1, rel1, ?_⟩
        cases hb2 : sb σ1 with
        | nx σ4 =>
          simp only [hb2] at p
          exact fun σ5 H5 S5 q1 q2 q3 => ⟨σ4, S5, q1, PostS.move q2 q3 p⟩
        | ct σ4 =>
          simp only [hb2] at p
          exact fun σ5 H5 S5 q1 q2 q3 => ⟨σ4, S5, q1, PostS.move q2 q3 p⟩
        | bk σ4 =>
          simp only [hb2] at p
          exact p
        | rt d σ4 =>
          simp only [hb2] at p
          exact p
        | exc c fs σ4 =>
          simp only [hb2] at p
          exact p
        | stuck =>
          simp only [hb2] at p
          exact p
  · exact h.elim

/-! ### comprehensions -/
theorem wipe_get (σ : L2.St) (j : Nat) : ∀ vs : List Nat, (wipe σ vs)[j]? = if j ∈ vs ∧ j < σ.length then some none else σ[j]?
  | [] => by simp [wipe]
  | v :: vs => by
    unfold wipe
    by_cases hj : v = j
    · subst hj
      by_cases hl : v < σ.length
      · rw [List.getElem?_set_self (by rw [wipe_length]; exact hl), if_pos ⟨by simp, hl⟩]
      · rw [List.getElem?_eq_none (by rw [List.length_set, wipe_length]; omega), if_neg (by omega), List.getElem?_eq_none (by omega)]
    · rw [List.getElem?_set_ne hj, wipe_get σ j vs]
      have : (j ∈ v :: vs ∧ j < σ.length) ↔ (j ∈ vs ∧ j < σ.length) := by
        simp only [List.mem_cons]
        constructor
        · rintro ⟨h | h, k⟩
          · exact absurd h.symm hj
          · exact ⟨h, k⟩
        · rintro ⟨h, k⟩; exact ⟨.inr h, k⟩
      by_cases h : j ∈ vs ∧ j < σ.length
      · rw [if_pos h, if_pos (this.mpr h)]
      · rw [if_neg h, if_neg fun q => h (this.mp q)]
theorem wipeW_length (σ : Ev) : ∀ vs : List Nat, (wipeW σ vs).length = σ.length
  | [] => rfl
  | v :: vs => by unfold wipeW; rw [List.length_set, wipeW_length σ vs]
theorem wipeW_get (σ : Ev) (j : Nat) : ∀ vs : List Nat, (wipeW σ vs)[j]? = if j ∈ vs ∧ j < σ.length then some .un else σ[j]?
  | [] => by simp [wipeW]
  | v :: vs => by
    unfold wipeW
    by_cases hj : v = j
    · subst hj
      by_cases hl : v < σ.length
      · rw [List.getElem?_set_self (by rw [wipeW_length]; exact hl), if_pos ⟨by simp, hl⟩]
      · rw [List.getElem?_eq_none (by rw [List.length_set, wipeW_length]; omega), if_neg (by omega), List.getElem?_eq_none (by omega)]
    · rw [List.getElem?_set_ne hj, wipeW_get σ j vs]
      have : (j ∈ v :: vs ∧ j < σ.length) ↔ (j ∈ vs ∧ j < σ.length) := by
        simp only [List.mem_cons]
        constructor
        · rintro ⟨h | h, k⟩
          · exact absurd h.symm hj
          · exact ⟨h, k⟩
        · rintro ⟨h, k⟩; exact ⟨.inr h, k⟩
      by_cases h : j ∈ vs ∧ j < σ.length
      · rw [if_pos h, if_pos (this.mpr h)]
      · rw [if_neg h, if_neg fun q => h (this.mp q)]
def frOf : Option Sl → Sl
  | some (.fr d) => .fr d
  | _ => .un
theorem restW_length (σ0 σ : Ev) : ∀ vs : List Nat, (restW σ0 σ vs).length = σ.length
  | [] => rfl
  | v :: vs => by unfold restW; rw [List.length_set, restW_length σ0 σ vs]
theorem restW_get (σ0 σ : Ev) (j : Nat) : ∀ vs : List Nat, (restW σ0 σ vs)[j]? = if j ∈ vs ∧ j < σ.length then some (frOf σ0[j]?) else σ[j]?
  | [] => by simp [restW]
  | v :: vs => by
    unfold restW
    by_cases hj : v = j
    · subst hj
      by_cases hl : v < σ.length
      · rw [List.getElem?_set_self (by rw [restW_length]; exact hl), if_pos ⟨by simp, hl⟩]
        unfold frOf
        rfl
      · rw [List.getElem?_eq_none (by rw [List.length_set, restW_length]; omega), if_neg (by omega), List.getElem?_eq_none (by omega)]
    · rw [List.getElem?_set_ne hj, restW_get σ0 σ j vs]
      have : (j ∈ v :: vs ∧ j < σ.length) ↔ (j ∈ vs ∧ j < σ.length) := by
        simp only [List.mem_cons]
        constructor
        · rintro ⟨h | h, k⟩
          · exact absurd h.symm hj
          · exact ⟨h, k⟩
        · rintro ⟨h, k⟩; exact ⟨.inr h, k⟩
      by_cases h : j ∈ vs ∧ j < σ.length
      · rw [if_pos h, if_pos (this.mpr h)]
      · rw [if_neg h, if_neg fun q => h (this.mp q)]
theorem wipe_diff {own : List Nat} (d : Diff ts (wipe σ own) σ1) (h : ∀ j ∈ ts, j ∈ own) : wipe σ1 own = wipe σ own := by
  refine List.ext_getElem? fun j => ?_
  have hl : σ1.length = σ.length := by rw [d.len, wipe_length]
  rw [wipe_get, wipe_get, hl]
  by_cases q : j ∈ own ∧ j < σ.length
  · rw [if_pos q, if_pos q]
  · rw [if_neg q, if_neg q]
    by_cases hj : j ∈ ts
    · have : ¬ j < σ.length := fun z => q ⟨h j hj, z⟩
      rw [List.getElem?_eq_none (by omega), List.getElem?_eq_none (by omega)]
    · rw [d.out j hj, wipe_get, if_neg q]
theorem Rel.wipe (r : Rel G H S σ σw) (own : List Nat) : Rel G H S (wipe σ own) (wipeW σw own) ∧ ∀ a, Own (L2.wipe σ own) (wipeW σw own) a → Own σ σw a := by
  have nf : ∀ {j : Nat} {x : Sl}, (wipeW σw own)[j]? = some x → x ≠ .un → ¬ (j ∈ own ∧ j < σw.length) ∧ σw[j]? = some x := fun {j x} h n => by
    rw [wipeW_get] at h
    by_cases q : j ∈ own ∧ j < σw.length
    · rw [if_pos q] at h; exact absurd (Option.some.inj h).symm n
    · rw [if_neg q] at h; exact ⟨q, h⟩
  have gv : ∀ {j : Nat}, ¬ (j ∈ own ∧ j < σw.length) → (L2.wipe σ own)[j]? = σ[j]? := fun {j} q => by
    rw [wipe_get, r.len, if_neg q]
  refine ⟨⟨by rw [wipe_length, wipeW_length, r.len], fun j d h => ?_, fun j d h => ?_, fun j k d e a h1 h2 h3 h4 => ?_, r.trk⟩, fun a ⟨j, d, h1, h2⟩ => ?_⟩
  · obtain ⟨q, h'⟩ := nf h (by simp)
    rw [gv q]; exact r.fr j d h'
  · obtain ⟨q, h'⟩ := nf h (by simp)
    rw [gv q]; exact r.ow j d h'
  · obtain ⟨q1, h1'⟩ := nf h1 (by simp)
    obtain ⟨q2, h2'⟩ := nf h2 (by simp)
    rw [gv q1] at h3
    rw [gv q2] at h4
    exact r.inj j k d e a h1' h2' h3 h4
  · obtain ⟨q, h1'⟩ := nf h1 (by simp)
    rw [gv q] at h2
    exact ⟨j, d, h1', h2⟩
/-- something else is changed -/
theorem Rel.other (r : Rel G H S σ σw) {q : Addr} {o : HO} (hS : ¬ S q) (hO : ¬ Own σ σw q) (hn : ∀ xs, H q ≠ some (.tup xs)) : Rel G (L2.upd H q o) S σ σw := by
  have k : Kp H S (L2.upd H q o) S := ⟨fun _ s => s, fun b u s z => by rw [upd_ne (fun y => hS (by rw [← y]; exact s))]; exact z, fun b xs z => by rw [upd_ne (fun y => hn xs (by rw [← y]; exact z))]; exact z⟩
  refine ⟨r.len, fun j d h => ?_, fun j d h => ?_, r.inj, fun b s => ?_⟩
  · obtain ⟨v, q1, q2⟩ := r.fr j d h
    exact ⟨v, q1, q2.kp k⟩
  · obtain ⟨b, q1, q2, q3⟩ := r.ow j d h
    exact ⟨b, q1, q2, q3.kp k fun u z => by rw [upd_ne (fun y => hO ⟨j, d, h, by rw [← y]; exact q1⟩)]; exact z⟩
  · have := r.trk b s
    by_cases z : b = q
    · rw [z, upd_same]; simp
    · rw [upd_ne z]; exact this
theorem jts_nil : PTs X [] (rT G W tYes) := ⟨fun pins s σ H Q I ⟨σw, S, r, h⟩ => pts_nil.run pins s σ H Q I (Post.fin (R0 := vB) (v := true) r h .refl rfl)⟩
theorem jts_one {c : Expr} (h : PT X c (rT G W tc)) : PTs X [c] (rT G W tc) := pts_one h
abbrev W0 : WX := fun _ _ _ _ => False
/-- what a comprehension's mirror gives -/
theorem lc_imp {own : List (Str × Nat)} {ix : List Nat} {tt : TM} {te : EM} {Q : VK} (hix : own.map (·.2) = ix) (hts : ∀ j ∈ ts, j ∈ ix) (h : rF G W (lLc l t tt te ix) σ H Q) : tLc (rI G W l) (rTg G ts t) (rT G W0 tt) (rE G W0 te) (own.map (·.2)) σ H Q := by
  subst hix
  refine (RD.bind (R0 := vI G) h).mono fun J H1 ⟨xs, σ1, S1, rel1, ⟨C, ⟨fk, fl⟩, c1⟩, p1⟩ D0 hD => ?_
  obtain ⟨ix, hix⟩ : ∃ ix, ix = own.map (·.2) := ⟨_, rfl⟩
  rw [← hix] at p1 ⊢
  have hts' : ∀ j ∈ ts, j ∈ ix := by rw [hix]; exact hts
  obtain ⟨relw, ownw⟩ := rel1.wipe ix
  have nO1 : ¬ Own σ σ1 D0 := fun o => by
    obtain ⟨u, e, _⟩ := rel1.ownNe o
    rw [hD] at e; cases e
  have nS1 : ¬ S1 D0 := fun s => rel1.trk _ s hD
  have g0 : Gr H1 S1 (upd H1 D0 (.lst [])) S1 := .new hD
  refine ⟨fun i n H' => n = xs.length - i ∧ ∃ σw' S' acc vs, Rel G H' S' (wipe σ ix) σw' ∧ C H' S' ∧ H' D0 = some (.lst vs) ∧ ¬ S' D0 ∧ ¬ Own (wipe σ ix) σw' D0 ∧ Reps G H' S' acc vs ∧ Ext H1 S1 (Own σ σ1) H' S' (Own (wipe σ ix) σw') ∧
      lcL t tt te ix xs [] (wipeW σ1 ix) = lcL t tt te ix (xs.drop i) acc σw',
    ⟨_, rfl, wipeW σ1 ix, S1, [], [], relw.gr g0, fk _ _ _ _ g0.kp c1, upd_same, nS1, fun o => nO1 (ownw _ o), .nil, Ext.less g0.ext ownw, rfl⟩, ?_⟩
  rintro i n H' ⟨en, σw', S', acc, vs, rel', c', hD', nS', nO', acc', ext', eq'⟩
  have p1' := p1
  rw [eq'] at p1'
  cases hx : xs[i]? with
  | none =>
    have hle : xs.length ≤ i := List.getElem?_eq_none_iff.mp hx
    rw [List.drop_eq_nil_of_le hle] at p1'
    refine .inl ⟨(fl i H' S' c').2 hle, ?_⟩
    have p2 : Post G W σ H1 S1 (Own σ σ1) (vF G) (.ok acc (restW σ1 σw' ix)) Q := p1'
    -- the slots again
    have kk := rel1.kp ext'
    have lenw : σw'.length = σ1.length := by rw [← rel'.len, wipe_length, rel1.len]
    have cas : ∀ {j : Nat} {x : Sl}, (restW σ1 σw' ix)[j]? = some x → x ≠ .un → ((j ∈ ix ∧ j < σ1.length) ∧ ∃ d, x = .fr d ∧ σ1[j]? = some (.fr d)) ∨ (¬ (j ∈ ix ∧ j < σ1.length) ∧ σw'[j]? = some x) := fun {j x} hj n => by
      rw [restW_get, lenw] at hj
      by_cases q : j ∈ ix ∧ j < σ1.length
      · rw [if_pos q] at hj
        have hj' := Option.some.inj hj
        unfold frOf at hj'
        split at hj'
        · rename_i d hd
          exact .inl ⟨q, d, hj'.symm, hd⟩
        · exact absurd hj'.symm n
      · rw [if_neg q] at hj
        exact .inr ⟨q, hj⟩
    have gv : ∀ {j : Nat}, ¬ (j ∈ ix ∧ j < σ1.length) → (wipe σ ix)[j]? = σ[j]? := fun {j} q => by
      rw [wipe_get, rel1.len, if_neg q]
    have relR : Rel G H' S' σ (restW σ1 σw' ix) := by
      refine ⟨by rw [restW_length, lenw, rel1.len], fun j d h => ?_, fun j d h => ?_, fun j k d e a h1 h2 h3 h4 => ?_, rel'.trk⟩
      · rcases cas h (by simp) with ⟨_, d', e, h'⟩ | ⟨q, h'⟩
        · cases e
          obtain ⟨v, q1, q2⟩ := rel1.fr j d h'
          exact ⟨v, q1, q2.kp kk⟩
        · rw [← gv q]; exact rel'.fr j d h'
      · rcases cas h (by simp) with ⟨_, d', e, h'⟩ | ⟨q, h'⟩
        · cases e
        · rw [← gv q]; exact rel'.ow j d h'
      · rcases cas h1 (by simp) with ⟨_, d', e, h'⟩ | ⟨q1, h1'⟩
        · cases e
        · rcases cas h2 (by simp) with ⟨_, d', e, h'⟩ | ⟨q2, h2'⟩
          · cases e
          · rw [← gv q1] at h3
            rw [← gv q2] at h4
            exact rel'.inj j k d e a h1' h2' h3 h4
    have ownR : ∀ a, Own σ (restW σ1 σw' ix) a → Own (wipe σ ix) σw' a := fun a ⟨j, d, h1, h2⟩ => by
      rcases cas h1 (by simp) with ⟨_, d', e, h'⟩ | ⟨q, h'⟩
      · cases e
      · rw [← gv q] at h2; exact ⟨j, d, h', h2⟩
    exact p2 _ H' S' relR (Ext.less ext' ownR) ⟨D0, rfl, hD, nS', fun o => nO' (ownR _ o), vs, hD', acc'⟩
  | some d =>
    have hlt : i < xs.length := (List.getElem?_eq_some_iff.mp hx).1
    have hd : xs.drop i = d :: xs.drop (i + 1) := by
      rw [List.drop_eq_getElem_cons hlt]
      have : xs[i] = d := (List.getElem?_eq_some_iff.mp hx).2
      rw [this]
    rw [hd] at p1' eq'
    obtain ⟨go, yl⟩ := (fl i H' S' c').1 d hx
    refine .inr ⟨go, fun H2 => ∃ σw2 S2 acc2 vs2, Rel G H2 S2 (wipe σ ix) σw2 ∧ C H2 S2 ∧ H2 D0 = some (.lst vs2) ∧ ¬ S2 D0 ∧ ¬ Own (wipe σ ix) σw2 D0 ∧ Reps G H2 S2 acc2 vs2 ∧ Ext H1 S1 (Own σ σ1) H2 S2 (Own (wipe σ ix) σw2) ∧
      lcL t tt te ix xs [] (wipeW σ1 ix) = lcL t tt te ix (xs.drop (i + 1)) acc2 σw2, fun H2 ⟨a1, a2, a3, a4, q⟩ => ⟨xs.length - (i + 1), by omega, rfl, a1, a2, a3, a4, q⟩, fun x H2 hy => ?_⟩
    obtain ⟨S2, g2, rep2⟩ := yl x H2 hy
    have step : lcL t tt te ix (d :: xs.drop (i + 1)) acc σw' = (match t d (wipeW σw' ix) with
      | none => .stuck
      | some σ1 => match tt σ1 with
        | .ok true σ2 => match te σ2 with
          | .ok d σ3 => if acc.length < 16777216 then lcL t tt te ix (xs.drop (i + 1)) (acc ++ [d]) (wipeW σ3 ix) else .stuck
          | _ => .stuck
        | .ok false σ2 => lcL t tt te ix (xs.drop (i + 1)) acc (wipeW σ2 ix)
        | _ => .stuck) := rfl
    rw [step] at p1' eq'
    obtain ⟨relw2, ownw2⟩ := (rel'.gr g2).wipe ix
    have ww : wipe (wipe σ ix) ix = wipe σ ix := wipe_diff (ts := []) (own := ix) ⟨rfl, fun _ _ => rfl⟩ (by simp)
    rw [ww] at relw2 ownw2
    cases ht3 : t d (wipeW σw' ix) with
    | none => simp only [ht3] at p1'; exact p1'.elim
    | some σ3 =>
      simp only [ht3] at p1' eq'
      refine ⟨wipeW σw' ix, S2, d, σ3, relw2, rep2, ht3, fun σV relV ownV dV => ?_⟩
      have wV : wipe σV ix = wipe σ ix := wipe_diff dV hts'
      refine ⟨wV, ?_⟩
      have e3 : Ext H' S' (Own (wipe σ ix) σw') H2 S2 (Own σV σ3) := Ext.less g2.ext fun a o => ownw2 a (ownV a o)
      have hD2 : H2 D0 = some (.lst vs) := g2.keep _ _ hD'
      have nS2 : ¬ S2 D0 := fun s => (g2.grow _ s).elim nS' fun q => by rw [hD'] at q; cases q.1
      have nO2 : ¬ Own σV σ3 D0 := fun o => nO' (ownw2 _ (ownV _ o))
      have acc2 := acc'.kp g2.kp
      have c2 := fk _ _ _ _ g2.kp c'
      cases htt : tt σ3 with
      | ok b σ4 =>
        refine ⟨σ3, S2, relV, ?_⟩
        rw [htt]
        intro b' H3 S3 rel3 ext3 eb
        have eb' : b = b' := eb
        subst eb'
        have hD3 : H3 D0 = some (.lst vs) := ext3.keep _ _ hD2 nO2
        have nS3 : ¬ S3 D0 := fun s => (ext3.grow _ s).elim nS2 fun q => q.elim nO2 fun q => by rw [hD2] at q; cases q
        have nO3 : ¬ Own σV σ4 D0 := fun o => (ext3.own _ o).elim nO2 fun q => by rw [hD2] at q; cases q
        have kp3 := relV.kp ext3
        have acc3 := acc2.kp kp3
        have c3 := fk _ _ _ _ kp3 c2
        have e4 := e3.trans ext3
        cases b with
        | true =>
          rw [if_pos rfl]
          refine ⟨σ4, S3, rel3, ?_⟩
          cases hte : te σ4 with
          | ok dd σ5 =>
            intro y H4 S4 rel4 ext4 rep4
            have rep4' : Rep G H4 S4 dd y := rep4
            have hD4 : H4 D0 = some (.lst vs) := ext4.keep _ _ hD3 nO3
            have nS4 : ¬ S4 D0 := fun s => (ext4.grow _ s).elim nS3 fun q => q.elim nO3 fun q => by rw [hD3] at q; cases q
            have nO4 : ¬ Own σV σ5 D0 := fun o => (ext4.own _ o).elim nO3 fun q => by rw [hD3] at q; cases q
            have kp4 := rel3.kp ext4
            have acc4 := acc3.kp kp4
            have c4 := fk _ _ _ _ kp4 c3
            simp only [htt, hte] at p1' eq'
            by_cases hz : acc.length < 16777216
            · rw [if_pos hz] at eq'
              refine ⟨vs, hD4, by rw [← acc4.length, sz]; exact hz, ?_⟩
              have hn : ∀ xs, H4 D0 ≠ some (.tup xs) := fun xs z => by rw [hD4] at z; cases z
              have kp5 : Kp H4 S4 (upd H4 D0 (.lst (vs ++ [y]))) S4 := ⟨fun _ s => s, fun b u s z => by rw [upd_ne (fun y => nS4 (by rw [← y]; exact s))]; exact z, fun b xs z => by rw [upd_ne (fun y => hn xs (by rw [← y]; exact z))]; exact z⟩
              have rel5 := rel4.other (o := .lst (vs ++ [y])) nS4 nO4 hn
              obtain ⟨rel6, own6⟩ := rel5.wipe ix
              rw [wV] at rel6 own6
              refine ⟨wipeW σ5 ix, S4, acc ++ [dd], vs ++ [y], rel6, fk _ _ _ _ kp5 c4, upd_same, nS4, fun o => nO4 (own6 _ o), (acc4.append (.cons rep4' .nil)).kp kp5, ?_, eq'⟩
              have e5 := ext'.trans (e4.trans ext4)
              refine ⟨fun a u q nq => ?_, e5.sub, e5.grow, fun a o => e5.own a (own6 a o), fun a q => ?_⟩
              · rw [upd_ne (fun z => by rw [z, hD] at q; cases q)]
                exact e5.keep a u q nq
              · rw [upd_ne (fun z => by rw [z] at q; exact q hD)]
                exact e5.there a q
            · rw [if_neg hz] at p1'
              exact p1'.elim
          | exc c fs σ5 => simp only [htt, hte] at p1'; exact p1'.elim
          | stuck => simp only [htt, hte] at p1'; exact p1'.elim
        | false =>
          rw [if_neg Bool.false_ne_true]
          simp only [htt] at eq'
          obtain ⟨rel6, own6⟩ := rel3.wipe ix
          rw [wV] at rel6 own6
          exact ⟨wipeW σ4 ix, S3, acc, vs, rel6, c3, hD3, nS3, fun o => nO3 (own6 _ o), acc3, Ext.less (ext'.trans e4) own6, eq'⟩
      | exc c fs σ4 => simp only [htt] at p1'; exact p1'.elim
      | stuck => simp only [htt] at p1'; exact p1'.elim
/-- [e for tg in iter if ..] -/
theorem jf_lc {elt : Expr} {ifs : List Expr} {scope : Scope} {own : List (Str × Nat)} {ix : List Nat} {tt : TM} {te : EM} (hix : own.map (·.2) = ix) (hts : ∀ j ∈ ts, j ∈ ix) (hc : X.calm = true) (hN : X.N.Nodup) (hi : PI X tg iter (rI G W l)) (ok : BlkOk X.N X.env.scope scope own)
    (hg : ∀ (s : Shared) (H : Hp) (C : Addr) (cl : List (Str × Addr)) (fp : List Addr), PG (X.blk s H scope (compEnvC scope cl C X.env) fp) tg (rTg G ts t)) (ht : ∀ (s : Shared) (H : Hp) (C : Addr) (cl : List (Str × Addr)) (fp : List Addr), PTs (X.blk s H scope (compEnvC scope cl C X.env) fp) ifs (rT G W0 tt))
    (he : ∀ (s : Shared) (H : Hp) (C : Addr) (cl : List (Str × Addr)) (fp : List Addr), PE (X.blk s H scope (compEnvC scope cl C X.env) fp) elt (rE G W0 te)) (hs : ∀ x, foldedSetIterable iter X.env x = pure x := by intro _; rfl) :
    PE X (.ListComp elt [⟨tg, iter, ifs, 0⟩] scope pos) (rF G W (lLc l t tt te ix)) := (pe_lc hc hN hi ok hg ht he hs).imp fun σ H Q h => lc_imp hix hts h
end
end VM
end
section
set_option linter.all false
set_option maxRecDepth 100000
/-! VCall: calls of defs, the promise of a def, new instances, raise, try. -/
namespace VM
open PySem PySem.Spec L2
section
variable {G : GC} {W : WX} {io : List Nat} {X : Cx} {σ σ1 : L2.St} {H H1 : Hp} {S O S1 O1 O2 : Addr → Prop} {σw : Ev} {α β γ δ : Type}
abbrev argSt (vs : List V) : L2.St := vs.map some
/-- a def's promise by its mirror: n parameters, those at io are the caller's own objects that it may change -/
def spV (G : GC) (RR : RVal D V) (n : Nat) (F : FM) : Sp := fun vs H Q E => vs.length = n ∧ ∃ args S, args.length = n ∧ Rel G H S (argSt vs) args ∧
  match F args with
  | .ok d outs => ∀ v H' S', Rel G H' S' (argSt vs) outs → Ext H S (Own (argSt vs) args) H' S' (Own (argSt vs) outs) → RR.rel H H' S' (Own (argSt vs) outs) d v → Q v H'
  | .exc c fs outs => ∀ H' S' dx gs, Rel G H' S' (argSt vs) outs → Ext H S (Own (argSt vs) args) H' S' (Own (argSt vs) outs) → H' dx = some (.xd gs) → RepF G H' S' fs gs → E (.ref (G.ca c)) (some dx) H'
  | .stuck => False
theorem spV_len {RR : RVal D V} {n : Nat} {F : FM} {ps : List Str} (h : n = ps.length) : ∀ vs H Q E, spV G RR n F vs H Q E → vs.length = ps.length := fun vs H Q E q => by rw [q.1, h]

/-! ### arguments -/
variable {a b c e : Expr} {es : List Expr} {ma mb m : EM} {l : LM} {as : AM} {pos p : Pos}
theorem jg_nil : PA X [] (rG G W aNil) := pa_nil.imp fun σ H Q ⟨σw, S, r, q⟩ => Post.fin (R0 := vG G σ) (v := []) r q .refl .nil
theorem jg_d (ha : PE X a (rE G W ma)) (hl : PA X es (rG G W as)) (hs : starEach (a :: es) X.env = (false, eval a X.env) :: starEach es X.env := by rfl) : PA X (a :: es) (rG G W (aD ma as)) :=
  (pa_cons ha hl hs).imp fun σ H Q h => by
    have h' : RD G W (vG G σ) (aD ma as) σ H Q := h
    refine (RD.bind (R0 := vD G) h').mono fun x H1 ⟨d, σ1, S1, rel, rep, p⟩ => ?_
    refine ⟨σ1, S1, rel, (Post.bind (R0 := vG G σ) p).mono fun xs H2 ⟨ds, σ2, S2, rel2, ext2, rep2, p2⟩ => ?_⟩
    exact Post.fin (R0 := vG G σ) (v := x :: xs) rel2 p2 .refl (.cons (show Rep G H2 S2 d x from Rep.kp (rel.kp ext2) rep) rep2)
theorem jg_o (i : Nat) (ha : PE X a (tVar i)) (hl : PA X es (rG G W as)) (hs : starEach (a :: es) X.env = (false, eval a X.env) :: starEach es X.env := by rfl) : PA X (a :: es) (rG G W (aO i as)) :=
  (pa_cons ha hl hs).imp fun σ H Q ⟨σw, S, rel0, h⟩ => by
    have h' : Post G W σ H S (Own σ σw) (vG G σ) (aO i as σw) Q := h
    unfold aO at h'
    split at h'
    · rename_i d hd
      obtain ⟨x, e1, _⟩ := rel0.ow i d hd
      refine ⟨_, e1, σw, S, rel0, (Post.bind (R0 := vG G σ) h').mono fun xs H2 ⟨ds, σ2, S2, rel2, ext2, rep2, p2⟩ => ?_⟩
      exact Post.fin (R0 := vG G σ) (v := V.ref x :: xs) rel2 p2 .refl (.cons e1 rep2)
    · exact h'.elim
def argRel (G : GC) (σ : L2.St) (H : Hp) (S : Addr → Prop) (a : Arg) (v : V) : Prop := match a with
  | .dv d => Rep G H S d v
  | .ox i => σ[i]? = some (some v)
theorem paired_get {F : Arg → V → Prop} : ∀ {l : List Arg} {vs : List V} {j : Nat} {x : Arg}, Paired F l vs → l[j]? = some x → ∃ v, vs[j]? = some v ∧ F x v
  | _, _, _, _, .nil, e => by simp at e
  | _, _, 0, _, .cons r t, e => by simp at e; subst e; exact ⟨_, rfl, r⟩
  | _, _, j + 1, _, .cons _ t, e => by
    obtain ⟨v, h1, h2⟩ := paired_get (j := j) t (by simpa using e)
    exact ⟨v, by simpa using h1, h2⟩
theorem ix_mem {l : List Arg} {i : Nat} : i ∈ l.filterMap Arg.ix ↔ Arg.ox i ∈ l := by
  rw [List.mem_filterMap]
  constructor
  · rintro ⟨x, h1, h2⟩
    cases x with
    | dv d => cases h2
    | ox j => cases h2; exact h1
  · intro h
    exact ⟨_, h, rfl⟩
theorem ix_uniq : ∀ {l : List Arg}, (l.filterMap Arg.ix).Nodup → ∀ {j k i : Nat}, l[j]? = some (.ox i) → l[k]? = some (.ox i) → j = k
  | [], _, j, _, _, h, _ => by simp at h
  | x :: l, nd, 0, 0, _, _, _ => rfl
  | x :: l, nd, 0, k + 1, i, h1, h2 => by
    simp at h1
    subst h1
    have nd' : (i :: l.filterMap Arg.ix).Nodup := nd
    exact absurd (ix_mem.mpr (List.mem_of_getElem? (by simpa using h2))) (List.nodup_cons.mp nd').1
  | x :: l, nd, j + 1, 0, i, h1, h2 => by
    simp at h2
    subst h2
    have nd' : (i :: l.filterMap Arg.ix).Nodup := nd
    exact absurd (ix_mem.mpr (List.mem_of_getElem? (by simpa using h1))) (List.nodup_cons.mp nd').1
  | x :: l, nd, j + 1, k + 1, i, h1, h2 => by
    have nd' : (l.filterMap Arg.ix).Nodup := by
      cases x with
      | dv d => exact nd
      | ox i' => exact (List.nodup_cons.mp (show (i' :: l.filterMap Arg.ix).Nodup from nd)).2
    exact congrArg (· + 1) (ix_uniq nd' (j := j) (k := k) (i := i) (by simpa using h1) (by simpa using h2))
theorem putOuts_length : ∀ (l : List Arg) (outs : List Sl) (σ : Ev), (putOuts l outs σ).length = σ.length
  | [], outs, σ => by cases outs <;> rfl
  | x :: l, [], σ => by cases x <;> rfl
  | .dv d :: l, s :: outs, σ => putOuts_length l outs σ
  | .ox i :: l, s :: outs, σ => by show ((putOuts l outs σ).set i s).length = _; rw [List.length_set, putOuts_length l outs σ]
theorem putOuts_not : ∀ (l : List Arg) (outs : List Sl) (σ : Ev) {i : Nat}, Arg.ox i ∉ l → (putOuts l outs σ)[i]? = σ[i]?
  | [], outs, σ, i, _ => by cases outs <;> rfl
  | x :: l, [], σ, i, _ => by cases x <;> rfl
  | .dv d :: l, s :: outs, σ, i, h => putOuts_not l outs σ fun z => h (List.mem_cons_of_mem _ z)
  | .ox j :: l, s :: outs, σ, i, h => by
    show ((putOuts l outs σ).set j s)[i]? = _
    rw [List.getElem?_set_ne fun e => h (by rw [e]; exact List.mem_cons_self), putOuts_not l outs σ fun z => h (List.mem_cons_of_mem _ z)]
theorem putOuts_at : ∀ (l : List Arg) (outs : List Sl) (σ : Ev) {i j : Nat} {s : Sl}, (l.filterMap Arg.ix).Nodup → l[j]? = some (.ox i) → outs[j]? = some s → i < σ.length → (putOuts l outs σ)[i]? = some s
  | [], outs, σ, i, j, s, _, h, _, _ => by simp at h
  | x :: l, [], σ, i, j, s, _, _, h, _ => by simp at h
  | .dv d :: l, t :: outs, σ, i, 0, s, nd, h1, h2, hl => by simp at h1
  | .dv d :: l, t :: outs, σ, i, j + 1, s, nd, h1, h2, hl => putOuts_at l outs σ (j := j) nd (by simpa using h1) (by simpa using h2) hl
  | .ox k :: l, t :: outs, σ, i, 0, s, nd, h1, h2, hl => by
    simp at h1 h2
    subst h1; subst h2
    show ((putOuts l outs σ).set k t)[k]? = _
    rw [List.getElem?_set_self (by rw [putOuts_length]; exact hl)]
  | .ox k :: l, t :: outs, σ, i, j + 1, s, nd, h1, h2, hl => by
    have nd' := List.nodup_cons.mp (show (k :: l.filterMap Arg.ix).Nodup from nd)
    have h1' : l[j]? = some (.ox i) := by simpa using h1
    have hk : k ≠ i := fun e => nd'.1 (by rw [e]; exact ix_mem.mpr (List.mem_of_getElem? h1'))
    show ((putOuts l outs σ).set k t)[i]? = _
    rw [List.getElem?_set_ne hk]
    exact putOuts_at l outs σ (j := j) nd'.2 h1' (by simpa using h2) hl

theorem argSt_get {vs : List V} {j : Nat} {v : V} (h : vs[j]? = some v) : (argSt vs)[j]? = some (some v) := by
  show (vs.map some)[j]? = _
  rw [List.getElem?_map, h]; rfl
theorem argSt_inv {vs : List V} {j : Nat} {v : V} (h : (argSt vs)[j]? = some (some v)) : vs[j]? = some v := by
  have h' : (vs.map some)[j]? = some (some v) := h
  rw [List.getElem?_map] at h'
  cases e : vs[j]? with
  | none => rw [e] at h'; cases h'
  | some u => rw [e] at h'; cases h'; rfl
/-- the arguments as the callee's slots -/
structure ArgsOk (G : GC) (H : Hp) (S : Addr → Prop) (σ : L2.St) (σw : Ev) (l : List Arg) (vs : List V) : Prop where
  rel : Rel G H S (argSt vs) (l.map (Arg.sl σw))
  own : ∀ x, Own (argSt vs) (l.map (Arg.sl σw)) x → Own σ σw x
  at_ : ∀ (j i : Nat) (x : Addr), l[j]? = some (.ox i) → σ[i]? = some (some (.ref x)) → vs[j]? = some (.ref x)
theorem isOw_of {o : Option Sl} (h : isOw o = true) : ∃ d, o = some (.ow d) := by
  cases o with
  | none => cases h
  | some s => cases s <;> first | exact ⟨_, rfl⟩ | cases h
theorem args_ok {l : List Arg} {vs : List V} (rel : Rel G H S σ σw) (ok : argsOk l σw = true) (r : Paired (argRel G σ H S) l vs) : ArgsOk G H S σ σw l vs := by
  unfold argsOk at ok
  rw [Bool.and_eq_true, List.all_eq_true] at ok
  obtain ⟨ok1, ok2⟩ := ok
  have nd := of_decide_eq_true ok2
  have hlen : l.length = vs.length := Paired.length r
  have look : ∀ {j : Nat} {s : Sl}, (l.map (Arg.sl σw))[j]? = some s → ∃ x v, l[j]? = some x ∧ Arg.sl σw x = s ∧ vs[j]? = some v ∧ argRel G σ H S x v := fun {j s} h => by
    rw [List.getElem?_map] at h
    cases e : l[j]? with
    | none => rw [e] at h; cases h
    | some x =>
      rw [e] at h
      obtain ⟨v, h1, h2⟩ := paired_get r e
      exact ⟨x, v, rfl, Option.some.inj h, h1, h2⟩
  have ows : ∀ {i : Nat}, Arg.ox i ∈ l → ∃ d, σw[i]? = some (.ow d) := fun {i} h => isOw_of (ok1 i (ix_mem.mpr h))
  have owned : ∀ {j : Nat} {d : D}, (l.map (Arg.sl σw))[j]? = some (.ow d) → ∃ i x, l[j]? = some (.ox i) ∧ σw[i]? = some (.ow d) ∧ σ[i]? = some (some (.ref x)) ∧ vs[j]? = some (.ref x) ∧ ¬ S x ∧ OwnAt G H S d x := fun {j d} h => by
    obtain ⟨y, v, h1, h2, h3, h4⟩ := look h
    cases y with
    | dv d' => cases h2
    | ox i =>
      obtain ⟨d', hd'⟩ := ows (List.mem_of_getElem? h1)
      have h2' : σw.getD i .un = .ow d := h2
      rw [List.getD_eq_getElem?_getD, hd'] at h2'
      have e : d' = d := by cases h2'; rfl
      subst e
      obtain ⟨x, e1, e2, e3⟩ := rel.ow i d' hd'
      have h4' : σ[i]? = some (some v) := h4
      rw [e1] at h4'
      cases h4'
      exact ⟨i, x, h1, hd', e1, h3, e2, e3⟩
  refine ⟨⟨by rw [List.length_map, List.length_map, hlen], fun j d h => ?_, fun j d h => ?_, fun j k d e x h1 h2 h3 h4 => ?_, rel.trk⟩, fun x ⟨j, d, h1, h2⟩ => ?_, fun j i x h1 h2 => ?_⟩
  · obtain ⟨y, v, h1, h2, h3, h4⟩ := look h
    cases y with
    | dv d' => cases h2; exact ⟨v, argSt_get h3, h4⟩
    | ox i =>
      obtain ⟨d', hd'⟩ := ows (List.mem_of_getElem? h1)
      have h2' : σw.getD i .un = .fr d := h2
      rw [List.getD_eq_getElem?_getD, hd'] at h2'
      cases h2'
  · obtain ⟨i, x, _, _, _, h3, h4, h5⟩ := owned h
    exact ⟨x, argSt_get h3, h4, h5⟩
  · obtain ⟨i, y, q1, q2, q3, q4, _⟩ := owned h1
    obtain ⟨i', y', q1', q2', q3', q4', _⟩ := owned h2
    have h3' := argSt_inv h3
    rw [q4] at h3'; cases h3'
    have h4' := argSt_inv h4
    rw [q4'] at h4'; cases h4'
    have ei := rel.inj i i' d e x q2 q2' q3 q3'
    subst ei
    exact ix_uniq nd q1 q1'
  · obtain ⟨i, y, q1, q2, q3, q4, _⟩ := owned h1
    have h2' := argSt_inv h2
    rw [q4] at h2'; cases h2'
    exact ⟨i, d, q2, q3⟩
  · obtain ⟨v, e1, e2⟩ := paired_get r h1
    have e2' : σ[i]? = some (some v) := e2
    rw [h2] at e2'; cases e2'
    exact e1
/-- the caller's slots behind the call -/
theorem outs_ok {l : List Arg} {vs : List V} {outs : List Sl} (rel : Rel G H S σ σw) (ok : argsOk l σw = true) (r : Paired (argRel G σ H S) l vs) (rel1 : Rel G H1 S1 (argSt vs) outs)
    (ext : Ext H S (Own (argSt vs) (l.map (Arg.sl σw))) H1 S1 (Own (argSt vs) outs)) : Rel G H1 S1 σ (putOuts l outs σw) ∧ Ext H S (Own σ σw) H1 S1 (Own σ (putOuts l outs σw)) ∧ ∀ x, Own σ (putOuts l outs σw) x → Own σ σw x := by
  have A := args_ok rel ok r
  unfold argsOk at ok
  rw [Bool.and_eq_true, List.all_eq_true] at ok
  obtain ⟨ok1, ok2⟩ := ok
  have nd := of_decide_eq_true ok2
  have hlen : outs.length = l.length := by
    have q := rel1.len
    rw [← q]
    show (vs.map some).length = _
    rw [List.length_map]
    exact (Paired.length r).symm
  have ows : ∀ {i : Nat}, Arg.ox i ∈ l → ∃ d, σw[i]? = some (.ow d) := fun {i} h => isOw_of (ok1 i (ix_mem.mpr h))
  have kp : Kp H S H1 S1 := ⟨ext.sub, fun x o s h => ext.keep x o h fun z => rel.noS (A.own x z) s, fun x xs h => ext.keep x _ h fun z => by
    obtain ⟨u, h1, h2⟩ := rel.ownNe (A.own x z)
    rw [h] at h1; cases h1
    exact h2 _ rfl⟩
  -- a slot is one of the lent, or as it was
  have cas : ∀ {i : Nat} {s : Sl}, (putOuts l outs σw)[i]? = some s → (∃ j : Nat, l[j]? = some (Arg.ox i) ∧ outs[j]? = some s) ∨ (Arg.ox i ∉ l ∧ σw[i]? = some s) := fun {i s} h => by
    by_cases hm : Arg.ox i ∈ l
    · obtain ⟨j, hj⟩ := List.mem_iff_getElem?.mp hm
      have hjl : j < outs.length := by rw [hlen]; exact (List.getElem?_eq_some_iff.mp hj).1
      obtain ⟨d, hd⟩ := ows hm
      have q := putOuts_at l outs σw nd hj (List.getElem?_eq_getElem hjl) (List.getElem?_eq_some_iff.mp hd).1
      rw [h] at q
      exact .inl ⟨j, hj, by rw [List.getElem?_eq_getElem hjl]; exact q.symm⟩
    · rw [putOuts_not l outs σw hm] at h
      exact .inr ⟨hm, h⟩
  have lent : ∀ {i j : Nat}, l[j]? = some (.ox i) → ∃ d x, σw[i]? = some (.ow d) ∧ σ[i]? = some (some (.ref x)) ∧ vs[j]? = some (.ref x) := fun {i j} h => by
    obtain ⟨d, hd⟩ := ows (List.mem_of_getElem? h)
    obtain ⟨x, e1, _⟩ := rel.ow i d hd
    exact ⟨d, x, hd, e1, A.at_ j i x h e1⟩
  -- what a slot that is not lent owns is not the callee's
  have far : ∀ {i : Nat} {d : D} {x : Addr}, Arg.ox i ∉ l → σw[i]? = some (.ow d) → σ[i]? = some (some (.ref x)) → ¬ Own (argSt vs) (l.map (Arg.sl σw)) x := fun {i d x} hm hd hx ⟨j, e, h1, h2⟩ => by
    rw [List.getElem?_map] at h1
    cases hj : l[j]? with
    | none => rw [hj] at h1; cases h1
    | some y =>
      rw [hj] at h1
      cases y with
      | dv d' =>
        have h1' : Sl.fr d' = Sl.ow e := Option.some.inj h1
        cases h1'
      | ox i' =>
        obtain ⟨d', x', q1, q2, q3⟩ := lent hj
        have h2' := argSt_inv h2
        rw [q3] at h2'; cases h2'
        have := rel.inj i i' d d' x hd q1 hx q2
        subst this
        exact hm (List.mem_of_getElem? hj)
  have ownP : ∀ x, Own σ (putOuts l outs σw) x → Own σ σw x := fun x ⟨i, d, h1, h2⟩ => by
    rcases cas h1 with ⟨j, hj, _⟩ | ⟨_, h⟩
    · obtain ⟨d', x', q1, q2, q3⟩ := lent hj
      exact ⟨i, d', q1, h2⟩
    · exact ⟨i, d, h, h2⟩
  refine ⟨⟨by rw [putOuts_length, rel.len], fun i d h => ?_, fun i d h => ?_, fun i k d e x h1 h2 h3 h4 => ?_, rel1.trk⟩, ⟨fun x o h n => ext.keep x o h fun z => n (A.own x z), ext.sub, fun x s => ?_, fun x o => .inl (ownP x o), ext.there⟩, ownP⟩
  · rcases cas h with ⟨j, hj, ho⟩ | ⟨_, h'⟩
    · obtain ⟨d', x, q1, q2, q3⟩ := lent hj
      obtain ⟨v, e1, e2⟩ := rel1.fr j d ho
      have e1' := argSt_inv e1
      rw [q3] at e1'; cases e1'
      exact ⟨_, q2, e2⟩
    · obtain ⟨v, e1, e2⟩ := rel.fr i d h'
      exact ⟨v, e1, e2.kp kp⟩
  · rcases cas h with ⟨j, hj, ho⟩ | ⟨hm, h'⟩
    · obtain ⟨d', x, q1, q2, q3⟩ := lent hj
      obtain ⟨y, e1, e2, e3⟩ := rel1.ow j d ho
      have e1' := argSt_inv e1
      rw [q3] at e1'; cases e1'
      exact ⟨_, q2, e2, e3⟩
    · obtain ⟨x, e1, e2, e3⟩ := rel.ow i d h'
      have nf := far hm h' e1
      refine ⟨x, e1, fun s => ?_, e3.kp kp fun o q => ext.keep x o q nf⟩
      rcases ext.grow x s with q | q | q
      · exact e2 q
      · exact nf q
      · obtain ⟨o, q', _⟩ := e3.has
        rw [q] at q'; cases q'
  · have back : ∀ {i : Nat} {d : D}, (putOuts l outs σw)[i]? = some (.ow d) → ∃ d', σw[i]? = some (.ow d') := fun {i d} h => by
      rcases cas h with ⟨j, hj, _⟩ | ⟨_, h⟩
      · obtain ⟨d', x', q1, q2, q3⟩ := lent hj
        exact ⟨d', q1⟩
      · exact ⟨d, h⟩
    obtain ⟨d1, y1⟩ := back h1
    obtain ⟨d2, y2⟩ := back h2
    exact rel.inj i k d1 d2 x y1 y2 h3 h4
  · rcases ext.grow x s with q | q | q
    · exact .inl q
    · exact .inr (.inl (A.own x q))
    · exact .inr (.inr q)
/-- behind the arguments: the callee's promise -/
theorem call_imp {n : Nat} {F : FM} {Q : VK} (h : RD G W (vD G) (eCall F as) σ H Q) (hn : ∀ l : List Arg, ∀ σ1, (∃ σw, as σw = .ok l σ1) → l.length = n) :
    rG G W as σ H fun vs H1 => spV G (vD G) n F vs H1 Q (fun cls d H' => W cls d σ H') := by
  obtain ⟨σw, S, rel0, h⟩ := h
  refine ⟨σw, S, rel0, ?_⟩
  have h' := Post.bind (R0 := vG G σ) h
  cases hl : as σw with
  | ok l σ1 =>
    rw [hl] at h'
    have hln := hn l σ1 ⟨σw, hl⟩
    intro vs H1 S1 q1 q2 q3
    obtain ⟨l', σ1', S1', rel1, ext1, r1, p⟩ := h' vs H1 S1 q1 q2 q3
    have q3' : Paired (argRel G σ H1 S1) l vs := q3
    have h2 : Post G W σ H S (Own σ σw) (vD G) ((as σw).bind fun l σ1 => if argsOk l σ1 = true then
      match F (l.map (Arg.sl σ1)) with
      | .ok d outs => .ok d (putOuts l outs σ1)
      | .exc c fs outs => .exc c fs (putOuts l outs σ1)
      | .stuck => .stuck
    else .stuck) Q := h
    rw [hl] at h2
    have h3 := Post.ext q2 h2
    have h4 : Post G W σ H1 S1 (Own σ σ1) (vD G) (if argsOk l σ1 = true then
      match F (l.map (Arg.sl σ1)) with
      | .ok d outs => .ok d (putOuts l outs σ1)
      | .exc c fs outs => .exc c fs (putOuts l outs σ1)
      | .stuck => .stuck
    else .stuck) Q := h3
    by_cases ok : argsOk l σ1 = true
    · rw [if_pos ok] at h4
      have A := args_ok q1 ok q3'
      refine ⟨by rw [← Paired.length q3']; exact hln, l.map (Arg.sl σ1), S1, by rw [List.length_map]; exact hln, A.rel, ?_⟩
      cases hF : F (l.map (Arg.sl σ1)) with
      | ok d outs =>
        rw [hF] at h4
        intro v H2 S2 r2 e2 rep2
        obtain ⟨o1, o2, _⟩ := outs_ok q1 ok q3' r2 e2
        exact h4 v H2 S2 o1 o2 rep2
      | exc c fs outs =>
        rw [hF] at h4
        intro H2 S2 dx gs r2 e2 hx rf
        obtain ⟨o1, o2, _⟩ := outs_ok q1 ok q3' r2 e2
        exact h4 H2 S2 dx gs o1 o2 hx rf
      | stuck => rw [hF] at h4; exact h4
    · rw [if_neg ok] at h4; exact h4.elim
  | exc c fs σ1 =>
    rw [hl] at h'
    exact h'
  | stuck =>
    rw [hl] at h'
    exact h'
/-- f(e, ..) of a def -/
theorem je_call {CX : CXT} {k n : Nat} {f : Addr} {fd : FuncData} {ps : List Str} {x : Str} {F : FM} (FO : FnOk X.prog X.w X.K X.mg X.base (L2.CX X.prog X.w) k f fd ps (spV G (vD G) n F)) (tk : Takes X W) (hr : Room k X.A) (hg : Gl X x) (hm : X.mg x = some (.ref f)) (hk : PySem.W.keepIn X.K (.ref f) = true) (hb : Binds X.K fd ps [])
    (ha : PA X (e :: es) (rG G W as)) (hn : ∀ l : List Arg, ∀ σ1, (∃ σw, as σw = .ok l σ1) → l.length = n) (hdb : (x == ("__debug__" : Str)) = false := by decide) (he : starEach (e :: es) X.env = (false, eval e X.env) :: starEach es X.env := by rfl) (hpl : (backTo pos (starEach es X.env)).any (·.1) = false := by rfl) :
    PE X (.Call (.Name x p) (e :: es) [] pos) (rE G W (eCall F as)) :=
  (pe_callS (E := WE W) FO hr hg hm hk hb (passAt tk) ha hdb he hpl).imp fun σ H Q h => call_imp h hn
theorem an_nil : ∀ l : List Arg, ∀ σ1, (∃ σw, aNil σw = .ok l σ1) → l.length = 0 := fun l σ1 ⟨σw, h⟩ => by cases h; rfl
theorem an_d {n : Nat} (h : ∀ l : List Arg, ∀ σ1, (∃ σw, as σw = .ok l σ1) → l.length = n) : ∀ l : List Arg, ∀ σ1, (∃ σw, aD ma as σw = .ok l σ1) → l.length = n + 1 := fun l σ1 ⟨σw, q⟩ => by
  unfold aD at q
  cases h1 : ma σw with
  | ok d σ2 =>
    rw [h1] at q
    have q' : (as σ2).bind (fun xs σ3 => R.ok (Arg.dv d :: xs) σ3) = .ok l σ1 := q
    cases h2 : as σ2 with
    | ok xs σ3 =>
      rw [h2] at q'
      cases q'
      rw [List.length_cons, h _ _ ⟨_, h2⟩]
    | exc c fs s => rw [h2] at q'; cases q'
    | stuck => rw [h2] at q'; cases q'
  | exc c fs s => rw [h1] at q; cases q
  | stuck => rw [h1] at q; cases q
theorem an_o {n i : Nat} (h : ∀ l : List Arg, ∀ σ1, (∃ σw, as σw = .ok l σ1) → l.length = n) : ∀ l : List Arg, ∀ σ1, (∃ σw, aO i as σw = .ok l σ1) → l.length = n + 1 := fun l σ1 ⟨σw, q⟩ => by
  unfold aO at q
  split at q
  · cases h2 : as σw with
    | ok xs σ3 =>
      rw [h2] at q
      cases q
      rw [List.length_cons, h _ _ ⟨_, h2⟩]
    | exc c fs s => rw [h2] at q; cases q
    | stuck => rw [h2] at q; cases q
  · cases q
/-- a call that hands out a new list -/
def lCall (F : FM) (as : AM) : LM := lOf (eCall F as)
theorem callF_imp {n : Nat} {F : FM} {Q : VK} (h : RD G W (vF G) (lCall F as) σ H Q) (hn : ∀ l : List Arg, ∀ σ1, (∃ σw, as σw = .ok l σ1) → l.length = n) :
    rG G W as σ H fun vs H1 => spV G (vR G) n F vs H1 Q (fun cls d H' => W cls d σ H') := by
  obtain ⟨σw, S, rel0, h⟩ := h
  refine ⟨σw, S, rel0, ?_⟩
  have hh : Post G W σ H S (Own σ σw) (vF G) ((as σw).bind fun l σ1 => (if argsOk l σ1 = true then
      match F (l.map (Arg.sl σ1)) with
      | .ok d outs => .ok d (putOuts l outs σ1)
      | .exc c fs outs => .exc c fs (putOuts l outs σ1)
      | .stuck => .stuck
    else (.stuck : R D)).bind fun d σ1 =>
      match d with
      | .lst ds => .ok ds σ1
      | _ => .stuck) Q := by
    unfold lCall lOf eCall at h
    cases hl : as σw with
    | ok l σ1 => rw [hl] at h; exact h
    | exc c fs σ1 => rw [hl] at h; exact h
    | stuck => rw [hl] at h; exact h
  cases hl : as σw with
  | ok l σ1 =>
    rw [hl] at hh
    have hln := hn l σ1 ⟨σw, hl⟩
    intro vs H1 S1 q1 q2 q3
    have q3' : Paired (argRel G σ H1 S1) l vs := q3
    have h3 := Post.ext q2 hh
    by_cases ok : argsOk l σ1 = true
    · simp only [R.bind, if_pos ok] at h3
      have A := args_ok q1 ok q3'
      refine ⟨by rw [← Paired.length q3']; exact hln, l.map (Arg.sl σ1), S1, by rw [List.length_map]; exact hln, A.rel, ?_⟩
      cases hF : F (l.map (Arg.sl σ1)) with
      | ok d outs =>
        simp only [hF] at h3
        intro v H2 S2 r2 e2 ⟨ds, ed, p0, ev, n0, nS, nO, at0⟩
        subst ed
        obtain ⟨o1, o2, o3⟩ := outs_ok q1 ok q3' r2 e2
        refine h3 v H2 S2 o1 o2 ⟨p0, ev, n0, nS, fun z => ?_, at0⟩
        have z1 := o3 p0 z
        obtain ⟨u, hu, _⟩ := q1.ownNe z1
        rw [n0] at hu; cases hu
      | exc c fs outs =>
        simp only [hF] at h3
        intro H2 S2 dx gs r2 e2 hx rf
        obtain ⟨o1, o2, _⟩ := outs_ok q1 ok q3' r2 e2
        exact h3 H2 S2 dx gs o1 o2 hx rf
      | stuck => simp only [hF] at h3; exact h3
    · simp only [R.bind, if_neg ok] at h3; exact h3.elim
  | exc c fs σ1 =>
    rw [hl] at hh
    exact hh
  | stuck =>
    rw [hl] at hh
    exact hh
theorem jf_call {k n : Nat} {f : Addr} {fd : FuncData} {ps : List Str} {x : Str} {F : FM} (FO : FnOk X.prog X.w X.K X.mg X.base (L2.CX X.prog X.w) k f fd ps (spV G (vR G) n F)) (tk : Takes X W) (hr : Room k X.A) (hg : Gl X x) (hm : X.mg x = some (.ref f)) (hk : PySem.W.keepIn X.K (.ref f) = true) (hb : Binds X.K fd ps [])
    (ha : PA X (e :: es) (rG G W as)) (hn : ∀ l : List Arg, ∀ σ1, (∃ σw, as σw = .ok l σ1) → l.length = n) (hdb : (x == ("__debug__" : Str)) = false := by decide) (he : starEach (e :: es) X.env = (false, eval e X.env) :: starEach es X.env := by rfl) (hpl : (backTo pos (starEach es X.env)).any (·.1) = false := by rfl) :
    PE X (.Call (.Name x p) (e :: es) [] pos) (rF G W (lCall F as)) :=
  (pe_callS (E := WE W) FO hr hg hm hk hb (passAt tk) ha hdb he hpl).imp fun σ H Q h => callF_imp h hn
/-- f(e), e a new list that f may change -/
theorem je_callN {k : Nat} {f : Addr} {fd : FuncData} {ps : List Str} {x : Str} {F : FM} {l : LM} (FO : FnOk X.prog X.w X.K X.mg X.base (L2.CX X.prog X.w) k f fd ps (spV G (vD G) 1 F)) (tk : Takes X W) (hr : Room k X.A) (hg : Gl X x) (hm : X.mg x = some (.ref f)) (hk : PySem.W.keepIn X.K (.ref f) = true) (hb : Binds X.K fd ps [])
    (ha : PE X e (rF G W l)) (hdb : (x == ("__debug__" : Str)) = false := by decide) (he : starEach (e :: []) X.env = (false, eval e X.env) :: starEach [] X.env := by rfl) (hpl : (backTo pos (starEach [] X.env)).any (·.1) = false := by rfl) :
    PE X (.Call (.Name x p) [e] [] pos) (rE G W (eCallN F l)) :=
  (pe_callS (E := WE W) FO hr hg hm hk hb (passAt tk) (pa_cons ha pa_nil he) hdb he hpl).imp fun σ H Q ⟨σw, S, rel0, h⟩ => by
    refine ⟨σw, S, rel0, ?_⟩
    unfold eCallN at h
    cases hl : l σw with
    | ok ds σ1 =>
      rw [hl] at h
      intro v H1 S1 rel1 ext1 ⟨p0, ev, n0, nS, nO, at0⟩
      subst ev
      have h' : Post G W σ H S (Own σ σw) (vD G) (match F [.ow (.lst ds)] with
        | .ok d _ => .ok d σ1
        | .exc c fs _ => .exc c fs σ1
        | .stuck => .stuck) Q := h
      have own1 : ∀ a, Own (argSt [.ref p0]) [.ow (.lst ds)] a → a = p0 := fun a ⟨j, d, h1, h2⟩ => by
        match j, h1 with
        | 0, h1 => cases h2; rfl
        | j + 1, h1 => simp at h1
      have relA : Rel G H1 S1 (argSt [.ref p0]) [.ow (.lst ds)] := ⟨rfl, fun j d h1 => by
        match j, h1 with
        | 0, h1 => cases h1
        | j + 1, h1 => simp at h1, fun j d h1 => by
        match j, h1 with
        | 0, h1 => cases h1; exact ⟨p0, rfl, nS, at0⟩
        | j + 1, h1 => simp at h1, fun j k d e a h1 h2 _ _ => by
        match j, k, h1, h2 with
        | 0, 0, _, _ => rfl
        | j + 1, _, h1, _ => simp at h1
        | 0, k + 1, _, h2 => simp at h2, rel1.trk⟩
      -- the caller's slots behind it
      have back : ∀ {H2 : Hp} {S2 O2 : Addr → Prop}, (∀ a, S2 a → H2 a ≠ none) → Ext H1 S1 (Own (argSt [.ref p0]) [.ow (.lst ds)]) H2 S2 O2 → Rel G H2 S2 σ σ1 ∧ Ext H S (Own σ σw) H2 S2 (Own σ σ1) := fun {H2 S2 O2} trk e => by
        have kp : Kp H1 S1 H2 S2 := ⟨e.sub, fun a o s q => e.keep a o q fun z => nS (by rw [← own1 a z]; exact s), fun a xs q => e.keep a _ q fun z => by
          obtain ⟨u, hu, nt⟩ := at0.has
          rw [own1 a z, hu] at q
          cases q
          exact nt _ rfl⟩
        refine ⟨⟨rel1.len, fun j d h1 => ?_, fun j d h1 => ?_, rel1.inj, trk⟩, ⟨fun a o q n => ?_, fun a s => e.sub a (ext1.sub a s), fun a s => ?_, fun a o => ext1.own a o, fun a q => e.there a (ext1.there a q)⟩⟩
        · obtain ⟨v, g1, g2⟩ := rel1.fr j d h1
          exact ⟨v, g1, g2.kp kp⟩
        · obtain ⟨b, g1, g2, g3⟩ := rel1.ow j d h1
          have nb : ¬ Own (argSt [.ref p0]) [.ow (.lst ds)] b := fun z => nO ⟨j, d, h1, by rw [← own1 b z]; exact g1⟩
          refine ⟨b, g1, fun s => ?_, g3.kp kp fun o q => e.keep b o q nb⟩
          rcases e.grow b s with z | z | z
          · exact g2 z
          · exact nb z
          · obtain ⟨o, q, _⟩ := g3.has
            rw [z] at q; cases q
        · have q1 := ext1.keep a o q n
          exact e.keep a o q1 fun z => by rw [own1 a z, n0] at q; cases q
        · rcases e.grow a s with z | z | z
          · exact ext1.grow a z
          · exact .inr (.inr (by rw [own1 a z]; exact n0))
          · exact .inr (.inr (ext1.free z))
      refine ⟨rfl, [.ow (.lst ds)], S1, rfl, relA, ?_⟩
      cases hF : F [.ow (.lst ds)] with
      | ok d outs =>
        rw [hF] at h'
        intro v H2 S2 r2 e2 rep
        obtain ⟨b1, b2⟩ := back r2.trk e2
        exact h' v H2 S2 b1 b2 rep
      | exc c fs outs =>
        rw [hF] at h'
        intro H2 S2 dx gs r2 e2 hx rf
        obtain ⟨b1, b2⟩ := back r2.trk e2
        exact h' H2 S2 dx gs b1 b2 hx rf
      | stuck => rw [hF] at h'; exact h'
    | exc c fs σ1 =>
      rw [hl] at h
      exact h
    | stuck =>
      rw [hl] at h
      exact h
end
end VM
end
section
set_option linter.all false
set_option maxRecDepth 100000
/-! VDef: the promise of a def by its body; the law's; new instances; raise; try. -/
namespace VM
open PySem PySem.Spec L2
open PyProof.Rows (envOfC)
section
variable {G : GC} {RR : RVal D V} {W : WX} {io : List Nat} {X : Cx} {σ σ1 : L2.St} {H H1 : Hp} {S O S1 O1 O2 : Addr → Prop} {σw : Ev} {α β γ δ : Type}
theorem mask_get {n : Nat} {σ : Ev} {j : Nat} : (mask io n σ)[j]? = if j < n then some (if io.contains j = true then σ.getD j .un else .un) else none := by
  unfold mask
  rw [List.getElem?_map]
  by_cases h : j < n
  · rw [List.getElem?_range h, if_pos h]; rfl
  · rw [List.getElem?_eq_none (by simpa using h), if_neg h]; rfl
theorem mask_some {n : Nat} {σ : Ev} {j : Nat} {s : Sl} (h : (mask io n σ)[j]? = some s) (hs : s ≠ .un) : j < n ∧ j ∈ io ∧ σ[j]? = some s := by
  rw [mask_get] at h
  by_cases h1 : j < n
  · rw [if_pos h1] at h
    by_cases h2 : io.contains j = true
    · rw [if_pos h2] at h
      have h' := Option.some.inj h
      rw [List.getD_eq_getElem?_getD] at h'
      cases e : σ[j]? with
      | none => rw [e] at h'; exact absurd h'.symm hs
      | some t =>
        rw [e] at h'
        exact ⟨h1, by simpa using h2, by rw [show t = s from h']⟩
    · rw [if_neg h2] at h
      exact absurd (Option.some.inj h).symm hs
  · rw [if_neg h1] at h; cases h
theorem start_get {N : List Str} {vs : List V} {j : Nat} (h : j < vs.length) : (start N vs)[j]? = (argSt vs)[j]? := by
  unfold L2.start
  rw [List.getElem?_append_left (by simpa using h)]
theorem mask_rel {N : List Str} {vs : List V} {n : Nat} {σV : L2.St} (hn : vs.length = n) (rel : Rel G H S σV σw) (k : Keeps io (start N vs) σV) :
    Rel G H S (argSt vs) (mask io n σw) ∧ ∀ a, Own (argSt vs) (mask io n σw) a → Own σV σw a := by
  have val : ∀ {j : Nat} {s : Sl}, (mask io n σw)[j]? = some s → s ≠ .un → σw[j]? = some s ∧ (argSt vs)[j]? = σV[j]? := fun {j s} h hs => by
    obtain ⟨h1, h2, h3⟩ := mask_some h hs
    exact ⟨h3, by rw [k j h2, start_get (by omega)]⟩
  refine ⟨⟨?_, fun j d h => ?_, fun j d h => ?_, fun j m d e a h1 h2 h3 h4 => ?_, rel.trk⟩, fun a ⟨j, d, h1, h2⟩ => ?_⟩
  · show (vs.map some).length = _
    unfold mask
    rw [List.length_map, List.length_map, List.length_range, hn]
  · obtain ⟨q1, q2⟩ := val h (by simp)
    rw [q2]; exact rel.fr j d q1
  · obtain ⟨q1, q2⟩ := val h (by simp)
    rw [q2]; exact rel.ow j d q1
  · obtain ⟨q1, q2⟩ := val h1 (by simp)
    obtain ⟨q3, q4⟩ := val h2 (by simp)
    rw [q2] at h3
    rw [q4] at h4
    exact rel.inj j m d e a q1 q3 h3 h4
  · obtain ⟨q1, q2⟩ := val h1 (by simp)
    rw [q2] at h2
    exact ⟨j, d, q1, h2⟩
theorem start_rel {N : List Str} {vs : List V} {args : List Sl} {n : Nat} (hn : vs.length = n) (ha : args.length = n) (hN : n ≤ N.length) (rel : Rel G H S (argSt vs) args) :
    Rel G H S (start N vs) (args ++ List.replicate (N.length - n) .un) ∧ ∀ a, Own (start N vs) (args ++ List.replicate (N.length - n) .un) a ↔ Own (argSt vs) args a := by
  have low : ∀ {j : Nat} {s : Sl}, (args ++ List.replicate (N.length - n) .un)[j]? = some s → s ≠ .un → j < n ∧ args[j]? = some s ∧ (start N vs)[j]? = (argSt vs)[j]? := fun {j s} h hs => by
    by_cases hj : j < args.length
    · rw [List.getElem?_append_left hj] at h
      exact ⟨by omega, h, start_get (by omega)⟩
    · rw [List.getElem?_append_right (by omega), List.getElem?_replicate] at h
      split at h
      · exact absurd (Option.some.inj h).symm hs
      · cases h
  refine ⟨⟨?_, fun j d h => ?_, fun j d h => ?_, fun j m d e a h1 h2 h3 h4 => ?_, rel.trk⟩, fun a => ⟨fun ⟨j, d, h1, h2⟩ => ?_, fun ⟨j, d, h1, h2⟩ => ?_⟩⟩
  · unfold L2.start
    simp only [List.length_append, List.length_map, List.length_replicate]
    omega
  · obtain ⟨_, q1, q2⟩ := low h (by simp)
    rw [q2]; exact rel.fr j d q1
  · obtain ⟨_, q1, q2⟩ := low h (by simp)
    rw [q2]; exact rel.ow j d q1
  · obtain ⟨_, q1, q2⟩ := low h1 (by simp)
    obtain ⟨_, q3, q4⟩ := low h2 (by simp)
    rw [q2] at h3
    rw [q4] at h4
    exact rel.inj j m d e a q1 q3 h3 h4
  · obtain ⟨_, q1, q2⟩ := low h1 (by simp)
    rw [q2] at h2
    exact ⟨j, d, q1, h2⟩
  · have hj : j < args.length := (List.getElem?_eq_some_iff.mp h1).1
    exact ⟨j, d, by rw [List.getElem?_append_left hj]; exact h1, by rw [start_get (by omega)]; exact h2⟩
/-- from a def's promise to its body's reading -/
theorem body_imp {N : List Str} {vs : List V} {n : Nat} {m : SM} {Q : VK} {E : XK} (hnx : ∀ H' S' O, RR.rel H H' S' O .non .non) (hN : n ≤ N.length) (h : spV G RR n (fnM n N.length io m) vs H Q E) : rS G RR (fun cls d _ H' => E cls d H') io m { nx := fun _ H' => Q .non H', rt := Q } (start N vs) H := by
  obtain ⟨hn, args, S, ha, rel, h⟩ := h
  obtain ⟨rel0, own0⟩ := start_rel hn ha hN rel
  refine ⟨_, S, rel0, ?_⟩
  unfold fnM at h
  have ext0 : ∀ {H' : Hp} {S' : Addr → Prop} {σV : L2.St} {σ1 : Ev}, Ext H S (Own (start N vs) (args ++ List.replicate (N.length - n) .un)) H' S' (Own σV σ1) → (∀ a, Own (argSt vs) (mask io n σ1) a → Own σV σ1 a) →
      Ext H S (Own (argSt vs) args) H' S' (Own (argSt vs) (mask io n σ1)) := fun {H' S' σV σ1} e o =>
    ⟨fun a u q nq => e.keep a u q fun z => nq ((own0 a).mp z), e.sub, fun a s => (e.grow a s).imp id (Or.imp (own0 a).mp id), fun a z => (e.own a (o a z)).imp (own0 a).mp id, e.there⟩
  cases hm : m (args ++ List.replicate (N.length - n) .un) with
  | nx σ1 =>
    rw [hm] at h
    intro σV H' S' q1 q2 q3
    obtain ⟨r1, o1⟩ := mask_rel hn q1 q3
    exact h _ H' S' r1 (ext0 q2 o1) (hnx H' S' _)
  | rt d σ1 =>
    rw [hm] at h
    intro v σV H' S' q1 q2 q3 q4
    obtain ⟨r1, o1⟩ := mask_rel hn q1 q3
    exact h v H' S' r1 (ext0 q2 o1) (RR.less (fun a z => o1 a z) q4)
  | exc c fs σ1 =>
    rw [hm] at h
    intro σV H' S' dx gs q1 q2 q3 q4 q5
    obtain ⟨r1, o1⟩ := mask_rel hn q1 q3
    exact h H' S' dx gs r1 (ext0 q2 o1) q4 q5
  | bk σ1 => rw [hm] at h; exact h.elim
  | ct σ1 => rw [hm] at h; exact h.elim
  | stuck => rw [hm] at h; exact h.elim
/-- .. where it hands out a value always -/
theorem body_impF {N : List Str} {vs : List V} {n : Nat} {m : SM} {Q : VK} {E : XK} (hN : n ≤ N.length) (h : spV G RR n (fnF n N.length io m) vs H Q E) : rS G RR (fun cls d _ H' => E cls d H') io m { nx := fun _ H' => Q .non H', rt := Q } (start N vs) H := by
  obtain ⟨hn, args, S, ha, rel, h⟩ := h
  obtain ⟨rel0, own0⟩ := start_rel hn ha hN rel
  refine ⟨_, S, rel0, ?_⟩
  unfold fnF at h
  have ext0 : ∀ {H' : Hp} {S' : Addr → Prop} {σV : L2.St} {σ1 : Ev}, Ext H S (Own (start N vs) (args ++ List.replicate (N.length - n) .un)) H' S' (Own σV σ1) → (∀ a, Own (argSt vs) (mask io n σ1) a → Own σV σ1 a) →
      Ext H S (Own (argSt vs) args) H' S' (Own (argSt vs) (mask io n σ1)) := fun {H' S' σV σ1} e o =>
    ⟨fun a u q nq => e.keep a u q fun z => nq ((own0 a).mp z), e.sub, fun a s => (e.grow a s).imp id (Or.imp (own0 a).mp id), fun a z => (e.own a (o a z)).imp (own0 a).mp id, e.there⟩
  cases hm : m (args ++ List.replicate (N.length - n) .un) with
  | nx σ1 => rw [hm] at h; exact h.elim
  | rt d σ1 =>
    rw [hm] at h
    intro v σV H' S' q1 q2 q3 q4
    obtain ⟨r1, o1⟩ := mask_rel hn q1 q3
    exact h v H' S' r1 (ext0 q2 o1) (RR.less (fun a z => o1 a z) q4)
  | exc c fs σ1 =>
    rw [hm] at h
    intro σV H' S' dx gs q1 q2 q3 q4 q5
    obtain ⟨r1, o1⟩ := mask_rel hn q1 q3
    exact h H' S' dx gs r1 (ext0 q2 o1) q4 q5
  | bk σ1 => rw [hm] at h; exact h.elim
  | ct σ1 => rw [hm] at h; exact h.elim
  | stuck => rw [hm] at h; exact h.elim
/-- THE RULE for a def -/
theorem def_ok {P : Program} {w : World} {K : PySem.W.Frag} {mg : Str → Option Value} {base : Heap} {x qual : Str} {st : Stmt} {f : Addr} {fd : FuncData} {N ps : List Str} {k n : Nat} {m : SM} (F : Fun K x qual st f fd) (Sc : FnScope N ps (defScope st)) (hn : n = ps.length) (hN : n ≤ N.length)
    (hbody : ∀ (cdv : Value) (A : Around) (outer : List Env) (s : Shared) (H : Hp) (E : XK), Room k (A.deeper (envOfC qual (defScope st) s.heap.objs.size f cdv)) →
      PSs (cxOf (L2.CX P w) P w K mg base N qual (defScope st) f cdv A outer s H E) (defBody st) (rS G (vD G) (fun cls d _ H' => E cls d H') io m)) :
    FnOk P w K mg base (L2.CX P w) (k + 1) f fd ps (spV G (vD G) n (fnM n N.length io m)) :=
  F.okX Sc (spV_len hn) fun cdv A outer s H vs Q E hr h => ⟨_, hbody cdv A outer s H E hr, body_imp (RR := vD G) (fun _ _ _ => Rep.non) hN h⟩
/-- .. that hands out a new list -/
theorem def_okF {P : Program} {w : World} {K : PySem.W.Frag} {mg : Str → Option Value} {base : Heap} {x qual : Str} {st : Stmt} {f : Addr} {fd : FuncData} {N ps : List Str} {k n : Nat} {m : SM} (F : Fun K x qual st f fd) (Sc : FnScope N ps (defScope st)) (hn : n = ps.length) (hN : n ≤ N.length)
    (hbody : ∀ (cdv : Value) (A : Around) (outer : List Env) (s : Shared) (H : Hp) (E : XK), Room k (A.deeper (envOfC qual (defScope st) s.heap.objs.size f cdv)) →
      PSs (cxOf (L2.CX P w) P w K mg base N qual (defScope st) f cdv A outer s H E) (defBody st) (rS G (vR G) (fun cls d _ H' => E cls d H') io m)) :
    FnOk P w K mg base (L2.CX P w) (k + 1) f fd ps (spV G (vR G) n (fnF n N.length io m)) :=
  F.okX Sc (spV_len hn) fun cdv A outer s H vs Q E hr h => ⟨_, hbody cdv A outer s H E hr, body_impF hN h⟩
/-- .. where no exception leaves -/
theorem def_ok0 {P : Program} {w : World} {K : PySem.W.Frag} {mg : Str → Option Value} {base : Heap} {x qual : Str} {st : Stmt} {f : Addr} {fd : FuncData} {N ps : List Str} {k n : Nat} {m : SM} (F : Fun K x qual st f fd) (Sc : FnScope N ps (defScope st)) (hn : n = ps.length) (hN : n ≤ N.length)
    (hbody : ∀ (cdv : Value) (A : Around) (outer : List Env) (s : Shared) (H : Hp) (E : XK), Room k (A.deeper (envOfC qual (defScope st) s.heap.objs.size f cdv)) →
      PSs (cxOf CX0 P w K mg base N qual (defScope st) f cdv A outer s H E).nox (defBody st) (rS G (vD G) W0 io m)) :
    FnOk P w K mg base CX0 (k + 1) f fd ps (fun vs H Q _ => spV G (vD G) n (fnM n N.length io m) vs H Q E0) :=
  F.ok Sc (fun vs H Q E h => spV_len hn vs H Q E0 h) fun cdv A outer s H vs Q E hr h => ⟨_, hbody cdv A outer s H E hr, body_imp (RR := vD G) (E := E0) (fun _ _ _ => Rep.non) hN h⟩
/-- the law's promise: it gives True -/
theorem law_sp {K : PySem.W.Frag} {ca : Nat → Addr} {F : FM} {a : Addr} {ns : List Int} (hF : ∃ outs, F [.fr (.scr (ns.map D.int))] = .ok (.bl true) outs) (hO : Only H) (hS : SqL K H a (ns.map V.int)) :
    spV ⟨K, ca⟩ (vD ⟨K, ca⟩) 1 F [.ref a] H (fun v _ => v = .bl true) (fun _ _ _ => False) := by
  obtain ⟨outs, hF⟩ := hF
  have reps : ∀ (S : Addr → Prop) (l : List Int), Reps ⟨K, ca⟩ H S (l.map D.int) (l.map V.int) := fun S l => by
    induction l with
    | nil => exact .nil
    | cons n l ih => exact .cons (.int n) ih
  refine ⟨rfl, [.fr (.scr (ns.map D.int))], fun b => H b ≠ none, rfl, ⟨rfl, fun i d h => ?_, fun i d h => ?_, fun i j d e x h1 => ?_, fun x h => h⟩, ?_⟩
  · cases i with
    | zero =>
      cases h
      refine ⟨_, rfl, .scr ?_ (reps _ ns)⟩
      rcases hS with h | h
      · exact .inl ⟨by rcases h with h | ⟨o, h⟩ <;> rw [h] <;> simp, h⟩
      · exact .inr h
    | succ i => simp at h
  · cases i with
    | zero => cases h
    | succ i => simp at h
  · cases i with
    | zero => cases h1
    | succ i => simp at h1
  · rw [hF]
    intro v H' S' _ _ r
    cases r
    rfl

/-! ### new instances -/
variable {e : Expr} {es : List Expr} {as : AM} {pos p : Pos}
theorem run_makeS {CX : CXT} {k : Nat} {C f : Addr} {fd : FuncData} {ps : List Str} {sp : Sp} {pins : List (Addr × Obj)} {σ : L2.St} {H : Hp} {s : Shared} {Q : VK} {E : XK} {us : List Value} {vs : List V} (M : Mk X.K C f) (F : FnOk X.prog X.w X.K X.mg X.base CX k f fd ps sp) (hr : Room (k + 1) X.A) (hb : Binds X.K fd ps [])
    (hx : PassesAt CX X σ E) (I : Inv X pins σ H s) (r : Vals vs us)
    (h : ∀ x dx, H x = none → H dx = none → dx ≠ x → sp (.ref x :: vs) (upd (upd H dx (.own x)) x (.ins C dx [])) (fun v H2 => v = .non ∧ Q (.ref x) H2) E) :
    wpAny (model X.prog X.w) X.A (call (.ref C) us) (EP X pins σ Q) X.xe s := by
  have hq := h (s.heap.objs.size + 1) s.heap.objs.size (I.hok.fresh (Nat.le_succ _)) (I.hok.fresh (Nat.le_refl _)) (Nat.ne_of_lt (Nat.lt_succ_self _))
  have I2 := Inv.made (C := C) I
  have r2 : Vals (V.ref (s.heap.objs.size + 1) :: vs) (Value.ref (s.heap.objs.size + 1) :: us) := .cons rfl r
  have hl : (Value.ref (s.heap.objs.size + 1) :: us).length = ps.length := by
    have e := r2.length
    rw [F.len _ _ _ _ hq] at e
    exact e.symm
  have b := hb _ (Value.ref (s.heap.objs.size + 1) :: us) I2.kIn (by rw [List.append_nil]; exact hl)
  rw [List.append_nil] at b
  refine wpAny_call (make_map (f := f) I.kIn M.makes M.init (beq_iff_eq.mp M.fn) (codeAny_mono (F.run _ X.stack _ _ ⟨Value.ref (s.heap.objs.size + 1) :: us, []⟩ (Value.ref (s.heap.objs.size + 1) :: us) _ _ E (hr.make C us [])
    (I2.env0.make C us []) b r2 hq) fun r s' hq' => ?_))
  cases r with
  | error e => exact hx pins _ _ e s' I2 hq'
  | ok fl =>
    cases fl with
    | ret u =>
      obtain ⟨v, H', I3, rv, ev, q3⟩ := I2.after hq'
      subst ev
      exact ⟨rv, ⟨V.ref (s.heap.objs.size + 1), H', I3, rfl, q3⟩⟩
    | next => exact False.elim hq'
    | brk => exact False.elim hq'
    | cont => exact False.elim hq'
def tMakeS (C : Addr) (sp : Sp) (E : L2.St → XK) (t : TA) : TE := fun σ H Q => t σ H fun vs H1 => ∀ x dx, H1 x = none → H1 dx = none → dx ≠ x →
  sp (.ref x :: vs) (upd (upd H1 dx (.own x)) x (.ins C dx [])) (fun v H2 => v = .non ∧ Q (.ref x) H2) (E σ)
theorem pe_makeS {CX : CXT} {k : Nat} {C f : Addr} {fd : FuncData} {ps : List Str} {sp : Sp} {E : L2.St → XK} {x : Str} {t : TA} (M : Mk X.K C f) (F : FnOk X.prog X.w X.K X.mg X.base CX k f fd ps sp) (hr : Room (k + 1) X.A) (hg : Gl X x) (hm : X.mg x = some (.ref C)) (hb : Binds X.K fd ps []) (hx : ∀ σ, PassesAt CX X σ (E σ))
    (ha : PA X (e :: es) t) (hdb : (x == ("__debug__" : Str)) = false := by decide) (he : starEach (e :: es) X.env = (false, eval e X.env) :: starEach es X.env := by rfl) (hpl : (backTo pos (starEach es X.env)).any (·.1) = false := by rfl) :
    PE X (.Call (.Name x p) (e :: es) [] pos) (tMakeS C sp E t) := by
  refine ⟨fun pins s σ H Q I h => ?_⟩
  refine wpAny_Call_Name_kw (ld_glob I hg hm ?_ hdb)
  refine PySem.W.callWith_K (h₀ := X.base) I.ok.mod.kin M.kp (thn (ha.run pos pins s σ H _ I h) fun us s1 ⟨vs, H1, I1, r, q⟩ => ⟨I1.kIn, ?_⟩) he hpl
  exact run_makeS M F hr hb (hx σ) I1 r q
theorem make_imp {c n : Nat} {F : FM} {Q : VK} (h : RD G W (vD G) (eMake c F as) σ H Q) (hn : ∀ l : List Arg, ∀ σ1, (∃ σw, as σw = .ok l σ1) → l.length = n) :
    rG G W as σ H fun vs H1 => ∀ x dx, H1 x = none → H1 dx = none → dx ≠ x → spV G (vD G) (n + 1) F (.ref x :: vs) (upd (upd H1 dx (.own x)) x (.ins (G.ca c) dx [])) (fun v H2 => v = .non ∧ Q (.ref x) H2) (fun cls d H' => W cls d σ H') := by
  obtain ⟨σw, S, rel0, h⟩ := h
  refine ⟨σw, S, rel0, ?_⟩
  have h' := Post.bind (R0 := vG G σ) h
  cases hl : as σw with
  | ok l σ1 =>
    rw [hl] at h'
    have hln := hn l σ1 ⟨σw, hl⟩
    intro vs H1 S1 q1 q2 q3 x dx nx ndx ne
    have q3' : Paired (argRel G σ H1 S1) l vs := q3
    have h2 : Post G W σ H S (Own σ σw) (vD G) ((as σw).bind fun l σ1 => if argsOk l σ1 = true then
      match F (.ow (.ins c []) :: l.map (Arg.sl σ1)) with
      | .ok .non (.ow d :: outs) => .ok d (putOuts l outs σ1)
      | .exc c' fs (_ :: outs) => .exc c' fs (putOuts l outs σ1)
      | _ => .stuck
    else .stuck) Q := h
    rw [hl] at h2
    have h4 : Post G W σ H1 S1 (Own σ σ1) (vD G) (if argsOk l σ1 = true then
      match F (.ow (.ins c []) :: l.map (Arg.sl σ1)) with
      | .ok .non (.ow d :: outs) => .ok d (putOuts l outs σ1)
      | .exc c' fs (_ :: outs) => .exc c' fs (putOuts l outs σ1)
      | _ => .stuck
    else .stuck) Q := Post.ext q2 h2
    by_cases ok : argsOk l σ1 = true
    · rw [if_pos ok] at h4
      have A := args_ok q1 ok q3'
      have g : Gr H1 S1 (upd (upd H1 dx (.own x)) x (.ins (G.ca c) dx [])) S1 := (Gr.new ndx).trans (Gr.new (by rw [upd_ne (Ne.symm ne)]; exact nx))
      have q1' := q1.gr g
      have r1 : Rel G (upd (upd H1 dx (.own x)) x (.ins (G.ca c) dx [])) S1 (argSt vs) (l.map (Arg.sl σ1)) := A.rel.gr g
      have nS : ¬ S1 x := fun s => q1.trk x s nx
      have nO : ¬ Own (argSt vs) (l.map (Arg.sl σ1)) x := fun o => by
        obtain ⟨u, e, _⟩ := A.rel.ownNe o
        rw [nx] at e; cases e
      have nO2 : ¬ Own σ σ1 x := fun o => by
        obtain ⟨u, e, _⟩ := q1.ownNe o
        rw [nx] at e; cases e
      have at0 : OwnAt G (upd (upd H1 dx (.own x)) x (.ins (G.ca c) dx [])) S1 (.ins c []) x := ⟨dx, [], upd_same, .nil⟩
      -- the new object ahead of the arguments
      have r2 : Rel G (upd (upd H1 dx (.own x)) x (.ins (G.ca c) dx [])) S1 (argSt (.ref x :: vs)) (.ow (.ins c []) :: l.map (Arg.sl σ1)) := by
        refine ⟨by simp only [argSt, List.map_cons, List.length_cons, List.length_map]; rw [Paired.length q3'], fun j d h => ?_, fun j d h => ?_, fun j k d e a h1 h2 h3 h4 => ?_, r1.trk⟩
        · cases j with
          | zero => cases h
          | succ j => exact r1.fr j d h
        · cases j with
          | zero => cases h; exact ⟨x, rfl, nS, at0⟩
          | succ j => exact r1.ow j d h
        · cases j with
          | zero =>
            cases k with
            | zero => rfl
            | succ k => cases h3; exact absurd ⟨k, e, h2, h4⟩ nO
          | succ j =>
            cases k with
            | zero => cases h4; exact absurd ⟨j, d, h1, h3⟩ nO
            | succ k => rw [r1.inj j k d e a h1 h2 h3 h4]
      have own2 : ∀ {a : Addr} {s : D} {ol : List Sl}, Own (argSt (.ref x :: vs)) (.ow s :: ol) a → a = x ∨ Own (argSt vs) ol a := fun {a s ol} ⟨j, d, h1, h2⟩ => by
        cases j with
        | zero => cases h2; exact .inl rfl
        | succ j => exact .inr ⟨j, d, h1, h2⟩
      have own3 : ∀ {a : Addr} {s : Sl} {ol : List Sl}, Own (argSt vs) ol a → Own (argSt (.ref x :: vs)) (s :: ol) a := fun {a s ol} ⟨j, d, h1, h2⟩ => ⟨j + 1, d, h1, h2⟩
      have back : ∀ {a : Addr}, (upd (upd H1 dx (.own x)) x (.ins (G.ca c) dx [])) a = none → H1 a = none := fun {a} h => by
        cases q : H1 a with
        | none => rfl
        | some o => rw [g.keep a o q] at h; cases h
      have tl : ∀ {H' : Hp} {S' : Addr → Prop} {s : Sl} {outs : List Sl}, Rel G H' S' (argSt (.ref x :: vs)) (s :: outs) → Ext (upd (upd H1 dx (.own x)) x (.ins (G.ca c) dx [])) S1 (Own (argSt (.ref x :: vs)) (.ow (.ins c []) :: l.map (Arg.sl σ1))) H' S' (Own (argSt (.ref x :: vs)) (s :: outs)) →
          Rel G H' S' (argSt vs) outs ∧ Ext H1 S1 (Own (argSt vs) (l.map (Arg.sl σ1))) H' S' (Own (argSt vs) outs) := fun {H' S' s outs} r e => by
        refine ⟨⟨?_, fun j d h => r.fr (j + 1) d h, fun j d h => r.ow (j + 1) d h, fun j k d e' a h1 h2 h3 h4 => Nat.succ.inj (r.inj (j + 1) (k + 1) d e' a h1 h2 h3 h4), r.trk⟩, ⟨fun a o q n => ?_, e.sub, fun a z => ?_, fun a z => ?_, fun a q => ?_⟩⟩
        · have := r.len
          simp only [argSt, List.map_cons, List.length_cons, List.length_map] at this ⊢
          omega
        · refine e.keep a o (g.keep a o q) fun z => ?_
          rcases own2 z with z | z
          · rw [z, nx] at q; cases q
          · exact n z
        · rcases e.grow a z with z | z | z
          · exact .inl z
          · rcases own2 z with z | z
            · exact .inr (.inr (by rw [z]; exact nx))
            · exact .inr (.inl z)
          · exact .inr (.inr (back z))
        · rcases e.own a (own3 z) with z | z
          · rcases own2 z with z | z
            · exact .inr (by rw [z]; exact nx)
            · exact .inl z
          · exact .inr (back z)
        · refine e.there a ?_
          cases q' : H1 a with
          | none => exact absurd q' q
          | some o => rw [g.keep a o q']; simp
      refine ⟨by rw [List.length_cons, ← Paired.length q3', hln], _, S1, by rw [List.length_cons, List.length_map, hln], r2, ?_⟩
      cases hF : F (.ow (.ins c []) :: l.map (Arg.sl σ1)) with
      | stuck => rw [hF] at h4; exact h4.elim
      | exc c' fs outs =>
        rw [hF] at h4
        cases outs with
        | nil => exact h4.elim
        | cons s outs =>
          intro H' S' dx' gs r' e' hx' rf
          obtain ⟨t1, t2⟩ := tl r' e'
          obtain ⟨o1, o2, _⟩ := outs_ok q1 ok q3' t1 t2
          exact h4 H' S' dx' gs o1 o2 hx' rf
      | ok d outs =>
        rw [hF] at h4
        cases d with
        | non =>
          cases outs with
          | nil => exact h4.elim
          | cons s outs =>
            cases s with
            | ow dd =>
              intro v H' S' r' e' rep
              cases rep
              refine ⟨rfl, ?_⟩
              obtain ⟨t1, t2⟩ := tl r' e'
              obtain ⟨o1, o2, o3⟩ := outs_ok q1 ok q3' t1 t2
              obtain ⟨x', e1, e2, e3⟩ := r'.ow 0 dd rfl
              cases e1
              obtain ⟨u, hu, _⟩ := e3.has
              refine h4 _ H' (fun b => S' b ∨ b = x) (o1.addS (fun z => nO2 (o3 x z)) (by rw [hu]; simp)) ⟨o2.keep, fun a s => .inl (o2.sub a s), fun a s => ?_, o2.own, o2.there⟩ e3.frz
              rcases s with s | s
              · exact o2.grow a s
              · exact .inr (.inr (by rw [s]; exact nx))
            | _ => exact h4.elim
        | _ => exact h4.elim
    · rw [if_neg ok] at h4; exact h4.elim
  | exc c fs σ1 =>
    rw [hl] at h'
    exact h'
  | stuck =>
    rw [hl] at h'
    exact h'
/-- C(e, ..) -/
theorem je_make {c k n : Nat} {f : Addr} {fd : FuncData} {ps : List Str} {x : Str} {F : FM} (M : Mk X.K (G.ca c) f) (FO : FnOk X.prog X.w X.K X.mg X.base (L2.CX X.prog X.w) k f fd ps (spV G (vD G) (n + 1) F)) (tk : Takes X W) (hr : Room (k + 1) X.A) (hg : Gl X x) (hm : X.mg x = some (.ref (G.ca c))) (hb : Binds X.K fd ps [])
    (ha : PA X (e :: es) (rG G W as)) (hn : ∀ l : List Arg, ∀ σ1, (∃ σw, as σw = .ok l σ1) → l.length = n) (hdb : (x == ("__debug__" : Str)) = false := by decide) (he : starEach (e :: es) X.env = (false, eval e X.env) :: starEach es X.env := by rfl) (hpl : (backTo pos (starEach es X.env)).any (·.1) = false := by rfl) :
    PE X (.Call (.Name x p) (e :: es) [] pos) (rE G W (eMake c F as)) :=
  (pe_makeS (E := WE W) M FO hr hg hm hb (passAt tk) ha hdb he hpl).imp fun σ H Q h => make_imp h hn
/-! ### raise -/
/-- X(e), X an own error: its dict d holds the field -/
def tMk1 (C : Addr) (f : Str) (ta : TE) : L2.St → Hp → XK → Prop := fun σ H Q => ta σ H fun v H1 => ∀ d, H1 d = none → Q (.ref C) (some d) (upd H1 d (.xd [(f, v)]))
theorem js_raise1 {c : Nat} {f : Str} {m : EM} {ex : Expr} (hc : X.calm = true) (tk : Takes X W) (h : PMk X ex (tMk1 (G.ca c) f (rE G W m))) : PS X (.Raise (some ex) none pos) (rS G RR W io (sRaise c (fun d => [(f, d)]) m)) :=
  (ps_raise hc tk h).imp fun D σ H h => (rS.st (R0 := vD G) h).mono fun v H1 ⟨d, σ1, S1, rel, rep, p⟩ dx nd => by
    have g : Gr H1 S1 (upd H1 dx (.xd [(f, v)])) S1 := .new nd
    exact p σ _ S1 dx [(f, v)] (rel.gr g) g.ext .refl upd_same (.cons (Rep.kp g.kp rep) .nil)

end
end VM
end
section
set_option linter.all false
set_option maxRecDepth 100000
set_option maxHeartbeats 4000000
/-! VTry: keywords, try .. except C as n: return .., isinstance of an error that has fields. -/
namespace PySem.W
open PySem PySem.Spec PySem.Calls PyProof.Rows
section
variable {prog : Program} {w : World} {A : Around} {E : Value → Shared → Prop} {s : Shared} {K : Frag} {x C : Addr} {ox od : Obj}
/-- what a class says so that its errors answer isinstance -/
structure VxC (K : Frag) (C : Addr) : Prop where
  get : findIn K (.ref C) "__getattribute__" = some (some (.builtin "BaseException.__getattribute__"))
  hook : findIn K (.ref C) "__getattr__" = some none
  exc : subIn K (.ref C) (.type "BaseException") = some true
  dct : hasDictIn K C = true
  cls : findIn K (.ref C) "__class__" = some (some (.builtin "object.__class__"))
  spc : specialIn K (.builtin "object.__class__") "__get__" = some (some (.builtin "getset_descriptor.__get__"))
  tak : takesIn K (.builtin "object.__class__") = some true
  obj : mroIn K C (.type "object") = some true
theorem vx_find (T : VxC K C) (o : Option Obj) : findObj K C o "__class__" = some (.bind (.builtin "getset_descriptor.__get__") (.builtin "object.__class__")) := by
  obtain ⟨cd, hcd, _⟩ := any_some T.dct
  unfold findObj
  rw [hcd, Option.bind_some, T.cls, Option.bind_some]
  simp [T.spc, T.tak]
theorem vx_class {Q : Option Value → Shared → Prop} (T : VxC K C) (X : K.In s.heap) (I : InstAt s.heap x ox C (some od)) (q : Q (some (.ref C)) { s with toks := s.toks + 1 }) :
    wpAny (model prog w) A (getAttr? (.ref x) "__class__") Q E s := by
  obtain ⟨hp, gs, dr, tk, os⟩ := s
  have look := looks_find (M := model prog w) X I (vx_find T (some od))
  have ty := I.type (M := model prog w)
  have isx : Looks (model prog w) hp (isInstance (.ref x) (.type "BaseException")) true := ty.andThen (looks_subIn X T.exc)
  have ne : (Value.builtin "BaseException.__getattribute__" == Value.builtin "object.__getattribute__") = false := by decide +kernel
  unfold getAttr? getAttrBy? getAttrBy
  refine wpAny_bind (wpAny_mkText (wpAny_bind (wpAny_attempt (wpAny_holding (wpAny_bind (ty.at (wpAny_bind ((looks_findIn (M := model prog w) X T.get).at ?_))))))))
  show wpAny (model prog w) A (if (onTheHeap (Value.ref C) && Value.builtin "BaseException.__getattribute__" == Value.builtin "object.__getattribute__") = true then _ else _) _ _ _
  rw [ne, Bool.and_false, if_neg Bool.false_ne_true]
  unfold getAttrByItsOwn hookBefore
  refine wpAny_bind (KFB.if_so (show onTheHeap (Value.ref C) = true from rfl) ((looks_findIn (M := model prog w) X T.hook).at ?_))
  refine wpAny_bind (wpAny_attempt (wpAny_holding ?_))
  unfold callGetattribute
  rw [show (false && onTheHeap (Value.builtin "BaseException.__getattribute__")) = false from rfl, if_neg Bool.false_ne_true]
  unfold boundAndCalled
  rw [PySem.F.excAttr_ValueError.ga.bind (.ref x)]
  refine wpAny_bind (wpAny_pure (wpAny_call (codeAny_call_builtin PySem.F.excAttr_ValueError.ga.plain PySem.F.entry_bexc_ga ?_)))
  refine @check_slot (model prog w) _ _ ⟨hp, gs, dr, tk + 1, os⟩ "BaseException.__getattribute__" "BaseException" "__getattribute__" (.ref x) [.str "__class__" tk] [] _
    (by decide +kernel) (by decide +kernel) isx (PySem.F.args_bexc_ga (.ref x) (.str "__class__" tk)) ?_
  unfold Builtin.«object.__getattribute__»
  refine wpAny_bind (wpAny_of_eq (a := ((Value.ref x : Value), [Value.str "__class__" tk])) (by first | rfl | (simp only [slotArgs]; rfl)) ?_)
  refine wpAny_bind (wpAny_pure (wpAny_bind (ty.at (wpAny_bind (look.at ?_)))))
  refine wpAny_bind (wpAny_holding (wpAny_call (class_get (s := ⟨hp, gs, dr, tk + 1, os⟩) (ox := ox) (od := some od) X I T.obj ?_)))
  refine wpAny_pure ?_
  show wpAny (model prog w) A (handedOut (.ref C)) _ _ _
  rw [handedOut_of (v := .ref C) rfl]
  first
    | exact wpAny_pure (wpAny_pure q)
    | exact wpAny_pure q
    | exact wpAny_pure (wpAny_bind (wpAny_pure (wpAny_pure q)))
theorem vx_kit (T : VxC K C) : KitX K (.ref x) (.ref C) (fun h => InstAt h x ox C (some od)) := by
  obtain ⟨cd, hcd, _⟩ := any_some T.dct
  have at_ : ∃ c dd sl, K.lookup C = some ⟨c, dd, .cls cd, sl⟩ := by
    unfold clsIn at hcd
    split at hcd
    · rename_i c dd cd' sl e
      cases hcd
      exact ⟨c, dd, sl, e⟩
    · cases hcd
  obtain ⟨c, dd, sl, e⟩ := at_
  refine ⟨fun _ _ _ I => I.type, fun M h X _ A Q E s k q => ?_, fun h tp d2 its n sl2 X htp => Bool.eq_false_iff.mpr fun z => ?_, fun X I q => vx_class T X I q⟩
  · unfold isType loadHead
    exact wpAny_bind (wpAny_loadPart (k _ _ (X _ _ e)) (wpAny_pure q))
  · have z' : C = tp := Value.ref.inj (beq_iff_eq.mp z)
    rw [← z'] at htp
    have y := (X _ _ e).symm.trans htp
    cases y
end
end PySem.W
namespace VM
open PySem PySem.Spec L2
open PyProof.Rows (envOfC)
section
variable {G : GC} {W : WX} {io : List Nat} {X : Cx} {σ σ1 : L2.St} {H H1 : Hp} {S O S1 O1 O2 : Addr → Prop} {σw : Ev} {α β γ δ : Type}
variable {e : Expr} {es : List Expr} {as : AM} {m : EM} {pos p kpos : Pos} {kws : List Keyword} {nm : Option Str}
/-! ### keywords -/
theorem _root_.L2.PK.imp {X : Cx} {kws : List Keyword} {t t' : TA} (p : PK X kws t) (h : ∀ σ H Q, t' σ H Q → t σ H Q) : PK X kws t' := ⟨fun pos pins s σ H Q I q => p.run pos pins s σ H Q I (h σ H Q q)⟩
theorem jk_nil : PK X [] (rG G W aNil) := pk_nil.imp fun σ H Q ⟨σw, S, r, q⟩ => Post.fin (R0 := vG G σ) (v := []) r q .refl .nil
theorem jk_d (ha : PE X e (rE G W m)) (hl : PK X kws (rG G W as)) : PK X (⟨nm, e, kpos⟩ :: kws) (rG G W (aD m as)) :=
  (pk_cons ha hl).imp fun σ H Q h => by
    have h' : RD G W (vG G σ) (aD m as) σ H Q := h
    refine (RD.bind (R0 := vD G) h').mono fun x H1 ⟨d, σ1, S1, rel, rep, p⟩ => ?_
    refine ⟨σ1, S1, rel, (Post.bind (R0 := vG G σ) p).mono fun xs H2 ⟨ds, σ2, S2, rel2, ext2, rep2, p2⟩ => ?_⟩
    exact Post.fin (R0 := vG G σ) (v := x :: xs) rel2 p2 .refl (.cons (show Rep G H2 S2 d x from Rep.kp (rel.kp ext2) rep) rep2)
/-- all by keywords, in the parameters' order -/
def KwBinds (K : PySem.W.Frag) (fd : FuncData) (ps : List Str) : Prop := ∀ (s : Shared) (ws : List Value), K.In s.heap → ws.length = ps.length → BindsTo s fd ⟨[], ps.zip ws⟩ (ps.zip ws)
theorem je_callK {k n : Nat} {f : Addr} {fd : FuncData} {ps : List Str} {x : Str} {F : FM} (FO : FnOk X.prog X.w X.K X.mg X.base (L2.CX X.prog X.w) k f fd ps (spV G (vD G) n F)) (tk : Takes X W) (hr : Room k X.A) (hg : Gl X x) (hm : X.mg x = some (.ref f)) (hk : PySem.W.keepIn X.K (.ref f) = true) (hb : KwBinds X.K fd ps)
    (ha : PK X kws (rG G W as)) (hn : ∀ l : List Arg, ∀ σ1, (∃ σw, as σw = .ok l σ1) → l.length = n) (hks : (backToKw pos (keywordEach kws X.env)).filterMap (·.1) = ps := by rfl) (hall : (backToKw pos (keywordEach kws X.env)).all (·.1.isSome) = true := by rfl)
    (hdb : (x == ("__debug__" : Str)) = false := by decide) (hpl : ((backTo pos (starEach [] X.env)).any (·.1) || (backToKw pos (keywordEach kws X.env)).any (·.1.isNone)) = false := by rfl) :
    PE X (.Call (.Name x p) [] kws pos) (rE G W (eCall F as)) := by
  have key : PE X (.Call (.Name x p) [] kws pos) (tCallS (spV G (vD G) n F) (WE W) (rG G W as)) := by
    refine ⟨fun pins s σ H Q I h => wpAny_Call_Name_kw (ld_glob I hg hm ?_ hdb)⟩
    refine PySem.W.callWith_KW0 (h₀ := X.base) I.ok.mod.kin hk hall ?_ hpl
    refine thn (ha.run pos pins s σ H _ I h) fun ws s1 ⟨zs, H1, I1, r, q⟩ => ⟨I1.kIn, ?_⟩
    rw [hks]
    have hl : ws.length = ps.length := by rw [← r.length]; exact FO.len _ _ _ _ q
    refine wpAny_call (codeAny_mono (FO.run X.A X.stack s1 H1 ⟨[], ps.zip ws⟩ ws zs Q (WE W σ) hr I1.env0 (hb s1 ws I1.kIn hl) r q) fun res s' hq => ?_)
    cases res with
    | error er => exact passAt tk σ pins H1 s1 er s' I1 hq
    | ok fl =>
      cases fl with
      | ret u => exact I1.after hq
      | _ => exact False.elim hq
  exact key.imp fun σ H Q h => call_imp h hn

/-! ### in the suite of an except clause -/
/-- the state there: the error at a, of class c, its dict holds fs, slot i its name's -/
def Sfx (G : GC) (a : Addr) (cls : Value) (d : Option Addr) (i c : Nat) (fs : List (Str × D)) (σ : L2.St) (H : Hp) (S : Addr → Prop) : Prop :=
  cls = .ref (G.ca c) ∧ σ[i]? = some (some (.ref a)) ∧ ∃ dx gs, d = some dx ∧ H dx = some (.xd gs) ∧ RepF G H S fs gs
def rX (G : GC) (a : Addr) (cls : Value) (d : Option Addr) (i c : Nat) (fs : List (Str × D)) (m : Option D) : TE := fun σ H Q => ∃ S z, Sfx G a cls d i c fs σ H S ∧ m = some z ∧ ∀ v H' S', Gr H S H' S' → Rep G H' S' z v → Q v H'
theorem Sfx.gr {a : Addr} {cls : Value} {d : Option Addr} {i c : Nat} {fs : List (Str × D)} (s : Sfx G a cls d i c fs σ H S) (g : Gr H S H1 S1) : Sfx G a cls d i c fs σ H1 S1 := by
  obtain ⟨h1, h2, dx, gs, h3, h4, h5⟩ := s
  exact ⟨h1, h2, dx, gs, h3, g.keep _ _ h4, h5.kp g.kp⟩
section
variable {a : Addr} {cls : Value} {d : Option Addr} {i c : Nat} {fs : List (Str × D)} {oe : Obj} {pn : List (Addr × Obj)} {b : Expr} {rest : List Expr} {ma mb mt : Option D} {t : Expr}
theorem jx_c {v : V} {z : D} (h : ∀ H S, Rep G H S z v) (p : PE (X.suite a ((a, oe) :: pn)) e (tC v)) : PE (X.suite a ((a, oe) :: pn)) e (rX G a cls d i c fs (some z)) :=
  p.imp fun σ H Q ⟨S, z', s, e, q⟩ => by cases e; exact q v H S .refl (h H S)
theorem jx_fld {cs : List Nat} {f : Str} (hC : ∀ c ∈ cs, XfC X.K (G.ca c) ∧ PySem.W.findIn X.K (.ref (G.ca c)) f = some none) (hz : Zc cls d oe) (hf : ∃ vs, oe.data = .fields vs) (hc : c ∈ cs ∨ c ∉ cs) (p : PE (X.suite a ((a, oe) :: pn)) e (tVar i)) (hb : attributeBase e f X.env (eval e X.env) = eval e X.env := by rfl) :
    PE (X.suite a ((a, oe) :: pn)) (.Attribute e f pos) (rX G a cls d i c fs (xFld cs f c fs)) := by
  rcases hc with hc | hc
  · obtain ⟨T, no⟩ := hC c hc
    refine (pe_xf (n := f) T no hz hf p hb).imp fun σ H Q ⟨S, z', s, e', q⟩ => ?_
    obtain ⟨h1, h2, dx, gs, h3, h4, h5⟩ := s
    have e2 : (if cs.contains c = true then fs.lookup f else none) = some z' := e'
    rw [if_pos (by simpa using hc)] at e2
    obtain ⟨v, g1, g2⟩ := h5.get e2
    exact ⟨_, h2, rfl, h1, dx, gs, v, h3, h4, g1, q v H S .refl g2⟩
  · refine ⟨fun pins s σ H Q I ⟨S, z', _, e', q⟩ => ?_⟩
    have e2 : (if cs.contains c = true then fs.lookup f else none) = some z' := e'
    rw [if_neg (by simpa using hc)] at e2
    cases e2
/-- isinstance(n, C) -/
theorem jx_is {sel : Nat → Option Bool} {cv : Value} {C : V} {e2 : Expr} (hT : ∀ c b, sel c = some b → PySem.W.VxC X.K (G.ca c) ∧ PySem.W.kitOne X.K (.ref (G.ca c)) cv = some b) (hz : Zc cls d oe) (hf : ∃ vs, oe.data = .fields vs) (hcv : ∀ u, RelV C u → u = cv)
    (hg : Gl X "isinstance") (hm : X.mg "isinstance" = none) (p1 : PE (X.suite a ((a, oe) :: pn)) e (tVar i)) (p2 : PE (X.suite a ((a, oe) :: pn)) e2 (tC C)) (hs : starEach (e :: [e2]) X.env = (false, eval e X.env) :: starEach [e2] X.env := by rfl) (hs2 : starEach (e2 :: []) X.env = (false, eval e2 X.env) :: starEach [] X.env := by rfl) (hpl : (backTo pos (starEach [e2] X.env)).any (·.1) = false := by rfl) :
    PE (X.suite a ((a, oe) :: pn)) (.Call (.Name "isinstance" p) [e, e2] [] pos) (rX G a cls d i c fs (xIs sel c)) := by
  cases hsel : sel c with
  | none =>
    refine ⟨fun pins s σ H Q I ⟨S, z', _, e', q⟩ => ?_⟩
    unfold xIs at e'
    rw [hsel] at e'
    cases e'
  | some bb =>
    obtain ⟨T, hk⟩ := hT c bb hsel
    have call : CallR (X.suite a ((a, oe) :: pn)) (.builtin "isinstance") (fun xs H Q => ∃ dx gs, cls = .ref (G.ca c) ∧ d = some dx ∧ H dx = some (.xd gs) ∧ xs = [.ref a, C] ∧ Q (.bl bb) H) := by
      intro pins s σ H xs us Q I r ⟨dx, gs, h1, h3, h4, ex, q⟩
      subst ex
      obtain ⟨u1, u2, rfl, r1, r2⟩ := vals2 r
      cases r1
      have := hcv _ r2
      subst this
      obtain ⟨hget, _⟩ := I.pin (a, oe) (List.mem_append.mpr (.inl List.mem_cons_self))
      obtain ⟨mA, hns, _⟩ := (show ObjOk X.prog X.w H s.heap dx (.xd gs) from I.hok dx _ h4)
      obtain ⟨od, ho, _⟩ := lookIn_ns hns
      obtain ⟨vs, hv⟩ := hf
      have J : PySem.W.InstAt s.heap a oe (G.ca c) (some od) := ⟨hget, by rw [hz.1, h1], by unfold PySem.W.notCls; rw [hv] <;> rfl, by rw [hz.2, h3]; exact ho⟩
      exact PySem.W.kia_one (PySem.W.vx_kit T) I.kIn J hk (fun z => nomatch z) fun tk => ⟨.bl bb, H, I.kept (t' := tk) fun _ _ z => z, rfl, q⟩
    refine (pe_callB (X := X.suite a ((a, oe) :: pn)) call hg hm PyProof.Rows.boot_isinstance (pa_cons p1 (pa_cons p2 pa_nil hs2) hs) (by decide) (by decide) hs hpl).imp fun σ H Q ⟨S, z', s, e', q⟩ => ?_
    unfold xIs at e'
    rw [hsel] at e'
    cases e'
    obtain ⟨h1, h2, dx, gs, h3, h4, h5⟩ := s
    exact ⟨_, h2, dx, gs, h1, h3, h4, rfl, q _ H S .refl (.bl bb)⟩
theorem jx_and (ha : PE (X.suite a ((a, oe) :: pn)) e (rX G a cls d i c fs ma)) (hb : PE (X.suite a ((a, oe) :: pn)) b (rX G a cls d i c fs mb)) : PE (X.suite a ((a, oe) :: pn)) (.BoolOp .And [e, b] pos) (rX G a cls d i c fs (xAnd ma mb)) :=
  (pe_and ha (pe_one hb)).imp fun σ H Q ⟨S, z, s, e, q⟩ => by
    unfold xAnd at e
    split at e
    · exact ⟨S, _, s, rfl, fun v H1 S1 g r => by
        cases r
        exact ⟨true, rfl, S1, z, s.gr g, e, fun v H2 S2 g2 r2 => q v H2 S2 (g.trans g2) r2⟩⟩
    · cases e
      exact ⟨S, _, s, rfl, fun v H1 S1 g r => by
        cases r
        exact ⟨false, rfl, q _ H1 S1 g (.bl false)⟩⟩
    · cases e
theorem jx_or (ha : PE (X.suite a ((a, oe) :: pn)) e (rX G a cls d i c fs ma)) (hb : PE (X.suite a ((a, oe) :: pn)) b (rX G a cls d i c fs mb)) : PE (X.suite a ((a, oe) :: pn)) (.BoolOp .Or [e, b] pos) (rX G a cls d i c fs (xOr ma mb)) :=
  (pe_or ha (pe_one hb)).imp fun σ H Q ⟨S, z, s, e, q⟩ => by
    unfold xOr at e
    split at e
    · cases e
      exact ⟨S, _, s, rfl, fun v H1 S1 g r => by
        cases r
        exact ⟨true, rfl, q _ H1 S1 g (.bl true)⟩⟩
    · exact ⟨S, _, s, rfl, fun v H1 S1 g r => by
        cases r
        exact ⟨false, rfl, S1, z, s.gr g, e, fun v H2 S2 g2 r2 => q v H2 S2 (g.trans g2) r2⟩⟩
    · cases e
theorem jx_not (ha : PE (X.suite a ((a, oe) :: pn)) e (rX G a cls d i c fs ma)) : PE (X.suite a ((a, oe) :: pn)) (.UnaryOp .Not e pos) (rX G a cls d i c fs (xNot ma)) :=
  (pe_not ha).imp fun σ H Q ⟨S, z, s, e, q⟩ => by
    unfold xNot at e
    split at e
    · cases e
      exact ⟨S, _, s, rfl, fun v H1 S1 g r => by
        cases r
        exact ⟨_, rfl, q _ H1 S1 g (.bl _)⟩⟩
    · cases e
theorem jx_test (he : PE (X.suite a ((a, oe) :: pn)) e (rX G a cls d i c fs ma)) (hw : PT (X.suite a ((a, oe) :: pn)) e (tB (rX G a cls d i c fs ma))) : PT (X.suite a ((a, oe) :: pn)) e (fun σ H Q => ∃ k S, Sfx G a cls d i c fs σ H S ∧ ma = some (.bl k) ∧ ∀ H' S', Gr H S H' S' → Q k H') :=
  hw.imp fun σ H Q ⟨k, S, s, e, q⟩ => ⟨S, _, s, e, fun v H1 S1 g r => by cases r; exact ⟨k, rfl, q H1 S1 g⟩⟩
end
/-- try: body, except C as n: return e -/
theorem js_try {body : List Stmt} {sb : SM} {x nx : Str} {cv : Value} {i : Nat} {sel : Nat → Option Bool} {hm : Nat → List (Str × D) → Option D} {e : Expr} {np pos' pos2 : Pos} (hio : i ∉ io)
    (hs : X.stack = X.env :: X.outer) (hf : X.env.frame = some X.env.locals) (hN : X.N.Nodup) (hi : X.N[i]? = some nx) (hln : X.env.kindOf nx = some .local) (hc : Names X x cv) (tk : Takes X W)
    (hsel : ∀ c b, sel c = some b → PySem.W.exmOne X.K (.ref (G.ca c)) cv = some b)
    (hb : ∀ (W : WX) (pn : List (Addr × Obj)) (xe : Value → Shared → Prop), Takes (X.tr pn xe) W → PassesOwn (model X.prog X.w) X.A X.env xe → PSs (X.tr pn xe) body (rS G (vD G) W io sb))
    (hx : ∀ (a : Addr) (oe : Obj) (cls : Value) (d : Option Addr) (pn : List (Addr × Obj)) (c : Nat) (fs : List (Str × D)), Zc cls d oe → (∃ vs, oe.data = .fields vs) → PE (X.suite a ((a, oe) :: pn)) e (rX G a cls d i c fs (hm c fs))) :
    PS X (.Try body [.ExceptHandler (some (.Name x np)) (some nx) [.Return (some e) pos2] pos'] [] [] pos) (rS G (vD G) W io (sTry sb sel hm i)) := by
  refine (ps_try_as (i := i) (tb := fun W => rS G (vD G) W io sb) (ts := fun a cls d => fun D σ H => ∃ c fs, rX G a cls d i c fs (hm c fs) σ H D.rt) (Wout := W) hs hf hN hi hln hc tk hb
    (fun a oe cls d pn hz hfl => ⟨fun pins s σ H D I ⟨c, fs, q⟩ => (pss_one (ps_ret (hx a oe cls d pn c fs hz hfl))).run pins s σ H D I q⟩)).imp fun D σ H ⟨σw, S, rel, h⟩ => ?_
  refine ⟨σw, S, rel, ?_⟩
  unfold sTry at h
  cases hr : sb σw with
  | nx σ1 => rw [hr] at h; exact h
  | bk σ1 => rw [hr] at h; exact h
  | ct σ1 => rw [hr] at h; exact h
  | rt d σ1 => rw [hr] at h; exact h
  | stuck => rw [hr] at h; exact h
  | exc c fs σ1 =>
    rw [hr] at h
    intro σV H1 S1 dx gs rel1 ext1 kp1 hd hf1
    have h' : PostS G (vD G) W io σ H S (Own σ σw) (match sel c, σ1[i]? with
      | some true, some _ =>
        match hm c fs with
        | some d => .rt d (σ1.set i .un)
        | none => .stuck
      | some false, _ => .exc c fs σ1
      | _, _ => .stuck) D := h
    split at h'
    · rename_i s1 hs1 hl1
      refine ⟨true, hsel c true hs1, fun _ a na => ?_, (fun z => absurd z.symm Bool.false_ne_true)⟩
      cases hmc : hm c fs with
      | none => rw [hmc] at h'; exact h'.elim
      | some z =>
        rw [hmc] at h'
        have hlt : i < σV.length := by rw [rel1.len]; exact (List.getElem?_eq_some_iff.mp hl1).1
        have r0 : Rel G H1 S1 (σV.set i (some (.ref a))) (σ1.set i .un) := rel1.setU
        refine ⟨c, fs, S1, z, ⟨rfl, List.getElem?_set_self hlt, dx, gs, rfl, hd, hf1⟩, hmc, fun v H2 S2 g r => ?_⟩
        refine h' v (σV.set i (some (.ref a))) H2 S2 (r0.gr g) (ext1.trans ((g.ext (O := Own σV σ1)).less fun b o => o.setU)) (kp1.trans (.set hio)) r
    · rename_i hs1
      exact ⟨false, hsel c false hs1, (fun z => absurd z Bool.false_ne_true), fun _ => h' σV H1 S1 dx gs rel1 ext1 kp1 hd hf1⟩
    · exact h'.elim
end
end VM
end
section
set_option linter.all false
set_option maxRecDepth 100000
set_option maxHeartbeats 4000000
/-! VErr: raise C(e), C an own error over ValueError with `def __init__(self, p): super().__init__('..'); self.f = p`. -/
namespace PySem
namespace VErr
open PySem.W PySem.Calls PyProof.Rows PySem.HandSPX PySem.Spec
/-- the plain way of o.m(c) -/
def MPlain (o e : Expr) (m : Str) (ap pos : Pos) : Prop := ∃ pl : Sem Bool, ∀ env : Env, eval (.Call (.Attribute o m ap) [e] [] pos) env = (do
  let ov ← attributeBase o m env (eval o env)
  standAt ap.atName
  let (f, first) ← holding [ov] (getMethod ov m pl)
  callWith pos f first (backTo pos (starEach [e] env)) [])
/-- what the written part says of such a class at C, its __init__ at fI -/
structure Txt (K : Frag) (prog : Program) (mg : Str → Option Value) (C fI : Addr) (sf par fld : Str) : Prop where
  cls : ∃ nm q N bs bm sn sub ab col dd k0 k1 k2 k3 k5, K.lookup C = some (excClassObj nm q C N bs bm true sn sub ab col dd k0 k1 k2 k3 k5 "ValueError.__new__") ∧ refsVE bm = true
  sa : findIn K (.ref C) "__setattr__" = some (some (.builtin "object.__setattr__"))
  noF : findIn K (.ref C) fld = some none
  ini : findIn K (.ref C) "__init__" = some (some (.ref fI))
  tyI : typeIn K (.ref fI) = some (.type "function")
  kpC : keepIn K (.ref C) = true
  exC : subIn K (.ref C) (.type "BaseException") = some true
  tyC : typeIn K (.ref C) = some (.type "type")
  veC : subIn K (.ref C) (.type "ValueError") = some true
  meC : mroIn K C (.ref C) = some true
  supI : ks_superIn K C C "__init__" = some (some (.builtin "ValueError.__init__"))
  opq : nsIn K cStatics "thirdparty.any" = some none
  sup : mg "super" = none
  top : (prog.main.scope.names.lookup ("super" : Str)).isSome = false
  fn : ∃ (qual : Str) (args : Arguments) (body : List Stmt) (scope : Scope) (oc kV doc pm ct : Value) (od an : Option Addr) (cda cc : Addr) (osl : Array (Option Value)) (ccl cl : Value) (cdd cld : Option Addr) (ccs csl : Array (Option Value)) (vs : Array Value) (file : Str) (tf : Tok) (msg : Str) (j : Nat) (a1 a2 : Arg) (p0 p1 p2 p3 p4 p5 q1 q2 q3 q4 : Pos),
    K.lookup fI = some ⟨oc, od, .func (ksFn "__init__" qual args body scope .none kV doc pm an (.ref cda) ct cc), osl⟩ ∧ codeIn K (.ref cda) qual = true ∧ K.lookup cda = some ⟨ccl, cdd, .fields vs, ccs⟩ ∧ vs[2]? = some (.str file tf) ∧ ((prog.main.file : Str) == file) = true ∧
    K.lookup cc = some ⟨cl, cld, .cell (some (.ref C)), csl⟩ ∧ args = { posonlyargs := [], args := [a1, a2], vararg := none, kwonlyargs := [], kw_defaults := [], kwarg := none, defaults := [] } ∧ a1.arg = sf ∧ a2.arg = par ∧
    body = [.Expr (.Call (.Attribute (.Call (.Name "super" p0) [] [] p1) "__init__" p2) [.Constant (.str msg) j p3] [] p4) p5, .Assign [.Attribute (.Name sf q1) fld q2] (.Name par q3) q4] ∧
    scope.kind = .function ∧ scope.isCoroutine = false ∧ scope.isGenerator = false ∧ (∀ y ∈ scope.names, y.2 ≠ .cell) ∧ scope.names.lookup sf = some .local ∧ scope.names.lookup par = some .local ∧ scope.names.lookup ("super" : Str) = some .globalImplicit ∧ scope.names.lookup ("__class__" : Str) = some .free ∧
    (∀ u z : Value, bindArgs (ksFn "__init__" qual args body scope .none kV doc pm an (.ref cda) ct cc) ⟨[u, z], []⟩ = pure [(sf, u), (par, z)]) ∧ MPlain (.Call (.Name "super" p0) [] [] p1) (.Constant (.str msg) j p3) "__init__" p2 p4 ∧ sf ≠ par ∧ (sf == ("__debug__" : Str)) = false ∧ (par == ("__debug__" : Str)) = false
structure Done (h h' : Heap) (x C dx : Addr) (fld : Str) (v : Value) : Prop where
  keep : ∀ b o, b ≠ x → h.get? b = some o → h'.get? b = some o
  obj : ∃ t1 : Addr, h'.get? x = some { cls := .ref C, dict := some dx, data := .fields #[.ref t1, .none, .none, .none, .bool false, .none] }
  dbig : h.objs.size ≤ dx
  dne : dx ≠ x
  ns : h'.Ns1 dx (fun y => if y = fld then some v else none)
section
variable {prog : Program} {w : World} {A : Around} {E : Value → Shared → Prop} {R : Result → Shared → Prop} {K : Frag} {mg mb : Str → Option Value} {C fI : Addr} {sf par fld : Str}
/-- ValueError.__init__ bound to the error at e, called -/
theorem bound_called {hp : Heap} {gs : Array GenState} {dr : Drawn} {tk : Nat} {os : OsState} {nm q : Str} {N : Addr} {bs bm : List Value} {sn : List Str} {sub : List Value} {ab : Bool} {col : Option Bool} {dd : Option Addr} {k0 k1 k2 k3 k5 : Option Value} {u e t0 : Addr} {rest : List Value} {Q : Value → Shared → Prop}
    (hC : hp.get? C = some (excClassObj nm q C N bs bm true sn sub ab col dd k0 k1 k2 k3 k5 "ValueError.__new__")) (he : hp.get? e = some (excO C t0)) (hu : hp.get? u = some (kxs_mw "ValueError.__init__" e)) (hz : rest.length ≤ sizeLine)
    (done : ∀ h' t1, (∀ b o, b ≠ e → hp.get? b = some o → h'.get? b = some o) → h'.get? e = some (excO C t1) → Q .none ⟨h', gs, dr, tk, os⟩) : wpAny (model prog w) A (call (.ref u) rest) Q E ⟨hp, gs, dr, tk, os⟩ := by
  refine wpAny_call (codeAny_of_tree (show wpAny (model prog w) A.in1 (callAny (.ref u) ⟨rest, []⟩) _ _ _ from ?_))
  unfold callAny
  refine wpAny_bind (wpAny_load hu ?_)
  simp only [kxs_mw, show (Value.type "method-wrapper" == Value.type "method" || Value.type "method-wrapper" == Value.type "builtin_function_or_method" || Value.type "method-wrapper" == Value.type "method-wrapper") = true by decide, if_true]
  refine KFB.if_so (by decide) (wpAny_bind (ESX.check_bound F.excBase_ValueError hC he rfl (wpAny_bind (wpAny_pure (wpAny_pure ⟨Code.quiet_builtin _ (by decide +kernel), codeAny_builtin F.excBase_ValueError.initEntry ?_⟩)))))
  rw [Around.under_plainId F.excBase_ValueError.init.plain _]
  wp_walk
  exact done _ hp.objs.size (fun b o nb ob => by rw [Heap.get?_update_other _ _ (Ne.symm nb)]; exact Heap.get?_push_of_some _ ob) (by rw [Heap.get?_update_self _ (Heap.get?_push_of_some _ he) rfl]; rfl)
theorem init_runs (T : Txt K prog mg C fI sf par fld) {s : Shared} {x t0 : Addr} {v : Value} (X : K.In s.heap) (hlim : s.heap.NoLimit) (hg : s.heap.Ns mainGlobals mg) (hb : s.heap.Ns builtinsNs mb) (hbs : mb "super" = bootBuiltins "super")
    (hx : s.heap.get? x = some (excO C t0)) (hnx : K.lookup x = none) (hroom : A.depth < recursionLimit)
    (hq : ∀ h' tk dx, Done s.heap h' x C dx fld v → R (.ok (.ret .none)) { s with heap := h', toks := tk }) : codeAny (model prog w) A (.call (.ref fI) ⟨[.ref x, v], []⟩) R s := by
  obtain ⟨qual, args, body, scope, oc, kV, doc, pm, ct, od, an, cda, cc, osl, ccl, cl, cdd, cld, ccs, csl, vs, file, tf, msg, j, a1, a2, p0, p1, p2, p3, p4, p5, q1, q2, q3, q4, ho, hcd, hcode, hvs, hfile, hcell, eargs, e1, e2, ebody, hk, hco, hgn, hnc, hl1, hl2, hl3, hl4, hbind, ⟨pl, hpl⟩, hne, hd1, hd2⟩ := T.fn
  obtain ⟨nm, q, N, bs, bm, sn, sub, ab, col, dd, k0, k1, k2, k3, k5, hC, hbm⟩ := T.cls
  have hcl : clsIn K C = some { name := nm, bases := bs, mro := .ref C :: bm, ns := N, qualname := q, hasDict := true, slotNames := sn, subclasses := sub, abstract := ab, collection := col, hasDel := false } := by unfold clsIn; rw [hC] <;> rfl
  subst eargs e1 e2 ebody
  cases scope
  dsimp only at hk hco hgn hnc hl1 hl2 hl3 hl4
  subst hk hco hgn
  refine ks_codeAny_call_defAt (fd := ksFn "__init__" qual _ _ _ .none kV doc pm an (.ref cda) ct cc) (binds := [(a1.arg, .ref x), (a2.arg, v)]) hroom (X _ _ ho) rfl hlim (codeRec_of X hcd) rfl (BindsTo.of_eq (hbind _ _)) hnc ?_ (fun h₁ hns hk₁ => ?_)
  · intro y hy
    rcases List.mem_cons.mp hy with rfl | hy
    · exact hl1
    · rw [List.mem_singleton.mp hy]; exact hl2
  have X₁ : K.In h₁ := X.keeps hk₁
  have hL : s.heap.objs.size ≠ x := Nat.ne_of_gt (Heap.lt_size hx)
  have xNC : x ≠ C := fun z => by rw [z, hC] at hnx; cases hnx
  have gself : (fun y => List.lookup y [(a1.arg, Value.ref x), (a2.arg, v)].reverse) a1.arg = some (.ref x) := by
    have : (a1.arg == a2.arg) = false := beq_eq_false_iff_ne.mpr hne
    simp [List.lookup, this]
  have gpar : (fun y => List.lookup y [(a1.arg, Value.ref x), (a2.arg, v)].reverse) a2.arg = some v := by
    simp [List.lookup]
  refine ks_wpAt_execs_cons (ks_wpAt_Expr_any (ks_wpAt_MethodCall (pl := pl) ?_ (hpl _)))
  refine ks_wpAt_super_base hl3 hl4 (by decide) rfl (X₁ _ _ ho) rfl rfl rfl (X₁ _ _ hcode) rfl hvs hfile T.top ?_
  refine ks_loadName_global rfl hl3 (loadGlobal_builtin (hg.keeps hk₁) T.sup (hb.keeps hk₁) (hbs.trans (by first | boot_by_name | rfl | kernel_rfl)) ⟨rfl, ?_⟩)
  refine wpAny_loadName_free rfl hl4 rfl ⟨_, X₁ _ _ hcell, rfl⟩ ?_
  refine wpAny_loadName_local rfl hl1 hns gself ?_
  have hx₁ := hk₁ _ _ hx
  have hC₁ := X₁ _ _ hC
  refine ks_wpAny_isType_cls hC₁ rfl ⟨rfl, ?_⟩
  refine ks_wpAny_call_super hC₁ rfl hx₁ rfl (fun c z => by cases z) (looks_mroIn X₁ T.meC) (fun h₂ hso hk₂ => ?_)
  have X₂ : K.In h₂ := X₁.keeps hk₂
  have hx₂ := hk₂ _ _ hx₁
  have I₂ : InstAt h₂ x (excO C t0) C none := ⟨hx₂, rfl, rfl, trivial⟩
  have sup2 : alongIn K "__init__" (((Value.ref C :: bm).dropWhile (· != .ref C)).drop 1) = some (some (.builtin "ValueError.__init__")) := by
    have z := T.supI
    unfold ks_superIn at z
    rw [hcl] at z
    exact z
  refine kxs_getMethod kxs_ValueError hso (looks_opaque X₂ T.opq) (l₀ := .ref C :: bm) (fun A Q E s k q => wpAny_bind ((looks_clsIn X₂ hcl) A _ E s k (wpAny_pure q))) rfl X₂ sup2 (I₂.type.andThen (looks_subIn X₂ T.veC)) xNC (by decide) ?_
  have X₃ : K.In (h₂.push (kxs_mw "ValueError.__init__" x)) := X₂.keeps fun b o e => Heap.get?_push_of_some _ e
  have hx₃ : (h₂.push (kxs_mw "ValueError.__init__" x)).get? x = some (excO C t0) := Heap.get?_push_of_some _ hx₂
  have hu₃ : (h₂.push (kxs_mw "ValueError.__init__" x)).get? h₂.objs.size = some (kxs_mw "ValueError.__init__" x) := Heap.get?_push_size h₂ rfl
  have ns₃ : (h₂.push (kxs_mw "ValueError.__init__" x)).Ns s.heap.objs.size (fun y => List.lookup y [(a1.arg, Value.ref x), (a2.arg, v)].reverse) := (hns.keeps hk₂).keeps fun b o e => Heap.get?_push_of_some _ e
  refine kxs_callWith (i := "ValueError.__init__") (x := x) rfl (evalArgs_plain ?_)
  show wpAny _ _ (spliced ((false, eval (.Constant (.str msg) j p3) _) :: [])) _ _ _
  refine Calls.spliced_cons (Calls.Constant_str ?_)
  refine Calls.spliced_nil ⟨hu₃, ?_⟩
  refine bound_called (X₃ _ _ hC) hx₃ hu₃ (by show 1 ≤ sizeLine; rw [sizeLine_eq]; decide) fun h₄ t1 k₄ hx₄ => ?_
  refine ks_wpAt_execs_cons (wpAt_of_wpAny (plainObj_wpAny_Assign_Attribute ?_))
  have xL : s.heap.objs.size ≠ x := hL
  have ns₄ : h₄.Ns s.heap.objs.size (fun y => List.lookup y [(a1.arg, Value.ref x), (a2.arg, v)].reverse) := by
    obtain ⟨oL, es, ep, e1, r⟩ := ns₃
    exact ⟨oL, es, ep, k₄ _ _ xL e1, r⟩
  have X₄ : K.In h₄ := fun b o e => k₄ b o (fun z => by rw [z, hnx] at e; cases e) (X₃ b o e)
  refine wpAny_Name (wpAny_loadName_local rfl hl2 ns₄ gpar ?_) hd2
  refine wpAny_Name (wpAny_loadName_local rfl hl1 ns₄ gself ?_) hd1
  refine set_plain X₄ (ox := excO C t1) (od := none) ⟨hx₄, rfl, rfl, trivial⟩ T.sa ?_
  refine exc_osa X₄ hx₄ hcl (show refsVE (.ref C :: bm) = true from hbm) rfl T.noF (fun h₅ tk₅ dx k₅ dn dne hx₅ hn₅ => ?_)
  refine wpAt_of_wpAny (wpAny_execs_nil (hq h₅ tk₅ dx ⟨fun b o nb e => k₅ b o nb (k₄ b o nb (Heap.get?_push_of_some _ (hk₂ _ _ (hk₁ _ _ e)))), ⟨t1, hx₅⟩, ?_, dne, hn₅⟩))
  have z : s.heap.objs.size < h₄.objs.size := ns₄.lt
  exact Nat.le_of_lt (Nat.lt_of_lt_of_le z dn)
/-- a made error: its dict d holds the field -/
structure Made (h h' : Heap) (e C d : Addr) (fld : Str) (v : Value) : Prop where
  keep : ∀ b o, h.get? b = some o → h'.get? b = some o
  new : h.objs.size ≤ e
  obj : ∃ oe vs, h'.get? e = some oe ∧ oe.cls = .ref C ∧ oe.dict = some d ∧ oe.data = .fields vs ∧ vs[1]? = some .none
  dbig : h.objs.size ≤ d
  dne : d ≠ e
  ns : h'.Ns1 d (fun y => if y = fld then some v else none)
theorem made (T : Txt K prog mg C fI sf par fld) {s : Shared} {v : Value} (X : K.In s.heap) (hlim : s.heap.NoLimit) (hg : s.heap.Ns mainGlobals mg) (hb : s.heap.Ns builtinsNs mb) (hbs : mb "super" = bootBuiltins "super") (hroom : A.depth + 1 < recursionLimit)
    (hq : ∀ h' tk e d, Made s.heap h' e C d fld v → R (.ok (.ret (.ref e))) { s with heap := h', toks := tk }) : codeAny (model prog w) A (.call (.ref C) ⟨[v], []⟩) R s := by
  obtain ⟨nm, q, N, bs, bm, sn, sub, ab, col, dd, k0, k1, k2, k3, k5, hC, hbm⟩ := T.cls
  obtain ⟨hp, g, dr, tk, os⟩ := s
  have k : ∀ b o, hp.get? b = some o → ((hp.push (kdv_tup [v])).push (excO C hp.objs.size)).get? b = some o := fun b o e => Heap.get?_push_of_some _ (Heap.get?_push_of_some _ e)
  have hget : ((hp.push (kdv_tup [v])).push (excO C hp.objs.size)).get? (hp.objs.size + 1) = some (excO C hp.objs.size) := by heap_get
  have hnx : K.lookup (hp.objs.size + 1) = none := by
    cases e : K.lookup (hp.objs.size + 1) with
    | none => rfl
    | some o =>
      have z : hp.get? (hp.objs.size + 1) = some o := X _ _ e
      exact absurd (Nat.lt_of_succ_lt (Heap.lt_size z)) (Nat.lt_irrefl _)
  refine call_own F.excBase_ValueError (fun Y => refsVE_contains Y bm hbm) (X _ _ hC) (looks_findIn X T.ini) (fun self => bind_fn X self T.tyI) (by show 1 ≤ sizeLine; rw [sizeLine_eq]; decide) ?_
  refine init_runs (s := ⟨(hp.push (kdv_tup [v])).push (excO C hp.objs.size), g, dr, tk, os⟩) T (X.keeps k) (hlim.keeps k) (hg.keeps k) (hb.keeps k) hbs hget hnx ?_ fun h' tk' dx D => ?_
  · exact hroom
  · have old : ∀ b o, hp.get? b = some o → h'.get? b = some o := fun b o e => D.keep b o (Nat.ne_of_lt (Nat.lt_succ_of_lt (Heap.lt_size e))) (k b o e)
    obtain ⟨t1, hx⟩ := D.obj
    have z : hp.objs.size + 1 + 1 ≤ dx := by
      have q := D.dbig
      first
        | (simpa only [Heap.size_push] using q)
        | exact q
        | (rw [Heap.size_push, Heap.size_push] at q; exact q)
    exact ⟨rfl, hq h' tk' (hp.objs.size + 1) dx ⟨old, Nat.le_succ _, ⟨_, _, hx, rfl, rfl, rfl, rfl⟩, Nat.le_trans (Nat.le_trans (Nat.le_succ _) (Nat.le_succ _)) z, D.dne, D.ns⟩⟩
end
end VErr
end PySem
namespace VM
open PySem PySem.Spec L2
open PyProof.Rows (envOfC)
theorem relO_one {v : V} {v' : Value} {fld : Str} (r : RelV v v') (f : Str) : RelO (List.lookup f [(fld, v)]) (if f = fld then some v' else none) := by
  by_cases hw : f = fld
  · subst hw
    rw [if_pos rfl, show List.lookup f [(f, v)] = some v by simp [List.lookup]]
    exact r
  · rw [if_neg hw, show List.lookup f [(fld, v)] = none by simp [List.lookup, show (f == fld) = false by simpa using hw]]
    trivial
/-- C(e) as an error that is made -/
theorem pmk_err {X : Cx} {C fI : Addr} {sf par fld x : Str} {k : Nat} {a : Expr} {ta : TE} {p pos : Pos} (T : PySem.VErr.Txt X.K X.prog X.mg C fI sf par fld) (gC : X.mg x = some (.ref C)) (hr : Room k X.A) (ha : PE X a ta) (hg : Gl X x) (hs : starEach (a :: []) X.env = (false, eval a X.env) :: starEach [] X.env := by rfl)
    (hpl : (backTo pos (starEach [] X.env)).any (·.1) = false := by rfl) (hdb : (x == ("__debug__" : Str)) = false := by decide) : PMk X (.Call (.Name x p) [a] [] pos) (tMk1 C fld ta) := by
  intro pins s σ H Q I h
  refine wpAny_Call_Name_kw (ld_glob I hg gC ?_ hdb)
  refine PySem.W.callWith_K (h₀ := X.base) I.ok.mod.kin T.kpC (thn ((pa_cons ha pa_nil hs).run pos pins s σ H (fun vs H1 => match vs with
    | [v] => ∀ d, H1 d = none → Q (.ref C) (some d) (upd H1 d (.xd [(fld, v)]))
    | _ => False) I h) fun us s1 hh => ?_) hs hpl
  obtain ⟨vs, H1, I1, r1, q0⟩ := hh
  obtain ⟨v, ev, q1⟩ : ∃ v, vs = [v] ∧ ∀ d, H1 d = none → Q (.ref C) (some d) (upd H1 d (.xd [(fld, v)])) := by
    match vs, q0 with
    | [v], q => exact ⟨v, rfl, q⟩
  subst ev
  refine ⟨I1.kIn, ?_⟩
  obtain ⟨v', rfl, rv⟩ := vals1 r1
  show wpAny _ _ (call (.ref C) [v']) _ _ _
  have hlim := I1.nolimit
  obtain ⟨mb, hb, hbs⟩ := I1.mod.blt
  have kb := I1.bk
  obtain ⟨hp, g, dr, tk, os⟩ := s1
  refine wpAny_call (PySem.VErr.made T I1.kIn hlim (I1.mod.glob.keeps kb) (hb.keeps kb) (hbs _ (by decide)) (by have := hr.dp; omega) fun h' tk' e d M => ?_)
  obtain ⟨oe, fv, hoe, hc, hd, hdat, h1⟩ := M.obj
  obtain ⟨G', g1, g2⟩ := restrict h' fun b => decide (b ≠ e)
  have gk : ∀ b, b ≠ e → G'.get? b = h'.get? b := fun b hb => g1 b (decide_eq_true hb)
  have ge : G'.get? e = none := g2 e (by simp)
  have J : Inv X pins σ (upd H1 d (.xd [(fld, v)])) ⟨G', g, dr, tk', os⟩ :=
    I1.laid (t' := tk') (fun b o q => (gk b (Nat.ne_of_lt (Nat.lt_of_lt_of_le (Heap.lt_size q) M.new))).trans (M.keep b o q)) M.dbig ⟨_, M.ns.at (fun o q => (gk d M.dne).trans q), fun f => relO_one rv f⟩
  refine ⟨e, oe, fv, ⟨G', g, dr, tk', os⟩, _, .ref C, some d, rfl, J, fun b o q => ?_, ge, hoe, ⟨hc, hd⟩, hdat, h1, ?_, rfl, I1.bare, raises_own T.exC T.tyC, q1 d (I1.hok.fresh M.dbig)⟩
  · by_cases hb : b = e
    · have q' : G'.get? b = some o := q
      rw [hb, ge] at q'; cases q'
    · exact (gk b hb).symm.trans q
  · rw [upd_ne (Ne.symm M.dne)]
    exact I1.hok.fresh M.new
end VM
end
section
set_option linter.all false
set_option maxRecDepth 100000
/-! VOps: the operations of the mirror, and that they are Python's. -/
namespace VM
open PySem PySem.Spec L2
open PyProof.Rows (envOfC)
/-! ### the operations -/
def addI : D → D → Option D
  | .int i, .int j => some (.int (i + j))
  | _, _ => none
def addS : D → D → Option D
  | .str x, .str y => if x.length + y.length ≤ 16777216 then some (.str (x ++ y)) else none
  | _, _ => none
def addL : D → D → Option D
  | .lst xs, .lst ys => if xs.length + ys.length ≤ 16777216 then some (.lst (xs ++ ys)) else none
  | _, _ => none
def oAdd : D → D → Option D := orO addI (orO addS addL)
def oSub : D → D → Option D
  | .int i, .int j => some (.int (i - j))
  | _, _ => none
def mulI : D → D → Option D
  | .int i, .int j => if (-18446744073709551616 < i ∧ i < 18446744073709551616) ∨ (-18446744073709551616 < j ∧ j < 18446744073709551616) then some (.int (i * j)) else none
  | _, _ => none
def mulL : D → D → Option D
  | .lst xs, .int k => if -9223372036854775808 ≤ k ∧ k < 9223372036854775808 ∧ xs.length * k.toNat ≤ 16777216 then some (.lst (List.replicate k.toNat xs).flatten) else none
  | _, _ => none
def mulS : D → D → Option D
  | .str x, .int n => if 0 ≤ n ∧ n ≤ 1000 ∧ x.length ≤ 1000 then some (.str (Txt.mul x n)) else none
  | _, _ => none
def oMul : D → D → Option D := orO mulI mulL
def oDiv : D → D → Option D
  | .int i, .int j => if 0 < j ∧ j < 1073741824 then some (.int (i / j)) else none
  | _, _ => none
def oMod : D → D → Option D
  | .int i, .int j => if 0 < j then some (.int (i % j)) else none
  | _, _ => none
def oPow : D → D → Option D
  | .int i, .int j => if 0 ≤ j ∧ j ≤ 1000000 ∧ i.natAbs < 18446744073709551616 then some (.int (i ^ j.toNat)) else none
  | _, _ => none
def oLt : D → D → Option D
  | .int i, .int j => some (.bl (decide (i < j)))
  | _, _ => none
def oLe : D → D → Option D
  | .int i, .int j => some (.bl (decide (i ≤ j)))
  | _, _ => none
def oGt : D → D → Option D
  | .int i, .int j => some (.bl (decide (j < i)))
  | _, _ => none
def oGe : D → D → Option D
  | .int i, .int j => some (.bl (decide (j ≤ i)))
  | _, _ => none
/-- == of plain values -/
def eqB : D → D → Option Bool
  | .non, .non => some true | .non, .int _ => some false | .int _, .non => some false | .non, .bl _ => some false | .bl _, .non => some false | .non, .str _ => some false | .str _, .non => some false
  | .int i, .int j => some (decide (i = j)) | .bl i, .bl j => some (decide (i = j)) | .str i, .str j => some (decide (i = j))
  | .int _, .str _ => some false | .str _, .int _ => some false | .bl _, .str _ => some false | .str _, .bl _ => some false
  | _, _ => none
def eqS (x y : D) : Option D := (eqB x y).map D.bl
def neS (x y : D) : Option D := (eqB x y).map fun b => .bl (!b)
def oIsN : D → D → Option D
  | .non, .non => some (.bl true) | .bl _, .non => some (.bl false) | .int _, .non => some (.bl false) | .str _, .non => some (.bl false) | .lst _, .non => some (.bl false) | .tup _, .non => some (.bl false)
  | .scr _, .non => some (.bl false) | .ins _ _, .non => some (.bl false) | .ty _, .non => some (.bl false)
  | _, _ => none
def oNotN : D → D → Option D
  | .non, .non => some (.bl false) | .bl _, .non => some (.bl true) | .int _, .non => some (.bl true) | .str _, .non => some (.bl true) | .lst _, .non => some (.bl true) | .tup _, .non => some (.bl true)
  | .scr _, .non => some (.bl true) | .ins _ _, .non => some (.bl true) | .ty _, .non => some (.bl true)
  | _, _ => none
/-- a sign in a text -/
def inS : D → D → Option D
  | .str x, .str z =>
    match x.cps.toList with
    | [c] => some (.bl (decide (c ∈ z.cps.toList)))
    | _ => none
  | _, _ => none
def flatD : D → Bool
  | .non => true | .bl _ => true | .int _ => true | .str _ => true
  | _ => false
def eqF : D → D → Bool
  | .non, .non => true
  | .bl a, .bl b => a == b
  | .bl a, .int b => (if a then 1 else 0) == b
  | .int a, .bl b => a == (if b then 1 else 0)
  | .int a, .int b => a == b
  | .str a, .str b => a == b
  | _, _ => false
def inL : D → D → Option D
  | x, .lst ds => if flatD x = true ∧ ds.all flatD = true then some (.bl (ds.any fun y => eqF y x)) else none
  | x, .tup ds => if flatD x = true ∧ ds.all flatD = true then some (.bl (ds.any fun y => eqF y x)) else none
  | _, _ => none
def oIn : D → D → Option D := orO inS inL
def notB : Option D → Option D
  | some (.bl b) => some (.bl (!b))
  | _ => none
def oNotIn (x y : D) : Option D := notB (oIn x y)
/-! calls -/
def cLen : List D → Option D
  | [.str x] => if x.length ≤ 16777216 then some (.int x.length) else none
  | [.lst ds] => some (.int ds.length)
  | [.tup ds] => some (.int ds.length)
  | [.scr ds] => some (.int ds.length)
  | _ => none
def cAbs : List D → Option D
  | [.int i] => some (.int (if i < 0 then -i else i))
  | _ => none
def cInt : List D → Option D
  | [.int i] => some (.int i)
  | [.bl k] => some (.int (if k then 1 else 0))
  | [.str x] => if x.length ≤ 640 then (PySem.intText? x).map D.int else none
  | _ => none
def cStr : List D → Option D
  | [.int i] => if i.natAbs.log2 < 1920 then some (.str (toString i)) else none
  | _ => none
def blsD : List D → Option (List Bool)
  | [] => some []
  | .bl b :: ds => (blsD ds).map (b :: ·)
  | _ => none
def strsD : List D → Option (List Str)
  | [] => some []
  | .str x :: ds => (strsD ds).map (x :: ·)
  | _ => none
def cAll : List D → Option D
  | [.lst ds] => (blsD ds).map fun bs => .bl (bs.all id)
  | _ => none
def cAny : List D → Option D
  | [.lst ds] => (blsD ds).map fun bs => .bl (bs.any id)
  | _ => none
def cTup : List D → Option D
  | [.lst ds] => some (.tup ds)
  | [.scr ds] => some (.tup ds)
  | [.tup ds] => some (.tup ds)
  | _ => none
def cList : List D → Option D
  | [.lst ds] => some (.lst ds)
  | [.scr ds] => some (.lst ds)
  | [.tup ds] => some (.lst ds)
  | _ => none
/-- a built-in value's type -/
def tyN : D → Option String
  | .non => some "NoneType" | .bl _ => some "bool" | .int _ => some "int" | .str _ => some "str" | .lst _ => some "list" | .tup _ => some "tuple" | .scr _ => some "list"
  | _ => none
def subT (a b : String) : Option Bool :=
  if a = b then some true
  else if a = "bool" ∧ b = "int" then some true
  else if (["NoneType", "bool", "int", "str", "list", "tuple"].contains a && ["bool", "int", "str", "list", "tuple"].contains b) = true then some false
  else none
def subTs (a : String) : List D → Option Bool
  | [] => some false
  | .ty b :: l => (subT a b).bind fun r => (subTs a l).map (r || ·)
  | _ => none
def cIsi : List D → Option D
  | [x, .ty b] => (tyN x).bind fun a => (subT a b).map D.bl
  | [x, .tup l] => (tyN x).bind fun a => (subTs a l).map D.bl
  | _ => none
/-! subscripts, slices -/
def oIx : D → D → Option D
  | .lst ds, .int i => atI ds i
  | .tup ds, .int i => atI ds i
  | .scr ds, .int i => atI ds i
  | .str x, .int i => if x.length ≤ 16777216 then (atI x.cps.toList i).map fun c => .str ⟨#[c]⟩ else none
  | _, _ => none
def cutG {α : Type} (xs : List α) (lo hi : Option Int) : List α := (xs.drop (HT.sIx xs.length 0 lo)).take (HT.sIx xs.length xs.length hi - HT.sIx xs.length 0 lo)
def oSl : D → Option Int → Option Int → Option D
  | .lst ds, lo, hi => some (.lst (cutG ds lo hi))
  | .str x, lo, hi => if x.length ≤ 16777216 then some (.str (cutS x lo hi)) else none
  | _, _, _ => none
/-! methods of texts -/
def mSplit (x : Str) : D → Option D
  | .str y => if (y.length == 0) = false ∧ x.length + 2 ≤ 16777216 then some (.lst ((Txt.split x y).map D.str)) else none
  | _ => none
def mJoin (x : Str) : D → Option D
  | .lst ds => (strsD ds).bind fun ys => if (ys.map (·.length)).sum + ys.length * x.length ≤ 16777216 then some (.str (Txt.join x ys)) else none
  | .tup ds => (strsD ds).bind fun ys => if (ys.map (·.length)).sum + ys.length * x.length ≤ 16777216 then some (.str (Txt.join x ys)) else none
  | _ => none
def mUpper (x : Str) : Option D := if x.length ≤ 5592405 then some (.str (Txt.upper x)) else none
/-- f'..' of two parts -/
def eJ2 (a b : EM) : EM := fun σ => (a σ).bind fun x σ1 =>
  match x with
  | .str y => if y.length ≤ 16777216 then (b σ1).bind fun z σ2 => .opt (addS (.str y) z) σ2 else .stuck
  | _ => .stuck
/-- {x} of an f-string -/
def fmtD : D → Option D
  | .str y => if y.length ≤ 16777216 then some (.str y) else none
  | .int i => if i.natAbs.log2 < 1920 then some (.str (toString i)) else none
  | _ => none

section
variable {G : GC} {X : Cx}
/-! ### their soundness -/
theorem s_addI : Op2 G X (binaryOp .Add) addI := ⟨_, op_add, fun H S x y z v u Q rx ry e k => by
  cases rx <;> cases ry <;> first | (cases e; exact ⟨_, _, rfl, rfl, k _ H S .refl (.int _)⟩) | cases e⟩
theorem s_addS : Op2 G X (binaryOp .Add) addS := ⟨_, op_add_str, fun H S x y z v u Q rx ry e k => by
  cases rx <;> cases ry <;> first
    | (rename_i a b
       have e' : (if a.length + b.length ≤ 16777216 then some (D.str (a ++ b)) else none) = some z := e
       by_cases hz : a.length + b.length ≤ 16777216
       · rw [if_pos hz] at e'; cases e'; exact ⟨_, _, rfl, rfl, by rw [sz]; exact hz, k _ H S .refl (.str _)⟩
       · rw [if_neg hz] at e'; cases e')
    | cases e⟩
/-- a new frozen list -/
theorem newL {H : Hp} {S : Addr → Prop} {ds : List D} {vs : List V} {p : Addr} {Q : VK} (hp : H p = none) (r : Reps G H S ds vs) (k : ∀ w H1 S1, Gr H S H1 S1 → Rep G H1 S1 (.lst ds) w → Q w H1) : Q (.ref p) (upd H p (.lst vs)) :=
  have g : Gr H S (upd H p (.lst vs)) (fun b => S b ∨ b = p) := .newS hp
  k _ _ _ g (.lst (.inr rfl) upd_same (r.kp g.kp))
theorem newT {H : Hp} {S : Addr → Prop} {ds : List D} {vs : List V} {p : Addr} {Q : VK} (hp : H p = none) (r : Reps G H S ds vs) (k : ∀ w H1 S1, Gr H S H1 S1 → Rep G H1 S1 (.tup ds) w → Q w H1) : Q (.ref p) (upd H p (.tup vs)) :=
  have g : Gr H S (upd H p (.tup vs)) S := .new hp
  k _ _ _ g (.tup upd_same (r.kp g.kp))
theorem s_addL : Op2 G X (binaryOp .Add) addL := ⟨_, op_cat, fun H S x y z v u Q rx ry e k => by
  cases rx <;> cases ry <;> first
    | (rename_i a vs ds s1 h1 r1 b ws es s2 h2 r2
       have e' : (if ds.length + es.length ≤ 16777216 then some (D.lst (ds ++ es)) else none) = some z := e
       by_cases hz : ds.length + es.length ≤ 16777216
       · rw [if_pos hz] at e'; cases e'
         exact ⟨a, b, vs, ws, rfl, rfl, h1, h2, by rw [← r1.length, ← r2.length, sz]; exact hz, fun p hp => newL hp (r1.append r2) k⟩
       · rw [if_neg hz] at e'; cases e')
    | cases e⟩
theorem s_add : Op2 G X (binaryOp .Add) oAdd := s_addI.or (s_addS.or s_addL)
theorem s_sub : Op2 G X (binaryOp .Sub) oSub := ⟨_, op_sub, fun H S x y z v u Q rx ry e k => by
  cases rx <;> cases ry <;> first | (cases e; exact ⟨_, _, rfl, rfl, k _ H S .refl (.int _)⟩) | cases e⟩
theorem s_mulI : Op2 G X (binaryOp .Mult) mulI := ⟨_, op_mul, fun H S x y z v u Q rx ry e k => by
  cases rx <;> cases ry <;> first
    | (rename_i i j
       have e' : (if (-18446744073709551616 < i ∧ i < 18446744073709551616) ∨ (-18446744073709551616 < j ∧ j < 18446744073709551616) then some (D.int (i * j)) else none) = some z := e
       by_cases hz : (-18446744073709551616 < i ∧ i < 18446744073709551616) ∨ (-18446744073709551616 < j ∧ j < 18446744073709551616)
       · rw [if_pos hz] at e'; cases e'; exact ⟨_, _, rfl, rfl, hz.imp (fun q => ⟨by omega, by omega⟩) (fun q => ⟨by omega, by omega⟩), k _ H S .refl (.int _)⟩
       · rw [if_neg hz] at e'; cases e')
    | cases e⟩
theorem reps_rep {H : Hp} {S : Addr → Prop} {ds : List D} {vs : List V} (r : Reps G H S ds vs) : ∀ n : Nat, Reps G H S (List.replicate n ds).flatten (List.replicate n vs).flatten
  | 0 => .nil
  | n + 1 => by
    rw [List.replicate_succ, List.replicate_succ, List.flatten_cons, List.flatten_cons]
    exact r.append (reps_rep r n)
theorem s_mulL : Op2 G X (binaryOp .Mult) mulL := ⟨_, op_rep, fun H S x y z v u Q rx ry e k => by
  cases rx <;> cases ry <;> first
    | (rename_i a vs ds s1 h1 r1 n
       have e' : (if -9223372036854775808 ≤ n ∧ n < 9223372036854775808 ∧ ds.length * n.toNat ≤ 16777216 then some (D.lst (List.replicate n.toNat ds).flatten) else none) = some z := e
       by_cases hz : -9223372036854775808 ≤ n ∧ n < 9223372036854775808 ∧ ds.length * n.toNat ≤ 16777216
       · rw [if_pos hz] at e'; cases e'
         exact ⟨a, n, vs, rfl, rfl, h1, by omega, by omega, by rw [← r1.length, sz]; exact hz.2.2, fun p hp => newL hp (reps_rep r1 _) k⟩
       · rw [if_neg hz] at e'; cases e')
    | cases e⟩
theorem s_mul : Op2 G X (binaryOp .Mult) oMul := s_mulI.or s_mulL
theorem s_div : Op2 G X (binaryOp .FloorDiv) oDiv := ⟨_, op_fdiv, fun H S x y z v u Q rx ry e k => by
  cases rx <;> cases ry <;> first
    | (rename_i i j
       have e' : (if 0 < j ∧ j < 1073741824 then some (D.int (i / j)) else none) = some z := e
       by_cases hz : 0 < j ∧ j < 1073741824
       · rw [if_pos hz] at e'; cases e'; exact ⟨_, _, rfl, rfl, hz, k _ H S .refl (.int _)⟩
       · rw [if_neg hz] at e'; cases e')
    | cases e⟩
theorem s_mod : Op2 G X (binaryOp .Mod) oMod := ⟨_, op_mod, fun H S x y z v u Q rx ry e k => by
  cases rx <;> cases ry <;> first
    | (rename_i i j
       have e' : (if 0 < j then some (D.int (i % j)) else none) = some z := e
       by_cases hz : 0 < j
       · rw [if_pos hz] at e'; cases e'; exact ⟨_, _, rfl, rfl, hz, k _ H S .refl (.int _)⟩
       · rw [if_neg hz] at e'; cases e')
    | cases e⟩
theorem s_pow : Op2 G X (binaryOp .Pow) oPow := ⟨_, op_pow, fun H S x y z v u Q rx ry e k => by
  cases rx <;> cases ry <;> first
    | (rename_i i j
       have e' : (if 0 ≤ j ∧ j ≤ 1000000 ∧ i.natAbs < 18446744073709551616 then some (D.int (i ^ j.toNat)) else none) = some z := e
       by_cases hz : 0 ≤ j ∧ j ≤ 1000000 ∧ i.natAbs < 18446744073709551616
       · rw [if_pos hz] at e'; cases e'; exact ⟨_, _, rfl, rfl, ⟨hz.1, hz.2.1, by omega⟩, k _ H S .refl (.int _)⟩
       · rw [if_neg hz] at e'; cases e')
    | cases e⟩
theorem s_lt : Op2 G X (compareOp .Lt) oLt := ⟨_, op_lt, fun H S x y z v u Q rx ry e k => by
  cases rx <;> cases ry <;> first | (cases e; exact ⟨_, _, rfl, rfl, k _ H S .refl (.bl _)⟩) | cases e⟩
theorem s_le : Op2 G X (compareOp .LtE) oLe := ⟨_, op_le, fun H S x y z v u Q rx ry e k => by
  cases rx <;> cases ry <;> first | (cases e; exact ⟨_, _, rfl, rfl, k _ H S .refl (.bl _)⟩) | cases e⟩
theorem s_gt : Op2 G X (compareOp .Gt) oGt := ⟨_, op_gt, fun H S x y z v u Q rx ry e k => by
  cases rx <;> cases ry <;> first | (cases e; exact ⟨_, _, rfl, rfl, k _ H S .refl (.bl _)⟩) | cases e⟩
theorem s_ge : Op2 G X (compareOp .GtE) oGe := ⟨_, op_ge, fun H S x y z v u Q rx ry e k => by
  cases rx <;> cases ry <;> first | (cases e; exact ⟨_, _, rfl, rfl, k _ H S .refl (.bl _)⟩) | cases e⟩
theorem s_eqS : Op2 G X (compareOp .Eq) eqS := ⟨_, op_eq, fun H S x y z v u Q rx ry e k => by
  cases rx <;> cases ry <;> first | (cases e; exact ⟨rfl, by simpa using k _ H S .refl (.bl _)⟩) | cases e⟩
theorem s_neS : Op2 G X (compareOp .NotEq) neS := ⟨_, op_ne, fun H S x y z v u Q rx ry e k => by
  cases rx <;> cases ry <;> first | (cases e; exact ⟨rfl, by simpa using k _ H S .refl (.bl _)⟩) | cases e⟩
theorem s_isN : Op2 G X (compareOp .Is) oIsN := ⟨_, op_isN, fun H S x y z v u Q rx ry e k => by
  cases rx <;> cases ry <;> first | (cases e; exact ⟨rfl, by simpa using k _ H S .refl (.bl _)⟩) | cases e⟩
theorem s_notN : Op2 G X (compareOp .IsNot) oNotN := ⟨_, op_notN, fun H S x y z v u Q rx ry e k => by
  cases rx <;> cases ry <;> first | (cases e; exact ⟨rfl, by simpa using k _ H S .refl (.bl _)⟩) | cases e⟩
end
end VM
end
section
set_option linter.all false
set_option maxRecDepth 100000
/-! VOps2: in, calls of built-ins, subscripts, slices, methods of texts, f-strings, texts many times. -/
namespace VM
open PySem PySem.Spec L2
open PyProof.Rows (envOfC)
theorem bt_len : bootBuiltins "len" = some (.builtin "len") := by first | boot_by_name | rfl | kernel_rfl
theorem bt_abs : bootBuiltins "abs" = some (.builtin "abs") := by first | boot_by_name | rfl | kernel_rfl
theorem bt_all : bootBuiltins "all" = some (.builtin "all") := by first | boot_by_name | rfl | kernel_rfl
theorem bt_any : bootBuiltins "any" = some (.builtin "any") := by first | boot_by_name | rfl | kernel_rfl
theorem bt_isinstance : bootBuiltins "isinstance" = some (.builtin "isinstance") := by first | boot_by_name | rfl | kernel_rfl
theorem bt_int : bootBuiltins "int" = some (.type "int") := by first | boot_by_name | rfl | kernel_rfl
theorem bt_str : bootBuiltins "str" = some (.type "str") := by first | boot_by_name | rfl | kernel_rfl
theorem bt_bool : bootBuiltins "bool" = some (.type "bool") := by first | boot_by_name | rfl | kernel_rfl
theorem bt_tuple : bootBuiltins "tuple" = some (.type "tuple") := by first | boot_by_name | rfl | kernel_rfl
theorem bt_list : bootBuiltins "list" = some (.type "list") := by first | boot_by_name | rfl | kernel_rfl
section
variable {G : GC} {X : Cx}
theorem s_inS : Op2 G X (compareOp .In) inS := ⟨_, op_in_sign, fun H S x y z v u Q rx ry e k => by
  cases rx with
  | str a =>
    cases ry with
    | str b =>
      dsimp only [inS] at e
      split at e
      · rename_i c hc
        cases e
        have ha : a = ⟨#[c]⟩ := Str.ext' (Array.toList_inj.mp hc)
        exact ⟨c, b, by rw [ha], rfl, k _ H S .refl (.bl _)⟩
      · cases e
    | _ => cases e
  | _ => cases e⟩
theorem flat_ok {H : Hp} {S : Addr → Prop} {d : D} {v : V} (r : Rep G H S d v) (h : flatD d = true) : flatV v = true := by
  cases r <;> first | rfl | cases h
theorem flat_all {H : Hp} {S : Addr → Prop} : ∀ {ds : List D} {vs : List V}, Reps G H S ds vs → ds.all flatD = true → vs.all flatV = true
  | _, _, .nil, _ => rfl
  | _, _, .cons a b, h => by
    rw [List.all_cons, Bool.and_eq_true] at h ⊢
    exact ⟨flat_ok a h.1, flat_all b h.2⟩
theorem eqF_ok {H : Hp} {S : Addr → Prop} {d e : D} {v u : V} (r : Rep G H S d v) (r2 : Rep G H S e u) (h : flatD d = true) (h2 : flatD e = true) : eqV v u = eqF d e := by
  cases r <;> first | (cases r2 <;> first | rfl | cases h2) | cases h
theorem any_ok {H : Hp} {S : Addr → Prop} {e : D} {u : V} (r2 : Rep G H S e u) (h2 : flatD e = true) : ∀ {ds : List D} {vs : List V}, Reps G H S ds vs → ds.all flatD = true → (vs.any fun y => eqV y u) = ds.any fun y => eqF y e
  | _, _, .nil, _ => rfl
  | _, _, .cons a b, h => by
    rw [List.all_cons, Bool.and_eq_true] at h
    rw [List.any_cons, List.any_cons, eqF_ok a r2 h.1 h2, any_ok r2 h2 b h.2]
theorem s_inL : Op2 G X (compareOp .In) inL := ⟨_, op_in_seq, fun H S x y z v u Q rx ry e k => by
  cases ry with
  | @lst a vs ds s h r =>
    have e' : (if flatD x = true ∧ ds.all flatD = true then some (D.bl (ds.any fun y => eqF y x)) else none) = some z := by cases x <;> exact e
    by_cases hz : flatD x = true ∧ ds.all flatD = true
    · rw [if_pos hz] at e'; cases e'
      refine ⟨a, vs, rfl, .inl (.of h), flat_ok rx hz.1, flat_all r hz.2, ?_⟩
      rw [if_neg Bool.false_ne_true]
      unfold inV
      rw [any_ok rx hz.1 r hz.2]
      exact k _ H S .refl (.bl _)
    · rw [if_neg hz] at e'; cases e'
  | @tup a vs ds h r =>
    have e' : (if flatD x = true ∧ ds.all flatD = true then some (D.bl (ds.any fun y => eqF y x)) else none) = some z := by cases x <;> exact e
    by_cases hz : flatD x = true ∧ ds.all flatD = true
    · rw [if_pos hz] at e'; cases e'
      refine ⟨a, vs, rfl, .inr (.of h), flat_ok rx hz.1, flat_all r hz.2, ?_⟩
      rw [if_neg Bool.false_ne_true]
      unfold inV
      rw [any_ok rx hz.1 r hz.2]
      exact k _ H S .refl (.bl _)
    · rw [if_neg hz] at e'; cases e'
  | _ => exact absurd (show (none : Option D) = some z by cases x <;> exact e) (by simp)⟩
theorem s_in : Op2 G X (compareOp .In) oIn := s_inS.or s_inL

/-! ### calls -/
theorem s_len (hK : X.K = G.K) : Cl G X (.builtin "len") cLen := ⟨_, call_len, fun H S xs z vs Q r e k => by
  cases r with
  | nil => cases e
  | cons rx rr =>
    cases rr with
    | cons _ _ => cases rx <;> cases e
    | nil =>
      cases rx with
      | str x =>
        have e' : (if x.length ≤ 16777216 then some (D.int x.length) else none) = some z := e
        by_cases hz : x.length ≤ 16777216
        · rw [if_pos hz] at e'; cases e'; exact ⟨_, _, rfl, ⟨by rw [sz]; exact hz, rfl⟩, k _ H S .refl (.int _)⟩
        · rw [if_neg hz] at e'; cases e'
      | lst s h r => cases e; exact ⟨_, _, rfl, .inl ⟨_, .of h, rfl⟩, by rw [← r.length]; exact k _ H S .refl (.int _)⟩
      | tup h r => cases e; exact ⟨_, _, rfl, .inr ⟨_, .of h, rfl⟩, by rw [← r.length]; exact k _ H S .refl (.int _)⟩
      | scr s r => cases e; exact ⟨_, _, rfl, .inl ⟨_, by rw [hK]; exact s.sql, rfl⟩, by rw [← r.length]; exact k _ H S .refl (.int _)⟩
      | _ => cases e⟩
theorem s_abs : Cl G X (.builtin "abs") cAbs := ⟨_, call_abs, fun H S xs z vs Q r e k => by
  cases r with
  | nil => cases e
  | cons rx rr =>
    cases rr with
    | cons _ _ => cases rx <;> cases e
    | nil => cases rx <;> first | (cases e; exact ⟨_, rfl, k _ H S .refl (.int _)⟩) | cases e⟩
theorem s_int : Cl G X (.type "int") cInt := ⟨_, CallR.or call_int1 call_int_str, fun H S xs z vs Q r e k => by
  cases r with
  | nil => cases e
  | cons rx rr =>
    cases rr with
    | cons _ _ => cases rx <;> cases e
    | nil =>
      cases rx with
      | int i => cases e; exact .inl (.inl ⟨_, rfl, k _ H S .refl (.int _)⟩)
      | bl b => cases e; exact .inl (.inr ⟨_, rfl, k _ H S .refl (.int _)⟩)
      | str x =>
        have e' : (if x.length ≤ 640 then (PySem.intText? x).map D.int else none) = some z := e
        by_cases hz : x.length ≤ 640
        · rw [if_pos hz] at e'
          cases hi : PySem.intText? x with
          | none => rw [hi] at e'; cases e'
          | some n => rw [hi] at e'; cases e'; exact .inr ⟨x, n, rfl, hi, hz, k _ H S .refl (.int _)⟩
        · rw [if_neg hz] at e'; cases e'
      | _ => cases e⟩
theorem s_str : Cl G X (.type "str") cStr := ⟨_, call_str_int, fun H S xs z vs Q r e k => by
  cases r with
  | nil => cases e
  | cons rx rr =>
    cases rr with
    | cons _ _ => cases rx <;> cases e
    | nil =>
      cases rx with
      | int i =>
        have e' : (if i.natAbs.log2 < 1920 then some (D.str (toString i)) else none) = some z := e
        by_cases hz : i.natAbs.log2 < 1920
        · rw [if_pos hz] at e'; cases e'; exact ⟨i, rfl, hz, k _ H S .refl (.str _)⟩
        · rw [if_neg hz] at e'; cases e'
      | _ => cases e⟩
theorem bls_ok {H : Hp} {S : Addr → Prop} : ∀ {ds : List D} {vs : List V} {bs : List Bool}, Reps G H S ds vs → blsD ds = some bs → vs = bs.map V.bl
  | _, _, _, .nil, e => by cases e; rfl
  | _, _, _, .cons (d := d) (ds := ds) a b, e => by
    cases a with
    | bl x =>
      have e' : (blsD ds).map (x :: ·) = some _ := e
      cases h : blsD ds with
      | none => rw [h] at e'; cases e'
      | some l =>
        rw [h] at e'
        cases e'
        rw [bls_ok b h]; rfl
    | _ => cases e
theorem strs_ok {H : Hp} {S : Addr → Prop} : ∀ {ds : List D} {vs : List V} {bs : List Str}, Reps G H S ds vs → strsD ds = some bs → vs = bs.map V.str
  | _, _, _, .nil, e => by cases e; rfl
  | _, _, _, .cons (d := d) (ds := ds) a b, e => by
    cases a with
    | str x =>
      have e' : (strsD ds).map (x :: ·) = some _ := e
      cases h : strsD ds with
      | none => rw [h] at e'; cases e'
      | some l =>
        rw [h] at e'
        cases e'
        rw [strs_ok b h]; rfl
    | _ => cases e
theorem s_all (hc : X.calm = true) : Cl G X (.builtin "all") cAll := ⟨_, cr_all hc, fun H S xs z vs Q r e k => by
  cases r with
  | nil => cases e
  | cons rx rr =>
    cases rr with
    | cons _ _ => cases rx <;> cases e
    | nil =>
      cases rx with
      | @lst a vs ds s h r =>
        have e' : (blsD ds).map (fun bs => D.bl (bs.all id)) = some z := e
        cases hb : blsD ds with
        | none => rw [hb] at e'; cases e'
        | some bs =>
          rw [hb] at e'; cases e'
          exact ⟨a, bs, rfl, by rw [← bls_ok r hb]; exact .of h, k _ H S .refl (.bl _)⟩
      | _ => cases e⟩
theorem s_any (hc : X.calm = true) : Cl G X (.builtin "any") cAny := ⟨_, cr_any hc, fun H S xs z vs Q r e k => by
  cases r with
  | nil => cases e
  | cons rx rr =>
    cases rr with
    | cons _ _ => cases rx <;> cases e
    | nil =>
      cases rx with
      | @lst a vs ds s h r =>
        have e' : (blsD ds).map (fun bs => D.bl (bs.any id)) = some z := e
        cases hb : blsD ds with
        | none => rw [hb] at e'; cases e'
        | some bs =>
          rw [hb] at e'; cases e'
          exact ⟨a, bs, rfl, by rw [← bls_ok r hb]; exact .of h, k _ H S .refl (.bl _)⟩
      | _ => cases e⟩
theorem s_tuple (hK : X.K = G.K) : Cl G X (.type "tuple") cTup := ⟨_, call_tuple_of, fun H S xs z vs Q r e k => by
  cases r with
  | nil => cases e
  | cons rx rr =>
    cases rr with
    | cons _ _ => cases rx <;> cases e
    | nil =>
      cases rx with
      | @lst a vs ds s h r => cases e; exact ⟨a, vs, rfl, .inl ⟨.of h, fun p hp => newT hp r k⟩⟩
      | @scr a vs ds s r => cases e; exact ⟨a, vs, rfl, .inl ⟨by rw [hK]; exact s.sql, fun p hp => newT hp r k⟩⟩
      | @tup a vs ds h r => cases e; exact ⟨a, vs, rfl, .inr ⟨.of h, k _ H S .refl (.tup h r)⟩⟩
      | _ => cases e⟩
theorem s_list (hK : X.K = G.K) : Cl G X (.type "list") cList := ⟨_, call_list_of, fun H S xs z vs Q r e k => by
  cases r with
  | nil => cases e
  | cons rx rr =>
    cases rr with
    | cons _ _ => cases rx <;> cases e
    | nil =>
      cases rx with
      | @lst a vs ds s h r => cases e; exact ⟨a, vs, rfl, .inl (.of h), fun p hp => newL hp r k⟩
      | @scr a vs ds s r => cases e; exact ⟨a, vs, rfl, .inl (by rw [hK]; exact s.sql), fun p hp => newL hp r k⟩
      | @tup a vs ds h r => cases e; exact ⟨a, vs, rfl, .inr (.of h), fun p hp => newL hp r k⟩
      | _ => cases e⟩
/-! ### isinstance -/
theorem kit_all : (["NoneType", "bool", "int", "str", "list", "tuple"].all fun a => ["bool", "int", "str", "list", "tuple"].all fun b => decide (kitB a b = some (decide (a = b) || (decide (a = "bool") && decide (b = "int"))))) = true := by decide +kernel
theorem subT_ok {a b : String} {r : Bool} {K : PySem.W.Frag} (h : subT a b = some r) : PySem.W.kitOne K (.type a) (.type b) = some r := by
  refine kit_ty ?_
  unfold subT at h
  by_cases h1 : a = b
  · rw [if_pos h1] at h
    cases h
    unfold kitB
    rw [h1, if_pos (by simp)]
  · rw [if_neg h1] at h
    by_cases h2 : a = "bool" ∧ b = "int"
    · rw [if_pos h2] at h
      cases h
      obtain ⟨rfl, rfl⟩ := h2
      decide +kernel
    · rw [if_neg h2] at h
      by_cases h3 : (["NoneType", "bool", "int", "str", "list", "tuple"].contains a && ["bool", "int", "str", "list", "tuple"].contains b) = true
      · rw [if_pos h3] at h
        cases h
        rw [Bool.and_eq_true] at h3
        have z := List.all_eq_true.mp (List.all_eq_true.mp kit_all a (by simpa using h3.1)) b (by simpa using h3.2)
        rw [of_decide_eq_true z, decide_eq_false h1]
        by_cases h4 : a = "bool"
        · by_cases h5 : b = "int"
          · exact absurd ⟨h4, h5⟩ h2
          · rw [decide_eq_false h5]; simp
        · rw [decide_eq_false h4]; simp
      · rw [if_neg h3] at h
        cases h
theorem tyN_ok {H : Hp} {S : Addr → Prop} {d : D} {v : V} {a : String} (r : Rep G H S d v) (h : tyN d = some a) : TyX G.K H v (.type a) := by
  cases r with
  | non => cases h; exact .base .non
  | bl b => cases h; exact .base (.bl b)
  | int i => cases h; exact .base (.int i)
  | str x => cases h; exact .base (.str x)
  | lst s e r => cases h; exact .base (.lst e)
  | tup e r => cases h; exact .base (.tup e)
  | scr s r =>
    cases h
    rcases s with ⟨_, e | ⟨o, e⟩⟩ | ⟨o, its, n, e, c, _⟩
    · exact .base (.lst e)
    · exact .base (.frz e)
    · exact .kList e c
  | _ => cases h
theorem subTs_ok {H : Hp} {S : Addr → Prop} {K : PySem.W.Frag} {a : String} : ∀ {l : List D} {cs : List V} {r : Bool}, Reps G H S l cs → subTs a l = some r → ∃ us, Paired ClsV cs us ∧ PySem.W.kitAny K (.type a) us = some r
  | _, _, _, .nil, h => by cases h; exact ⟨[], .nil, kitAny_nil⟩
  | _, _, _, .cons (ds := ds) x t, h => by
    cases x with
    | ty n =>
      have h' : ((subT a n).bind fun r => (subTs a ds).map (r || ·)) = some _ := h
      cases e : subT a n with
      | none => rw [e] at h'; cases h'
      | some b =>
        rw [e, Option.bind_some] at h'
        cases e2 : subTs a ds with
        | none => rw [e2] at h'; cases h'
        | some r0 =>
          rw [e2] at h'
          cases h'
          obtain ⟨us, h1, h2⟩ := subTs_ok (K := K) t e2
          refine ⟨_ :: us, .cons (.ty n) h1, kitAny_cons (subT_ok e) (fun q => ?_) (fun q => ?_)⟩
          · simpa [q] using h2
          · simp [q]
    | _ => cases h
theorem s_isi (hK : X.K = G.K) : Cl G X (.builtin "isinstance") cIsi := ⟨_, CallR.or call_isi call_isiT, fun H S xs z vs Q r e k => by
  cases r with
  | nil => cases e
  | cons rx rr =>
    rename_i x v ds vs
    cases rr with
    | nil => cases e
    | cons ry rr =>
      cases rr with
      | cons _ _ => cases ry <;> cases e
      | nil =>
        cases ry with
        | ty b =>
          have e' : ((tyN x).bind fun a => (subT a b).map D.bl) = some z := e
          cases h1 : tyN x with
          | none => rw [h1] at e'; cases e'
          | some a =>
            rw [h1, Option.bind_some] at e'
            cases h2 : subT a b with
            | none => rw [h2] at e'; cases e'
            | some r =>
              rw [h2] at e'
              cases e'
              exact .inl ⟨v, .ty b, _, _, r, rfl, .ty b, by rw [hK]; exact tyN_ok rx h1, subT_ok h2, k _ H S .refl (.bl _)⟩
        | @tup t cs l ht rt =>
          have e' : ((tyN x).bind fun a => (subTs a l).map D.bl) = some z := e
          cases h1 : tyN x with
          | none => rw [h1] at e'; cases e'
          | some a =>
            rw [h1, Option.bind_some] at e'
            cases h2 : subTs a l with
            | none => rw [h2] at e'; cases e'
            | some r =>
              rw [h2] at e'
              cases e'
              obtain ⟨us, q1, q2⟩ := subTs_ok (K := X.K) rt h2
              exact .inr ⟨v, t, cs, _, us, r, rfl, ht, q1, by rw [hK]; exact tyN_ok rx h1, q2, k _ H S .refl (.bl _)⟩
        | _ => cases e⟩
/-! ### subscripts, slices -/
theorem s_ix (hK : X.K = G.K) : Ix2 G X oIx := ⟨_, ix_seq, fun H S x y z v u Q rx ry e k => by
  cases ry with
  | int i =>
    cases rx with
    | @lst a vs ds s h r =>
      obtain ⟨w, g1, g2⟩ := reps_atI r (show atI ds i = some z from e)
      exact .inl ⟨a, vs, i, w, rfl, rfl, .of h, g1, k _ H S .refl g2⟩
    | @scr a vs ds s r =>
      obtain ⟨w, g1, g2⟩ := reps_atI r (show atI ds i = some z from e)
      exact .inl ⟨a, vs, i, w, rfl, rfl, by rw [hK]; exact s.sql, g1, k _ H S .refl g2⟩
    | @tup a vs ds h r =>
      obtain ⟨w, g1, g2⟩ := reps_atI r (show atI ds i = some z from e)
      exact .inr (.inl ⟨a, vs, i, w, rfl, rfl, .of h, g1, k _ H S .refl g2⟩)
    | str x =>
      have e' : (if x.length ≤ 16777216 then (atI x.cps.toList i).map (fun c => D.str ⟨#[c]⟩) else none) = some z := e
      by_cases hz : x.length ≤ 16777216
      · rw [if_pos hz] at e'
        cases h : atI x.cps.toList i with
        | none => rw [h] at e'; cases e'
        | some c => rw [h] at e'; cases e'; exact .inr (.inr ⟨x, i, c, rfl, rfl, by rw [sz]; exact hz, h, k _ H S .refl (.str _)⟩)
      · rw [if_neg hz] at e'; cases e'
    | _ => cases e
  | _ => cases rx <;> cases e⟩
theorem cut_ok {H : Hp} {S : Addr → Prop} {ds : List D} {vs : List V} (r : Reps G H S ds vs) (lo hi : Option Int) : Reps G H S (cutG ds lo hi) (cutV vs lo hi) := by
  unfold cutG cutV
  rw [r.length]
  exact (r.drop _).take _
theorem s_sl (hK : X.K = G.K) : Sl3 G X oSl := ⟨_, SlR.or sl_list sl_str, fun H S x z lo hi v Q rx e k => by
  cases rx with
  | @lst a vs ds s h r => cases e; exact .inl ⟨a, vs, rfl, .of h, fun p hp => newL hp (cut_ok r lo hi) k⟩
  | str x =>
    have e' : (if x.length ≤ 16777216 then some (D.str (cutS x lo hi)) else none) = some z := e
    by_cases hz : x.length ≤ 16777216
    · rw [if_pos hz] at e'; cases e'; exact .inr ⟨x, rfl, by rw [sz]; exact hz, k _ H S .refl (.str _)⟩
    · rw [if_neg hz] at e'; cases e'
  | _ => cases e⟩
/-! ### methods of texts -/
theorem strs_rep {H : Hp} {S : Addr → Prop} : ∀ ys : List Str, Reps G H S (ys.map D.str) (ys.map V.str)
  | [] => .nil
  | y :: ys => .cons (.str y) (strs_rep ys)
theorem s_split : Mt2 G X "str.split" mSplit := ⟨_, mt_split, fun H S x y z u Q ry e k => by
  cases ry with
  | str b =>
    have e' : (if (b.length == 0) = false ∧ x.length + 2 ≤ 16777216 then some (D.lst ((Txt.split x b).map D.str)) else none) = some z := e
    by_cases hz : (b.length == 0) = false ∧ x.length + 2 ≤ 16777216
    · rw [if_pos hz] at e'; cases e'
      exact ⟨x, b, rfl, rfl, hz.1, by rw [sz]; exact hz.2, fun p hp => newL hp (strs_rep _) k⟩
    · rw [if_neg hz] at e'; cases e'
  | _ => cases e⟩
theorem s_join : Mt2 G X "str.join" mJoin := ⟨_, mt_join, fun H S x y z u Q ry e k => by
  cases ry with
  | @lst a vs ds s h r =>
    have e' : ((strsD ds).bind fun ys => if (ys.map (·.length)).sum + ys.length * x.length ≤ 16777216 then some (D.str (Txt.join x ys)) else none) = some z := e
    cases hy : strsD ds with
    | none => rw [hy] at e'; cases e'
    | some ys =>
      rw [hy, Option.bind_some] at e'
      by_cases hz : (ys.map (·.length)).sum + ys.length * x.length ≤ 16777216
      · rw [if_pos hz] at e'; cases e'
        exact ⟨x, a, ys, rfl, rfl, .inl (by rw [← strs_ok r hy]; exact .of h), hz, k _ H S .refl (.str _)⟩
      · rw [if_neg hz] at e'; cases e'
  | @tup a vs ds h r =>
    have e' : ((strsD ds).bind fun ys => if (ys.map (·.length)).sum + ys.length * x.length ≤ 16777216 then some (D.str (Txt.join x ys)) else none) = some z := e
    cases hy : strsD ds with
    | none => rw [hy] at e'; cases e'
    | some ys =>
      rw [hy, Option.bind_some] at e'
      by_cases hz : (ys.map (·.length)).sum + ys.length * x.length ≤ 16777216
      · rw [if_pos hz] at e'; cases e'
        exact ⟨x, a, ys, rfl, rfl, .inr (by rw [← strs_ok r hy]; exact .of h), hz, k _ H S .refl (.str _)⟩
      · rw [if_neg hz] at e'; cases e'
  | _ => cases e⟩
theorem s_upper : Mt1 G X "str.upper" mUpper := ⟨_, mt_upper, fun H S x z Q e k => by
  have e' : (if x.length ≤ 5592405 then some (D.str (Txt.upper x)) else none) = some z := e
  by_cases hz : x.length ≤ 5592405
  · rw [if_pos hz] at e'; cases e'; exact ⟨x, rfl, rfl, hz, k _ H S .refl (.str _)⟩
  · rw [if_neg hz] at e'; cases e'⟩
/-! ### f-strings: a text and a value -/
variable {W : WX} {a b e : Expr} {ma mb m : EM} {pos p2 : Pos}
theorem je_fmt (he : PE X e (rE G W m)) : PE X (.FormattedValue e (-1) none pos) (rE G W (e1 fmtD m)) := (pe_fmt he).imp fun σ H Q h => by
  refine (RD.bind (R0 := vD G) h).mono fun x H1 ⟨d, σ1, S1, rel, rep, p⟩ => ?_
  obtain ⟨z, hz, p3⟩ := p.opt
  have rep' : Rep G H1 S1 d x := rep
  cases rep' with
  | str y =>
    have e' : (if y.length ≤ 16777216 then some (D.str y) else none) = some z := hz
    by_cases hy : y.length ≤ 16777216
    · rw [if_pos hy] at e'; cases e'; exact .inl ⟨y, rfl, by rw [sz]; exact hy, Post.fin rel p3 .refl (Rep.str y)⟩
    · rw [if_neg hy] at e'; cases e'
  | int i =>
    have e' : (if i.natAbs.log2 < 1920 then some (D.str (toString i)) else none) = some z := hz
    by_cases hy : i.natAbs.log2 < 1920
    · rw [if_pos hy] at e'; cases e'; exact .inr ⟨i, rfl, hy, Post.fin rel p3 .refl (Rep.str _)⟩
    · rw [if_neg hy] at e'; cases e'
  | _ => cases hz
theorem emp_app (y : Str) : Str.empty ++ y = y := by
  obtain ⟨c⟩ := y
  show (⟨#[] ++ c⟩ : Str) = ⟨c⟩
  rw [Array.empty_append]
/-- f'..' of two parts -/
theorem je_joined2 (ha : PE X a (rE G W ma)) (hb : PE X b (rE G W mb)) : PE X (.JoinedStr [a, b] pos) (rE G W (eJ2 ma mb)) := (pe_joined (.cons ha (.cons hb .nil))).imp fun σ H Q h => by
  refine (RD.bind (R0 := vD G) h).mono fun x H1 ⟨d, σ1, S1, rel, rep, p⟩ => ?_
  have rep' : Rep G H1 S1 d x := rep
  cases rep' with
  | str y =>
    have p' : Post G W σ H1 S1 (Own σ σ1) (vD G) (if y.length ≤ 16777216 then (mb σ1).bind fun z σ2 => .opt (addS (.str y) z) σ2 else .stuck) Q := p
    by_cases hy : y.length ≤ 16777216
    · rw [if_pos hy] at p'
      refine ⟨y, rfl, by rw [emp_app, sz]; exact hy, σ1, S1, rel, (Post.bind (R0 := vD G) p').mono fun z H2 ⟨d2, σ2, S2, rel2, ext2, rep2, p2⟩ => ?_⟩
      obtain ⟨q, hq, p3⟩ := p2.opt
      have rep2' : Rep G H2 S2 d2 z := rep2
      cases rep2' with
      | str w =>
        have e' : (if y.length + w.length ≤ 16777216 then some (D.str (y ++ w)) else none) = some q := hq
        by_cases hw : y.length + w.length ≤ 16777216
        · rw [if_pos hw] at e'; cases e'
          have hlen : (y ++ w).length = y.length + w.length := Str.length_append y w
          refine ⟨w, rfl, by rw [emp_app, hlen, sz]; exact hw, ?_⟩
          show Q (.str (Str.empty ++ y ++ w)) H2
          rw [emp_app]
          exact Post.fin rel2 p3 .refl (Rep.str _)
        · rw [if_neg hw] at e'; cases e'
      | _ => cases hq
    · rw [if_neg hy] at p'; exact p'.elim
  | _ => exact p.elim
/-- a text many times -/
theorem s_mulS : Op2 G X (binaryOp .Mult) mulS := by
  refine ⟨fun x y H Q => ∃ a n, x = .str a ∧ y = .int n ∧ 0 ≤ n ∧ n ≤ 1000 ∧ a.length ≤ 1000 ∧ Q (.str (Txt.mul a n)) H, ?_, fun H S x y z v u Q rx ry e k => ?_⟩
  · intro pins s σ H x y v u Q I rx ry ⟨a, n, ex, ey, h1, h2, h3, q⟩
    subst ex ey
    obtain ⟨t, rfl⟩ := rx
    obtain ⟨t', rfl⟩ := ry
    refine PySem.SB.mul ⟨?_, fun _ _ => ?_, fun _ _ => ?_⟩ fun t' k => ⟨.str (Txt.mul a n), H, I.tok k, ⟨t', rfl⟩, q⟩
    · rw [decide_eq_false (by omega), decide_eq_false (by omega)]; rfl
    · rename_i g1 _
      have k1 : (1000 : Int) * n ≤ 2 ^ 63 - 1 := by omega
      have k2 : (1000 : Int) ≤ (2 ^ 63 - 1) / n := (Int.le_ediv_iff_mul_le (by omega)).mpr k1
      omega
    · refine PyProof.Rows.short24 (Nat.le_trans (Nat.mul_le_mul h3 (show n.toNat ≤ 1000 by omega)) (by decide))
  · cases rx with
    | str a =>
      cases ry with
      | int n =>
        have e' : (if 0 ≤ n ∧ n ≤ 1000 ∧ a.length ≤ 1000 then some (D.str (Txt.mul a n)) else none) = some z := e
        by_cases hz : 0 ≤ n ∧ n ≤ 1000 ∧ a.length ≤ 1000
        · rw [if_pos hz] at e'; cases e'; exact ⟨a, n, rfl, rfl, hz.1, hz.2.1, hz.2.2, k _ H S .refl (.str _)⟩
        · rw [if_neg hz] at e'; cases e'
      | _ => cases e
    | _ => cases e
end
end VM
end
section
set_option linter.all false
set_option maxRecDepth 100000
set_option maxHeartbeats 2000000
/-! VEq: x == y, x != y of instances with a def __eq__; == of nested data; x[j] = e; own fields. -/
namespace PySem.W
open PySem PySem.Spec PySem.Calls PyProof.Rows
section
variable {prog : Program} {w : World} {A : Around} {E : Value → Shared → Prop} {s : Shared} {K : Frag} {x C f : Addr} {ox : Obj} {od : Option Obj} {b tb : Value}
theorem slot_one : Slot "object" "__ne__" "object.__ne__" :=
  .of (owner := "object") (n := "__ne__") (by rw [typeLookup_type, builtinLookup_eq_fast]; kernel_rfl) (by decide +kernel) (by decide +kernel) (by decide +kernel) (.inl (by decide +kernel)) (by rw [isSubtype_type]; kernel_rfl)
theorem entry_one : entryFor table "object.__ne__" = some Builtin.«object.__ne__» := entryFor_of_tree (by kernel_rfl)
theorem args_one (a b : Value) : argsOk "object.__ne__" ⟨[a, b], []⟩ := by unfold argsOk; kernel_rfl
/-- a != b by a def __eq__ -/
theorem ne_by_eq {Q : Value → Shared → Prop} (hu : A.units < cLine) (hu1 : A.in1.units < cLine) (X : K.In s.heap) (I : InstAt s.heap x ox C od) (hb : Looks (model prog w) s.heap (typeOf b) tb) (hn : tb = .ref C) (ho : mroIn K C (.type "object") = some true)
    (hne : findIn K (.ref C) "__ne__" = some (some (.builtin "object.__ne__"))) (hs : findIn K (.ref C) "__eq__" = some (some (.ref f))) (hf : isFn K (.ref f) = true)
    (h : wpAny (model prog w) A.in1 (call (.ref f) [.ref x, b]) (fun v s' => ∃ r, v = .bool r ∧ Q (.bool (!r)) s') E s) : wpAny (model prog w) A (richCompare .NotEq (.ref x) b) Q E s := by
  have one : wpAny (model prog w) A (tryCompare (.ref x) "__ne__" b) (fun r s' => ∃ v, r = some v ∧ Q v s') E s := by
    have run : wpAny (model prog w) A (call (.builtin "object.__ne__") [.ref x, b]) (fun v s' => ∃ z, v = .bool z ∧ Q v s') E s := by
      refine wpAny_call (codeAny_call_builtin slot_one.plain entry_one (check_slot (owner := "object") (n := "__ne__") (by decide +kernel) (by decide +kernel) (I.type.andThen (looks_mroIn X ho)) (args_one _ _) ?_))
      unfold Builtin.«object.__ne__»
      refine wpAny_bind (wpAny_of_eq (a := ((Value.ref x : Value), [b])) (by first | rfl | (simp only [slotArgs]; rfl)) ?_)
      refine wpAny_bind (wpAny_cRoomFor hu1 ?_)
      refine wpAny_bind (ifBound_K X I hs hf (wpAny_mono h (fun v s' hv => ?_) fun _ _ e => e))
      obtain ⟨r, rfl, q⟩ := hv
      refine wpAny_bind (wpAny_truthy_bool (wpAny_pure ?_))
      exact ⟨_, rfl, q⟩
    unfold tryCompare callSpecialIfBound? bindSpecialIfBound?
    refine wpAny_bind (wpAny_holding (wpAny_bind (wpAny_bind (wpAny_bind (I.type.here ((looks_findIn X hne).here ?_))))))
    have fin : wpAny (model prog w) A (call (.builtin "object.__ne__") ([.ref x] ++ [b]) >>= fun v => pure (some v)) (fun r s' => wpAny (model prog w) A (match r with
        | some .notImplemented | none => pure none
        | some v => pure (some v)) (fun r s' => ∃ v, r = some v ∧ Q v s') E s') E s := by
      refine wpAny_bind (wpAny_mono run (fun v s' hv => wpAny_pure ?_) fun _ _ e => e)
      obtain ⟨z, rfl, q⟩ := hv
      exact wpAny_pure ⟨_, rfl, q⟩
    refine wpAny_bind (wpAny_askSetting (wpAny_ite ?_))
    split
    · rw [slot_one.bind]
      exact wpAny_bind (wpAny_pure (wpAny_pure fin))
    · rw [slot_one.bind]
      exact wpAny_tryCatch (wpAny_bind (wpAny_pure (wpAny_pure fin)))
  unfold richCompare
  simp only [oneThing_ref]
  refine wpAny_holding (wpAny_bind (wpAny_cRoomFor hu (wpAny_bind (I.type.here (wpAny_bind (hb.here ?_))))))
  subst hn
  have e0 : (Value.ref C != Value.ref C) = false := by simp
  rw [e0]
  refine wpAny_bind (wpAny_pure ?_)
  simp only [Bool.false_eq_true, if_false]
  refine wpAny_bind (wpAny_mono one (fun r s' z => ?_) fun _ _ e => e)
  obtain ⟨v, rfl, q⟩ := z
  exact wpAny_pure q
end
end PySem.W
namespace VM
open PySem PySem.Spec L2
open PyProof.Rows (envOfC)
/-- x == y of instances of class c, F the def __eq__ -/
def eqI (c : Nat) (F : FM) : D → D → Option D := fun x y =>
  match x, y with
  | .ins a _, .ins b _ => if a = c ∧ b = c then
      match F [.fr x, .fr y] with
      | .ok (.bl r) _ => some (.bl r)
      | _ => none
    else none
  | _, _ => none
def neI (c : Nat) (F : FM) : D → D → Option D := fun x y => notB (eqI c F x y)
section
variable {G : GC} {RR : RVal D V} {X : Cx} {W : WX} {io : List Nat}
theorem Rep.trk {H : Hp} {S : Addr → Prop} {d : D} {v : V} (h : Rep G H S d v) : Rep G H (fun b => S b ∧ H b ≠ none) d v :=
  Rep.rec (motive_1 := fun d v _ => Rep G H (fun b => S b ∧ H b ≠ none) d v) (motive_2 := fun ds vs _ => Reps G H (fun b => S b ∧ H b ≠ none) ds vs) (motive_3 := fun fs gs _ => RepF G H (fun b => S b ∧ H b ≠ none) fs gs)
    .non .bl .int .str (fun s r _ ih => .lst ⟨s, by rw [r]; simp⟩ r ih) (fun s _ ih => .scr (s.imp (fun q => ⟨⟨q.1, by rcases q.2 with e | ⟨o, e⟩ <;> rw [e] <;> simp⟩, q.2⟩) id) ih) .ty .cl (fun r _ ih => .tup r ih) (fun s r _ ih => .ins ⟨s, by rw [r]; simp⟩ r ih)
    .nil (fun _ _ a b => .cons a b) .nil (fun _ _ a b => .cons a b) h
/-- __eq__ called in a nested place -/
theorem eq_runs {n : Nat} {f : Addr} {fd : FuncData} {ps : List Str} {F : FM} {A : Around} {pins : List (Addr × Obj)} {s : Shared} {σ : L2.St} {H : Hp} {S : Addr → Prop} {x y : D} {a b : Addr} {r : Bool} {outs : List Sl} {Q : Value → Shared → Prop} (FO : FnOk X.prog X.w X.K X.mg X.base (L2.CX X.prog X.w) n f fd ps (spV G (vD G) 2 F))
    (hb : Binds X.K fd ps []) (hr : Room n A) (hfr : A.frames = X.A.frames) (I : Inv X pins σ H s) (rx : Rep G H S x (.ref a)) (ry : Rep G H S y (.ref b)) (hF : F [.fr x, .fr y] = .ok (.bl r) outs)
    (q : ∀ H' s', Inv X pins σ H' s' → (∀ c o, H c = some o → H' c = some o) → Q (.bool r) s') : wpAny (model X.prog X.w) A (call (.ref f) [.ref a, .ref b]) Q X.xe s := by
  have sp : spV G (vD G) 2 F [.ref a, .ref b] H (fun v H' => v = .bl r ∧ ∀ c o, H c = some o → H' c = some o) E0 := by
    refine ⟨rfl, [.fr x, .fr y], fun b => S b ∧ H b ≠ none, rfl, ⟨rfl, fun i d h => ?_, fun i d h => ?_, fun i j d e z h1 => ?_, fun z h => h.2⟩, ?_⟩
    · match i, h with
      | 0, h => cases h; exact ⟨_, rfl, rx.trk⟩
      | 1, h => cases h; exact ⟨_, rfl, ry.trk⟩
      | i + 2, h => simp at h
    · match i, h with
      | 0, h => cases h
      | 1, h => cases h
      | i + 2, h => simp at h
    · match i, h1 with
      | 0, h => cases h
      | 1, h => cases h
      | i + 2, h => simp at h
    · rw [hF]
      intro v H' S' _ e rep
      cases rep
      refine ⟨rfl, fun c o h => e.keep c o h fun ⟨i, d, h1, _⟩ => ?_⟩
      match i, h1 with
      | 0, h => cases h
      | 1, h => cases h
      | i + 2, h => simp at h
  have e0 : Env0 X.prog X.w X.K X.mg X.base A X.stack s H := by
    have e := I.env0
    exact ⟨hfr.trans e.frames, e.mod, e.bs, e.bsz, e.funs, e.frf, e.hok, e.bare⟩
  have hl : ([.ref a, .ref b] : List Value).length = ps.length := FO.len [.ref a, .ref b] _ _ _ sp
  have bd := hb s [.ref a, .ref b] I.kIn (by rw [List.append_nil]; exact hl)
  rw [List.append_nil] at bd
  refine wpAny_call (codeAny_mono (FO.run A X.stack s H ⟨[.ref a, .ref b], []⟩ [.ref a, .ref b] [.ref a, .ref b] _ E0 hr e0 bd (.cons rfl (.cons rfl .nil)) sp) fun res s' hq => ?_)
  cases res with
  | error er => exact passL pins σ H s er s' I hq
  | ok fl =>
    cases fl with
    | ret u =>
      obtain ⟨v, H', I', rv, ev, k⟩ := I.after hq
      subst ev
      cases rv
      exact q H' s' I' k
    | _ => exact False.elim hq
/-- what is known of two instances that are compared -/
structure EqTxt (G : GC) (X : Cx) (c : Nat) (f : Addr) : Prop where
  eq : PySem.W.findIn X.K (.ref (G.ca c)) "__eq__" = some (some (.ref f))
  ne : PySem.W.findIn X.K (.ref (G.ca c)) "__ne__" = some (some (.builtin "object.__ne__"))
  fn : PySem.W.isFn X.K (.ref f) = true
  ob : PySem.W.mroIn X.K (G.ca c) (.type "object") = some true
theorem eqI_some {c : Nat} {F : FM} {x y z : D} (h : eqI c F x y = some z) : ∃ fs gs r outs, x = .ins c fs ∧ y = .ins c gs ∧ F [.fr x, .fr y] = .ok (.bl r) outs ∧ z = .bl r := by
  unfold eqI at h
  split at h
  · rename_i a fs b gs
    split at h
    · rename_i hc
      obtain ⟨rfl, rfl⟩ := hc
      split at h
      · rename_i r outs hF
        cases h
        exact ⟨_, _, r, outs, rfl, rfl, hF, rfl⟩
      · cases h
    · cases h
  · cases h
theorem s_eqI {c n : Nat} {f : Addr} {fd : FuncData} {ps : List Str} {F : FM} (T : EqTxt G X c f) (FO : FnOk X.prog X.w X.K X.mg X.base (L2.CX X.prog X.w) n f fd ps (spV G (vD G) 2 F)) (hb : Binds X.K fd ps []) (hr : Room n X.A) : Op2 G X (compareOp .Eq) (eqI c F) := by
  refine ⟨fun v u H Q => ∃ (S : Addr → Prop) (x y : D) (a b : Addr) (fs gs : List (Str × D)) (r : Bool) (outs : List Sl), v = .ref a ∧ u = .ref b ∧ x = .ins c fs ∧ y = .ins c gs ∧ Rep G H S x (.ref a) ∧ Rep G H S y (.ref b) ∧ F [.fr x, .fr y] = .ok (.bl r) outs ∧ ∀ H', (∀ c o, H c = some o → H' c = some o) → Q (.bl r) H', ?_, fun H S x y z v u Q rx ry e k => ?_⟩
  · intro pins s σ H v u v' u' Q I rv ru ⟨S, x, y, a, b, fs, gs, r, outs, ev, eu, ex, ey, rx, ry, hF, q⟩
    subst ev eu ex ey
    cases rv
    cases ru
    have rx0 := rx
    have ry0 := ry
    cases rx with
    | ins s1 h1 r1 =>
      cases ry with
      | ins s2 h2 r2 =>
        obtain ⟨mA, J, _⟩ := ins_get I.hok h1
        obtain ⟨mB, J', _⟩ := ins_get I.hok h2
        obtain ⟨od, J, _⟩ := J.look
        obtain ⟨od', J', _⟩ := J'.look
        obtain ⟨m, hFr⟩ := I.fr
        show wpAny (model X.prog X.w) X.A (richCompare .Eq (.ref a) (.ref b)) (EP X pins σ Q) X.xe s
        refine PySem.W.cmp_K (op := .Eq) (tb := .ref (G.ca c)) hr.units0 hFr I.ok.mod.kin J J'.type (by simp [PySem.W.notFirst]) T.eq T.fn ?_
        exact eq_runs FO hb hr rfl I rx0 ry0 hF fun H' s' I' k => ⟨.bl r, H', I', rfl, q H' k⟩
  · obtain ⟨fs, gs, r, outs, ex, ey, hF, ez⟩ := eqI_some e
    subst ex ey ez
    cases rx with
    | ins s1 h1 r1 =>
      cases ry with
      | ins s2 h2 r2 => exact ⟨S, _, _, _, _, fs, gs, r, outs, rfl, rfl, rfl, rfl, .ins s1 h1 r1, .ins s2 h2 r2, hF, fun H' g => k _ H' S ⟨g, fun _ s => s, fun _ s => .inl s⟩ (.bl r)⟩
theorem s_neI {c n : Nat} {f : Addr} {fd : FuncData} {ps : List Str} {F : FM} (T : EqTxt G X c f) (FO : FnOk X.prog X.w X.K X.mg X.base (L2.CX X.prog X.w) n f fd ps (spV G (vD G) 2 F)) (hb : Binds X.K fd ps []) (hr : Room (n + 1) X.A) : Op2 G X (compareOp .NotEq) (neI c F) := by
  refine ⟨fun v u H Q => ∃ (S : Addr → Prop) (x y : D) (a b : Addr) (fs gs : List (Str × D)) (r : Bool) (outs : List Sl), v = .ref a ∧ u = .ref b ∧ x = .ins c fs ∧ y = .ins c gs ∧ Rep G H S x (.ref a) ∧ Rep G H S y (.ref b) ∧ F [.fr x, .fr y] = .ok (.bl r) outs ∧ ∀ H', (∀ c o, H c = some o → H' c = some o) → Q (.bl (!r)) H', ?_, fun H S x y z v u Q rx ry e k => ?_⟩
  · intro pins s σ H v u v' u' Q I rv ru ⟨S, x, y, a, b, fs, gs, r, outs, ev, eu, ex, ey, rx, ry, hF, q⟩
    subst ev eu ex ey
    cases rv
    cases ru
    have rx0 := rx
    have ry0 := ry
    cases rx with
    | ins s1 h1 r1 =>
      cases ry with
      | ins s2 h2 r2 =>
        obtain ⟨mA, J, _⟩ := ins_get I.hok h1
        obtain ⟨mB, J', _⟩ := ins_get I.hok h2
        obtain ⟨od, J, _⟩ := J.look
        obtain ⟨od', J', _⟩ := J'.look
        show wpAny (model X.prog X.w) X.A (richCompare .NotEq (.ref a) (.ref b)) (EP X pins σ Q) X.xe s
        refine PySem.W.ne_by_eq hr.units0 hr.in1.units0 I.kIn J J'.type rfl T.ob T.ne T.eq T.fn ?_
        exact eq_runs FO hb hr.in1 rfl I rx0 ry0 hF fun H' s' I' k => ⟨r, rfl, .bl (!r), H', I', rfl, q H' k⟩
  · unfold neI at e
    cases h : eqI c F x y with
    | none => rw [h] at e; cases e
    | some z' =>
      rw [h] at e
      obtain ⟨fs, gs, r, outs, ex, ey, hF, ez⟩ := eqI_some h
      subst ex ey ez
      cases e
      cases rx with
      | ins s1 h1 r1 =>
        cases ry with
        | ins s2 h2 r2 => exact ⟨S, _, _, _, _, fs, gs, r, outs, rfl, rfl, rfl, rfl, .ins s1 h1 r1, .ins s2 h2 r2, hF, fun H' g => k _ H' S ⟨g, fun _ s => s, fun _ s => .inl s⟩ (.bl _)⟩
/-! ### nested data -/
mutual
def pd : D → PyData
  | .bl b => .bool b
  | .int i => .int i
  | .str x => .str x
  | .lst ds => .list (pds ds)
  | .tup ds => .tuple (pds ds)
  | _ => .none
def pds : List D → List PyData
  | [] => []
  | d :: ds => pd d :: pds ds
end
mutual
def datD : D → Bool
  | .non => true
  | .bl _ => true
  | .int _ => true
  | .str _ => true
  | .lst ds => datDs ds
  | .tup ds => datDs ds
  | _ => false
def datDs : List D → Bool
  | [] => true
  | d :: ds => datD d && datDs ds
end
theorem dp_of {K : PySem.W.Frag} {H : Hp} {S : Addr → Prop} {d : D} {v : V} (h : Rep G H S d v) : datD d = true → Dp K H v (pd d) :=
  Rep.rec (motive_1 := fun d v _ => datD d = true → Dp K H v (pd d)) (motive_2 := fun ds vs _ => datDs ds = true → DpAll K H vs (pds ds)) (motive_3 := fun fs gs _ => True)
    (fun _ => .non) (fun b _ => .bl b) (fun i _ => .int i) (fun x _ => .str x) (fun s r _ ih z => .lst (.of r) (ih z)) (fun _ _ _ z => by cases z) (fun _ z => by cases z) (fun _ z => by cases z) (fun r _ ih z => .tup (.of r) (ih z)) (fun _ _ _ _ z => by cases z)
    (fun _ => .nil) (fun _ _ a b z => by
      have z' := Bool.and_eq_true_iff.mp (show (datD _ && datDs _) = true from z)
      exact .cons (a z'.1) (b z'.2)) trivial (fun _ _ _ _ => trivial) h
def seqD : D → Bool
  | .lst _ => true
  | .tup _ => true
  | _ => false
def eqD (x y : D) : Option D := if seqD x = true ∧ seqD y = true ∧ datD x = true ∧ datD y = true ∧ SeqAt.shaped (pd x) = true ∧ SeqAt.shaped (pd y) = true then some (.bl (PyData.eqv (pd x) (pd y))) else none
def neD (x y : D) : Option D := notB (eqD x y)
theorem s_eqD (hu : X.A.units + 64 < cLine) : Op2 G X (compareOp .Eq) eqD := ⟨_, op_eqD hu, fun H S x y z v u Q rx ry e k => by
  unfold eqD at e
  split at e
  · rename_i hz
    cases e
    exact ⟨_, _, dp_of rx hz.2.2.1, dp_of ry hz.2.2.2.1, hz.2.2.2.2.1, hz.2.2.2.2.2, k _ H S .refl (.bl _)⟩
  · cases e⟩
theorem s_neD (hu : X.A.units + 64 < cLine) : Op2 G X (compareOp .NotEq) neD := ⟨_, op_neD hu, fun H S x y z v u Q rx ry e k => by
  unfold neD eqD at e
  split at e
  · rename_i hz
    cases e
    exact ⟨_, _, dp_of rx hz.2.2.1, dp_of ry hz.2.2.2.1, hz.2.2.2.2.1, hz.2.2.2.2.2, k _ H S .refl (.bl _)⟩
  · cases e⟩
/-! ### x[j] = e -/
variable {a e j : Expr} {m mj : EM} {pos p2 : Pos}
theorem js_put (i : Nat) (ha : PE X a (tVar i)) (hj : PE X j (rE G W mj)) (he : PE X e (rE G W m))
    (ha2 : ∀ v, assign (.Subscript a j p2) X.env v = (do
      let ov ← holding [v] (eval a X.env)
      let iv ← holding [v, ov] (eval j X.env)
      standAt p2
      holding [v, ov, iv] (setItem ov iv v)
      release [v, ov, iv] []) := by intro _; rfl)
    (hs : swapsWithSole [.Subscript a j p2] e pos.line X.env = pure false := by rfl) (hw : swappedStores [.Subscript a j p2] e X.env = pure none := by rfl) (h1 : (assignEach [.Subscript a j p2] X.env).map (·.2) = [assign (.Subscript a j p2) X.env] := by rfl) :
    PS X (.Assign [.Subscript a j p2] e pos) (rS G RR W io (sPut i mj m)) := by
  refine (ps_asg he (pg_sub ha hj set_list ha2) hs hw h1).imp fun D σ H h => ?_
  refine (rS.st (R0 := vD G) h).mono fun v H1 ⟨d, σ1, S1, rel, rep, p⟩ => ?_
  split at p
  · rename_i d00 hd00
    obtain ⟨p0, e00, _, o00⟩ := rel.ow i _ hd00
    refine ⟨_, e00, σ1, S1, rel, (PostS.st (R0 := vD G) p).mono fun y H2 ⟨jd, σ2, S2, rel2, ext2, rep2, q⟩ => ?_⟩
    have rep1 : Rep G H2 S2 d v := Rep.kp (rel.kp ext2) rep
    split at q
    · rename_i ds kk hds
      obtain ⟨p1, e1, _, o1⟩ := rel2.ow i _ hds
      rw [e00] at e1; cases e1
      obtain ⟨vs, g1, g2⟩ := o1
      have rep2' : Rep G H2 S2 (.int kk) y := rep2
      cases rep2'
      split at q
      · rename_i hz
        have hn : ∀ xs, H2 p0 ≠ some (.tup xs) := fun xs z => by rw [g1] at z; cases z
        have kp : Kp H2 S2 (upd H2 p0 (.lst (vs.set kk.toNat v))) S2 := ⟨fun _ s => s, fun b u s z => by
          rw [upd_ne fun y => (rel2.noS ⟨i, _, hds, e00⟩) (by rw [← y]; exact s)]; exact z, fun b xs z => by rw [upd_ne fun y => hn xs (by rw [← y]; exact z)]; exact z⟩
        obtain ⟨r1, r2⟩ := rel2.upd (d' := .lst (ds.set kk.toNat d)) (o := .lst (vs.set kk.toNat v)) hds e00 ⟨_, upd_same, (g2.set kk.toNat rep1).kp kp⟩ hn
        refine ⟨p0, vs, kk, kk.toNat, rfl, rfl, g1, ?_, q _ _ _ r1 r2 .refl⟩
        unfold ixN
        rw [← g2.length, if_pos hz.1, if_pos hz.2]
      · exact q.elim
    · exact q.elim
  · exact p.elim
/-- x.f = e, x one's own instance -/
theorem js_fld (i : Nat) {cs : List Nat} {f : Str} (hC : ∀ c ∈ cs, Cls X.K (G.ca c) ∧ NoAttr X.K (G.ca c) f) (ha : PE X a (tVar i)) (he : PE X e (rE G W m)) (hs : swapsWith e (some (.Attribute a f p2)) pos.line X.env = pure false := by rfl) :
    PS X (.Assign [.Attribute a f p2] e pos) (rS G RR W io (sFld cs i f m)) := by
  refine (ps_fld ha he hs).imp fun D σ H h => ?_
  refine (rS.st (R0 := vD G) h).mono fun v H1 ⟨d, σ1, S1, rel, rep, p⟩ => ?_
  have rep' : Rep G H1 S1 d v := rep
  split at p
  · rename_i c fs hd00
    obtain ⟨p0, e00, _, o00⟩ := rel.ow i _ hd00
    obtain ⟨dx, gs, g1, g2⟩ := o00
    split at p
    · rename_i hz
      obtain ⟨k1, k2⟩ := hC c (by simpa using hz.2)
      have hn : ∀ xs, H1 p0 ≠ some (.tup xs) := fun xs z => by rw [g1] at z; cases z
      have kp : Kp H1 S1 (upd H1 p0 (.ins (G.ca c) dx (putF f v gs))) S1 := ⟨fun _ s => s, fun b u s z => by
        rw [upd_ne fun y => (rel.noS ⟨i, _, hd00, e00⟩) (by rw [← y]; exact s)]; exact z, fun b xs z => by rw [upd_ne fun y => hn xs (by rw [← y]; exact z)]; exact z⟩
      obtain ⟨r1, r2⟩ := rel.upd (d' := .ins c (putD f d fs)) (o := .ins (G.ca c) dx (putF f v gs)) hd00 e00 ⟨dx, _, upd_same, (g2.put rep').kp kp⟩ hn
      exact ⟨_, e00, p0, _, dx, gs, rfl, g1, k1, k2, by rw [← g2.length]; exact hz.1, p _ _ _ r1 r2 .refl⟩
    · exact p.elim
  · exact p.elim
end
end VM
end
section
set_option linter.all false
set_option maxRecDepth 100000
set_option maxHeartbeats 2000000
/-! VZip: zip of a text and a tuple; isinstance of an own class. -/
namespace L2
open PySem PySem.Spec PyProof.Rows
/-- the signs of x and the items of the tuple at b (n of them), in new pairs -/
def ItzST (K : PySem.W.Frag) (x : Str) (b : Addr) (n : Nat) : It :=
  ⟨fun i H => ∃ (ys : List V) (y : V), SqT K H b ys ∧ ys.length = n ∧ i < x.cps.size ∧ ys[i]? = some y,
    fun i H v H' => ∃ T c y, v = .ref T ∧ H T = none ∧ H' = upd H T (.tup [.str ⟨#[c]⟩, y]) ∧ x.cps[i]? = some c ∧ ∀ ys, SqT K H b ys → ys[i]? = some y,
    fun i H => ∃ ys : List V, SqT K H b ys ∧ ys.length = n ∧ (x.cps.size ≤ i ∨ n ≤ i)⟩
theorem turn_zipST {P : Program} {w : World} {K : PySem.W.Frag} {elts : List Expr} {kk : Nat} {tpos : Pos} {x : Str} {t : Tok} {b z TI TO i1 i2 : Addr} {n : Nat} (d1 : TI ≠ z) (d2 : TO ≠ z) (d3 : TI ≠ TO) (d4 : TI ≠ i1) (d5 : TI ≠ i2) (d6 : z ≠ i1) (d7 : z ≠ i2) (d8 : TO ≠ i1) (d9 : TO ≠ i2) (d0 : i1 ≠ i2) :
    Turn P w K (.Tuple elts kk tpos) (ItzST K x b n) [z, TI, TO, i1, i2] z (fun i h => (IsZip h z TI TO .none ∧ IsTupOf2 h TI (.ref i1) (.ref i2) ∧ (∃ u v, IsTupOf2 h TO u v) ∧ h.IsStrIter i1 (strIterType x) x t i ∧ h.IsTupleIter i2 b i) ∧ i ≤ x.cps.size ∧ i ≤ n) where
  mem := List.mem_cons_self
  obj := fun i h st c hc => by
    obtain ⟨⟨hz, hTI, ⟨u, v, hTO⟩, ⟨o1, e1, _, g1⟩, ⟨o2, e2, _, g2⟩⟩, _⟩ := st
    simp only [List.mem_cons, List.mem_nil_iff, or_false] at hc
    rcases hc with q | q | q | q | q <;> subst q
    · exact ⟨_, hz, fun v q => nomatch q⟩
    · exact ⟨_, hTI, fun v q => nomatch q⟩
    · exact ⟨_, hTO, fun v q => nomatch q⟩
    · exact ⟨o1, e1, fun v q => by rw [g1] at q; cases q⟩
    · exact ⟨o2, e2, fun v q => by rw [g2] at q; cases q⟩
  keep := fun i h h' st k => by
    obtain ⟨⟨hz, hTI, ⟨u, v, hTO⟩, s1, s2⟩, le⟩ := st
    refine ⟨⟨k _ (by simp) _ hz, k _ (by simp) _ hTI, ⟨u, v, k _ (by simp) _ hTO⟩, ?_, s2.at fun o q => k i2 (by simp) o q⟩, le⟩
    obtain ⟨o, ho, r⟩ := s1
    exact ⟨o, k i1 (by simp) o ho, r⟩
  item := by
    intro X hP hw hK hc i pins s σ H E I hf st hg
    subst hP hw hK
    obtain ⟨⟨hz, hTI, ⟨u0, v0, hTO⟩, s1, s2⟩, le1, le2⟩ := st
    obtain ⟨ys, y, hq, hn, hlt, hy⟩ := hg
    obtain ⟨its, rv, p, _⟩ := I.tuple hq
    obtain ⟨u, hu, ru⟩ := rv.get hy
    have hh := I.ok.hd hc
    have trk : ∀ c ∈ [z, TI, TO, i1, i2], c ≠ b := fun c hc e => by
      have n0 := (hf c hc).1
      obtain ⟨o, e1, _⟩ := p
      rcases hq with (q | ⟨oo, q⟩) | ⟨o', its', k, q, _⟩
      · rw [e, q] at n0; cases n0
      · rw [e, q] at n0; cases n0
      · obtain ⟨_, _, _, hx, _⟩ := hf c hc
        rw [e] at hx
        have g := I.ok.mod.kin _ _ q
        rcases hx with hx | hx
        · exact I.ok.noex _ _ g hx
        · exact absurd (Nat.lt_of_lt_of_le (Heap.lt_size g) (Nat.le_trans I.ok.bsz hx)) (Nat.lt_irrefl _)
    have nb : b ≠ i2 := fun e => trk i2 (by simp) e.symm
    have D1 := Draws.text (prog := X.prog) (w := X.w) (A := X.A.in1) hh i1 x t
    have D2 := Draws.tuple (prog := X.prog) (w := X.w) (A := X.A.in1) hh i2 b nb its.toArray
    have Sp : ZipSep2 z TI TO i1 i2 [i1] [i2, b] := ⟨d1, d2, d3, d4, by simp, by simpa using d6, by simpa using d8, d5, by simp, by
      simp only [List.mem_cons, List.mem_nil_iff, or_false, not_or]; exact ⟨d7, trk z (by simp)⟩, by
      simp only [List.mem_cons, List.mem_nil_iff, or_false, not_or]; exact ⟨d9, trk TO (by simp)⟩, by
      simp only [List.mem_cons, List.mem_nil_iff, or_false, not_or]; exact ⟨d0, trk i1 (by simp)⟩, by simpa using d0.symm⟩
    have hil : i < its.toArray.size := by
      have l := rv.length
      have z1 := (List.getElem?_eq_some_iff.mp hy).1
      simp only [List.size_toArray]; omega
    have hzl : z < s.heap.objs.size := Heap.lt_size hz
    refine wpAny_pyNext_zipD2_item Sp D1 D2 hz hTI hTO s1 ⟨s2, p⟩ hlt hil fun x1 x2 h' tk q1 q2 z' TO' s1' s2' hT hsz hk => ?_
    obtain ⟨c, tc, hcx, rfl⟩ := q1
    have ex2 : x2 = u := by
      have : its.toArray[i]? = some u := by simpa using hu
      rw [this] at q2; exact (Option.some.inj q2).symm
    subst ex2
    refine ⟨_, rfl, wpAny_letOwnedTupleGo_zip (s := { s with heap := h', toks := tk }) z' fun h'' z'' sb => ?_⟩
    have hT2 : h''.get? s.heap.objs.size = some { cls := .type "tuple", data := .seq #[.str ⟨#[c]⟩ tc, x2] } := (sb.2 _ (Nat.ne_of_gt hzl)).trans hT
    have new : ObjOk X.prog X.w (upd H s.heap.objs.size (.tup [.str ⟨#[c]⟩, y])) h'' s.heap.objs.size (.tup [.str ⟨#[c]⟩, y]) :=
      ⟨by show 2 ≤ sizeLine; decide, [.str ⟨#[c]⟩ tc, x2], .cons ⟨_, rfl⟩ (.cons ru .nil), ⟨_, hT2, rfl, _, rfl⟩⟩
    have I1 : Inv X pins σ (upd H s.heap.objs.size (.tup [.str ⟨#[c]⟩, y])) { s with heap := h'', toks := tk } :=
      I.turnedNew (t' := tk) (ch := [z, TI, TO, i1, i2]) (fun c o hb q => (sb.2 c (fun e => hb (by simp [e]))).trans (hk c o (fun e => hb (by simp [e])) (fun e => hb (by simp [e])) (fun e => hb (by simp [e])) (fun e => hb (by simp [e])) q)) hf (Nat.le_refl _) new
    have z1 := (List.getElem?_eq_some_iff.mp hy).1
    refine ⟨.ref s.heap.objs.size, _, I1, rfl, ⟨_, c, y, rfl, I.hok.fresh (Nat.le_refl _), rfl, hcx, fun l hl => by rw [I.tuple_inj hl hq]; exact hy⟩, ⟨⟨z'', ?_, ⟨Value.str ⟨#[c]⟩ tc, x2, ?_⟩, ?_, ?_⟩, hlt, by omega⟩, fun e he => ?_⟩
    · exact (sb.2 _ d1).trans (hk _ _ d1 d3 d4 d5 hTI)
    · exact (sb.2 _ d2).trans TO'
    · obtain ⟨o, ho, r⟩ := s1'
      exact ⟨o, (sb.2 _ d6.symm).trans ho, r⟩
    · exact s2'.1.at fun o q => (sb.2 _ d7.symm).trans q
    · have hl : e < s.heap.objs.size := by
        simp only [List.mem_cons, List.mem_nil_iff, or_false] at he
        rcases he with q | q | q | q | q <;> subst q
        · exact hzl
        · exact Heap.lt_size hTI
        · exact Heap.lt_size hTO
        · obtain ⟨_, e1, _⟩ := s1; exact Heap.lt_size e1
        · obtain ⟨_, e2, _⟩ := s2; exact Heap.lt_size e2
      rw [upd_ne (Nat.ne_of_lt hl)]
      exact (hf e he).1
  done := by
    intro X hP hw hK hc i pins s σ H E I hf st hg
    subst hP hw hK
    obtain ⟨⟨hz, hTI, ⟨u0, v0, hTO⟩, s1, s2⟩, le1, le2⟩ := st
    obtain ⟨ys, hq, hn, hend⟩ := hg
    obtain ⟨its, rv, p, _⟩ := I.tuple hq
    have hh := I.ok.hd hc
    have trk : ∀ c ∈ [z, TI, TO, i1, i2], c ≠ b := fun c hc e => by
      have n0 := (hf c hc).1
      rcases hq with (q | ⟨oo, q⟩) | ⟨o', its', k, q, _⟩
      · rw [e, q] at n0; cases n0
      · rw [e, q] at n0; cases n0
      · obtain ⟨_, _, _, hx, _⟩ := hf c hc
        rw [e] at hx
        have g := I.ok.mod.kin _ _ q
        rcases hx with hx | hx
        · exact I.ok.noex _ _ g hx
        · exact absurd (Nat.lt_of_lt_of_le (Heap.lt_size g) (Nat.le_trans I.ok.bsz hx)) (Nat.lt_irrefl _)
    have nb : b ≠ i2 := fun e => trk i2 (by simp) e.symm
    have D1 := Draws.text (prog := X.prog) (w := X.w) (A := X.A.in1) hh i1 x t
    have D2 := Draws.tuple (prog := X.prog) (w := X.w) (A := X.A.in1) hh i2 b nb its.toArray
    have Sp : ZipSep2 z TI TO i1 i2 [i1] [i2, b] := ⟨d1, d2, d3, d4, by simp, by simpa using d6, by simpa using d8, d5, by simp, by
      simp only [List.mem_cons, List.mem_nil_iff, or_false, not_or]; exact ⟨d7, trk z (by simp)⟩, by
      simp only [List.mem_cons, List.mem_nil_iff, or_false, not_or]; exact ⟨d9, trk TO (by simp)⟩, by
      simp only [List.mem_cons, List.mem_nil_iff, or_false, not_or]; exact ⟨d0, trk i1 (by simp)⟩, by simpa using d0.symm⟩
    have l := rv.length
    refine wpAny_pyNext_zipD2_end Sp D1 D2 hz hTI hTO s1 ⟨s2, p⟩ le1 (by simp only [List.size_toArray]; omega) (by simp only [List.size_toArray]; omega) fun h' tk hk => ⟨rfl, ?_⟩
    exact I.turnedL (t' := tk) (ch := [z, TI, TO, i1, i2]) (fun c o hb q => hk c o (fun e => hb (by simp [e])) (fun e => hb (by simp [e])) (fun e => hb (by simp [e])) (fun e => hb (by simp [e])) q) hf
  self := fun A i s Q E st h => wpAny_pyIter_zip st.1.1 h
def iZipST (K : PySem.W.Frag) (ta : TA) : TI := fun σ H R => ta σ H fun vs H1 => ∃ x b ys, vs = [.str x, .ref b] ∧ SqT K H1 b ys ∧ R (ItzST K x b ys.length) H1
theorem pi_zipST {X : Cx} {e e2 : Expr} {ta : TA} {p pos tpos : Pos} {elts : List Expr} {kk : Nat} (hg : Gl X "zip") (hm : X.mg "zip" = none) (ha : PA X [e, e2] ta)
    (hs : starEach [e, e2] X.env = (false, eval e X.env) :: starEach [e2] X.env := by rfl) (hpl : (backTo pos (starEach [e2] X.env)).any (·.1) = false := by rfl) :
    PI X (.Tuple elts kk tpos) (.Call (.Name "zip" p) [e, e2] [] pos) (iZipST X.K ta) := by
  refine ⟨fun pins s σ H R I h => Call_ (ld_blt I hg hm PyProof.Rows.boot_zip (PyProof.Rows.callWith_type1 (thn (ha.run pos pins s σ H _ I h) fun us s1 ⟨vs, H1, I1, r1, x, b, ys, ex, hq, q⟩ => ?_) hs hpl))⟩
  subst ex
  obtain ⟨u1, u2, rfl, ⟨t, rfl⟩, r2⟩ := vals2 r1
  cases r2
  obtain ⟨its, rv, pt, _⟩ := I1.tuple hq
  refine zip_begins2 (begins_text x t) (begins_tuple b its.toArray) trivial pt fun h' hz hTI hTO g1 g2 hsz hk => wpAny_pyIter_zip hz ?_
  have I2 : Inv X pins σ H1 { s1 with heap := h' } := I1.kept (t' := s1.toks) hk
  have ne : ∀ {i j : Nat}, i ≠ j → s1.heap.objs.size + i ≠ s1.heap.objs.size + j := fun h e => h (Nat.add_left_cancel e)
  refine ⟨s1.heap.objs.size + 4, [s1.heap.objs.size + 4, s1.heap.objs.size + 2, s1.heap.objs.size + 3, s1.heap.objs.size + 0, s1.heap.objs.size + 1], _, _, H1, rfl, I2,
    turn_zipST (x := x) (t := t) (b := b) (n := ys.length) (ne (by decide)) (ne (by decide)) (ne (by decide)) (ne (by decide)) (ne (by decide)) (ne (by decide)) (ne (by decide)) (ne (by decide)) (ne (by decide)) (ne (by decide)), ⟨⟨hz, hTI, ⟨_, _, hTO⟩, ⟨_, g1, rfl, rfl⟩, ⟨_, g2, rfl, rfl⟩⟩, Nat.zero_le _, Nat.zero_le _⟩, fun c hc => ?_, q⟩
  have hle : s1.heap.objs.size ≤ c := by
    simp only [List.mem_cons, List.mem_nil_iff, or_false] at hc
    rcases hc with e | e | e | e | e <;> rw [e] <;> exact Nat.le_add_right _ _
  exact I1.fpOk hle (I1.hok.fresh hle)
end L2
namespace VM
open PySem PySem.Spec L2
def strD (x : Str) : List D := x.cps.toList.map fun c => .str ⟨#[c]⟩
def zipST : D → D → Option (List D)
  | .str x, .tup ds => some (zipD (strD x) ds)
  | _, _ => none
section
variable {G : GC} {X : Cx} {W : WX} {a b : Expr} {ma mb : EM} {pos p : Pos}
theorem follows_zipST {K : PySem.W.Frag} {x : Str} {b : Addr} {es : List D} {ws : List V} : Follows G (ItzST K x b ws.length) (zipD (strD x) es) (fun H S => H b = some (.tup ws) ∧ Reps G H S es ws) := by
  refine ⟨fun H S H1 S1 k ⟨h3, h4⟩ => ⟨k.tups _ _ h3, h4.kp k⟩, fun i H S ⟨h3, h4⟩ => ⟨fun d hd => ?_, fun h => ?_⟩⟩
  · obtain ⟨d1, d2, e1, e2, e3⟩ := zipD_get hd
    subst e3
    unfold strD at e1
    rw [List.getElem?_map] at e1
    have hc : ∃ c, x.cps[i]? = some c ∧ d1 = .str ⟨#[c]⟩ := by
      cases e : x.cps.toList[i]? with
      | none => rw [e] at e1; cases e1
      | some c => rw [e] at e1; cases e1; exact ⟨c, by rw [← Array.getElem?_toList]; exact e, rfl⟩
    obtain ⟨c, hc, rfl⟩ := hc
    obtain ⟨u, g3, g4⟩ := h4.get e2
    refine ⟨⟨ws, u, .of h3, rfl, (Array.getElem?_eq_some_iff.mp hc).1, g3⟩, fun y H' ⟨T, c', y0, q1, q2, q3, q4, q5⟩ => ?_⟩
    subst q1; subst q3
    rw [hc] at q4; cases q4
    have z2 := q5 ws (.of h3)
    rw [g3] at z2; cases z2
    have g : Gr H S (upd H T (.tup [.str ⟨#[c]⟩, u])) S := .new q2
    exact ⟨S, g, .tup upd_same (.cons (.str _) (.cons (g4.kp g.kp) .nil))⟩
  · refine ⟨ws, .of h3, rfl, ?_⟩
    rcases zipD_length h with h | h
    · exact .inl (by simpa [strD] using h)
    · exact .inr (by rw [← h4.length]; exact h)
theorem ji_zipST {elts : List Expr} {kk : Nat} {tpos : Pos} (hg : Gl X "zip") (hm : X.mg "zip" = none) (ha : PE X a (rE G W ma)) (hb : PE X b (rE G W mb)) (hs : starEach [a, b] X.env = (false, eval a X.env) :: starEach [b] X.env := by rfl) (hs2 : starEach (b :: []) X.env = (false, eval b X.env) :: starEach [] X.env := by rfl) (hpl : (backTo pos (starEach [b] X.env)).any (·.1) = false := by rfl) :
    PI X (.Tuple elts kk tpos) (.Call (.Name "zip" p) [a, b] [] pos) (rI G W (lZip zipST ma mb)) := (pi_zipST hg hm (pa_cons ha (pa_cons hb pa_nil hs2) hs) hs hpl).imp fun σ H Q h => by
  refine (RD.bind (R0 := vD G) h).mono fun x H1 ⟨d, σ1, S1, rel, rep, p⟩ => ?_
  refine ⟨σ1, S1, rel, (Post.bind (R0 := vD G) p).mono fun y H2 ⟨d2, σ2, S2, rel2, ext2, rep2, p2⟩ => ?_⟩
  obtain ⟨z, hz, p3⟩ := p2.opt
  have r1 : Rep G H2 S2 d x := Rep.kp (rel.kp ext2) rep
  have r2 : Rep G H2 S2 d2 y := rep2
  cases r1 with
  | str x =>
    cases r2 with
    | @tup b0 ws ds h r => cases hz; exact ⟨x, b0, ws, rfl, .of h, Post.fin rel2 p3 .refl ⟨_, follows_zipST (es := ds) (ws := ws), h, r⟩⟩
    | _ => cases hz
  | _ => cases hz
/-! ### isinstance(x, C), x an instance -/
def isO (sel : Nat → Nat → Option Bool) : List D → Option D
  | [.ins a _, .cl b] => (sel a b).map D.bl
  | _ => none
structure OwnTy (K : PySem.W.Frag) (C : Addr) : Prop where
  cl : Cls K C
  ha : PySem.W.findIn K (.ref C) "__class__" = some (some (.builtin "object.__class__"))
  hn : PySem.W.specialIn K (.builtin "object.__class__") "__get__" = some (some (.builtin "getset_descriptor.__get__"))
  ht : PySem.W.takesIn K (.builtin "object.__class__") = some true
  hm : PySem.W.mroIn K C (.type "object") = some true
theorem s_isO {sel : Nat → Nat → Option Bool} (hT : ∀ a b r, sel a b = some r → OwnTy X.K (G.ca a) ∧ PySem.W.kitOne X.K (.ref (G.ca a)) (.ref (G.ca b)) = some r) : Cl G X (.builtin "isinstance") (isO sel) := ⟨_, call_isi, fun H S xs z vs Q r e k => by
  cases r with
  | nil => cases e
  | cons rx rr =>
    cases rr with
    | nil => cases rx <;> cases e
    | cons ry rr =>
      cases rr with
      | cons _ _ => cases rx <;> cases ry <;> cases e
      | nil =>
        cases rx with
        | @ins x dx a fs gs s h r =>
          cases ry with
          | cl b =>
            have e' : (sel a b).map D.bl = some z := e
            cases h1 : sel a b with
            | none => rw [h1] at e'; cases e'
            | some b0 =>
              rw [h1] at e'
              cases e'
              obtain ⟨T, hk⟩ := hT a b b0 h1
              exact ⟨_, _, _, _, b0, rfl, .own _, .base (.ins h T.cl T.ha T.hn T.ht T.hm), hk, k _ H S .refl (.bl _)⟩
          | _ => cases e
        | _ => cases ry <;> cases e⟩
end
end VM
end
section
set_option linter.all false
set_option maxRecDepth 100000
/-! VLast: - x; name = [.. for ..]; the law's own def. -/
namespace VM
open PySem PySem.Spec L2
open PyProof.Rows (envOfC)
def oNeg : D → Option D
  | .int i => some (.int (-i))
  | _ => none
section
variable {G : GC} {RR : RVal D V} {W : WX} {io : List Nat} {X : Cx} {σ : L2.St} {H : Hp} {a e elt iter tg : Expr} {ma m te : EM} {tt : TM} {l : LM} {t : TgM} {ts ix : List Nat} {pos py spos : Pos} {y : Str} {ifs : List Expr} {scope : Scope} {own : List (Str × Nat)}
theorem je_neg (ha : PE X a (rE G W ma)) : PE X (.UnaryOp .USub a pos) (rE G W (e1 oNeg ma)) := (pe_un un_neg ha).imp fun σ H Q h => by
  refine (RD.bind (R0 := vD G) h).mono fun x H1 ⟨d, σ1, S1, rel, rep, p⟩ => ?_
  obtain ⟨z, hz, p3⟩ := p.opt
  have rep' : Rep G H1 S1 d x := rep
  cases rep' with
  | int i => cases hz; exact ⟨i, rfl, Post.fin rel p3 .refl (Rep.int _)⟩
  | _ => cases hz
/-- a statement name = e, frozen: from the reading of e -/
theorem js_setI (i : Nat) (hio : i ∉ io) {st : Stmt} {tr : TE} (h : PS X st (tAsg tr (gName i))) (k : ∀ σ H Q, rE G W m σ H Q → tr σ H Q) : PS X st (rS G RR W io (sSet i m)) := h.imp fun D σ H h =>
  k σ H _ ((rS.st (R0 := vD G) h).mono fun v H1 ⟨d, σ1, S1, rel, rep, p⟩ => p _ H1 S1 (rel.set rep) ⟨fun _ _ q _ => q, fun _ s => s, fun _ s => .inl s, fun _ o => .inl o.set, fun _ q => q⟩ (.set hio))
theorem js_ownI (i : Nat) (hio : i ∉ io) {st : Stmt} {tr : TE} (h : PS X st (tAsg tr (gName i))) (k : ∀ σ H Q, rF G W l σ H Q → tr σ H Q) : PS X st (rS G RR W io (sOwn i l)) := h.imp fun D σ H ⟨σw, S, rel0, h⟩ => by
  refine k σ H _ ⟨σw, S, rel0, ?_⟩
  unfold sOwn at h
  cases hl : l σw with
  | ok ds σ1 =>
    rw [hl] at h
    intro v H1 S1 rel ext ⟨p, e1, e2, e3, e4, e5⟩
    subst e1
    refine h _ H1 S1 (rel.setO e3 e4 e5) ⟨ext.keep, ext.sub, ext.grow, fun b o => ?_, ext.there⟩ (.set hio)
    rcases o.setO with o | o
    · exact ext.own b o
    · rw [o]; exact .inr e2
  | exc c fs σ1 =>
    rw [hl] at h
    exact fun H1 S1 dx gs q1 q2 q3 q4 => h σ H1 S1 dx gs q1 q2 .refl q3 q4
  | stuck =>
    rw [hl] at h
    exact h
/-- eNew's reading from that of its items -/
theorem new_imp {Q : VK} (h : rE G W (eNew l) σ H Q) : rF G W l σ H Q := by
  obtain ⟨σw, S, r, q⟩ := h
  refine ⟨σw, S, r, ?_⟩
  unfold eNew at q
  cases hl : l σw with
  | ok ds σ1 =>
    rw [hl] at q
    intro v H1 S1 rel ext ⟨p, e1, e2, e3, e4, e5⟩
    subst e1
    have q' : ∀ v H1 S1, Rel G H1 S1 σ σ1 → Ext H S (Own σ σw) H1 S1 (Own σ σ1) → Rep G H1 S1 (.lst ds) v → Q v H1 := q
    obtain ⟨o, ho, _⟩ := e5.has
    refine q' _ H1 (fun b => S1 b ∨ b = p) (rel.addS e4 (by rw [ho]; simp)) ⟨ext.keep, fun b s => .inl (ext.sub b s), fun b s => ?_, ext.own, ext.there⟩ e5.frz
    rcases s with s | s
    · exact ext.grow b s
    · rw [s]; exact .inr (.inr e2)
  | exc c fs σ1 =>
    rw [hl] at q
    exact q
  | stuck =>
    rw [hl] at q
    exact q
/-- name = [e for tg in iter if ..], on one line, the name a local -/
theorem ps_lcF (i : Nat) (hix : own.map (·.2) = ix) (hts : ∀ j ∈ ts, j ∈ ix) (hc : X.calm = true) (hN : X.N.Nodup) (hy : X.N[i]? = some y) (hyl : X.env.scope.names.lookup y = some .local)
    (hsw : swapsWith (.ListComp elt [⟨tg, iter, ifs, 0⟩] scope pos) (some (.Name y py)) spos.line X.env = pure true) (hi : PI X tg iter (rI G W l)) (ok : BlkOk X.N X.env.scope scope own)
    (hg : ∀ (s : Shared) (H : Hp) (C : Addr) (cl : List (Str × Addr)) (fp : List Addr), PG (X.blk s H scope (compEnvC scope cl C X.env) fp) tg (rTg G ts t)) (ht : ∀ (s : Shared) (H : Hp) (C : Addr) (cl : List (Str × Addr)) (fp : List Addr), PTs (X.blk s H scope (compEnvC scope cl C X.env) fp) ifs (rT G W0 tt))
    (he : ∀ (s : Shared) (H : Hp) (C : Addr) (cl : List (Str × Addr)) (fp : List Addr), PE (X.blk s H scope (compEnvC scope cl C X.env) fp) elt (rE G W0 te)) (hs : ∀ x, foldedSetIterable iter X.env x = pure x := by intro _; rfl) :
    PS X (.Assign [.Name y py] (.ListComp elt [⟨tg, iter, ifs, 0⟩] scope pos) spos) (tAsg (rF G W (lLc l t tt te ix)) (gName i)) :=
  (ps_setLc hc hN hy hyl hsw hi ok hg ht he hs).imp fun D σ H h => lc_imp hix hts h
end
end VM
end
section
set_option linter.all false
set_option maxRecDepth 100000
/-! VSuit: tests in the suite of an except clause; three products; what a class with its own equality says. -/
namespace VM
open PySem PySem.Spec L2
open PyProof.Rows (envOfC)
def oMul3 : D → D → Option D := orO oMul mulS
section
variable {G : GC} {W : WX} {io : List Nat} {X : Cx} {σ σ1 : L2.St} {H H1 : Hp} {S O S1 O1 O2 : Addr → Prop} {σw : Ev}
theorem s_mul3 : Op2 G X (binaryOp .Mult) oMul3 := s_mul.or s_mulS
variable {a : Addr} {cls : Value} {d : Option Addr} {i c : Nat} {fs : List (Str × D)} {oe : Obj} {pn : List (Addr × Obj)} {e b t : Expr} {rest : List Expr} {ma mb mt : Option D} {pos : Pos}
def rXT (G : GC) (a : Addr) (cls : Value) (d : Option Addr) (i c : Nat) (fs : List (Str × D)) (m : Option D) : TT := fun σ H Q => ∃ S k, Sfx G a cls d i c fs σ H S ∧ m = some (.bl k) ∧ ∀ H' S', Gr H S H' S' → Q k H'
theorem jxt_val (ha : PE (X.suite a ((a, oe) :: pn)) e (rX G a cls d i c fs ma)) (he : ∀ whole, isTrue e X.env whole = (do let v ← whole; standAt e.pos; holding [v] (truthy v)) := by intro _; rfl) : PT (X.suite a ((a, oe) :: pn)) e (rXT G a cls d i c fs ma) :=
  (pt_val ha he).imp fun σ H Q ⟨S, k, s, e, q⟩ => ⟨S, _, s, e, fun v H1 S1 g r => by cases r; exact ⟨k, rfl, q H1 S1 g⟩⟩
theorem jxt_not (ha : PT (X.suite a ((a, oe) :: pn)) e (rXT G a cls d i c fs ma)) : PT (X.suite a ((a, oe) :: pn)) (.UnaryOp .Not e pos) (rXT G a cls d i c fs (xNot ma)) :=
  (L2.pt_not ha).imp fun σ H Q ⟨S, k, s, e, q⟩ => by
    unfold xNot at e
    split at e
    · cases e
      exact ⟨S, _, s, rfl, fun H1 S1 g => q H1 S1 g⟩
    · cases e
theorem jxw_and1 (ha : PT (X.suite a ((a, oe) :: pn)) e (rXT G a cls d i c fs ma)) : PW (X.suite a ((a, oe) :: pn)) (.BoolOp .And [e] pos) (rXT G a cls d i c fs ma) := pw_and1 ha
theorem jxw_or1 (ha : PT (X.suite a ((a, oe) :: pn)) e (rXT G a cls d i c fs ma)) : PW (X.suite a ((a, oe) :: pn)) (.BoolOp .Or [e] pos) (rXT G a cls d i c fs ma) := pw_or1 ha
theorem jxw_and (ha : PT (X.suite a ((a, oe) :: pn)) e (rXT G a cls d i c fs ma)) (hb : PW (X.suite a ((a, oe) :: pn)) (.BoolOp .And (b :: rest) pos) (rXT G a cls d i c fs mb)) : PW (X.suite a ((a, oe) :: pn)) (.BoolOp .And (e :: b :: rest) pos) (rXT G a cls d i c fs (xAnd ma mb)) :=
  (pw_and ha hb).imp fun σ H Q ⟨S, k, s, e, q⟩ => by
    unfold xAnd at e
    split at e
    · exact ⟨S, _, s, rfl, fun H1 S1 g => ⟨S1, k, s.gr g, e, fun H2 S2 g2 => q H2 S2 (g.trans g2)⟩⟩
    · cases e
      exact ⟨S, _, s, rfl, fun H1 S1 g => q H1 S1 g⟩
    · cases e
theorem jxw_or (ha : PT (X.suite a ((a, oe) :: pn)) e (rXT G a cls d i c fs ma)) (hb : PW (X.suite a ((a, oe) :: pn)) (.BoolOp .Or (b :: rest) pos) (rXT G a cls d i c fs mb)) : PW (X.suite a ((a, oe) :: pn)) (.BoolOp .Or (e :: b :: rest) pos) (rXT G a cls d i c fs (xOr ma mb)) :=
  (pw_or ha hb).imp fun σ H Q ⟨S, k, s, e, q⟩ => by
    unfold xOr at e
    split at e
    · cases e
      exact ⟨S, _, s, rfl, fun H1 S1 g => q H1 S1 g⟩
    · exact ⟨S, _, s, rfl, fun H1 S1 g => ⟨S1, k, s.gr g, e, fun H2 S2 g2 => q H2 S2 (g.trans g2)⟩⟩
    · cases e
theorem jx_if (ht : PT (X.suite a ((a, oe) :: pn)) t (rXT G a cls d i c fs mt)) (ha : PE (X.suite a ((a, oe) :: pn)) e (rX G a cls d i c fs ma)) (hb : PE (X.suite a ((a, oe) :: pn)) b (rX G a cls d i c fs mb)) : PE (X.suite a ((a, oe) :: pn)) (.IfExp t e b pos) (rX G a cls d i c fs (xIf mt ma mb)) :=
  (pe_ifExp ht ha hb).imp fun σ H Q ⟨S, z, s, e, q⟩ => by
    unfold xIf at e
    split at e
    · exact ⟨S, _, s, rfl, fun H1 S1 g => ⟨S1, z, s.gr g, e, fun v H2 S2 g2 r => q v H2 S2 (g.trans g2) r⟩⟩
    · exact ⟨S, _, s, rfl, fun H1 S1 g => ⟨S1, z, s.gr g, e, fun v H2 S2 g2 r => q v H2 S2 (g.trans g2) r⟩⟩
    · cases e
end
structure EqFacts (K : PySem.W.Frag) (C f : Addr) : Prop where
  eq : PySem.W.findIn K (.ref C) "__eq__" = some (some (.ref f))
  ne : PySem.W.findIn K (.ref C) "__ne__" = some (some (.builtin "object.__ne__"))
  fn : PySem.W.isFn K (.ref f) = true
  ob : PySem.W.mroIn K C (.type "object") = some true
theorem EqFacts.txt {G : GC} {X : Cx} {c : Nat} {f : Addr} (h : EqFacts X.K (G.ca c) f) : EqTxt G X c f := ⟨h.eq, h.ne, h.fn, h.ob⟩
end VM
end
section
set_option linter.all false
set_option maxRecDepth 100000
/-! VHead: what the head's facts give the derivations. -/
namespace VM
open PySem PySem.Spec L2
def cal (l : List Addr) : Nat → Addr := fun n => l.getD n 0
/-- a global's address -/
def ad (K : PySem.W.Frag) (x : Str) : Addr := match PySem.W.nsIn K mainGlobals x with
  | some (some (.ref a)) => a
  | _ => 0
theorem ad_of {K : PySem.W.Frag} {x : Str} {a : Addr} (e : PySem.W.nsIn K mainGlobals x = some (some (.ref a))) : ad K x = a := by
  unfold ad
  rw [e]
theorem kw_binds {K : PySem.W.Frag} {x qual : Str} {st : Stmt} {f : Addr} {fd : FuncData} {ps : List Str} (F : Fun K x qual st f fd)
    (h : ∀ (kV doc pm : Value) (an : Option Addr) (cdv ct : Value) (us : List Value), us.length = ps.length → bindArgs (PySem.W.fnOf x qual (defArgs st) (defBody st) (defScope st) .none kV doc pm an cdv ct) ⟨[], ps.zip us⟩ = pure (ps.zip us)) : KwBinds K fd ps := by
  obtain ⟨oc, od, kV, doc, pm, an, cdv, ct, osl, rfl, lk, hcd⟩ := F.ex
  exact fun s us _ hl => .of_eq (h kV doc pm an cdv ct us hl)
/-- how an own error's __init__ is written -/
structure InitSt (st : Stmt) (qual sf par fld : Str) : Prop where
  ex : ∃ (msg : Str) (j : Nat) (a1 a2 : PySem.Arg) (p0 p1 p2 p3 p4 p5 q1 q2 q3 q4 : Pos), defArgs st = { posonlyargs := [], args := [a1, a2], vararg := none, kwonlyargs := [], kw_defaults := [], kwarg := none, defaults := [] } ∧ a1.arg = sf ∧ a2.arg = par ∧
    defBody st = [.Expr (.Call (.Attribute (.Call (.Name "super" p0) [] [] p1) "__init__" p2) [.Constant (.str msg) j p3] [] p4) p5, .Assign [.Attribute (.Name sf q1) fld q2] (.Name par q3) q4] ∧ PySem.VErr.MPlain (.Call (.Name "super" p0) [] [] p1) (.Constant (.str msg) j p3) "__init__" p2 p4
  k1 : (defScope st).kind = .function
  k2 : (defScope st).isCoroutine = false
  k3 : (defScope st).isGenerator = false
  k4 : ∀ y ∈ (defScope st).names, y.2 ≠ .cell
  k5 : (defScope st).names.lookup sf = some .local
  k6 : (defScope st).names.lookup par = some .local
  k7 : (defScope st).names.lookup ("super" : Str) = some .globalImplicit
  k8 : (defScope st).names.lookup ("__class__" : Str) = some .free
  bind : ∀ (kV doc pm : Value) (an : Option Addr) (cda cc : Addr) (ct u z : Value), bindArgs (PySem.W.ksFn "__init__" qual (defArgs st) (defBody st) (defScope st) .none kV doc pm an (.ref cda) ct cc) ⟨[u, z], []⟩ = pure [(sf, u), (par, z)]
  n1 : sf ≠ par
  n2 : (sf == ("__debug__" : Str)) = false
  n3 : (par == ("__debug__" : Str)) = false
theorem err_txt {K : PySem.W.Frag} {prog : Program} {mg : Str → Option Value} {C fI : Addr} {st : Stmt} {qual sf par fld : Str} {nm q : Str} {N : Addr} {bs bm : List Value} {sn : List Str} {sub : List Value} {ab : Bool} {col : Option Bool} {dd : Option Addr} {k0 k1 k2 k3 k5 : Option Value}
    {oc kV doc pm ct ccl cl : Value} {od an cdd cld : Option Addr} {cda cc : Addr} {osl ccs csl : Array (Option Value)} {vs : Array Value} {file : Str} {tf : Tok} (I : InitSt st qual sf par fld)
    (h1 : K.lookup C = some (excClassObj nm q C N bs bm true sn sub ab col dd k0 k1 k2 k3 k5 "ValueError.__new__")) (h2 : PySem.HandSPX.refsVE bm = true) (h3 : PySem.W.findIn K (.ref C) "__setattr__" = some (some (.builtin "object.__setattr__")))
    (h4 : PySem.W.findIn K (.ref C) fld = some none) (h5 : PySem.W.findIn K (.ref C) "__init__" = some (some (.ref fI))) (h6 : PySem.W.typeIn K (.ref fI) = some (.type "function")) (h7 : PySem.W.keepIn K (.ref C) = true)
    (h8 : PySem.W.subIn K (.ref C) (.type "BaseException") = some true) (h9 : PySem.W.typeIn K (.ref C) = some (.type "type")) (h10 : PySem.W.subIn K (.ref C) (.type "ValueError") = some true) (h11 : PySem.W.mroIn K C (.ref C) = some true)
    (h12 : PySem.W.ks_superIn K C C "__init__" = some (some (.builtin "ValueError.__init__"))) (h13 : PySem.W.nsIn K cStatics "thirdparty.any" = some none) (h14 : mg "super" = none) (h15 : (prog.main.scope.names.lookup ("super" : Str)).isSome = false)
    (h16 : K.lookup fI = some ⟨oc, od, .func (PySem.W.ksFn "__init__" qual (defArgs st) (defBody st) (defScope st) .none kV doc pm an (.ref cda) ct cc), osl⟩) (h17 : PySem.W.codeIn K (.ref cda) qual = true)
    (h18 : K.lookup cda = some ⟨ccl, cdd, .fields vs, ccs⟩) (h19 : vs[2]? = some (.str file tf)) (h20 : ((prog.main.file : Str) == file) = true) (h21 : K.lookup cc = some ⟨cl, cld, .cell (some (.ref C)), csl⟩) : PySem.VErr.Txt K prog mg C fI sf par fld := by
  obtain ⟨msg, j, a1, a2, p0, p1, p2, p3, p4, p5, q1, q2, q3, q4, e1, e2, e3, e4, e5⟩ := I.ex
  exact ⟨⟨nm, q, N, bs, bm, sn, sub, ab, col, dd, k0, k1, k2, k3, k5, h1, h2⟩, h3, h4, h5, h6, h7, h8, h9, h10, h11, h12, h13, h14, h15,
    ⟨qual, defArgs st, defBody st, defScope st, oc, kV, doc, pm, ct, od, an, cda, cc, osl, ccl, cl, cdd, cld, ccs, csl, vs, file, tf, msg, j, a1, a2, p0, p1, p2, p3, p4, p5, q1, q2, q3, q4, h16, h17, h18, h19, h20, h21, e1, e2, e3, e4, I.k1, I.k2, I.k3, I.k4, I.k5, I.k6, I.k7, I.k8,
      fun u z => I.bind kV doc pm an cda cc ct u z, e5, I.n1, I.n2, I.n3⟩⟩
end VM
end
section
set_option linter.all false
set_option maxRecDepth 100000
/-! VPure: how a mirror is computed: rules by which plain laws are shown of it. -/
namespace VM
open PySem (Str)
section
variable {σ σ1 σ2 σ3 : Ev} {a b : SM} {e e' : EM} {t : TM} {d : D} {r : RS} {i : Nat} {α : Type}
theorem seq_to (h : a σ = .nx σ1) (h2 : b σ1 = r) : sSeq a b σ = r := by
  show (match a σ with
    | .nx σ1 => b σ1
    | r => r) = r
  rw [h]
  exact h2
theorem seq_rt {v : D} (h : a σ = .rt v σ1) : sSeq a b σ = .rt v σ1 := by
  show (match a σ with
    | .nx σ1 => b σ1
    | r => r) = _
  rw [h]
theorem seq_exc {c : Nat} {fs : List (Str × D)} (h : a σ = .exc c fs σ1) : sSeq a b σ = .exc c fs σ1 := by
  show (match a σ with
    | .nx σ1 => b σ1
    | r => r) = _
  rw [h]
theorem if_t (h : t σ = .ok true σ1) (h2 : a σ1 = r) : sIf t a b σ = r := by
  show (t σ).st (fun c σ1 => if c = true then a σ1 else b σ1) = r
  rw [h]
  exact h2
theorem if_f (h : t σ = .ok false σ1) (h2 : b σ1 = r) : sIf t a b σ = r := by
  show (t σ).st (fun c σ1 => if c = true then a σ1 else b σ1) = r
  rw [h]
  exact h2
theorem set_to (h : e σ = .ok d σ1) : sSet i e σ = .nx (σ1.set i (.fr d)) := by
  show (e σ).st _ = _
  rw [h]
  rfl
theorem set_toL {l : LM} {ds : List D} (h : l σ = .ok ds σ1) : sSet i (eNew l) σ = .nx (σ1.set i (.fr (.lst ds))) := by
  refine set_to ?_
  show (l σ).bind _ = _
  rw [h]
  rfl
theorem new_to {l : LM} {ds : List D} (h : l σ = .ok ds σ1) : eNew l σ = .ok (.lst ds) σ1 := by
  show (l σ).bind _ = _
  rw [h]
  rfl
theorem own_to {l : LM} {ds : List D} (h : l σ = .ok ds σ1) : sOwn i l σ = .nx (σ1.set i (.ow (.lst ds))) := by
  show (l σ).st _ = _
  rw [h]
  rfl
theorem ret_to (h : e σ = .ok d σ1) : sRet e σ = .rt d σ1 := by
  show (e σ).st _ = _
  rw [h]
  rfl
theorem ret_exc {c : Nat} {fs : List (Str × D)} (h : e σ = .exc c fs σ1) : sRet e σ = .exc c fs σ1 := by
  show (e σ).st _ = _
  rw [h]
  rfl
theorem try_rt {sel : Nat → Option Bool} {hd : Nat → List (Str × D) → Option D} (h : a σ = .rt d σ1) : sTry a sel hd i σ = .rt d σ1 := by
  unfold sTry
  rw [h]
theorem try_exc {sel : Nat → Option Bool} {hd : Nat → List (Str × D) → Option D} {c : Nat} {fs : List (Str × D)} (h : a σ = .exc c fs σ1) (hs : sel c = some true) {s : Sl} (hi : σ1[i]? = some s) (hm : hd c fs = some d) : sTry a sel hd i σ = .rt d (σ1.set i .un) := by
  unfold sTry
  rw [h]
  simp only [hs, hi, hm]
theorem raise_to {c : Nat} {f : D → List (Str × D)} (h : e σ = .ok d σ1) : sRaise c f e σ = .exc c (f d) σ1 := by
  show (e σ).st _ = _
  rw [h]
  rfl
theorem app_to {ds : List D} {d0 : D} (h0 : σ[i]? = some (.ow (.lst ds))) (h : e σ = .ok d σ1) (h1 : σ1[i]? = some (.ow (.lst ds))) (hl : ds.length < 16777216) : sApp i e σ = .nx (σ1.set i (.ow (.lst (ds ++ [d])))) := by
  unfold sApp
  rw [h0]
  show (e σ).st _ = _
  rw [h]
  show (match σ1[i]? with
    | some (.ow (.lst ds)) => if ds.length < 16777216 then RS.nx (σ1.set i (.ow (.lst (ds ++ [d])))) else .stuck
    | _ => .stuck) = _
  rw [h1]
  exact if_pos hl
theorem put_to {j : EM} {k : Nat} {ds ds0 : List D} (h : e σ = .ok d σ1) (h0 : σ1[i]? = some (.ow (.lst ds0))) (hj : j σ1 = .ok (.int (k : Int)) σ2) (h1 : σ2[i]? = some (.ow (.lst ds))) (hk : k < ds.length) : sPut i j e σ = .nx (σ2.set i (.ow (.lst (ds.set k d)))) := by
  show (e σ).st _ = _
  rw [h]
  show (match σ1[i]? with
    | some (.ow (.lst _)) => (j σ1).st fun jd σ2 =>
      match σ2[i]?, jd with
      | some (.ow (.lst ds)), .int k => if 0 ≤ k ∧ k < (ds.length : Int) then RS.nx (σ2.set i (.ow (.lst (ds.set k.toNat d)))) else .stuck
      | _, _ => .stuck
    | _ => .stuck) = _
  rw [h0]
  show (j σ1).st _ = _
  rw [hj]
  show (match σ2[i]?, D.int (k : Int) with
      | some (.ow (.lst ds)), .int k => if 0 ≤ k ∧ k < (ds.length : Int) then RS.nx (σ2.set i (.ow (.lst (ds.set k.toNat d)))) else .stuck
      | _, _ => .stuck) = _
  rw [h1]
  exact if_pos ⟨by omega, by omega⟩
/-! expressions -/
theorem e1_to {f : D → Option D} {x : D} (h : e σ = .ok x σ1) (hf : f x = some d) : e1 f e σ = .ok d σ1 := by
  show (e σ).bind _ = _
  rw [h]
  show R.opt (f x) σ1 = _
  rw [hf]
  rfl
theorem e2_to {f : D → D → Option D} {x y : D} (h : e σ = .ok x σ1) (h' : e' σ1 = .ok y σ2) (hf : f x y = some d) : e2 f e e' σ = .ok d σ2 := by
  show (e σ).bind _ = _
  rw [h]
  show (e' σ1).bind _ = _
  rw [h']
  show R.opt (f x y) σ2 = _
  rw [hf]
  rfl
theorem eL_to {f : List D → Option D} {l : LM} {ds : List D} (h : l σ = .ok ds σ1) (hf : f ds = some d) : eL f l σ = .ok d σ1 := by
  show (l σ).bind _ = _
  rw [h]
  show R.opt (f ds) σ1 = _
  rw [hf]
  rfl
theorem cons_to {l : LM} {ds : List D} (h : e σ = .ok d σ1) (h2 : l σ1 = .ok ds σ2) : lCons e l σ = .ok (d :: ds) σ2 := by
  show (e σ).bind _ = _
  rw [h]
  show (l σ1).bind _ = _
  rw [h2]
  rfl
theorem nil_to : lNil σ = .ok [] σ := rfl
theorem m1_to {f : Str → D → Option D} {x : Str} {y : D} (h : e σ = .ok (.str x) σ1) (h' : e' σ1 = .ok y σ2) (hf : f x y = some d) : eM1 f e e' σ = .ok d σ2 := by
  show (e σ).bind _ = _
  rw [h]
  show (e' σ1).bind _ = _
  rw [h']
  show R.opt (f x y) σ2 = _
  rw [hf]
  rfl
theorem tE_to {k : Bool} (h : e σ = .ok (.bl k) σ1) : tE e σ = .ok k σ1 := by
  show (e σ).bind _ = _
  rw [h]
  rfl
theorem tru_to {f : D → Option Bool} {k : Bool} (h : e σ = .ok d σ1) (hf : f d = some k) : tTru f e σ = .ok k σ1 := by
  show (e σ).bind _ = _
  rw [h]
  show R.opt (f d) σ1 = _
  rw [hf]
  rfl
theorem tnot_to {k : Bool} (h : t σ = .ok k σ1) : tNot t σ = .ok (!k) σ1 := by
  show (t σ).bind _ = _
  rw [h]
  rfl
theorem or_t {t' : TM} (h : t σ = .ok true σ1) : tOr t t' σ = .ok true σ1 := by
  show (t σ).bind _ = _
  rw [h]
  rfl
theorem or_f {t' : TM} {k : Bool} (h : t σ = .ok false σ1) (h' : t' σ1 = .ok k σ2) : tOr t t' σ = .ok k σ2 := by
  show (t σ).bind _ = _
  rw [h]
  exact h'
theorem and_f {t' : TM} (h : t σ = .ok false σ1) : tAnd t t' σ = .ok false σ1 := by
  show (t σ).bind _ = _
  rw [h]
  rfl
theorem and_t {t' : TM} {k : Bool} (h : t σ = .ok true σ1) (h' : t' σ1 = .ok k σ2) : tAnd t t' σ = .ok k σ2 := by
  show (t σ).bind _ = _
  rw [h]
  exact h'
theorem eand_f {e' : EM} (h : e σ = .ok (.bl false) σ1) : eAnd e e' σ = .ok (.bl false) σ1 := by
  show (tE e σ).bind _ = _
  rw [tE_to h]
  rfl
theorem eand_t {e' : EM} {v : D} (h : e σ = .ok (.bl true) σ1) (h' : e' σ1 = .ok v σ2) : eAnd e e' σ = .ok v σ2 := by
  show (tE e σ).bind _ = _
  rw [tE_to h]
  exact h'
theorem eor_f {e' : EM} {v : D} (h : e σ = .ok (.bl false) σ1) (h' : e' σ1 = .ok v σ2) : eOr e e' σ = .ok v σ2 := by
  show (tE e σ).bind _ = _
  rw [tE_to h]
  exact h'
theorem eor_t {e' : EM} (h : e σ = .ok (.bl true) σ1) : eOr e e' σ = .ok (.bl true) σ1 := by
  show (tE e σ).bind _ = _
  rw [tE_to h]
  rfl
theorem enot_to {k : Bool} (h : e σ = .ok (.bl k) σ1) : eNot e σ = .ok (.bl (!k)) σ1 := by
  show (tE e σ).bind _ = _
  rw [tE_to h]
  rfl
theorem eif_t {v : D} (h : t σ = .ok true σ1) (h' : e σ1 = .ok v σ2) : eIf t e e' σ = .ok v σ2 := by
  show (t σ).bind _ = _
  rw [h]
  exact h'
theorem eif_f {v : D} (h : t σ = .ok false σ1) (h' : e' σ1 = .ok v σ2) : eIf t e e' σ = .ok v σ2 := by
  show (t σ).bind _ = _
  rw [h]
  exact h'
theorem call_ok {F : FM} {as : AM} {l : List Arg} {outs : List Sl} (h1 : as σ = .ok l σ1) (h2 : argsOk l σ1 = true) (h3 : F (l.map (Arg.sl σ1)) = .ok d outs) : eCall F as σ = .ok d (putOuts l outs σ1) := by
  show (as σ).bind _ = _
  rw [h1]
  show (if argsOk l σ1 = true then _ else R.stuck) = _
  rw [if_pos h2, h3]
theorem call_exc {F : FM} {as : AM} {l : List Arg} {outs : List Sl} {c : Nat} {fs : List (Str × D)} (h1 : as σ = .ok l σ1) (h2 : argsOk l σ1 = true) (h3 : F (l.map (Arg.sl σ1)) = .exc c fs outs) : eCall F as σ = .exc c fs (putOuts l outs σ1) := by
  show (as σ).bind _ = _
  rw [h1]
  show (if argsOk l σ1 = true then _ else R.stuck) = _
  rw [if_pos h2, h3]
theorem aD_to {as : AM} {l : List Arg} (h : e σ = .ok d σ1) (h2 : as σ1 = .ok l σ2) : aD e as σ = .ok (.dv d :: l) σ2 := by
  show (e σ).bind _ = _
  rw [h]
  show (as σ1).bind _ = _
  rw [h2]
  rfl
theorem aO_to {as : AM} {l : List Arg} (h : σ[i]? = some (.ow d)) (h2 : as σ = .ok l σ2) : aO i as σ = .ok (.ox i :: l) σ2 := by
  unfold aO
  rw [h]
  show (as σ).bind _ = _
  rw [h2]
  rfl
theorem sl_to {x : D} {f : D → Option Int → Option Int → Option D} {l h : OM} {lo hi : Option Int} (h1 : e σ = .ok x σ1) (h2 : l σ1 = .ok lo σ2) (h3 : h σ2 = .ok hi σ3) (hf : f x lo hi = some d) : eSl f e l h σ = .ok d σ3 := by
  show (e σ).bind _ = _
  rw [h1]
  show (l σ1).bind _ = _
  rw [h2]
  show (h σ2).bind _ = _
  rw [h3]
  show R.opt (f x lo hi) σ3 = _
  rw [hf]
  rfl
theorem oS_to {k : Int} (h : e σ = .ok (.int k) σ1) : oS e σ = .ok (some k) σ1 := by
  show (e σ).bind _ = _
  rw [h]
  rfl
theorem lD1_to (h : e σ = .ok d σ1) : lD (lCons e lNil) σ = .ok [d] σ1 := by
  show (lCons e lNil σ).bind _ = _
  rw [cons_to h nil_to]
  rfl
theorem aN_to : aNil σ = .ok [] σ := rfl
theorem make_ok {F : FM} {as : AM} {l : List Arg} {outs : List Sl} {c : Nat} (h1 : as σ = .ok l σ1) (h2 : argsOk l σ1 = true) (h3 : F (.ow (.ins c []) :: l.map (Arg.sl σ1)) = .ok .non (.ow d :: outs)) : eMake c F as σ = .ok d (putOuts l outs σ1) := by
  show (as σ).bind _ = _
  rw [h1]
  show (if argsOk l σ1 = true then _ else R.stuck) = _
  rw [if_pos h2, h3]
theorem fn_rt {n N : Nat} {io : List Nat} {m : SM} {args : List Sl} (h : m (args ++ List.replicate (N - n) .un) = .rt d σ1) : fnM n N io m args = .ok d (mask io n σ1) := by
  unfold fnM
  rw [h]
theorem fn_nx {n N : Nat} {io : List Nat} {m : SM} {args : List Sl} (h : m (args ++ List.replicate (N - n) .un) = .nx σ1) : fnM n N io m args = .ok .non (mask io n σ1) := by
  unfold fnM
  rw [h]
theorem fn_exc {n N : Nat} {io : List Nat} {m : SM} {args : List Sl} {c : Nat} {fs : List (Str × D)} (h : m (args ++ List.replicate (N - n) .un) = .exc c fs σ1) : fnM n N io m args = .exc c fs (mask io n σ1) := by
  unfold fnM
  rw [h]
theorem fnF_rt {n N : Nat} {io : List Nat} {m : SM} {args : List Sl} (h : m (args ++ List.replicate (N - n) .un) = .rt d σ1) : fnF n N io m args = .ok d (mask io n σ1) := by
  unfold fnF
  rw [h]
theorem retF_to {l : LM} {ds : List D} (h : l σ = .ok ds σ1) : sRetF l σ = .rt (.lst ds) σ1 := by
  show (l σ).st _ = _
  rw [h]
  rfl
theorem lD_to {l : LM} {ds : List D} (h : l σ = .ok ds σ1) (hl : ds.length ≤ 1000) : lD l σ = .ok ds σ1 := by
  show (l σ).bind _ = _
  rw [h]
  exact if_pos hl
theorem lCall_to {F : FM} {as : AM} {ds : List D} (h : eCall F as σ = .ok (.lst ds) σ1) : lCall F as σ = .ok ds σ1 := by
  show (eCall F as σ).bind _ = _
  rw [h]
  rfl
theorem callN_to {F : FM} {l : LM} {ds : List D} {outs : List Sl} (h : l σ = .ok ds σ1) (h2 : F [.ow (.lst ds)] = .ok d outs) : eCallN F l σ = .ok d σ1 := by
  show (l σ).bind _ = _
  rw [h]
  show (match F [.ow (.lst ds)] with
    | .ok d _ => R.ok d σ1
    | .exc c fs _ => .exc c fs σ1
    | .stuck => .stuck) = _
  rw [h2]
theorem it_to {ds : List D} (h : e σ = .ok d σ1) (hf : itD d = some ds) : lIt e σ = .ok ds σ1 := by
  show (e σ).bind _ = _
  rw [h]
  show R.opt (itD d) σ1 = _
  rw [hf]
  rfl
/-! loops -/
theorem forL_nx {tg : TgM} {body : SM} : ∀ (xs : List D) (I : Nat → Ev → Prop) (σ : Ev), I 0 σ → (∀ i x σ, xs[i]? = some x → I i σ → ∃ σ1 σ2, tg x σ = some σ1 ∧ (body σ1 = .nx σ2 ∨ body σ1 = .ct σ2) ∧ I (i + 1) σ2) →
    ∃ σ', forL tg body xs σ = .nx σ' ∧ I xs.length σ'
  | [], I, σ, h0, _ => ⟨σ, rfl, h0⟩
  | x :: xs, I, σ, h0, hs => by
    obtain ⟨σ1, σ2, h1, h2, h3⟩ := hs 0 x σ rfl h0
    obtain ⟨σ', g1, g2⟩ := forL_nx xs (fun i => I (i + 1)) σ2 h3 fun i y σ hi hI => hs (i + 1) y σ (by simpa using hi) hI
    refine ⟨σ', ?_, g2⟩
    unfold forL
    rw [h1]
    rcases h2 with h2 | h2
    · simp only [h2]; exact g1
    · simp only [h2]; exact g1
theorem forL_out {tg : TgM} {body : SM} {P : RS → Prop} (hP : ∀ σ : Ev, ¬ P (RS.nx σ) ∧ ¬ P (RS.bk σ) ∧ ¬ P (RS.ct σ)) : ∀ (k : Nat) (xs : List D) (x : D) (I : Nat → Ev → Prop) (σ : Ev), xs[k]? = some x → I 0 σ →
    (∀ i x σ, i < k → xs[i]? = some x → I i σ → ∃ σ1 σ2, tg x σ = some σ1 ∧ (body σ1 = .nx σ2 ∨ body σ1 = .ct σ2) ∧ I (i + 1) σ2) → (∀ σ, I k σ → ∃ σ1, tg x σ = some σ1 ∧ P (body σ1)) → P (forL tg body xs σ)
  | 0, [], x, I, σ, hk, _, _, _ => by cases hk
  | 0, y :: xs, x, I, σ, hk, h0, _, hx => by
    cases hk
    obtain ⟨σ1, h1, h2⟩ := hx σ h0
    unfold forL
    rw [h1]
    cases hb : body σ1 with
    | nx s => rw [hb] at h2; exact absurd h2 (hP s).1
    | bk s => rw [hb] at h2; exact absurd h2 (hP s).2.1
    | ct s => rw [hb] at h2; exact absurd h2 (hP s).2.2
    | rt d s => rw [hb] at h2; simp only [hb]; exact h2
    | exc c f s => rw [hb] at h2; simp only [hb]; exact h2
    | stuck => rw [hb] at h2; simp only [hb]; exact h2
  | k + 1, [], x, I, σ, hk, _, _, _ => by simp at hk
  | k + 1, y :: xs, x, I, σ, hk, h0, hs, hx => by
    obtain ⟨σ1, σ2, h1, h2, h3⟩ := hs 0 y σ (by omega) rfl h0
    have g := forL_out hP k xs x (fun i => I (i + 1)) σ2 (by simpa using hk) h3 (fun i z σ hi hz hI => hs (i + 1) z σ (by omega) (by simpa using hz) hI) hx
    unfold forL
    rw [h1]
    rcases h2 with h2 | h2
    · simp only [h2]; exact g
    · simp only [h2]; exact g
theorem for_nx {it : LM} {tg : TgM} {body : SM} {xs : List D} (h : it σ = .ok xs σ1) (I : Nat → Ev → Prop) (h0 : I 0 σ1) (hs : ∀ i x σ, xs[i]? = some x → I i σ → ∃ σ1 σ2, tg x σ = some σ1 ∧ (body σ1 = .nx σ2 ∨ body σ1 = .ct σ2) ∧ I (i + 1) σ2) :
    ∃ σ', sFor it tg body σ = .nx σ' ∧ I xs.length σ' := by
  obtain ⟨σ', g1, g2⟩ := forL_nx xs I σ1 h0 hs
  refine ⟨σ', ?_, g2⟩
  show (it σ).st _ = _
  rw [h]
  exact g1
theorem for_exc {it : LM} {tg : TgM} {body : SM} {xs : List D} {x : D} {c : Nat} {fs : List (Str × D)} (h : it σ = .ok xs σ1) (I : Nat → Ev → Prop) (k : Nat) (hk : xs[k]? = some x) (h0 : I 0 σ1)
    (hs : ∀ i x σ, i < k → xs[i]? = some x → I i σ → ∃ σ1 σ2, tg x σ = some σ1 ∧ (body σ1 = .nx σ2 ∨ body σ1 = .ct σ2) ∧ I (i + 1) σ2) (hx : ∀ σ, I k σ → ∃ σ1 σ2, tg x σ = some σ1 ∧ body σ1 = .exc c fs σ2) :
    ∃ σ', sFor it tg body σ = .exc c fs σ' := by
  have g := forL_out (tg := tg) (body := body) (P := fun r => ∃ σ', r = .exc c fs σ') (fun s => ⟨fun h => (by obtain ⟨_, z⟩ := h; cases z), ⟨fun h => (by obtain ⟨_, z⟩ := h; cases z), fun h => (by obtain ⟨_, z⟩ := h; cases z)⟩⟩) k xs x I σ1 hk h0 hs fun σ hI => by
    obtain ⟨s1, s2, h1, h2⟩ := hx σ hI
    exact ⟨s1, h1, s2, h2⟩
  obtain ⟨σ', g⟩ := g
  refine ⟨σ', ?_⟩
  show (it σ).st _ = _
  rw [h]
  exact g
/-! comprehensions over one name -/
theorem set_un {σ : Ev} (h : σ[i]? = some .un) : σ.set i .un = σ := by
  apply List.ext_getElem?
  intro j
  by_cases hj : i = j
  · subst hj
    rw [List.getElem?_set_self (List.getElem?_eq_some_iff.mp h).1, h]
  · rw [List.getElem?_set_ne hj]
theorem lcL_inv {e : EM} {P : D → D → Prop} (I : Ev → Prop) (hun : ∀ σ, I σ → σ[i]? = some .un) : ∀ (xs acc : List D) (σ : Ev), acc.length + xs.length ≤ 16777216 → I σ →
    (∀ x ∈ xs, ∀ σ, I σ → ∃ d σ3, e (σ.set i (.fr x)) = .ok d σ3 ∧ P x d ∧ I (σ3.set i .un)) → ∃ ds σ', lcL (gN i) tYes e [i] xs acc σ = .ok (acc ++ ds) σ' ∧ PySem.Paired P xs ds ∧ I σ'
  | [], acc, σ, _, h0, _ => ⟨[], σ, by unfold lcL; rw [List.append_nil], .nil, h0⟩
  | x :: xs, acc, σ, hl, h0, hs => by
    obtain ⟨d, σ3, h1, h2, h3⟩ := hs x List.mem_cons_self σ h0
    rw [List.length_cons] at hl
    obtain ⟨ds, σ', g1, g2, g3⟩ := lcL_inv I hun xs (acc ++ [d]) (σ3.set i .un) (by rw [List.length_append, List.length_singleton]; omega) h3 fun y hy => hs y (List.mem_cons_of_mem _ hy)
    refine ⟨d :: ds, σ', ?_, .cons h2 g2, g3⟩
    unfold lcL
    show (match e ((σ.set i .un).set i (.fr x)) with
        | .ok d σ3 => if acc.length < 16777216 then lcL (gN i) tYes e [i] xs (acc ++ [d]) (wipeW σ3 [i]) else R.stuck
        | _ => R.stuck) = _
    rw [List.set_set]
    rw [h1]
    show (if acc.length < 16777216 then lcL (gN i) tYes e [i] xs (acc ++ [d]) (σ3.set i .un) else R.stuck) = _
    rw [if_pos (by omega), g1, List.append_assoc]
    rfl
theorem lc_gen {it : LM} {xs : List D} {e : EM} {P : D → D → Prop} (h : it σ = .ok xs σ1) (I : Ev → Prop) (hun : ∀ σ, I σ → σ[i]? = some .un) (hl : xs.length ≤ 16777216) (h0 : I (σ1.set i .un))
    (hs : ∀ x ∈ xs, ∀ σ, I σ → ∃ d σ3, e (σ.set i (.fr x)) = .ok d σ3 ∧ P x d ∧ I (σ3.set i .un)) : ∃ ds σ', lLc it (gN i) tYes e [i] σ = .ok ds (restW σ1 σ' [i]) ∧ PySem.Paired P xs ds ∧ I σ' := by
  obtain ⟨ds, σ', g1, g2, g3⟩ := lcL_inv I hun xs [] (σ1.set i .un) (by simpa using hl) h0 hs
  refine ⟨ds, σ', ?_, g2, g3⟩
  show (it σ).bind _ = _
  rw [h]
  show (lcL (gN i) tYes e [i] xs [] (σ1.set i .un)).bind (fun ds σ2 => .ok ds (restW σ1 σ2 [i])) = _
  rw [g1]
  rfl
theorem lc_inv {it : LM} {xs : List D} {e : EM} {P : D → D → Prop} (h : it σ = .ok xs σ1) (I : Ev → Prop) (hun : ∀ σ, I σ → σ[i]? = some .un) (hl : xs.length ≤ 16777216) (h0 : I σ1)
    (hs : ∀ x ∈ xs, ∀ σ, I σ → ∃ d σ3, e (σ.set i (.fr x)) = .ok d σ3 ∧ P x d ∧ I (σ3.set i .un)) : ∃ ds σ', lLc it (gN i) tYes e [i] σ = .ok ds σ' ∧ PySem.Paired P xs ds ∧ I σ' := by
  obtain ⟨ds, σ', g1, g2, g3⟩ := lc_gen (i := i) h I hun hl (by rw [set_un (hun _ h0)]; exact h0) hs
  refine ⟨ds, σ', ?_, g2, g3⟩
  rw [g1]
  show R.ok ds (σ'.set i (match σ1[i]? with
    | some (.fr d) => .fr d
    | _ => .un)) = _
  rw [hun _ h0]
  show R.ok ds (σ'.set i .un) = _
  rw [set_un (hun _ g3)]
theorem paired_map {f : D → D} : ∀ {xs ds : List D}, PySem.Paired (fun x d => d = f x) xs ds → ds = xs.map f
  | _, _, .nil => rfl
  | _, _, .cons h t => by rw [h, paired_map t]; rfl
/-- .. that leaves the slots alone -/
theorem lc_map {it : LM} {xs : List D} {e : EM} (f : D → D) (h : it σ = .ok xs σ1) (hun : σ1[i]? = some .un ∨ ∃ d, σ1[i]? = some (.fr d)) (hl : xs.length ≤ 16777216)
    (hs : ∀ x ∈ xs, e (σ1.set i (.fr x)) = .ok (f x) (σ1.set i (.fr x))) : lLc it (gN i) tYes e [i] σ = .ok (xs.map f) σ1 := by
  have hlt : i < σ1.length := hun.elim (fun q => (List.getElem?_eq_some_iff.mp q).1) fun ⟨d, q⟩ => (List.getElem?_eq_some_iff.mp q).1
  have hun1 : (σ1.set i .un)[i]? = some .un := List.getElem?_set_self hlt
  obtain ⟨ds, σ', g1, g2, g3⟩ := lc_gen (i := i) (e := e) (P := fun x d => d = f x) h (fun s => s = σ1.set i .un) (fun s hs => by rw [hs]; exact hun1) hl rfl fun x hx s hs' => by
    subst hs'
    rw [List.set_set]
    exact ⟨f x, _, hs x hx, rfl, by rw [List.set_set]⟩
  rw [g1, paired_map g2, g3]
  show R.ok (xs.map f) ((σ1.set i .un).set i (match σ1[i]? with
    | some (.fr d) => .fr d
    | _ => .un)) = _
  rw [List.set_set]
  rcases hun with hu | ⟨d, hu⟩
  · rw [hu]
    show R.ok (xs.map f) (σ1.set i .un) = _
    rw [set_un hu]
  · rw [hu]
    show R.ok (xs.map f) (σ1.set i (.fr d)) = _
    congr 1
    apply List.ext_getElem?
    intro j
    by_cases hj : i = j
    · subst hj; rw [List.getElem?_set_self hlt, hu]
    · rw [List.getElem?_set_ne hj]
theorem enumD_at : ∀ (ds : List D) (k i : Nat), (enumD k ds)[i]? = (ds[i]?).map fun d => .tup [.int ((k + i : Nat) : Int), d]
  | [], k, i => by simp [enumD]
  | d :: ds, k, 0 => rfl
  | d :: ds, k, i + 1 => by
    show (enumD (k + 1) ds)[i]? = ((d :: ds)[i + 1]?).map _
    rw [enumD_at ds (k + 1) i, List.getElem?_cons_succ]
    congr 2
    funext d
    rw [show k + 1 + i = k + (i + 1) by omega]
theorem enumD_len : ∀ (ds : List D) (k : Nat), (enumD k ds).length = ds.length
  | [], k => rfl
  | d :: ds, k => congrArg (· + 1) (enumD_len ds (k + 1))
theorem rng_at {lo : Int} {n i : Nat} : (rng lo n)[i]? = if i < n then some (.int (lo + (i : Int))) else none := by
  unfold rng
  rw [List.getElem?_map]
  by_cases h : i < n
  · rw [List.getElem?_range h, if_pos h]; rfl
  · rw [List.getElem?_eq_none (by simpa using h), if_neg h]; rfl
theorem rng_len {lo : Int} {n : Nat} : (rng lo n).length = n := by unfold rng; rw [List.length_map, List.length_range]
theorem fld_to {c : Nat} {cs : List Nat} {f : Str} {e : EM} {d : D} {fs : List (Str × D)} (h : e σ = .ok d σ1) (h1 : σ1[i]? = some (.ow (.ins c fs))) (hl : fs.length < 1000 ∧ cs.contains c = true) : sFld cs i f e σ = .nx (σ1.set i (.ow (.ins c (putD f d fs)))) := by
  show (e σ).st _ = _
  rw [h]
  show (match σ1[i]? with
    | some (.ow (.ins c fs)) => if fs.length < 1000 ∧ cs.contains c = true then RS.nx (σ1.set i (.ow (.ins c (putD f d fs)))) else .stuck
    | _ => .stuck) = _
  rw [h1]
  exact if_pos hl
end
end VM
end
section
set_option linter.all false
set_option maxRecDepth 100000
set_option maxHeartbeats 4000000
/-! VText: texts of words and lines, slices, nested data, for plain laws. -/
namespace VM
open PySem (Str Txt.join Txt.split)
open TL
/-! slices -/
theorem cutG_drop {α : Type} (xs : List α) (k : Nat) : cutG xs (some (k : Int)) none = xs.drop k := by
  unfold cutG
  rw [HT.sIx_nat, HT.sIx_none]
  rcases Nat.le_total k xs.length with h | h
  · rw [Nat.min_eq_left h, List.take_of_length_le (by rw [List.length_drop]; exact Nat.le_refl _)]
  · rw [Nat.min_eq_right h, List.drop_length, List.drop_eq_nil_of_le h, List.take_nil]
theorem cutG_take {α : Type} (xs : List α) (k : Nat) : cutG xs none (some (k : Int)) = xs.take k := by
  unfold cutG
  rw [HT.sIx_nat, HT.sIx_none, List.drop_zero, Nat.sub_zero]
  rcases Nat.le_total k xs.length with h | h
  · rw [Nat.min_eq_left h]
  · rw [Nat.min_eq_right h, List.take_length, List.take_of_length_le h]
theorem atI_nat {α : Type} (xs : List α) (k : Nat) : L2.atI xs (k : Int) = xs[k]? := by
  unfold L2.atI L2.ixN
  rw [if_pos (by omega)]
  by_cases h : k < xs.length
  · rw [if_pos (by omega)]; rfl
  · rw [if_neg (by omega), List.getElem?_eq_none (by omega)]; rfl
theorem oMod_to {i j : Int} (h : 0 < j) : oMod (.int i) (.int j) = some (.int (i % j)) := if_pos h
theorem oDiv_to {i j : Int} (h : 0 < j) (h2 : j < 1073741824) : oDiv (.int i) (.int j) = some (.int (i / j)) := if_pos ⟨h, h2⟩
theorem oMul_r {x y : Int} (h : -18446744073709551616 < y ∧ y < 18446744073709551616) : oMul3 (.int x) (.int y) = some (.int (x * y)) := by
  show (match (match mulI (.int x) (.int y) with
    | some z => some z
    | none => mulL (.int x) (.int y)) with
    | some z => some z
    | none => mulS (.int x) (.int y)) = _
  rw [show mulI (.int x) (.int y) = some (.int (x * y)) from if_pos (.inr h)]
theorem oMul_l {x y : Int} (h : -18446744073709551616 < x ∧ x < 18446744073709551616) : oMul3 (.int x) (.int y) = some (.int (x * y)) := by
  show (match (match mulI (.int x) (.int y) with
    | some z => some z
    | none => mulL (.int x) (.int y)) with
    | some z => some z
    | none => mulS (.int x) (.int y)) = _
  rw [show mulI (.int x) (.int y) = some (.int (x * y)) from if_pos (.inl h)]
theorem lr1_c1 (n : Nat) : (-4611686018427387904 : Int) ≤ (n : Int) := Int.le_trans (by decide) (Int.natCast_nonneg n)
theorem lr1_c2 (n : Nat) (hn : n < 1000000) : (n : Int) < 4611686018427387904 := by omega
theorem lr1_j {e : EM} {σ σ1 : Ev} {j : Int} (h : e σ = .ok (.int j) σ1) (c : -4611686018427387904 ≤ j ∧ j < 4611686018427387904) : lR1 e σ = .ok (rng 0 j.toNat) σ1 := by
  unfold lR1
  rw [h]
  exact if_pos c
theorem lr1_to {e : EM} {σ σ1 : Ev} {n : Nat} (h : e σ = .ok (.int (n : Int)) σ1) (hn : n < 1000000) : lR1 e σ = .ok (rng 0 n) σ1 := lr1_j h ⟨lr1_c1 n, lr1_c2 n hn⟩
/-! texts -/
/-- the text of a number -/
def nm (n : Nat) : Str := Str.ofString (toString ((n : Nat) : Int))
theorem tl_nm (n : Nat) : tl (nm n) = numL n := tl_num n
theorem nm_len {n : Nat} (h : n < 100) : 1 ≤ (nm n).length ∧ (nm n).length ≤ 2 := by
  rw [len_tl, tl_nm]
  exact ⟨List.length_pos_iff.mpr (numL_ne n), numL_len (by decide) (by omega)⟩
theorem nm_inj {m n : Nat} (h : nm m = nm n) : m = n := numL_inj (by rw [← tl_nm, ← tl_nm, h])
/-- a word: no line's end, no space -/
def Wd (w : Str) : Prop := 10 ∉ tl w ∧ 32 ∉ tl w
theorem nm_wd (n : Nat) : Wd (nm n) := ⟨by rw [tl_nm]; exact numL_free (by omega), by rw [tl_nm]; exact numL_free (by omega)⟩
def ln (ws : List Str) : Str := Txt.join " " ws
def tx (rows : List (List Str)) : Str := Txt.join "\n" (rows.map ln)
theorem tl_ln (ws : List Str) : tl (ln ws) = joinL [32] (ws.map tl) := by
  unfold ln
  rw [join_eq, tl_join]
  rfl
theorem mem_joinL {S : List Nat} {c : Nat} : ∀ {ps : List (List Nat)}, c ∈ joinL S ps → c ∈ S ∨ ∃ p ∈ ps, c ∈ p
  | [], h => by cases h
  | [p], h => .inr ⟨p, List.mem_cons_self, h⟩
  | p :: q :: r, h => by
    have h' : c ∈ p ++ (S ++ joinL S (q :: r)) := h
    rcases List.mem_append.mp h' with h | h
    · exact .inr ⟨p, List.mem_cons_self, h⟩
    · rcases List.mem_append.mp h with h | h
      · exact .inl h
      · rcases mem_joinL h with h | ⟨z, h1, h2⟩
        · exact .inl h
        · exact .inr ⟨z, List.mem_cons_of_mem _ h1, h2⟩
theorem ln_no {ws : List Str} (h : ∀ w ∈ ws, Wd w) : 10 ∉ tl (ln ws) := fun m => by
  rw [tl_ln] at m
  rcases mem_joinL m with m | ⟨p, h1, h2⟩
  · exact absurd m (by decide)
  · obtain ⟨w, hw, rfl⟩ := List.mem_map.mp h1
    exact (h w hw).1 h2
theorem split_ln {ws : List Str} (hne : ws ≠ []) (h : ∀ w ∈ ws, Wd w) : Txt.split (ln ws) " " = ws := split_join (s := 32) (S := []) rfl (by decide +kernel) hne fun p hp => (h p hp).2
theorem split_tx {rows : List (List Str)} (hne : rows ≠ []) (h : ∀ r ∈ rows, ∀ w ∈ r, Wd w) : Txt.split (tx rows) "\n" = rows.map ln := split_join (s := 10) (S := []) rfl (by decide +kernel) (by simpa using hne) fun p hp => by
  obtain ⟨r, hr, rfl⟩ := List.mem_map.mp hp
  exact ln_no (h r hr)
theorem joinL_len {S : List Nat} {b : Nat} : ∀ {ps : List (List Nat)}, (∀ p ∈ ps, p.length ≤ b) → (joinL S ps).length ≤ ps.length * (b + S.length)
  | [], _ => Nat.zero_le _
  | [p], h => by
    have := h p List.mem_cons_self
    show p.length ≤ 1 * (b + S.length)
    omega
  | p :: q :: r, h => by
    have h1 := h p List.mem_cons_self
    have h2 := joinL_len (S := S) (b := b) (ps := q :: r) fun z hz => h z (List.mem_cons_of_mem _ hz)
    show (p ++ (S ++ joinL S (q :: r))).length ≤ _
    rw [List.length_append, List.length_append, List.length_cons, Nat.add_mul, Nat.one_mul]
    omega
theorem len_join {y : Str} {b : Nat} {ps : List Str} (h : ∀ p ∈ ps, p.length ≤ b) : (Txt.join y ps).length ≤ ps.length * (b + y.length) := by
  rw [len_tl, join_eq, tl_join]
  have := joinL_len (S := tl y) (b := b) (ps := ps.map tl) fun p hp => by
    obtain ⟨w, hw, rfl⟩ := List.mem_map.mp hp
    rw [← len_tl]
    exact h w hw
  rw [List.length_map, ← len_tl] at this
  exact this
theorem sum_le {b : Nat} : ∀ {l : List Nat}, (∀ x ∈ l, x ≤ b) → l.sum ≤ l.length * b
  | [], _ => Nat.zero_le _
  | x :: l, h => by
    have h1 := h x List.mem_cons_self
    have h2 := sum_le (l := l) fun y hy => h y (List.mem_cons_of_mem _ hy)
    rw [List.sum_cons, List.length_cons, Nat.add_mul, Nat.one_mul]
    omega
theorem strsD_map : ∀ ys : List Str, strsD (ys.map D.str) = some ys
  | [] => rfl
  | y :: ys => by
    show (strsD (ys.map D.str)).map (y :: ·) = _
    rw [strsD_map ys]
    rfl
theorem mJoin_to {x : Str} {ys : List Str} {b : Nat} (h : ∀ y ∈ ys, y.length ≤ b) (hb : ys.length * (b + x.length) ≤ 16777216) : mJoin x (.lst (ys.map D.str)) = some (.str (Txt.join x ys)) := by
  show (strsD (ys.map D.str)).bind _ = _
  rw [strsD_map]
  show (if (ys.map (·.length)).sum + ys.length * x.length ≤ 16777216 then some (D.str (Txt.join x ys)) else none) = _
  rw [if_pos]
  have := sum_le (b := b) (l := ys.map (·.length)) fun z hz => by
    obtain ⟨w, hw, rfl⟩ := List.mem_map.mp hz
    exact h w hw
  rw [List.length_map] at this
  rw [Nat.mul_add] at hb
  omega
theorem mSplit_to {x y : Str} (h : (y.length == 0) = false) (hx : x.length + 2 ≤ 16777216) : mSplit x (.str y) = some (.lst ((Txt.split x y).map D.str)) := if_pos ⟨h, hx⟩
theorem ln_app {ws : List Str} (h : ws ≠ []) (w : Str) : ln ws ++ (" " ++ w) = ln (ws ++ [w]) := by
  apply ext_tl
  rw [tl_append, tl_append, tl_ln, tl_ln]
  induction ws with
  | nil => exact absurd rfl h
  | cons a r ih =>
    cases r with
    | nil => rfl
    | cons b r =>
      have := ih (by simp)
      show (tl a ++ ([32] ++ joinL [32] ((b :: r).map tl))) ++ _ = tl a ++ ([32] ++ joinL [32] ((b :: r ++ [w]).map tl))
      rw [← this, List.append_assoc, List.append_assoc]
theorem ln_cons {ws : List Str} (h : ws ≠ []) (w : Str) : ln (w :: ws) = w ++ (" " ++ ln ws) := by
  apply ext_tl
  rw [tl_append, tl_append, tl_ln, tl_ln]
  cases ws with
  | nil => exact absurd rfl h
  | cons a r => rfl
theorem tx_app {rows : List (List Str)} (h : rows ≠ []) (r : List Str) : tx rows ++ ("\n" ++ ln r) = tx (rows ++ [r]) := by
  apply ext_tl
  unfold tx
  rw [join_eq, join_eq, tl_append, tl_append, tl_join, tl_join]
  induction rows with
  | nil => exact absurd rfl h
  | cons a q ih =>
    cases q with
    | nil => rfl
    | cons b q =>
      have := ih (by simp)
      show (tl (ln a) ++ (tl "\n" ++ joinL (tl "\n") (((b :: q).map ln).map tl))) ++ _ = tl (ln a) ++ (tl "\n" ++ joinL (tl "\n") (((b :: q ++ [r]).map ln).map tl))
      rw [← this, List.append_assoc, List.append_assoc]
/-! nested data -/
section
variable {α : Type} {f : α → D}
theorem datDs_map : ∀ {l : List α}, (∀ x ∈ l, datD (f x) = true) → datDs (l.map f) = true
  | [], _ => rfl
  | x :: l, h => by
    show (datD (f x) && datDs (l.map f)) = true
    rw [h x List.mem_cons_self, datDs_map (l := l) fun y hy => h y (List.mem_cons_of_mem _ hy)]
    rfl
theorem lay_map : ∀ {l : List α}, (∀ x ∈ l, (pd (f x)).canLay0 = true) → PySem.PyData.canLayAll0 (pds (l.map f)) = true
  | [], _ => by
    show PySem.PyData.canLayAll0 (pds []) = true
    rw [pds, PySem.PyData.canLayAll0]
  | x :: l, h => by
    show PySem.PyData.canLayAll0 (pds (f x :: l.map f)) = true
    rw [pds, PySem.PyData.canLayAll0, h x List.mem_cons_self, lay_map (l := l) fun y hy => h y (List.mem_cons_of_mem _ hy)]
    rfl
theorem dep_map {k : Nat} : ∀ {l : List α}, (∀ x ∈ l, (pd (f x)).depth ≤ k) → PySem.PyData.depthAll (pds (l.map f)) ≤ k
  | [], _ => by
    show PySem.PyData.depthAll (pds []) ≤ k
    rw [pds, PySem.PyData.depthAll]
    exact Nat.zero_le _
  | x :: l, h => by
    show PySem.PyData.depthAll (pds (f x :: l.map f)) ≤ k
    rw [pds, PySem.PyData.depthAll]
    exact Nat.max_le.mpr ⟨h x List.mem_cons_self, dep_map (l := l) fun y hy => h y (List.mem_cons_of_mem _ hy)⟩
end
theorem eqD_refl {x : D} (h1 : seqD x = true) (h2 : datD x = true) (h3 : (pd x).canLay0 = true) (h4 : (pd x).depth ≤ 64) : eqD x x = some (.bl true) := by
  have hs : PySem.SeqAt.shaped (pd x) = true := by
    unfold PySem.SeqAt.shaped
    rw [h3, decide_eq_true h4]
    rfl
  unfold eqD
  rw [if_pos ⟨h1, h1, h2, h2, hs, hs⟩, PySem.SeqAt.eqv_refl _ h3]
end VM
end
section
set_option linter.all false
set_option maxRecDepth 100000
/-! the mirror of k04, printed by gen.py -/
namespace K04
open VM
def sel_BackError : Nat → Option Bool
  | 1 => some true
  | 2 => some true
  | _ => none
def sel_BadDevice : Nat → Option Bool
  | 1 => some true
  | 2 => some false
  | _ => none
def sel_BadText : Nat → Option Bool
  | 1 => some false
  | 2 => some true
  | _ => none
def cs_at : List Nat := [1, 2]
def selO : Nat → Nat → Option Bool
  | 3, 3 => some true
  | _, _ => none
def b_is_sequence : SM := (sSeq (sRet (eL cIsi (lCons (eV 0) (lCons (eTup (lCons (eC (.ty "list")) (lCons (eC (.ty "tuple")) lNil))) lNil)))) sNext)
def f_is_sequence : FM := fnM 1 1 [] b_is_sequence
def b_is_integer : SM := (sSeq (sRet (eAnd (eL cIsi (lCons (eV 0) (lCons (eC (.ty "int")) lNil))) (eNot (eL cIsi (lCons (eV 0) (lCons (eC (.ty "bool")) lNil)))))) sNext)
def f_is_integer : FM := fnM 1 1 [] b_is_integer
def b_is_number : SM := (sSeq (sRet (eAnd (eCall f_is_integer (aD (eV 0) aNil)) (e2 oGe (eV 0) (eC (.int 0))))) sNext)
def f_is_number : FM := fnM 1 1 [] b_is_number
def b_is_table : SM := (sSeq (sIf (tOr (tNot (tTru truD (eCall f_is_sequence (aD (eV 0) aNil)))) (tOr (tNot (tE (eChain oLe oLe (eC (.int 1)) (eL cLen (lCons (eV 0) lNil)) (eC (.int 60))))) (tAnd (tE (e2 oNotN (eV 1) (eC .non))) (tE (e2 (orO neS neD) (eL cLen (lCons (eV 0) lNil)) (eV 1)))))) (sSeq (sRet (eC (.bl false))) sNext) sNext) (sSeq (sRet (eL cAll (lCons (eNew (lLc (lIt (eV 0)) (gN 2) tYes (eAnd (eCall f_is_number (aD (eV 2) aNil)) (e2 oLt (eV 2) (eL cLen (lCons (eV 0) lNil)))) [2])) lNil))) sNext))
def f_is_table : FM := fnM 2 3 [] b_is_table
def b_Device___init : SM := (sSeq (sIf (tOr (tNot (tTru truD (eCall f_is_sequence (aD (eV 1) aNil)))) (tNot (tE (eChain oLe oLe (eC (.int 1)) (eL cLen (lCons (eV 1) lNil)) (eL cLen (lCons (eC (.str "abcde")) lNil)))))) (sSeq (sRaise 1 (fun d => [("at", d)]) (e1 oNeg (eC (.int 1)))) sNext) sNext) (sSeq (sFor (lEnum (eV 1)) (gT [(gN 2), (gN 3)]) (sSeq (sIf (tNot (tTru truD (eCall f_is_table (aD (eV 3) (aD (eIf (tE (e2 oGt (eV 2) (eC (.int 0)))) (eL cLen (lCons (e2 oIx (eV 1) (eC (.int 0))) lNil)) (eC .non)) aNil))))) (sSeq (sRaise 1 (fun d => [("at", d)]) (eV 2)) sNext) sNext) sNext)) (sSeq (sFld [3] 0 "states" (eL cLen (lCons (e2 oIx (eV 1) (eC (.int 0))) lNil))) (sSeq (sFld [3] 0 "signals" (eSl oSl (eC (.str "abcde")) oN (oS (eL cLen (lCons (eV 1) lNil))))) (sSeq (sFld [3] 0 "tables" (eL cTup (lCons (eNew (lLc (lIt (eV 1)) (gN 3) tYes (eL cTup (lCons (eV 3) lNil)) [3])) lNil))) sNext)))))
def f_Device___init : FM := fnM 2 4 [0] b_Device___init
def b_is_text : SM := (sSeq (sRet (eL cIsi (lCons (eV 0) (lCons (eC (.ty "str")) lNil)))) sNext)
def f_is_text : FM := fnM 1 1 [] b_is_text
def b_read_count : SM := (sSeq (sIf (tOr (tNot (tE (eChain oLe oLe (eC (.int 1)) (eL cLen (lCons (eV 0) lNil)) (eC (.int 2))))) (tNot (tTru truD (eL cAll (lCons (eNew (lLc (lIt (eV 0)) (gN 3) tYes (e2 oIn (eV 3) (eC (.str "0123456789"))) [3])) lNil))))) (sSeq (sRet (eC .non)) sNext) sNext) (sSeq (sSet 2 (eL cInt (lCons (eV 0) lNil))) (sSeq (sRet (eIf (tAnd (tE (e2 (orO eqS eqD) (eL cStr (lCons (eV 2) lNil)) (eV 0))) (tE (e2 oLt (eV 2) (eV 1)))) (eV 2) (eC .non))) sNext)))
def f_read_count : FM := fnM 2 4 [] b_read_count
def b_read_device : SM := (sSeq (sIf (tNot (tTru truD (eCall f_is_text (aD (eV 0) aNil)))) (sSeq (sRaise 2 (fun d => [("at", d)]) (eC (.int 0))) sNext) sNext) (sSeq (sSet 1 (eNew (lLc (lIt (eM1 mSplit (eV 0) (eC (.str "\n")))) (gN 7) tYes (eM1 mSplit (eV 7) (eC (.str " "))) [7]))) (sSeq (sSet 2 (eIf (tAnd (tE (e2 (orO eqS eqD) (eL cLen (lCons (e2 oIx (eV 1) (eC (.int 0))) lNil)) (eC (.int 2)))) (tE (e2 (orO eqS eqD) (e2 oIx (e2 oIx (eV 1) (eC (.int 0))) (eC (.int 0))) (eC (.str "states"))))) (eCall f_read_count (aD (e2 oIx (e2 oIx (eV 1) (eC (.int 0))) (eC (.int 1))) (aD (e2 oAdd (eC (.int 60)) (eC (.int 1))) aNil))) (eC .non))) (sSeq (sIf (tOr (tE (e2 oIsN (eV 2) (eC .non))) (tE (e2 (orO eqS eqD) (eV 2) (eC (.int 0))))) (sSeq (sRaise 2 (fun d => [("at", d)]) (eC (.int 1))) sNext) sNext) (sSeq (sIf (tE (e2 (orO eqS eqD) (eL cLen (lCons (eV 1) lNil)) (eC (.int 1)))) (sSeq (sRaise 2 (fun d => [("at", d)]) (eC (.int 2))) sNext) sNext) (sSeq (sOwn 3 (lD lNil)) (sSeq (sFor (lEnum (eSl oSl (eV 1) (oS (eC (.int 1))) oN)) (gT [(gN 4), (gN 5)]) (sSeq (sSet 6 (eNew (lLc (lIt (eSl oSl (eV 5) (oS (eC (.int 1))) oN)) (gN 8) tYes (eCall f_read_count (aD (eV 8) (aD (eV 2) aNil))) [8]))) (sSeq (sIf (tOr (tE (e2 oGe (eV 4) (eL cLen (lCons (eC (.str "abcde")) lNil)))) (tOr (tE (e2 (orO neS neD) (e2 oIx (eV 5) (eC (.int 0))) (e2 oIx (eC (.str "abcde")) (eV 4)))) (tOr (tE (e2 (orO neS neD) (eL cLen (lCons (eV 6) lNil)) (eV 2))) (tE (e2 oIn (eC .non) (eV 6)))))) (sSeq (sRaise 2 (fun d => [("at", d)]) (e2 oAdd (eV 4) (eC (.int 2)))) sNext) sNext) (sSeq (sApp 3 (eV 6)) sNext)))) (sSeq (sRet (eMake 3 f_Device___init (aD (eFz 3) aNil))) sNext))))))))
def f_read_device : FM := fnM 1 9 [] b_read_device
def b_Device___eq : SM := (sSeq (sRet (eAnd (eL (isO selO) (lCons (eV 1) (lCons (eC (.cl 3)) lNil))) (e2 (orO eqS eqD) (e1 (fldD [3] "tables") (eV 0)) (e1 (fldD [3] "tables") (eV 1))))) sNext)
def f_Device___eq : FM := fnM 2 2 [] b_Device___eq
def b__law_reads : SM := (sSeq (sTry (sSeq (sRet (eCall f_read_device (aD (eV 0) aNil))) sNext) sel_BadText (fun c fs => (xIf (xAnd (xIs sel_BackError c) (xNot (xIs sel_BadDevice c))) (xFld cs_at "at" c fs) (some (.str "wrong")))) 1) sNext)
def f__law_reads : FM := fnM 1 2 [] b__law_reads
def b__law_take : SM := (sSeq (sIf (tE (e2 oGt (eIxO ixO 0 (eC (.int 0))) (eC (.int 0)))) (sSeq (sSet 3 (e2 oMod (eL cInt (lCons (eIxO ixO 0 (eC (.int 0))) lNil)) (eV 1))) (sSeq (sPut 0 (eC (.int 0)) (e2 oDiv (eIxO ixO 0 (eC (.int 0))) (eV 1))) (sSeq (sRet (eV 3)) sNext))) sNext) (sSeq (sPut 0 (eC (.int 2)) (e2 oAdd (eIxO ixO 0 (eC (.int 2))) (eC (.int 1)))) (sSeq (sSet 2 (e2 oMod (eL cInt (lCons (e2 oAdd (e2 oMul3 (e2 oAdd (eIxO ixO 0 (eC (.int 1))) (e2 oMul3 (eC (.int 70001)) (eIxO ixO 0 (eC (.int 2))))) (eC (.int 60089))) (eC (.int 43))) lNil)) (eC (.int 2147483497)))) (sSeq (sPut 0 (eC (.int 1)) (e2 oAdd (e2 oMod (eL cInt (lCons (e2 oAdd (e2 oMul3 (eV 2) (eC (.int 47059))) (eC (.int 20011))) lNil)) (eC (.int 2147483543))) (eC (.int 1)))) (sSeq (sRet (e2 oMod (eL cInt (lCons (e2 oDiv (e2 oAdd (e2 oMul3 (eV 2) (eC (.int 2147483629))) (eIxO ixO 0 (eC (.int 1)))) (eC (.int 8209))) lNil)) (eV 1))) sNext)))))
def f__law_take : FM := fnM 2 4 [0] b__law_take
def b__law_pick : SM := (sSeq (sRet (e2 oIx (eV 1) (eCall f__law_take (aO 0 (aD (eL cLen (lCons (eV 1) lNil)) aNil))))) sNext)
def f__law_pick : FM := fnM 2 2 [0] b__law_pick
def b__law_tables : SM := (sSeq (sSet 3 (e2 oAdd (eC (.int 1)) (eCall f__law_take (aO 0 (aD (eV 1) aNil))))) (sSeq (sOwn 4 (lD lNil)) (sSeq (sFor (lR1 (eV 2)) (gN 5) (sSeq (sSet 6 (eCall f__law_pick (aO 0 (aD (eNew (lD (lCons (eC (.int 0)) (lCons (eC (.int 0)) (lCons (eC (.int 1)) (lCons (eC (.int 1)) (lCons (eC (.int 2)) lNil))))))) aNil)))) (sSeq (sIf (tE (e2 (orO (orO eqS eqD) (eqI 3 f_Device___eq)) (eV 6) (eC (.int 0)))) (sSeq (sApp 4 (eNew (lLc (lR1 (eV 3)) (gN 8) tYes (eCall f__law_take (aO 0 (aD (eV 3) aNil))) [8]))) sNext) (sSeq (sIf (tE (e2 (orO (orO eqS eqD) (eqI 3 f_Device___eq)) (eV 6) (eC (.int 1)))) (sSeq (sApp 4 (eNew (lLc (lR1 (eV 3)) (gN 8) tYes (eIf (tE (e2 (orO (orO eqS eqD) (eqI 3 f_Device___eq)) (eCall f__law_take (aO 0 (aD (eC (.int 2)) aNil))) (eC (.int 0)))) (eV 8) (eCall f__law_take (aO 0 (aD (eV 3) aNil)))) [8]))) sNext) (sSeq (sSet 7 (eCall f__law_take (aO 0 (aD (eV 3) aNil)))) (sSeq (sApp 4 (eNew (lLc (lR1 (eV 3)) (gN 8) tYes (e2 oMod (eL cInt (lCons (e2 oAdd (eV 8) (eV 7)) lNil)) (eV 3)) [8]))) sNext))) sNext)) sNext))) (sSeq (sRet (eFz 4)) sNext))))
def f__law_tables : FM := fnM 3 9 [0] b__law_tables
def b_device_text : SM := (sSeq (sOwn 1 (lD (lCons (eJ2 (eC (.str "states ")) (e1 fmtD (e1 (fldD [3] "states") (eV 0)))) lNil))) (sSeq (sFor (lZip zipST (e1 (fldD [3] "signals") (eV 0)) (e1 (fldD [3] "tables") (eV 0))) (gT [(gN 2), (gN 3)]) (sSeq (sApp 1 (eM1 mJoin (eC (.str " ")) (e2 oAdd (eNew (lD (lCons (eV 2) lNil))) (eNew (lLc (lIt (eV 3)) (gN 4) tYes (eL cStr (lCons (eV 4) lNil)) [4]))))) sNext)) (sSeq (sRet (eM1 mJoin (eC (.str "\n")) (eFz 1))) sNext)))
def f_device_text : FM := fnM 1 5 [] b_device_text
def b__law_case_right : SM := (sSeq (sSet 1 (eCall f__law_tables (aO 0 (aD (eC (.int 12)) (aD (e2 oAdd (eC (.int 1)) (eCall f__law_take (aO 0 (aD (eC (.int 5)) aNil)))) aNil))))) (sSeq (sSet 2 (eMake 3 f_Device___init (aD (eV 1) aNil))) (sSeq (sOwn 3 (lD (lCons (e2 oAdd (eC (.str "states ")) (eL cStr (lCons (e1 (fldD [3] "states") (eV 2)) lNil))) lNil))) (sSeq (sFor (lR1 (eL cLen (lCons (eV 1) lNil))) (gN 4) (sSeq (sApp 3 (eM1 mJoin (eC (.str " ")) (e2 oAdd (eNew (lD (lCons (e2 oIx (eC (.str "abcde")) (eV 4)) lNil))) (eNew (lLc (lIt (e2 oIx (eV 1) (eV 4))) (gN 10) tYes (eL cStr (lCons (eV 10) lNil)) [10]))))) sNext)) (sSeq (sSet 5 (eM1 mJoin (eC (.str "\n")) (eFz 3))) (sSeq (sIf (tOr (tE (e2 (orO (orO neS neD) (neI 3 f_Device___eq)) (eCall f_device_text (aD (eV 2) aNil)) (eV 5))) (tOr (tE (e2 (orO (orO neS neD) (neI 3 f_Device___eq)) (eCall f__law_reads (aD (eV 5) aNil)) (eV 2))) (tOr (tE (e2 (orO (orO neS neD) (neI 3 f_Device___eq)) (eCall f__law_reads (aD (eC (.int 0)) aNil)) (eC (.int 0)))) (tOr (tE (e2 (orO (orO neS neD) (neI 3 f_Device___eq)) (eCall f__law_reads (aD (eC .non) aNil)) (eC (.int 0)))) (tE (e2 (orO (orO neS neD) (neI 3 f_Device___eq)) (eCall f__law_reads (aD (eNew (lD (lCons (eC (.str "states 1")) lNil))) aNil)) (eC (.int 0)))))))) (sSeq (sRet (eC (.bl false))) sNext) sNext) (sSeq (sSet 4 (eCall f__law_take (aO 0 (aD (eL cLen (lCons (eFz 3) lNil)) aNil)))) (sSeq (sSet 6 (e2 oIx (eFz 3) (eV 4))) (sSeq (sSet 7 (eM1 mJoin (eC (.str " ")) (eSl oSl (eM1 mSplit (eV 6) (eC (.str " "))) oN (oS (e2 oSub (eL cLen (lCons (eM1 mSplit (eV 6) (eC (.str " "))) lNil)) (eC (.int 1))))))) (sSeq (sSet 8 (eNew (lD (lCons (e2 oAdd (eV 6) (eC (.str " "))) (lCons (e2 oAdd (eC (.str " ")) (eV 6)) (lCons (eC (.str "")) (lCons (e2 oAdd (eV 6) (eC (.str " 0"))) (lCons (eSl oSl (eV 6) (oS (eC (.int 1))) oN) (lCons (eM0 mUpper (eV 6)) (lCons (eV 7) (lCons (e2 oAdd (eV 7) (eC (.str " "))) (lCons (e2 oAdd (eV 7) (eC (.str " 00"))) (lCons (e2 oAdd (eV 7) (eC (.str " 61"))) (lCons (e2 oAdd (eV 7) (eC (.str " -1"))) (lCons (e2 oAdd (eV 7) (eC (.str " x"))) (lCons (e2 oAdd (eV 6) (eC (.str "?"))) lNil)))))))))))))))) (sSeq (sIf (tE (e2 (orO (orO neS neD) (neI 3 f_Device___eq)) (eCall f__law_reads (aD (eM1 mJoin (eC (.str "\n")) (e2 oAdd (e2 oAdd (eSl oSl (eFz 3) oN (oS (eV 4))) (eNew (lD (lCons (eCall f__law_pick (aO 0 (aD (eV 8) aNil))) lNil)))) (eSl oSl (eFz 3) (oS (e2 oAdd (eV 4) (eC (.int 1)))) oN))) aNil)) (e2 oAdd (eV 4) (eC (.int 1))))) (sSeq (sRet (eC (.bl false))) sNext) sNext) (sSeq (sIf (tOr (tE (e2 (orO (orO neS neD) (neI 3 f_Device___eq)) (eCall f__law_reads (aD (e2 oAdd (eV 5) (eC (.str "\n"))) aNil)) (e2 oAdd (eL cLen (lCons (eFz 3) lNil)) (eC (.int 1))))) (tOr (tE (e2 (orO (orO neS neD) (neI 3 f_Device___eq)) (eCall f__law_reads (aD (e2 oIx (eFz 3) (eC (.int 0))) aNil)) (eC (.int 2)))) (tE (e2 (orO (orO neS neD) (neI 3 f_Device___eq)) (eCall f__law_reads (aD (eC (.str "")) aNil)) (eC (.int 1)))))) (sSeq (sRet (eC (.bl false))) sNext) sNext) (sSeq (sIf (tE (e2 (orO (orO neS neD) (neI 3 f_Device___eq)) (eCall f__law_reads (aD (eM1 mJoin (eC (.str "\n")) (e2 oAdd (eSl oSl (eFz 3) oN (oS (e2 oAdd (eV 4) (eC (.int 1))))) (eSl oSl (eFz 3) (oS (eV 4)) oN))) aNil)) (e2 oAdd (eV 4) (eC (.int 2))))) (sSeq (sRet (eC (.bl false))) sNext) sNext) (sSeq (sFor (lIt (eTup (lCons (eC (.str "states 0\na")) (lCons (eC (.str "states 61\na")) (lCons (eC (.str "states 01\na 0")) (lCons (eC (.str "state 1\na 0")) (lCons (eC (.str "states 1 \na 0")) (lCons (eC (.str "states -1\na 0")) lNil)))))))) (gN 9) (sSeq (sIf (tE (e2 (orO (orO neS neD) (neI 3 f_Device___eq)) (eCall f__law_reads (aD (eV 9) aNil)) (eC (.int 1)))) (sSeq (sRet (eC (.bl false))) sNext) sNext) sNext)) (sSeq (sRet (eAnd (e2 (orO (orO eqS eqD) (eqI 3 f_Device___eq)) (eCall f__law_reads (aD (eC (.str "states 1\nb 0")) aNil)) (eC (.int 2))) (eAnd (e2 (orO (orO eqS eqD) (eqI 3 f_Device___eq)) (eCall f__law_reads (aD (eC (.str "states 1\na 0\nc 0")) aNil)) (eC (.int 3))) (e2 (orO (orO eqS eqD) (eqI 3 f_Device___eq)) (eCall f__law_reads (aD (eC (.str "states 1\na 1")) aNil)) (eC (.int 2)))))) sNext)))))))))))))))
def f__law_case_right : FM := fnM 1 11 [0] b__law_case_right
def b__law_box : SM := (sSeq (sSet 2 (e2 oAdd (e2 oMul3 (eC (.int 5227)) (eV 1)) (eC (.int 631)))) (sSeq (sIf (tE (e2 oLt (eV 1) (eL cLen (lCons (eV 0) lNil)))) (sSeq (sSet 2 (eL cAbs (lCons (e2 oIx (eV 0) (eV 1)) lNil))) sNext) (sSeq (sIf (tE (e2 oGt (eL cLen (lCons (eV 0) lNil)) (eC (.int 0)))) (sSeq (sSet 2 (e2 oAdd (eV 2) (e2 oMul3 (e2 oMod (eL cInt (lCons (eL cAbs (lCons (e2 oIx (eV 0) (e2 oMod (eL cInt (lCons (eV 1) lNil)) (eL cLen (lCons (eV 0) lNil)))) lNil)) lNil)) (eC (.int 2147483543))) (eC (.int 42157))))) sNext) sNext) sNext)) (sSeq (sRetF (lD (lCons (e2 oIx (eNew (lD (lCons (eC (.int 0)) (lCons (eV 2) lNil)))) (eL cInt (lCons (e2 oGe (eV 2) (e2 oPow (eC (.int 10)) (eC (.int 18)))) lNil))) (lCons (e2 oAdd (e2 oMod (eL cInt (lCons (e2 oAdd (e2 oMul3 (e2 oMod (eL cInt (lCons (eV 2) lNil)) (eC (.int 2147483543))) (eC (.int 38699))) (e2 oMul3 (eC (.int 24029)) (eV 1))) lNil)) (eC (.int 2147483543))) (eC (.int 1))) (lCons (eC (.int 0)) lNil))))) sNext)))
def f__law_box : FM := fnF 2 3 [] b__law_box
def b_law : SM := (sSeq (sFor (lR1 (eC (.int 4))) (gN 1) (sSeq (sIf (tNot (tTru truD (eCallN f__law_case_right (lCall f__law_box (aD (eV 0) (aD (eV 1) aNil)))))) (sSeq (sRet (eC (.bl false))) sNext) sNext) sNext)) (sSeq (sSet 2 (eCall f__law_reads (aD (e2 oAdd (eC (.str "states 60\na")) (e2 oMul3 (eC (.str " 59")) (eC (.int 60)))) aNil))) (sSeq (sIf (tE (e2 (orO (orO neS neD) (neI 3 f_Device___eq)) (eCall f__law_reads (aD (eC (.str "states 1\na 0\nb 0\nc 0\nd 0\ne 0\nf 0")) aNil)) (eC (.int 7)))) (sSeq (sRet (eC (.bl false))) sNext) sNext) (sSeq (sRet (eAnd (e2 (orO (orO eqS eqD) (eqI 3 f_Device___eq)) (eV 2) (eMake 3 f_Device___init (aD (eNew (lD (lCons (e2 oMul3 (eNew (lD (lCons (eC (.int 59)) lNil))) (eC (.int 60))) lNil))) aNil))) (e2 (orO (orO eqS eqD) (eqI 3 f_Device___eq)) (eCall f__law_reads (aD (e2 oAdd (eC (.str "states 60\na")) (e2 oMul3 (eC (.str " 60")) (eC (.int 60)))) aNil)) (eC (.int 2))))) sNext))))
def f_law : FM := fnM 1 3 [] b_law
end K04
end
section
set_option linter.all false
set_option maxRecDepth 100000
set_option maxHeartbeats 4000000
set_option pp.maxSteps 600
/-! the derivations of k04, printed by gen.py -/
namespace K04
open PySem PySem.Spec L2 VM
open PyProof.Rows (envOfC)
def topS (i : Nat) : Stmt := PySem.Challenge.pw_backinstep_k04_texts_of_devices.main.body.getD i (.Pass ⟨0, 0, 0, 0⟩)
structure Facts (P : Program) (K : PySem.W.Frag) (mg : Str → Option Value) (ca : Nat → Addr) where
  p_is_sequence : Addr
  d_is_sequence : FuncData
  F_is_sequence : Fun K "is_sequence" "is_sequence" (topS 11) p_is_sequence d_is_sequence
  b_is_sequence : Binds K d_is_sequence ["value"] []
  g_is_sequence : mg "is_sequence" = some (.ref p_is_sequence)
  p_is_integer : Addr
  d_is_integer : FuncData
  F_is_integer : Fun K "is_integer" "is_integer" (topS 8) p_is_integer d_is_integer
  b_is_integer : Binds K d_is_integer ["value"] []
  g_is_integer : mg "is_integer" = some (.ref p_is_integer)
  p_is_number : Addr
  d_is_number : FuncData
  F_is_number : Fun K "is_number" "is_number" (topS 9) p_is_number d_is_number
  b_is_number : Binds K d_is_number ["value"] []
  g_is_number : mg "is_number" = some (.ref p_is_number)
  p_is_table : Addr
  d_is_table : FuncData
  F_is_table : Fun K "is_table" "is_table" (topS 14) p_is_table d_is_table
  b_is_table : Binds K d_is_table ["value", "many"] []
  g_is_table : mg "is_table" = some (.ref p_is_table)
  p_Device___init : Addr
  d_Device___init : FuncData
  F_Device___init : Fun K "__init__" "Device.__init__" (inClass (topS 13) 0) p_Device___init d_Device___init
  b_Device___init : Binds K d_Device___init ["self", "tables"] []
  p_is_text : Addr
  d_is_text : FuncData
  F_is_text : Fun K "is_text" "is_text" (topS 10) p_is_text d_is_text
  b_is_text : Binds K d_is_text ["value"] []
  g_is_text : mg "is_text" = some (.ref p_is_text)
  p_read_count : Addr
  d_read_count : FuncData
  F_read_count : Fun K "read_count" "read_count" (topS 18) p_read_count d_read_count
  b_read_count : Binds K d_read_count ["word", "most"] []
  g_read_count : mg "read_count" = some (.ref p_read_count)
  p_read_device : Addr
  d_read_device : FuncData
  F_read_device : Fun K "read_device" "read_device" (topS 19) p_read_device d_read_device
  b_read_device : Binds K d_read_device ["text"] []
  g_read_device : mg "read_device" = some (.ref p_read_device)
  kb_read_device : KwBinds K d_read_device ["text"]
  p_Device___eq : Addr
  d_Device___eq : FuncData
  F_Device___eq : Fun K "__eq__" "Device.__eq__" (inClass (topS 13) 1) p_Device___eq d_Device___eq
  b_Device___eq : Binds K d_Device___eq ["self", "other"] []
  p__law_reads : Addr
  d__law_reads : FuncData
  F__law_reads : Fun K "_law_reads" "_law_reads" (topS 27) p__law_reads d__law_reads
  b__law_reads : Binds K d__law_reads ["_law_text"] []
  g__law_reads : mg "_law_reads" = some (.ref p__law_reads)
  p__law_take : Addr
  d__law_take : FuncData
  F__law_take : Fun K "_law_take" "_law_take" (topS 22) p__law_take d__law_take
  b__law_take : Binds K d__law_take ["_law_box_here", "_law_many"] []
  g__law_take : mg "_law_take" = some (.ref p__law_take)
  p__law_pick : Addr
  d__law_pick : FuncData
  F__law_pick : Fun K "_law_pick" "_law_pick" (topS 23) p__law_pick d__law_pick
  b__law_pick : Binds K d__law_pick ["_law_box_here", "_law_some"] []
  g__law_pick : mg "_law_pick" = some (.ref p__law_pick)
  p__law_tables : Addr
  d__law_tables : FuncData
  F__law_tables : Fun K "_law_tables" "_law_tables" (topS 24) p__law_tables d__law_tables
  b__law_tables : Binds K d__law_tables ["_law_box_here", "_law_most", "_law_signals"] []
  g__law_tables : mg "_law_tables" = some (.ref p__law_tables)
  p_device_text : Addr
  d_device_text : FuncData
  F_device_text : Fun K "device_text" "device_text" (topS 17) p_device_text d_device_text
  b_device_text : Binds K d_device_text ["device"] []
  g_device_text : mg "device_text" = some (.ref p_device_text)
  kb_device_text : KwBinds K d_device_text ["device"]
  p__law_case_right : Addr
  d__law_case_right : FuncData
  F__law_case_right : Fun K "_law_case_right" "_law_case_right" (topS 28) p__law_case_right d__law_case_right
  b__law_case_right : Binds K d__law_case_right ["_law_box_here"] []
  g__law_case_right : mg "_law_case_right" = some (.ref p__law_case_right)
  p__law_box : Addr
  d__law_box : FuncData
  F__law_box : Fun K "_law_box" "_law_box" (topS 21) p__law_box d__law_box
  b__law_box : Binds K d__law_box ["_law_script", "_law_k"] []
  g__law_box : mg "_law_box" = some (.ref p__law_box)
  p_law : Addr
  d_law : FuncData
  F_law : Fun K "law" "law" (topS 29) p_law d_law
  b_law : Binds K d_law ["_law_script"] []
  g_law : mg "law" = some (.ref p_law)
  z_abs : mg "abs" = none
  z_all : mg "all" = none
  z_bool : mg "bool" = none
  z_enumerate : mg "enumerate" = none
  z_int : mg "int" = none
  z_isinstance : mg "isinstance" = none
  z_len : mg "len" = none
  z_list : mg "list" = none
  z_range : mg "range" = none
  z_str : mg "str" = none
  z_tuple : mg "tuple" = none
  z_zip : mg "zip" = none
  t_FIGURES : Tok
  k_FIGURES : mg "FIGURES" = some (.str "0123456789" t_FIGURES)
  t_MOST_STATES : Tok
  k_MOST_STATES : mg "MOST_STATES" = some (.int 60 t_MOST_STATES)
  t_SIGNALS : Tok
  k_SIGNALS : mg "SIGNALS" = some (.str "abcde" t_SIGNALS)
  g_BackError : mg "BackError" = some (.ref (ca 0))
  g_BadDevice : mg "BadDevice" = some (.ref (ca 1))
  g_BadText : mg "BadText" = some (.ref (ca 2))
  g_Device : mg "Device" = some (.ref (ca 3))
  mk_Device : Mk K (ca 3) p_Device___init
  a_signals : ∀ c ∈ ([3] : List Nat), Cls K (ca c) ∧ NoAttr K (ca c) "signals"
  a_states : ∀ c ∈ ([3] : List Nat), Cls K (ca c) ∧ NoAttr K (ca c) "states"
  a_tables : ∀ c ∈ ([3] : List Nat), Cls K (ca c) ∧ NoAttr K (ca c) "tables"
  eq_Device___eq : EqFacts K (ca 3) p_Device___eq
  selO : ∀ a b r, selO a b = some r → OwnTy K (ca a) ∧ PySem.W.kitOne K (.ref (ca a)) (.ref (ca b)) = some r
  q_BadDevice : Addr
  x_BadDevice : PySem.VErr.Txt K P mg (ca 1) q_BadDevice "self" "at" "at"
  q_BadText : Addr
  x_BadText : PySem.VErr.Txt K P mg (ca 2) q_BadText "self" "at" "at"
  s_BadText : ∀ c b, sel_BadText c = some b → PySem.W.exmOne K (.ref (ca c)) (.ref (ca 2)) = some b
  i_BackError : ∀ c b, sel_BackError c = some b → PySem.W.VxC K (ca c) ∧ PySem.W.kitOne K (.ref (ca c)) (.ref (ca 0)) = some b
  i_BadDevice : ∀ c b, sel_BadDevice c = some b → PySem.W.VxC K (ca c) ∧ PySem.W.kitOne K (.ref (ca c)) (.ref (ca 1)) = some b
  xf_at : ∀ c ∈ cs_at, XfC K (ca c) ∧ PySem.W.findIn K (.ref (ca c)) "at" = some none
section
variable {P : Program} {w : World} {K : PySem.W.Frag} {mg : Str → Option Value} {base : Heap} {ca : Nat → Addr}
theorem sc_is_sequence : FnScope ["value"] ["value"] (defScope (topS 11)) := ⟨rfl, rfl, rfl, by decide +kernel, rfl, by decide +kernel, by decide +kernel⟩
theorem ok_is_sequence (T : Facts P K mg ca) : FnOk P w K mg base (L2.CX P w) 2 T.p_is_sequence T.d_is_sequence ["value"] (spV ⟨K, ca⟩ (vD ⟨K, ca⟩) 1 f_is_sequence) :=
  def_ok (N := ["value"]) T.F_is_sequence sc_is_sequence rfl (by decide) fun cdv A outer s H E hr => (js_cons (js_ret (je_cb (s_isi rfl) (by rfl) T.z_isinstance bt_isinstance (jl_cons (je_v 0 (pv 0)) (jl_cons (je_tupD (jl_cons (je_c (fun _ _ => .ty _) (pe_bltn (by rfl) T.z_list bt_list rfl)) (jl_cons (je_c (fun _ _ => .ty _) (pe_bltn (by rfl) T.z_tuple bt_tuple rfl)) jl_nil))) jl_nil)))) js_nil)
theorem sc_is_integer : FnScope ["value"] ["value"] (defScope (topS 8)) := ⟨rfl, rfl, rfl, by decide +kernel, rfl, by decide +kernel, by decide +kernel⟩
theorem ok_is_integer (T : Facts P K mg ca) : FnOk P w K mg base (L2.CX P w) 2 T.p_is_integer T.d_is_integer ["value"] (spV ⟨K, ca⟩ (vD ⟨K, ca⟩) 1 f_is_integer) :=
  def_ok (N := ["value"]) T.F_is_integer sc_is_integer rfl (by decide) fun cdv A outer s H E hr => (js_cons (js_ret (je_and (je_cb (s_isi rfl) (by rfl) T.z_isinstance bt_isinstance (jl_cons (je_v 0 (pv 0)) (jl_cons (je_c (fun _ _ => .ty _) (pe_bltn (by rfl) T.z_int bt_int rfl)) jl_nil))) (je_one (je_not (je_cb (s_isi rfl) (by rfl) T.z_isinstance bt_isinstance (jl_cons (je_v 0 (pv 0)) (jl_cons (je_c (fun _ _ => .ty _) (pe_bltn (by rfl) T.z_bool bt_bool rfl)) jl_nil))))))) js_nil)
theorem sc_is_number : FnScope ["value"] ["value"] (defScope (topS 9)) := ⟨rfl, rfl, rfl, by decide +kernel, rfl, by decide +kernel, by decide +kernel⟩
theorem ok_is_number (T : Facts P K mg ca) : FnOk P w K mg base (L2.CX P w) 3 T.p_is_number T.d_is_number ["value"] (spV ⟨K, ca⟩ (vD ⟨K, ca⟩) 1 f_is_number) :=
  def_ok (N := ["value"]) T.F_is_number sc_is_number rfl (by decide) fun cdv A outer s H E hr => (js_cons (js_ret (je_and (je_call (CX := CX0) (ok_is_integer T) (takes_of rfl rfl rfl rfl) (hr.mono (by decide)) (by rfl) T.g_is_integer T.F_is_integer.kp T.b_is_integer (jg_d (je_v 0 (pv 0)) jg_nil) (an_d an_nil)) (je_one (je_cmp s_ge (je_v 0 (pv 0)) (je_c (fun _ _ => .int _) pe_int) (nomark _))))) js_nil)
theorem sc_is_table : FnScope ["value", "many", "state"] ["value", "many"] (defScope (topS 14)) := ⟨rfl, rfl, rfl, by decide +kernel, rfl, by decide +kernel, by decide +kernel⟩
theorem ok_is_table (T : Facts P K mg ca) : FnOk P w K mg base (L2.CX P w) 4 T.p_is_table T.d_is_table ["value", "many"] (spV ⟨K, ca⟩ (vD ⟨K, ca⟩) 2 f_is_table) :=
  def_ok (N := ["value", "many", "state"]) T.F_is_table sc_is_table rfl (by decide) fun cdv A outer s H E hr => (js_cons (js_if (jw_or (jt_not (jt_tru rfl (je_call (CX := CX0) (ok_is_sequence T) (takes_of rfl rfl rfl rfl) (hr.mono (by decide)) (by rfl) T.g_is_sequence T.F_is_sequence.kp T.b_is_sequence (jg_d (je_v 0 (pv 0)) jg_nil) (an_d an_nil)))) (jw_or (jt_not (jt_chain s_le s_le (je_c (fun _ _ => .int _) pe_int) (je_cb (s_len rfl) (by rfl) T.z_len bt_len (jl_cons (je_v 0 (pv 0)) jl_nil)) (je_c (fun _ _ => .int _) (pe_glob (by rfl) T.k_MOST_STATES ⟨_, rfl⟩)))) (jw_or1 (jw_and (jt_cmp s_notN (je_v 1 (pv 1)) (je_c (fun _ _ => .non) pe_non) (nomark _)) (jw_and1 (jt_cmp (s_neS.or (s_neD hr.units)) (je_cb (s_len rfl) (by rfl) T.z_len bt_len (jl_cons (je_v 0 (pv 0)) jl_nil)) (je_v 1 (pv 1)) (nomark _)))).pt))).pt (js_cons (js_ret (je_c (fun _ _ => .bl _) pe_bl)) js_nil) js_nil) (js_cons (js_ret (je_cb (s_all rfl) (by rfl) T.z_all bt_all (jl_cons (je_new (jf_lc (own := [("state", 2)]) (ts := [2]) (ix := [2]) rfl (by decide) rfl sc_is_table.nd (ji_it rfl (je_v 0 (pv 0))) (blkOk_by (by kernel_rfl)) (fun _ _ _ _ _ => (jg_n 2 (pg_name (i := 2) sc_is_table.nd rfl (by first | exact .inl rfl | exact .inr rfl)))) (fun _ _ _ _ _ => jts_nil) (fun _ _ _ _ _ => (je_and (je_call (CX := CX0) (ok_is_number T) takes0 (hr.mono (by decide)) (by rfl) T.g_is_number T.F_is_number.kp T.b_is_number (jg_d (je_v 2 (pv 2)) jg_nil) (an_d an_nil)) (je_one (je_cmp s_lt (je_v 2 (pv 2)) (je_cb (s_len rfl) (by rfl) T.z_len bt_len (jl_cons (je_v 0 (pv 0)) jl_nil)) (nomark _))))))) jl_nil))) js_nil))
theorem sc_Device___init : FnScope ["self", "tables", "at", "table"] ["self", "tables"] (defScope (inClass (topS 13) 0)) := ⟨rfl, rfl, rfl, by decide +kernel, rfl, by decide +kernel, by decide +kernel⟩
theorem ok_Device___init (T : Facts P K mg ca) : FnOk P w K mg base (L2.CX P w) 5 T.p_Device___init T.d_Device___init ["self", "tables"] (spV ⟨K, ca⟩ (vD ⟨K, ca⟩) 2 f_Device___init) :=
  def_ok (N := ["self", "tables", "at", "table"]) T.F_Device___init sc_Device___init rfl (by decide) fun cdv A outer s H E hr => (js_cons (js_if (jw_or (jt_not (jt_tru rfl (je_call (CX := CX0) (ok_is_sequence T) (takes_of rfl rfl rfl rfl) (hr.mono (by decide)) (by rfl) T.g_is_sequence T.F_is_sequence.kp T.b_is_sequence (jg_d (je_v 1 (pv 1)) jg_nil) (an_d an_nil)))) (jw_or1 (jt_not (jt_chain s_le s_le (je_c (fun _ _ => .int _) pe_int) (je_cb (s_len rfl) (by rfl) T.z_len bt_len (jl_cons (je_v 1 (pv 1)) jl_nil)) (je_cb (s_len rfl) (by rfl) T.z_len bt_len (jl_cons (je_c (fun _ _ => .str _) (pe_glob (by rfl) T.k_SIGNALS ⟨_, rfl⟩)) jl_nil)))))).pt (js_cons (js_raise1 rfl (takes_of rfl rfl rfl rfl) (pmk_err T.x_BadDevice T.g_BadDevice hr (je_neg (je_c (fun _ _ => .int _) pe_int)) (by rfl))) js_nil) js_nil) (js_cons (js_for (ts := [2, 3]) (by decide) (passes_of rfl) rfl (ji_enum rfl (by rfl) T.z_enumerate (je_v 1 (pv 1))) (jg_t rfl (jgs_cons (jg_n 2 (pg_name (i := 2) sc_Device___init.nd rfl (by first | exact .inl rfl | exact .inr rfl))) (jgs_cons (jg_n 3 (pg_name (i := 3) sc_Device___init.nd rfl (by first | exact .inl rfl | exact .inr rfl))) jgs_nil)) rfl) (js_cons (js_if (jt_not (jt_tru rfl (je_call (CX := CX0) (ok_is_table T) (takes_of rfl rfl rfl rfl) (hr.mono (by decide)) (by rfl) T.g_is_table T.F_is_table.kp T.b_is_table (jg_d (je_v 3 (pv 3)) (jg_d (je_if (jt_cmp s_gt (je_v 2 (pv 2)) (je_c (fun _ _ => .int _) pe_int) (nomark _)) (je_cb (s_len rfl) (by rfl) T.z_len bt_len (jl_cons (je_ix (s_ix rfl) (je_v 1 (pv 1)) (je_c (fun _ _ => .int _) pe_int)) jl_nil)) (je_c (fun _ _ => .non) pe_non)) jg_nil)) (an_d (an_d an_nil))))) (js_cons (js_raise1 rfl (takes_of rfl rfl rfl rfl) (pmk_err T.x_BadDevice T.g_BadDevice hr (je_v 2 (pv 2)) (by rfl))) js_nil) js_nil) js_nil)) (js_cons (js_fld (cs := [3]) 0 T.a_states (pv 0) (je_cb (s_len rfl) (by rfl) T.z_len bt_len (jl_cons (je_ix (s_ix rfl) (je_v 1 (pv 1)) (je_c (fun _ _ => .int _) pe_int)) jl_nil))) (js_cons (js_fld (cs := [3]) 0 T.a_signals (pv 0) (je_sl (s_sl rfl) (je_c (fun _ _ => .str _) (pe_glob (by rfl) T.k_SIGNALS ⟨_, rfl⟩)) jo_n (jo_s (je_cb (s_len rfl) (by rfl) T.z_len bt_len (jl_cons (je_v 1 (pv 1)) jl_nil))))) (js_cons (js_fld (cs := [3]) 0 T.a_tables (pv 0) (je_ct (s_tuple rfl) (by rfl) T.z_tuple bt_tuple (jl_cons (je_new (jf_lc (own := [("table", 3)]) (ts := [3]) (ix := [3]) rfl (by decide) rfl sc_Device___init.nd (ji_it rfl (je_v 1 (pv 1))) (blkOk_by (by kernel_rfl)) (fun _ _ _ _ _ => (jg_n 3 (pg_name (i := 3) sc_Device___init.nd rfl (by first | exact .inl rfl | exact .inr rfl)))) (fun _ _ _ _ _ => jts_nil) (fun _ _ _ _ _ => (je_ct (s_tuple rfl) (by rfl) T.z_tuple bt_tuple (jl_cons (je_v 3 (pv 3)) jl_nil))))) jl_nil))) js_nil)))))
theorem sc_is_text : FnScope ["value"] ["value"] (defScope (topS 10)) := ⟨rfl, rfl, rfl, by decide +kernel, rfl, by decide +kernel, by decide +kernel⟩
theorem ok_is_text (T : Facts P K mg ca) : FnOk P w K mg base (L2.CX P w) 2 T.p_is_text T.d_is_text ["value"] (spV ⟨K, ca⟩ (vD ⟨K, ca⟩) 1 f_is_text) :=
  def_ok (N := ["value"]) T.F_is_text sc_is_text rfl (by decide) fun cdv A outer s H E hr => (js_cons (js_ret (je_cb (s_isi rfl) (by rfl) T.z_isinstance bt_isinstance (jl_cons (je_v 0 (pv 0)) (jl_cons (je_c (fun _ _ => .ty _) (pe_bltn (by rfl) T.z_str bt_str rfl)) jl_nil)))) js_nil)
theorem sc_read_count : FnScope ["word", "most", "number", "sign"] ["word", "most"] (defScope (topS 18)) := ⟨rfl, rfl, rfl, by decide +kernel, rfl, by decide +kernel, by decide +kernel⟩
theorem ok_read_count (T : Facts P K mg ca) : FnOk P w K mg base (L2.CX P w) 2 T.p_read_count T.d_read_count ["word", "most"] (spV ⟨K, ca⟩ (vD ⟨K, ca⟩) 2 f_read_count) :=
  def_ok (N := ["word", "most", "number", "sign"]) T.F_read_count sc_read_count rfl (by decide) fun cdv A outer s H E hr => (js_cons (js_if (jw_or (jt_not (jt_chain s_le s_le (je_c (fun _ _ => .int _) pe_int) (je_cb (s_len rfl) (by rfl) T.z_len bt_len (jl_cons (je_v 0 (pv 0)) jl_nil)) (je_c (fun _ _ => .int _) pe_int))) (jw_or1 (jt_not (jt_tru rfl (je_cb (s_all rfl) (by rfl) T.z_all bt_all (jl_cons (je_new (jf_lc (own := [("sign", 3)]) (ts := [3]) (ix := [3]) rfl (by decide) rfl sc_read_count.nd (ji_it rfl (je_v 0 (pv 0))) (blkOk_by (by kernel_rfl)) (fun _ _ _ _ _ => (jg_n 3 (pg_name (i := 3) sc_read_count.nd rfl (by first | exact .inl rfl | exact .inr rfl)))) (fun _ _ _ _ _ => jts_nil) (fun _ _ _ _ _ => (je_cmp s_in (je_v 3 (pv 3)) (je_c (fun _ _ => .str _) (pe_glob (by rfl) T.k_FIGURES ⟨_, rfl⟩)) (by with_unfolding_all rfl))))) jl_nil)))))).pt (js_cons (js_ret (je_c (fun _ _ => .non) pe_non)) js_nil) js_nil) (js_cons (js_set 2 (by decide) (ps_set (i := 2) sc_read_count.nd rfl (by first | exact .inl rfl | exact .inr rfl) (je_ct s_int (by rfl) T.z_int bt_int (jl_cons (je_v 0 (pv 0)) jl_nil)))) (js_cons (js_ret (je_if (jw_and (jt_cmp (s_eqS.or (s_eqD hr.units)) (je_ct s_str (by rfl) T.z_str bt_str (jl_cons (je_v 2 (pv 2)) jl_nil)) (je_v 0 (pv 0)) (nomark _)) (jw_and1 (jt_cmp s_lt (je_v 2 (pv 2)) (je_v 1 (pv 1)) (nomark _)))).pt (je_v 2 (pv 2)) (je_c (fun _ _ => .non) pe_non))) js_nil)))
theorem sc_read_device : FnScope ["text", "rows", "states", "tables", "at", "words", "table", "row", "word"] ["text"] (defScope (topS 19)) := ⟨rfl, rfl, rfl, by decide +kernel, rfl, by decide +kernel, by decide +kernel⟩
theorem ok_read_device (T : Facts P K mg ca) : FnOk P w K mg base (L2.CX P w) 7 T.p_read_device T.d_read_device ["text"] (spV ⟨K, ca⟩ (vD ⟨K, ca⟩) 1 f_read_device) :=
  def_ok (N := ["text", "rows", "states", "tables", "at", "words", "table", "row", "word"]) T.F_read_device sc_read_device rfl (by decide) fun cdv A outer s H E hr => (js_cons (js_if (jt_not (jt_tru rfl (je_call (CX := CX0) (ok_is_text T) (takes_of rfl rfl rfl rfl) (hr.mono (by decide)) (by rfl) T.g_is_text T.F_is_text.kp T.b_is_text (jg_d (je_v 0 (pv 0)) jg_nil) (an_d an_nil)))) (js_cons (js_raise1 rfl (takes_of rfl rfl rfl rfl) (pmk_err T.x_BadText T.g_BadText hr (je_c (fun _ _ => .int _) pe_int) (by rfl))) js_nil) js_nil) (js_cons (by first | exact js_setI 1 (by decide) (ps_lcF 1 (own := [("row", 7)]) (ts := [7]) (ix := [7]) rfl (by decide) rfl sc_read_device.nd rfl rfl (sw_true rfl rfl rfl rfl) (ji_it rfl (je_m1 s_split PySem.F.slot_str_split PySem.F.type_str_split (je_v 0 (pv 0)) (je_c (fun _ _ => .str _) pe_str))) (blkOk_by (by kernel_rfl)) (fun _ _ _ _ _ => (jg_n 7 (pg_name (i := 7) sc_read_device.nd rfl (by first | exact .inl rfl | exact .inr rfl)))) (fun _ _ _ _ _ => jts_nil) (fun _ _ _ _ _ => (je_m1 s_split PySem.F.slot_str_split PySem.F.type_str_split (je_v 7 (pv 7)) (je_c (fun _ _ => .str _) pe_str)))) (fun _ _ _ h => new_imp h) | exact js_setI 1 (by decide) (ps_set (i := 1) sc_read_device.nd rfl (by first | exact .inl rfl | exact .inr rfl) (jf_lc (own := [("row", 7)]) (ts := [7]) (ix := [7]) rfl (by decide) rfl sc_read_device.nd (ji_it rfl (je_m1 s_split PySem.F.slot_str_split PySem.F.type_str_split (je_v 0 (pv 0)) (je_c (fun _ _ => .str _) pe_str))) (blkOk_by (by kernel_rfl)) (fun _ _ _ _ _ => (jg_n 7 (pg_name (i := 7) sc_read_device.nd rfl (by first | exact .inl rfl | exact .inr rfl)))) (fun _ _ _ _ _ => jts_nil) (fun _ _ _ _ _ => (je_m1 s_split PySem.F.slot_str_split PySem.F.type_str_split (je_v 7 (pv 7)) (je_c (fun _ _ => .str _) pe_str))))) (fun _ _ _ h => new_imp h)) (js_cons (js_set 2 (by decide) (ps_set (i := 2) sc_read_device.nd rfl (by first | exact .inl rfl | exact .inr rfl) (je_if (jw_and (jt_cmp (s_eqS.or (s_eqD hr.units)) (je_cb (s_len rfl) (by rfl) T.z_len bt_len (jl_cons (je_ix (s_ix rfl) (je_v 1 (pv 1)) (je_c (fun _ _ => .int _) pe_int)) jl_nil)) (je_c (fun _ _ => .int _) pe_int) (nomark _)) (jw_and1 (jt_cmp (s_eqS.or (s_eqD hr.units)) (je_ix (s_ix rfl) (je_ix (s_ix rfl) (je_v 1 (pv 1)) (je_c (fun _ _ => .int _) pe_int)) (je_c (fun _ _ => .int _) pe_int)) (je_c (fun _ _ => .str _) pe_str) (nomark _)))).pt (je_call (CX := CX0) (ok_read_count T) (takes_of rfl rfl rfl rfl) (hr.mono (by decide)) (by rfl) T.g_read_count T.F_read_count.kp T.b_read_count (jg_d (je_ix (s_ix rfl) (je_ix (s_ix rfl) (je_v 1 (pv 1)) (je_c (fun _ _ => .int _) pe_int)) (je_c (fun _ _ => .int _) pe_int)) (jg_d (je_op s_add (je_c (fun _ _ => .int _) (pe_glob (by rfl) T.k_MOST_STATES ⟨_, rfl⟩)) (je_c (fun _ _ => .int _) pe_int)) jg_nil)) (an_d (an_d an_nil))) (je_c (fun _ _ => .non) pe_non)))) (js_cons (js_if (jw_or (jt_cmp s_isN (je_v 2 (pv 2)) (je_c (fun _ _ => .non) pe_non) (nomark _)) (jw_or1 (jt_cmp (s_eqS.or (s_eqD hr.units)) (je_v 2 (pv 2)) (je_c (fun _ _ => .int _) pe_int) (nomark _)))).pt (js_cons (js_raise1 rfl (takes_of rfl rfl rfl rfl) (pmk_err T.x_BadText T.g_BadText hr (je_c (fun _ _ => .int _) pe_int) (by rfl))) js_nil) js_nil) (js_cons (js_if (jt_cmp (s_eqS.or (s_eqD hr.units)) (je_cb (s_len rfl) (by rfl) T.z_len bt_len (jl_cons (je_v 1 (pv 1)) jl_nil)) (je_c (fun _ _ => .int _) pe_int) (nomark _)) (js_cons (js_raise1 rfl (takes_of rfl rfl rfl rfl) (pmk_err T.x_BadText T.g_BadText hr (je_c (fun _ _ => .int _) pe_int) (by rfl))) js_nil) js_nil) (js_cons (js_own 3 (by decide) (ps_set (i := 3) sc_read_device.nd rfl (by first | exact .inl rfl | exact .inr rfl) (jf_lst jl_nil))) (js_cons (js_for (ts := [4, 5]) (by decide) (passes_of rfl) rfl (ji_enum rfl (by rfl) T.z_enumerate (je_sl (s_sl rfl) (je_v 1 (pv 1)) (jo_s (je_c (fun _ _ => .int _) pe_int)) jo_n)) (jg_t rfl (jgs_cons (jg_n 4 (pg_name (i := 4) sc_read_device.nd rfl (by first | exact .inl rfl | exact .inr rfl))) (jgs_cons (jg_n 5 (pg_name (i := 5) sc_read_device.nd rfl (by first | exact .inl rfl | exact .inr rfl))) jgs_nil)) rfl) (js_cons (by first | exact js_setI 6 (by decide) (ps_lcF 6 (own := [("word", 8)]) (ts := [8]) (ix := [8]) rfl (by decide) rfl sc_read_device.nd rfl rfl (sw_true rfl rfl rfl rfl) (ji_it rfl (je_sl (s_sl rfl) (je_v 5 (pv 5)) (jo_s (je_c (fun _ _ => .int _) pe_int)) jo_n)) (blkOk_by (by kernel_rfl)) (fun _ _ _ _ _ => (jg_n 8 (pg_name (i := 8) sc_read_device.nd rfl (by first | exact .inl rfl | exact .inr rfl)))) (fun _ _ _ _ _ => jts_nil) (fun _ _ _ _ _ => (je_call (CX := CX0) (ok_read_count T) takes0 (hr.mono (by decide)) (by rfl) T.g_read_count T.F_read_count.kp T.b_read_count (jg_d (je_v 8 (pv 8)) (jg_d (je_v 2 (pv 2)) jg_nil)) (an_d (an_d an_nil))))) (fun _ _ _ h => new_imp h) | exact js_setI 6 (by decide) (ps_set (i := 6) sc_read_device.nd rfl (by first | exact .inl rfl | exact .inr rfl) (jf_lc (own := [("word", 8)]) (ts := [8]) (ix := [8]) rfl (by decide) rfl sc_read_device.nd (ji_it rfl (je_sl (s_sl rfl) (je_v 5 (pv 5)) (jo_s (je_c (fun _ _ => .int _) pe_int)) jo_n)) (blkOk_by (by kernel_rfl)) (fun _ _ _ _ _ => (jg_n 8 (pg_name (i := 8) sc_read_device.nd rfl (by first | exact .inl rfl | exact .inr rfl)))) (fun _ _ _ _ _ => jts_nil) (fun _ _ _ _ _ => (je_call (CX := CX0) (ok_read_count T) takes0 (hr.mono (by decide)) (by rfl) T.g_read_count T.F_read_count.kp T.b_read_count (jg_d (je_v 8 (pv 8)) (jg_d (je_v 2 (pv 2)) jg_nil)) (an_d (an_d an_nil)))))) (fun _ _ _ h => new_imp h)) (js_cons (js_if (jw_or (jt_cmp s_ge (je_v 4 (pv 4)) (je_cb (s_len rfl) (by rfl) T.z_len bt_len (jl_cons (je_c (fun _ _ => .str _) (pe_glob (by rfl) T.k_SIGNALS ⟨_, rfl⟩)) jl_nil)) (nomark _)) (jw_or (jt_cmp (s_neS.or (s_neD hr.units)) (je_ix (s_ix rfl) (je_v 5 (pv 5)) (je_c (fun _ _ => .int _) pe_int)) (je_ix (s_ix rfl) (je_c (fun _ _ => .str _) (pe_glob (by rfl) T.k_SIGNALS ⟨_, rfl⟩)) (je_v 4 (pv 4))) (nomark _)) (jw_or (jt_cmp (s_neS.or (s_neD hr.units)) (je_cb (s_len rfl) (by rfl) T.z_len bt_len (jl_cons (je_v 6 (pv 6)) jl_nil)) (je_v 2 (pv 2)) (nomark _)) (jw_or1 (jt_cmp s_in (je_c (fun _ _ => .non) pe_non) (je_v 6 (pv 6)) (by with_unfolding_all rfl)))))).pt (js_cons (js_raise1 rfl (takes_of rfl rfl rfl rfl) (pmk_err T.x_BadText T.g_BadText hr (je_op s_add (je_v 4 (pv 4)) (je_c (fun _ _ => .int _) pe_int)) (by rfl))) js_nil) js_nil) (js_cons (js_app 3 (pv 3) (je_v 6 (pv 6))) js_nil)))) (js_cons (js_ret (je_make (c := 3) T.mk_Device (ok_Device___init T) (takes_of rfl rfl rfl rfl) (hr.mono (by decide)) (by rfl) T.g_Device T.b_Device___init (jg_d (je_fz 3 (pv 3)) jg_nil) (an_d an_nil))) js_nil))))))))
theorem sc_Device___eq : FnScope ["self", "other"] ["self", "other"] (defScope (inClass (topS 13) 1)) := ⟨rfl, rfl, rfl, by decide +kernel, rfl, by decide +kernel, by decide +kernel⟩
theorem ok_Device___eq (T : Facts P K mg ca) : FnOk P w K mg base (L2.CX P w) 2 T.p_Device___eq T.d_Device___eq ["self", "other"] (spV ⟨K, ca⟩ (vD ⟨K, ca⟩) 2 f_Device___eq) :=
  def_ok (N := ["self", "other"]) T.F_Device___eq sc_Device___eq rfl (by decide) fun cdv A outer s H E hr => (js_cons (js_ret (je_and (je_cb (s_isO T.selO) (by rfl) T.z_isinstance bt_isinstance (jl_cons (je_v 1 (pv 1)) (jl_cons (je_c (fun _ _ => .cl 3) (pe_glob (by rfl) T.g_Device rfl)) jl_nil))) (je_one (je_cmp (s_eqS.or (s_eqD hr.units)) (je_fld (cs := [3]) T.a_tables (je_v 0 (pv 0))) (je_fld (cs := [3]) T.a_tables (je_v 1 (pv 1))) (nomark _))))) js_nil)
theorem sc__law_reads : FnScope ["_law_text", "e"] ["_law_text"] (defScope (topS 27)) := ⟨rfl, rfl, rfl, by decide +kernel, rfl, by decide +kernel, by decide +kernel⟩
theorem ok__law_reads (T : Facts P K mg ca) : FnOk P w K mg base (L2.CX P w) 8 T.p__law_reads T.d__law_reads ["_law_text"] (spV ⟨K, ca⟩ (vD ⟨K, ca⟩) 1 f__law_reads) :=
  def_ok (N := ["_law_text", "e"]) T.F__law_reads sc__law_reads rfl (by decide) fun cdv A outer s H E hr => (js_cons (js_try (i := 1) (cv := .ref (ca 2)) (by decide) rfl rfl sc__law_reads.nd rfl rfl ⟨rfl, by decide, Or.inl T.g_BadText⟩ (takes_of rfl rfl rfl rfl) T.s_BadText (fun W pn xe tk' own' => (js_cons (js_ret (je_callK (ok_read_device T) tk' (hr.mono (by decide)) (by rfl) T.g_read_device T.F_read_device.kp T.kb_read_device (jk_d (je_v 0 (pv 0)) jk_nil) (an_d an_nil))) js_nil)) (fun a oe cls d pn c fs hz hf => (jx_if (jxw_and (jxt_val (jx_is (sel := sel_BackError) (cv := .ref (ca 0)) (C := .ref (ca 0)) T.i_BackError hz hf (fun u r => r) (by rfl) T.z_isinstance (pv 1) (pe_glob (by rfl) T.g_BackError rfl))) (jxw_and1 (jxt_not (jxt_val (jx_is (sel := sel_BadDevice) (cv := .ref (ca 1)) (C := .ref (ca 1)) T.i_BadDevice hz hf (fun u r => r) (by rfl) T.z_isinstance (pv 1) (pe_glob (by rfl) T.g_BadDevice rfl)))))).pt (jx_fld T.xf_at hz hf (Classical.em _) (pv 1)) (jx_c (fun _ _ => .str _) pe_str)))) js_nil)
theorem sc__law_take : FnScope ["_law_box_here", "_law_many", "_law_raw", "_law_digit"] ["_law_box_here", "_law_many"] (defScope (topS 22)) := ⟨rfl, rfl, rfl, by decide +kernel, rfl, by decide +kernel, by decide +kernel⟩
theorem ok__law_take (T : Facts P K mg ca) : FnOk P w K mg base (L2.CX P w) 2 T.p__law_take T.d__law_take ["_law_box_here", "_law_many"] (spV ⟨K, ca⟩ (vD ⟨K, ca⟩) 2 f__law_take) :=
  def_ok (N := ["_law_box_here", "_law_many", "_law_raw", "_law_digit"]) T.F__law_take sc__law_take rfl (by decide) fun cdv A outer s H E hr => (js_cons (js_if (jt_cmp s_gt (je_ixO 0 (pv 0) (je_c (fun _ _ => .int _) pe_int)) (je_c (fun _ _ => .int _) pe_int) (nomark _)) (js_cons (js_set 3 (by decide) (ps_set (i := 3) sc__law_take.nd rfl (by first | exact .inl rfl | exact .inr rfl) (je_op s_mod (je_ct s_int (by rfl) T.z_int bt_int (jl_cons (je_ixO 0 (pv 0) (je_c (fun _ _ => .int _) pe_int)) jl_nil)) (je_v 1 (pv 1))))) (js_cons (js_put 0 (pv 0) (je_c (fun _ _ => .int _) pe_int) (je_op s_div (je_ixO 0 (pv 0) (je_c (fun _ _ => .int _) pe_int)) (je_v 1 (pv 1)))) (js_cons (js_ret (je_v 3 (pv 3))) js_nil))) js_nil) (js_cons (js_put 0 (pv 0) (je_c (fun _ _ => .int _) pe_int) (je_op s_add (je_ixO 0 (pv 0) (je_c (fun _ _ => .int _) pe_int)) (je_c (fun _ _ => .int _) pe_int))) (js_cons (js_set 2 (by decide) (ps_set (i := 2) sc__law_take.nd rfl (by first | exact .inl rfl | exact .inr rfl) (je_op s_mod (je_ct s_int (by rfl) T.z_int bt_int (jl_cons (je_op s_add (je_op s_mul3 (je_op s_add (je_ixO 0 (pv 0) (je_c (fun _ _ => .int _) pe_int)) (je_op s_mul3 (je_c (fun _ _ => .int _) pe_int) (je_ixO 0 (pv 0) (je_c (fun _ _ => .int _) pe_int)))) (je_c (fun _ _ => .int _) pe_int)) (je_c (fun _ _ => .int _) pe_int)) jl_nil)) (je_c (fun _ _ => .int _) pe_int)))) (js_cons (js_put 0 (pv 0) (je_c (fun _ _ => .int _) pe_int) (je_op s_add (je_op s_mod (je_ct s_int (by rfl) T.z_int bt_int (jl_cons (je_op s_add (je_op s_mul3 (je_v 2 (pv 2)) (je_c (fun _ _ => .int _) pe_int)) (je_c (fun _ _ => .int _) pe_int)) jl_nil)) (je_c (fun _ _ => .int _) pe_int)) (je_c (fun _ _ => .int _) pe_int))) (js_cons (js_ret (je_op s_mod (je_ct s_int (by rfl) T.z_int bt_int (jl_cons (je_op s_div (je_op s_add (je_op s_mul3 (je_v 2 (pv 2)) (je_c (fun _ _ => .int _) pe_int)) (je_ixO 0 (pv 0) (je_c (fun _ _ => .int _) pe_int))) (je_c (fun _ _ => .int _) pe_int)) jl_nil)) (je_v 1 (pv 1)))) js_nil)))))
theorem sc__law_pick : FnScope ["_law_box_here", "_law_some"] ["_law_box_here", "_law_some"] (defScope (topS 23)) := ⟨rfl, rfl, rfl, by decide +kernel, rfl, by decide +kernel, by decide +kernel⟩
theorem ok__law_pick (T : Facts P K mg ca) : FnOk P w K mg base (L2.CX P w) 3 T.p__law_pick T.d__law_pick ["_law_box_here", "_law_some"] (spV ⟨K, ca⟩ (vD ⟨K, ca⟩) 2 f__law_pick) :=
  def_ok (N := ["_law_box_here", "_law_some"]) T.F__law_pick sc__law_pick rfl (by decide) fun cdv A outer s H E hr => (js_cons (js_ret (je_ix (s_ix rfl) (je_v 1 (pv 1)) (je_call (CX := CX0) (ok__law_take T) (takes_of rfl rfl rfl rfl) (hr.mono (by decide)) (by rfl) T.g__law_take T.F__law_take.kp T.b__law_take (jg_o 0 (pv 0) (jg_d (je_cb (s_len rfl) (by rfl) T.z_len bt_len (jl_cons (je_v 1 (pv 1)) jl_nil)) jg_nil)) (an_o (an_d an_nil))))) js_nil)
theorem sc__law_tables : FnScope ["_law_box_here", "_law_most", "_law_signals", "_law_many", "_law_found", "_law_signal", "_law_style", "_law_shift", "_law_state"] ["_law_box_here", "_law_most", "_law_signals"] (defScope (topS 24)) := ⟨rfl, rfl, rfl, by decide +kernel, rfl, by decide +kernel, by decide +kernel⟩
theorem ok__law_tables (T : Facts P K mg ca) : FnOk P w K mg base (L2.CX P w) 4 T.p__law_tables T.d__law_tables ["_law_box_here", "_law_most", "_law_signals"] (spV ⟨K, ca⟩ (vD ⟨K, ca⟩) 3 f__law_tables) :=
  def_ok (N := ["_law_box_here", "_law_most", "_law_signals", "_law_many", "_law_found", "_law_signal", "_law_style", "_law_shift", "_law_state"]) T.F__law_tables sc__law_tables rfl (by decide) fun cdv A outer s H E hr => (js_cons (js_set 3 (by decide) (ps_set (i := 3) sc__law_tables.nd rfl (by first | exact .inl rfl | exact .inr rfl) (je_op s_add (je_c (fun _ _ => .int _) pe_int) (je_call (CX := CX0) (ok__law_take T) (takes_of rfl rfl rfl rfl) (hr.mono (by decide)) (by rfl) T.g__law_take T.F__law_take.kp T.b__law_take (jg_o 0 (pv 0) (jg_d (je_v 1 (pv 1)) jg_nil)) (an_o (an_d an_nil)))))) (js_cons (js_own 4 (by decide) (ps_set (i := 4) sc__law_tables.nd rfl (by first | exact .inl rfl | exact .inr rfl) (jf_lst jl_nil))) (js_cons (js_for (ts := [5]) (by decide) (passes_of rfl) rfl (ji_range1 (by rfl) T.z_range (je_v 2 (pv 2))) (jg_n 5 (pg_name (i := 5) sc__law_tables.nd rfl (by first | exact .inl rfl | exact .inr rfl))) (js_cons (js_set 6 (by decide) (ps_set (i := 6) sc__law_tables.nd rfl (by first | exact .inl rfl | exact .inr rfl) (je_call (CX := CX0) (ok__law_pick T) (takes_of rfl rfl rfl rfl) (hr.mono (by decide)) (by rfl) T.g__law_pick T.F__law_pick.kp T.b__law_pick (jg_o 0 (pv 0) (jg_d (je_new (jf_lst (jl_cons (je_c (fun _ _ => .int _) pe_int) (jl_cons (je_c (fun _ _ => .int _) pe_int) (jl_cons (je_c (fun _ _ => .int _) pe_int) (jl_cons (je_c (fun _ _ => .int _) pe_int) (jl_cons (je_c (fun _ _ => .int _) pe_int) jl_nil))))))) jg_nil)) (an_o (an_d an_nil))))) (js_cons (js_if (jt_cmp (Op2.or (s_eqS.or (s_eqD hr.units)) (s_eqI T.eq_Device___eq.txt (ok_Device___eq T) T.b_Device___eq (hr.mono (by decide)))) (je_v 6 (pv 6)) (je_c (fun _ _ => .int _) pe_int) (nomark _)) (js_cons (js_app 4 (pv 4) (je_new (jf_lc (own := [("_law_state", 8)]) (ts := [8]) (ix := [8]) rfl (by decide) rfl sc__law_tables.nd (ji_range1 (by rfl) T.z_range (je_v 3 (pv 3))) (blkOk_by (by kernel_rfl)) (fun _ _ _ _ _ => (jg_n 8 (pg_name (i := 8) sc__law_tables.nd rfl (by first | exact .inl rfl | exact .inr rfl)))) (fun _ _ _ _ _ => jts_nil) (fun _ _ _ _ _ => (je_call (CX := CX0) (ok__law_take T) takes0 (hr.mono (by decide)) (by rfl) T.g__law_take T.F__law_take.kp T.b__law_take (jg_o 0 (pv 0) (jg_d (je_v 3 (pv 3)) jg_nil)) (an_o (an_d an_nil))))))) js_nil) (js_cons (js_if (jt_cmp (Op2.or (s_eqS.or (s_eqD hr.units)) (s_eqI T.eq_Device___eq.txt (ok_Device___eq T) T.b_Device___eq (hr.mono (by decide)))) (je_v 6 (pv 6)) (je_c (fun _ _ => .int _) pe_int) (nomark _)) (js_cons (js_app 4 (pv 4) (je_new (jf_lc (own := [("_law_state", 8)]) (ts := [8]) (ix := [8]) rfl (by decide) rfl sc__law_tables.nd (ji_range1 (by rfl) T.z_range (je_v 3 (pv 3))) (blkOk_by (by kernel_rfl)) (fun _ _ _ _ _ => (jg_n 8 (pg_name (i := 8) sc__law_tables.nd rfl (by first | exact .inl rfl | exact .inr rfl)))) (fun _ _ _ _ _ => jts_nil) (fun _ _ _ _ _ => (je_if (jt_cmp (Op2.or (s_eqS.or (s_eqD hr.units)) (s_eqI T.eq_Device___eq.txt (ok_Device___eq T) T.b_Device___eq (hr.mono (by decide)))) (je_call (CX := CX0) (ok__law_take T) takes0 (hr.mono (by decide)) (by rfl) T.g__law_take T.F__law_take.kp T.b__law_take (jg_o 0 (pv 0) (jg_d (je_c (fun _ _ => .int _) pe_int) jg_nil)) (an_o (an_d an_nil))) (je_c (fun _ _ => .int _) pe_int) (nomark _)) (je_v 8 (pv 8)) (je_call (CX := CX0) (ok__law_take T) takes0 (hr.mono (by decide)) (by rfl) T.g__law_take T.F__law_take.kp T.b__law_take (jg_o 0 (pv 0) (jg_d (je_v 3 (pv 3)) jg_nil)) (an_o (an_d an_nil)))))))) js_nil) (js_cons (js_set 7 (by decide) (ps_set (i := 7) sc__law_tables.nd rfl (by first | exact .inl rfl | exact .inr rfl) (je_call (CX := CX0) (ok__law_take T) (takes_of rfl rfl rfl rfl) (hr.mono (by decide)) (by rfl) T.g__law_take T.F__law_take.kp T.b__law_take (jg_o 0 (pv 0) (jg_d (je_v 3 (pv 3)) jg_nil)) (an_o (an_d an_nil))))) (js_cons (js_app 4 (pv 4) (je_new (jf_lc (own := [("_law_state", 8)]) (ts := [8]) (ix := [8]) rfl (by decide) rfl sc__law_tables.nd (ji_range1 (by rfl) T.z_range (je_v 3 (pv 3))) (blkOk_by (by kernel_rfl)) (fun _ _ _ _ _ => (jg_n 8 (pg_name (i := 8) sc__law_tables.nd rfl (by first | exact .inl rfl | exact .inr rfl)))) (fun _ _ _ _ _ => jts_nil) (fun _ _ _ _ _ => (je_op s_mod (je_ct s_int (by rfl) T.z_int bt_int (jl_cons (je_op s_add (je_v 8 (pv 8)) (je_v 7 (pv 7))) jl_nil)) (je_v 3 (pv 3))))))) js_nil))) js_nil)) js_nil))) (js_cons (js_ret (je_fz 4 (pv 4))) js_nil))))
theorem sc_device_text : FnScope ["device", "rows", "signal", "table", "state"] ["device"] (defScope (topS 17)) := ⟨rfl, rfl, rfl, by decide +kernel, rfl, by decide +kernel, by decide +kernel⟩
theorem ok_device_text (T : Facts P K mg ca) : FnOk P w K mg base (L2.CX P w) 2 T.p_device_text T.d_device_text ["device"] (spV ⟨K, ca⟩ (vD ⟨K, ca⟩) 1 f_device_text) :=
  def_ok (N := ["device", "rows", "signal", "table", "state"]) T.F_device_text sc_device_text rfl (by decide) fun cdv A outer s H E hr => (js_cons (js_own 1 (by decide) (ps_set (i := 1) sc_device_text.nd rfl (by first | exact .inl rfl | exact .inr rfl) (jf_lst (jl_cons (je_joined2 (je_c (fun _ _ => .str _) pe_str) (je_fmt (je_fld (cs := [3]) T.a_states (je_v 0 (pv 0))))) jl_nil)))) (js_cons (js_for (ts := [2, 3]) (by decide) (passes_of rfl) rfl (ji_zipST (by rfl) T.z_zip (je_fld (cs := [3]) T.a_signals (je_v 0 (pv 0))) (je_fld (cs := [3]) T.a_tables (je_v 0 (pv 0)))) (jg_t rfl (jgs_cons (jg_n 2 (pg_name (i := 2) sc_device_text.nd rfl (by first | exact .inl rfl | exact .inr rfl))) (jgs_cons (jg_n 3 (pg_name (i := 3) sc_device_text.nd rfl (by first | exact .inl rfl | exact .inr rfl))) jgs_nil)) rfl) (js_cons (js_app 1 (pv 1) (je_m1 s_join PySem.F.slot_str_join PySem.F.type_str_join (je_c (fun _ _ => .str _) pe_str) (je_op s_add (je_new (jf_lst (jl_cons (je_v 2 (pv 2)) jl_nil))) (je_new (jf_lc (own := [("state", 4)]) (ts := [4]) (ix := [4]) rfl (by decide) rfl sc_device_text.nd (ji_it rfl (je_v 3 (pv 3))) (blkOk_by (by kernel_rfl)) (fun _ _ _ _ _ => (jg_n 4 (pg_name (i := 4) sc_device_text.nd rfl (by first | exact .inl rfl | exact .inr rfl)))) (fun _ _ _ _ _ => jts_nil) (fun _ _ _ _ _ => (je_ct s_str (by rfl) T.z_str bt_str (jl_cons (je_v 4 (pv 4)) jl_nil)))))))) js_nil)) (js_cons (js_ret (je_m1 s_join PySem.F.slot_str_join PySem.F.type_str_join (je_c (fun _ _ => .str _) pe_str) (je_fz 1 (pv 1)))) js_nil)))
theorem sc__law_case_right : FnScope ["_law_box_here", "_law_tables_here", "_law_device", "_law_lines", "_law_at", "_law_text", "_law_line", "_law_head", "_law_bent", "_law_odd", "_law_state"] ["_law_box_here"] (defScope (topS 28)) := ⟨rfl, rfl, rfl, by decide +kernel, rfl, by decide +kernel, by decide +kernel⟩
theorem ok__law_case_right (T : Facts P K mg ca) : FnOk P w K mg base (L2.CX P w) 9 T.p__law_case_right T.d__law_case_right ["_law_box_here"] (spV ⟨K, ca⟩ (vD ⟨K, ca⟩) 1 f__law_case_right) :=
  def_ok (N := ["_law_box_here", "_law_tables_here", "_law_device", "_law_lines", "_law_at", "_law_text", "_law_line", "_law_head", "_law_bent", "_law_odd", "_law_state"]) T.F__law_case_right sc__law_case_right rfl (by decide) fun cdv A outer s H E hr => (js_cons (js_set 1 (by decide) (ps_set (i := 1) sc__law_case_right.nd rfl (by first | exact .inl rfl | exact .inr rfl) (je_call (CX := CX0) (ok__law_tables T) (takes_of rfl rfl rfl rfl) (hr.mono (by decide)) (by rfl) T.g__law_tables T.F__law_tables.kp T.b__law_tables (jg_o 0 (pv 0) (jg_d (je_c (fun _ _ => .int _) pe_int) (jg_d (je_op s_add (je_c (fun _ _ => .int _) pe_int) (je_call (CX := CX0) (ok__law_take T) (takes_of rfl rfl rfl rfl) (hr.mono (by decide)) (by rfl) T.g__law_take T.F__law_take.kp T.b__law_take (jg_o 0 (pv 0) (jg_d (je_c (fun _ _ => .int _) pe_int) jg_nil)) (an_o (an_d an_nil)))) jg_nil))) (an_o (an_d (an_d an_nil)))))) (js_cons (js_set 2 (by decide) (ps_set (i := 2) sc__law_case_right.nd rfl (by first | exact .inl rfl | exact .inr rfl) (je_make (c := 3) T.mk_Device (ok_Device___init T) (takes_of rfl rfl rfl rfl) (hr.mono (by decide)) (by rfl) T.g_Device T.b_Device___init (jg_d (je_v 1 (pv 1)) jg_nil) (an_d an_nil)))) (js_cons (js_own 3 (by decide) (ps_set (i := 3) sc__law_case_right.nd rfl (by first | exact .inl rfl | exact .inr rfl) (jf_lst (jl_cons (je_op s_add (je_c (fun _ _ => .str _) pe_str) (je_ct s_str (by rfl) T.z_str bt_str (jl_cons (je_fld (cs := [3]) T.a_states (je_v 2 (pv 2))) jl_nil))) jl_nil)))) (js_cons (js_for (ts := [4]) (by decide) (passes_of rfl) rfl (ji_range1 (by rfl) T.z_range (je_cb (s_len rfl) (by rfl) T.z_len bt_len (jl_cons (je_v 1 (pv 1)) jl_nil))) (jg_n 4 (pg_name (i := 4) sc__law_case_right.nd rfl (by first | exact .inl rfl | exact .inr rfl))) (js_cons (js_app 3 (pv 3) (je_m1 s_join PySem.F.slot_str_join PySem.F.type_str_join (je_c (fun _ _ => .str _) pe_str) (je_op s_add (je_new (jf_lst (jl_cons (je_ix (s_ix rfl) (je_c (fun _ _ => .str _) pe_str) (je_v 4 (pv 4))) jl_nil))) (je_new (jf_lc (own := [("_law_state", 10)]) (ts := [10]) (ix := [10]) rfl (by decide) rfl sc__law_case_right.nd (ji_it rfl (je_ix (s_ix rfl) (je_v 1 (pv 1)) (je_v 4 (pv 4)))) (blkOk_by (by kernel_rfl)) (fun _ _ _ _ _ => (jg_n 10 (pg_name (i := 10) sc__law_case_right.nd rfl (by first | exact .inl rfl | exact .inr rfl)))) (fun _ _ _ _ _ => jts_nil) (fun _ _ _ _ _ => (je_ct s_str (by rfl) T.z_str bt_str (jl_cons (je_v 10 (pv 10)) jl_nil)))))))) js_nil)) (js_cons (js_set 5 (by decide) (ps_set (i := 5) sc__law_case_right.nd rfl (by first | exact .inl rfl | exact .inr rfl) (je_m1 s_join PySem.F.slot_str_join PySem.F.type_str_join (je_c (fun _ _ => .str _) pe_str) (je_fz 3 (pv 3))))) (js_cons (js_if (jw_or (jt_cmp (Op2.or (s_neS.or (s_neD hr.units)) (s_neI T.eq_Device___eq.txt (ok_Device___eq T) T.b_Device___eq (hr.mono (by decide)))) (je_callK (ok_device_text T) (takes_of rfl rfl rfl rfl) (hr.mono (by decide)) (by rfl) T.g_device_text T.F_device_text.kp T.kb_device_text (jk_d (je_v 2 (pv 2)) jk_nil) (an_d an_nil)) (je_v 5 (pv 5)) (nomark _)) (jw_or (jt_cmp (Op2.or (s_neS.or (s_neD hr.units)) (s_neI T.eq_Device___eq.txt (ok_Device___eq T) T.b_Device___eq (hr.mono (by decide)))) (je_call (CX := CX0) (ok__law_reads T) (takes_of rfl rfl rfl rfl) (hr.mono (by decide)) (by rfl) T.g__law_reads T.F__law_reads.kp T.b__law_reads (jg_d (je_v 5 (pv 5)) jg_nil) (an_d an_nil)) (je_v 2 (pv 2)) (nomark _)) (jw_or (jt_cmp (Op2.or (s_neS.or (s_neD hr.units)) (s_neI T.eq_Device___eq.txt (ok_Device___eq T) T.b_Device___eq (hr.mono (by decide)))) (je_call (CX := CX0) (ok__law_reads T) (takes_of rfl rfl rfl rfl) (hr.mono (by decide)) (by rfl) T.g__law_reads T.F__law_reads.kp T.b__law_reads (jg_d (je_c (fun _ _ => .int _) pe_int) jg_nil) (an_d an_nil)) (je_c (fun _ _ => .int _) pe_int) (nomark _)) (jw_or (jt_cmp (Op2.or (s_neS.or (s_neD hr.units)) (s_neI T.eq_Device___eq.txt (ok_Device___eq T) T.b_Device___eq (hr.mono (by decide)))) (je_call (CX := CX0) (ok__law_reads T) (takes_of rfl rfl rfl rfl) (hr.mono (by decide)) (by rfl) T.g__law_reads T.F__law_reads.kp T.b__law_reads (jg_d (je_c (fun _ _ => .non) pe_non) jg_nil) (an_d an_nil)) (je_c (fun _ _ => .int _) pe_int) (nomark _)) (jw_or1 (jt_cmp (Op2.or (s_neS.or (s_neD hr.units)) (s_neI T.eq_Device___eq.txt (ok_Device___eq T) T.b_Device___eq (hr.mono (by decide)))) (je_call (CX := CX0) (ok__law_reads T) (takes_of rfl rfl rfl rfl) (hr.mono (by decide)) (by rfl) T.g__law_reads T.F__law_reads.kp T.b__law_reads (jg_d (je_new (jf_lst (jl_cons (je_c (fun _ _ => .str _) pe_str) jl_nil))) jg_nil) (an_d an_nil)) (je_c (fun _ _ => .int _) pe_int) (nomark _))))))).pt (js_cons (js_ret (je_c (fun _ _ => .bl _) pe_bl)) js_nil) js_nil) (js_cons (js_set 4 (by decide) (ps_set (i := 4) sc__law_case_right.nd rfl (by first | exact .inl rfl | exact .inr rfl) (je_call (CX := CX0) (ok__law_take T) (takes_of rfl rfl rfl rfl) (hr.mono (by decide)) (by rfl) T.g__law_take T.F__law_take.kp T.b__law_take (jg_o 0 (pv 0) (jg_d (je_cb (s_len rfl) (by rfl) T.z_len bt_len (jl_cons (je_fz 3 (pv 3)) jl_nil)) jg_nil)) (an_o (an_d an_nil))))) (js_cons (js_set 6 (by decide) (ps_set (i := 6) sc__law_case_right.nd rfl (by first | exact .inl rfl | exact .inr rfl) (je_ix (s_ix rfl) (je_fz 3 (pv 3)) (je_v 4 (pv 4))))) (js_cons (js_set 7 (by decide) (ps_set (i := 7) sc__law_case_right.nd rfl (by first | exact .inl rfl | exact .inr rfl) (je_m1 s_join PySem.F.slot_str_join PySem.F.type_str_join (je_c (fun _ _ => .str _) pe_str) (je_sl (s_sl rfl) (je_m1 s_split PySem.F.slot_str_split PySem.F.type_str_split (je_v 6 (pv 6)) (je_c (fun _ _ => .str _) pe_str)) jo_n (jo_s (je_op s_sub (je_cb (s_len rfl) (by rfl) T.z_len bt_len (jl_cons (je_m1 s_split PySem.F.slot_str_split PySem.F.type_str_split (je_v 6 (pv 6)) (je_c (fun _ _ => .str _) pe_str)) jl_nil)) (je_c (fun _ _ => .int _) pe_int))))))) (js_cons (js_set 8 (by decide) (ps_set (i := 8) sc__law_case_right.nd rfl (by first | exact .inl rfl | exact .inr rfl) (je_new (jf_lst (jl_cons (je_op s_add (je_v 6 (pv 6)) (je_c (fun _ _ => .str _) pe_str)) (jl_cons (je_op s_add (je_c (fun _ _ => .str _) pe_str) (je_v 6 (pv 6))) (jl_cons (je_c (fun _ _ => .str _) pe_str) (jl_cons (je_op s_add (je_v 6 (pv 6)) (je_c (fun _ _ => .str _) pe_str)) (jl_cons (je_sl (s_sl rfl) (je_v 6 (pv 6)) (jo_s (je_c (fun _ _ => .int _) pe_int)) jo_n) (jl_cons (je_m0 s_upper PySem.F.slot_str_upper PySem.F.type_str_upper (je_v 6 (pv 6))) (jl_cons (je_v 7 (pv 7)) (jl_cons (je_op s_add (je_v 7 (pv 7)) (je_c (fun _ _ => .str _) pe_str)) (jl_cons (je_op s_add (je_v 7 (pv 7)) (je_c (fun _ _ => .str _) pe_str)) (jl_cons (je_op s_add (je_v 7 (pv 7)) (je_c (fun _ _ => .str _) pe_str)) (jl_cons (je_op s_add (je_v 7 (pv 7)) (je_c (fun _ _ => .str _) pe_str)) (jl_cons (je_op s_add (je_v 7 (pv 7)) (je_c (fun _ _ => .str _) pe_str)) (jl_cons (je_op s_add (je_v 6 (pv 6)) (je_c (fun _ _ => .str _) pe_str)) jl_nil))))))))))))))))) (js_cons (js_if (jt_cmp (Op2.or (s_neS.or (s_neD hr.units)) (s_neI T.eq_Device___eq.txt (ok_Device___eq T) T.b_Device___eq (hr.mono (by decide)))) (je_call (CX := CX0) (ok__law_reads T) (takes_of rfl rfl rfl rfl) (hr.mono (by decide)) (by rfl) T.g__law_reads T.F__law_reads.kp T.b__law_reads (jg_d (je_m1 s_join PySem.F.slot_str_join PySem.F.type_str_join (je_c (fun _ _ => .str _) pe_str) (je_op s_add (je_op s_add (je_sl (s_sl rfl) (je_fz 3 (pv 3)) jo_n (jo_s (je_v 4 (pv 4)))) (je_new (jf_lst (jl_cons (je_call (CX := CX0) (ok__law_pick T) (takes_of rfl rfl rfl rfl) (hr.mono (by decide)) (by rfl) T.g__law_pick T.F__law_pick.kp T.b__law_pick (jg_o 0 (pv 0) (jg_d (je_v 8 (pv 8)) jg_nil)) (an_o (an_d an_nil))) jl_nil)))) (je_sl (s_sl rfl) (je_fz 3 (pv 3)) (jo_s (je_op s_add (je_v 4 (pv 4)) (je_c (fun _ _ => .int _) pe_int))) jo_n))) jg_nil) (an_d an_nil)) (je_op s_add (je_v 4 (pv 4)) (je_c (fun _ _ => .int _) pe_int)) (nomark _)) (js_cons (js_ret (je_c (fun _ _ => .bl _) pe_bl)) js_nil) js_nil) (js_cons (js_if (jw_or (jt_cmp (Op2.or (s_neS.or (s_neD hr.units)) (s_neI T.eq_Device___eq.txt (ok_Device___eq T) T.b_Device___eq (hr.mono (by decide)))) (je_call (CX := CX0) (ok__law_reads T) (takes_of rfl rfl rfl rfl) (hr.mono (by decide)) (by rfl) T.g__law_reads T.F__law_reads.kp T.b__law_reads (jg_d (je_op s_add (je_v 5 (pv 5)) (je_c (fun _ _ => .str _) pe_str)) jg_nil) (an_d an_nil)) (je_op s_add (je_cb (s_len rfl) (by rfl) T.z_len bt_len (jl_cons (je_fz 3 (pv 3)) jl_nil)) (je_c (fun _ _ => .int _) pe_int)) (nomark _)) (jw_or (jt_cmp (Op2.or (s_neS.or (s_neD hr.units)) (s_neI T.eq_Device___eq.txt (ok_Device___eq T) T.b_Device___eq (hr.mono (by decide)))) (je_call (CX := CX0) (ok__law_reads T) (takes_of rfl rfl rfl rfl) (hr.mono (by decide)) (by rfl) T.g__law_reads T.F__law_reads.kp T.b__law_reads (jg_d (je_ix (s_ix rfl) (je_fz 3 (pv 3)) (je_c (fun _ _ => .int _) pe_int)) jg_nil) (an_d an_nil)) (je_c (fun _ _ => .int _) pe_int) (nomark _)) (jw_or1 (jt_cmp (Op2.or (s_neS.or (s_neD hr.units)) (s_neI T.eq_Device___eq.txt (ok_Device___eq T) T.b_Device___eq (hr.mono (by decide)))) (je_call (CX := CX0) (ok__law_reads T) (takes_of rfl rfl rfl rfl) (hr.mono (by decide)) (by rfl) T.g__law_reads T.F__law_reads.kp T.b__law_reads (jg_d (je_c (fun _ _ => .str _) pe_str) jg_nil) (an_d an_nil)) (je_c (fun _ _ => .int _) pe_int) (nomark _))))).pt (js_cons (js_ret (je_c (fun _ _ => .bl _) pe_bl)) js_nil) js_nil) (js_cons (js_if (jt_cmp (Op2.or (s_neS.or (s_neD hr.units)) (s_neI T.eq_Device___eq.txt (ok_Device___eq T) T.b_Device___eq (hr.mono (by decide)))) (je_call (CX := CX0) (ok__law_reads T) (takes_of rfl rfl rfl rfl) (hr.mono (by decide)) (by rfl) T.g__law_reads T.F__law_reads.kp T.b__law_reads (jg_d (je_m1 s_join PySem.F.slot_str_join PySem.F.type_str_join (je_c (fun _ _ => .str _) pe_str) (je_op s_add (je_sl (s_sl rfl) (je_fz 3 (pv 3)) jo_n (jo_s (je_op s_add (je_v 4 (pv 4)) (je_c (fun _ _ => .int _) pe_int)))) (je_sl (s_sl rfl) (je_fz 3 (pv 3)) (jo_s (je_v 4 (pv 4))) jo_n))) jg_nil) (an_d an_nil)) (je_op s_add (je_v 4 (pv 4)) (je_c (fun _ _ => .int _) pe_int)) (nomark _)) (js_cons (js_ret (je_c (fun _ _ => .bl _) pe_bl)) js_nil) js_nil) (js_cons (js_for (ts := [9]) (by decide) (passes_of rfl) rfl (ji_it rfl (je_tupD (jl_cons (je_c (fun _ _ => .str _) pe_str) (jl_cons (je_c (fun _ _ => .str _) pe_str) (jl_cons (je_c (fun _ _ => .str _) pe_str) (jl_cons (je_c (fun _ _ => .str _) pe_str) (jl_cons (je_c (fun _ _ => .str _) pe_str) (jl_cons (je_c (fun _ _ => .str _) pe_str) jl_nil)))))))) (jg_n 9 (pg_name (i := 9) sc__law_case_right.nd rfl (by first | exact .inl rfl | exact .inr rfl))) (js_cons (js_if (jt_cmp (Op2.or (s_neS.or (s_neD hr.units)) (s_neI T.eq_Device___eq.txt (ok_Device___eq T) T.b_Device___eq (hr.mono (by decide)))) (je_call (CX := CX0) (ok__law_reads T) (takes_of rfl rfl rfl rfl) (hr.mono (by decide)) (by rfl) T.g__law_reads T.F__law_reads.kp T.b__law_reads (jg_d (je_v 9 (pv 9)) jg_nil) (an_d an_nil)) (je_c (fun _ _ => .int _) pe_int) (nomark _)) (js_cons (js_ret (je_c (fun _ _ => .bl _) pe_bl)) js_nil) js_nil) js_nil)) (js_cons (js_ret (je_and (je_cmp (Op2.or (s_eqS.or (s_eqD hr.units)) (s_eqI T.eq_Device___eq.txt (ok_Device___eq T) T.b_Device___eq (hr.mono (by decide)))) (je_call (CX := CX0) (ok__law_reads T) (takes_of rfl rfl rfl rfl) (hr.mono (by decide)) (by rfl) T.g__law_reads T.F__law_reads.kp T.b__law_reads (jg_d (je_c (fun _ _ => .str _) pe_str) jg_nil) (an_d an_nil)) (je_c (fun _ _ => .int _) pe_int) (nomark _)) (je_and (je_cmp (Op2.or (s_eqS.or (s_eqD hr.units)) (s_eqI T.eq_Device___eq.txt (ok_Device___eq T) T.b_Device___eq (hr.mono (by decide)))) (je_call (CX := CX0) (ok__law_reads T) (takes_of rfl rfl rfl rfl) (hr.mono (by decide)) (by rfl) T.g__law_reads T.F__law_reads.kp T.b__law_reads (jg_d (je_c (fun _ _ => .str _) pe_str) jg_nil) (an_d an_nil)) (je_c (fun _ _ => .int _) pe_int) (nomark _)) (je_one (je_cmp (Op2.or (s_eqS.or (s_eqD hr.units)) (s_eqI T.eq_Device___eq.txt (ok_Device___eq T) T.b_Device___eq (hr.mono (by decide)))) (je_call (CX := CX0) (ok__law_reads T) (takes_of rfl rfl rfl rfl) (hr.mono (by decide)) (by rfl) T.g__law_reads T.F__law_reads.kp T.b__law_reads (jg_d (je_c (fun _ _ => .str _) pe_str) jg_nil) (an_d an_nil)) (je_c (fun _ _ => .int _) pe_int) (nomark _)))))) js_nil)))))))))))))))
theorem sc__law_box : FnScope ["_law_script", "_law_k", "_law_cell"] ["_law_script", "_law_k"] (defScope (topS 21)) := ⟨rfl, rfl, rfl, by decide +kernel, rfl, by decide +kernel, by decide +kernel⟩
theorem ok__law_box (T : Facts P K mg ca) : FnOk P w K mg base (L2.CX P w) 2 T.p__law_box T.d__law_box ["_law_script", "_law_k"] (spV ⟨K, ca⟩ (vR ⟨K, ca⟩) 2 f__law_box) :=
  def_okF (N := ["_law_script", "_law_k", "_law_cell"]) T.F__law_box sc__law_box rfl (by decide) fun cdv A outer s H E hr => (js_cons (js_set 2 (by decide) (ps_set (i := 2) sc__law_box.nd rfl (by first | exact .inl rfl | exact .inr rfl) (je_op s_add (je_op s_mul3 (je_c (fun _ _ => .int _) pe_int) (je_v 1 (pv 1))) (je_c (fun _ _ => .int _) pe_int)))) (js_cons (js_if (jt_cmp s_lt (je_v 1 (pv 1)) (je_cb (s_len rfl) (by rfl) T.z_len bt_len (jl_cons (je_v 0 (pv 0)) jl_nil)) (nomark _)) (js_cons (js_set 2 (by decide) (ps_set (i := 2) sc__law_box.nd rfl (by first | exact .inl rfl | exact .inr rfl) (je_cb s_abs (by rfl) T.z_abs bt_abs (jl_cons (je_ix (s_ix rfl) (je_v 0 (pv 0)) (je_v 1 (pv 1))) jl_nil)))) js_nil) (js_cons (js_if (jt_cmp s_gt (je_cb (s_len rfl) (by rfl) T.z_len bt_len (jl_cons (je_v 0 (pv 0)) jl_nil)) (je_c (fun _ _ => .int _) pe_int) (nomark _)) (js_cons (js_set 2 (by decide) (ps_set (i := 2) sc__law_box.nd rfl (by first | exact .inl rfl | exact .inr rfl) (je_op s_add (je_v 2 (pv 2)) (je_op s_mul3 (je_op s_mod (je_ct s_int (by rfl) T.z_int bt_int (jl_cons (je_cb s_abs (by rfl) T.z_abs bt_abs (jl_cons (je_ix (s_ix rfl) (je_v 0 (pv 0)) (je_op s_mod (je_ct s_int (by rfl) T.z_int bt_int (jl_cons (je_v 1 (pv 1)) jl_nil)) (je_cb (s_len rfl) (by rfl) T.z_len bt_len (jl_cons (je_v 0 (pv 0)) jl_nil)))) jl_nil)) jl_nil)) (je_c (fun _ _ => .int _) pe_int)) (je_c (fun _ _ => .int _) pe_int))))) js_nil) js_nil) js_nil)) (js_cons (js_retF (jf_lst (jl_cons (je_ix (s_ix rfl) (je_new (jf_lst (jl_cons (je_c (fun _ _ => .int _) pe_int) (jl_cons (je_v 2 (pv 2)) jl_nil)))) (je_ct s_int (by rfl) T.z_int bt_int (jl_cons (je_cmp s_ge (je_v 2 (pv 2)) (je_op s_pow (je_c (fun _ _ => .int _) pe_int) (je_c (fun _ _ => .int _) pe_int)) (nomark _)) jl_nil))) (jl_cons (je_op s_add (je_op s_mod (je_ct s_int (by rfl) T.z_int bt_int (jl_cons (je_op s_add (je_op s_mul3 (je_op s_mod (je_ct s_int (by rfl) T.z_int bt_int (jl_cons (je_v 2 (pv 2)) jl_nil)) (je_c (fun _ _ => .int _) pe_int)) (je_c (fun _ _ => .int _) pe_int)) (je_op s_mul3 (je_c (fun _ _ => .int _) pe_int) (je_v 1 (pv 1)))) jl_nil)) (je_c (fun _ _ => .int _) pe_int)) (je_c (fun _ _ => .int _) pe_int)) (jl_cons (je_c (fun _ _ => .int _) pe_int) jl_nil))))) js_nil)))
theorem sc_law : FnScope ["_law_script", "_law_k", "_law_most"] ["_law_script"] (defScope (topS 29)) := ⟨rfl, rfl, rfl, by decide +kernel, rfl, by decide +kernel, by decide +kernel⟩
theorem ok_law (T : Facts P K mg ca) : FnOk P w K mg base CX0 10 T.p_law T.d_law ["_law_script"] (fun vs H Q _ => spV ⟨K, ca⟩ (vD ⟨K, ca⟩) 1 f_law vs H Q E0) :=
  def_ok0 (N := ["_law_script", "_law_k", "_law_most"]) T.F_law sc_law rfl (by decide) fun cdv A outer s H E hr => (js_cons (js_for (ts := [1]) (by decide) PassesOwn.never rfl (ji_range1 (by rfl) T.z_range (je_c (fun _ _ => .int _) pe_int)) (jg_n 1 (pg_name (i := 1) sc_law.nd rfl (by first | exact .inl rfl | exact .inr rfl))) (js_cons (js_if (jt_not (jt_tru rfl (je_callN (ok__law_case_right T) takes0 (hr.mono (by decide)) (by rfl) T.g__law_case_right T.F__law_case_right.kp T.b__law_case_right (jf_call (ok__law_box T) takes0 (hr.mono (by decide)) (by rfl) T.g__law_box T.F__law_box.kp T.b__law_box (jg_d (je_v 0 (pv 0)) (jg_d (je_v 1 (pv 1)) jg_nil)) (an_d (an_d an_nil)))))) (js_cons (js_ret (je_c (fun _ _ => .bl _) pe_bl)) js_nil) js_nil) js_nil)) (js_cons (js_set 2 (by decide) (ps_set (i := 2) sc_law.nd rfl (by first | exact .inl rfl | exact .inr rfl) (je_call (CX := CX0) (ok__law_reads T) takes0 (hr.mono (by decide)) (by rfl) T.g__law_reads T.F__law_reads.kp T.b__law_reads (jg_d (je_op s_add (je_c (fun _ _ => .str _) pe_str) (je_op s_mul3 (je_c (fun _ _ => .str _) pe_str) (je_c (fun _ _ => .int _) pe_int))) jg_nil) (an_d an_nil)))) (js_cons (js_if (jt_cmp (Op2.or (s_neS.or (s_neD hr.units)) (s_neI T.eq_Device___eq.txt (ok_Device___eq T) T.b_Device___eq (hr.mono (by decide)))) (je_call (CX := CX0) (ok__law_reads T) takes0 (hr.mono (by decide)) (by rfl) T.g__law_reads T.F__law_reads.kp T.b__law_reads (jg_d (je_c (fun _ _ => .str _) pe_str) jg_nil) (an_d an_nil)) (je_c (fun _ _ => .int _) pe_int) (nomark _)) (js_cons (js_ret (je_c (fun _ _ => .bl _) pe_bl)) js_nil) js_nil) (js_cons (js_ret (je_and (je_cmp (Op2.or (s_eqS.or (s_eqD hr.units)) (s_eqI T.eq_Device___eq.txt (ok_Device___eq T) T.b_Device___eq (hr.mono (by decide)))) (je_v 2 (pv 2)) (je_make (c := 3) T.mk_Device (ok_Device___init T) takes0 (hr.mono (by decide)) (by rfl) T.g_Device T.b_Device___init (jg_d (je_new (jf_lst (jl_cons (je_op s_mul3 (je_new (jf_lst (jl_cons (je_c (fun _ _ => .int _) pe_int) jl_nil))) (je_c (fun _ _ => .int _) pe_int)) jl_nil))) jg_nil) (an_d an_nil)) (nomark _)) (je_one (je_cmp (Op2.or (s_eqS.or (s_eqD hr.units)) (s_eqI T.eq_Device___eq.txt (ok_Device___eq T) T.b_Device___eq (hr.mono (by decide)))) (je_call (CX := CX0) (ok__law_reads T) takes0 (hr.mono (by decide)) (by rfl) T.g__law_reads T.F__law_reads.kp T.b__law_reads (jg_d (je_op s_add (je_c (fun _ _ => .str _) pe_str) (je_op s_mul3 (je_c (fun _ _ => .str _) pe_str) (je_c (fun _ _ => .int _) pe_int))) jg_nil) (an_d an_nil)) (je_c (fun _ _ => .int _) pe_int) (nomark _))))) js_nil))))
end
end K04
end
section
set_option linter.all false
set_option maxRecDepth 100000
set_option maxHeartbeats 4000000
/-! K04P: the plain law of k04. -/
namespace K04
open VM
open PySem (Str Txt.join Txt.split)
open TL
theorem q_seq (ds : List D) : f_is_sequence [.fr (.lst ds)] = .ok (.bl true) [.un] := rfl
theorem q_int (n : Int) : f_is_integer [.fr (.int n)] = .ok (.bl true) [.un] := rfl
theorem q_num (n : Int) : f_is_number [.fr (.int n)] = .ok (.bl (decide (0 ≤ n))) [.un] := rfl
theorem q_text (x : Str) : f_is_text [.fr (.str x)] = .ok (.bl true) [.un] := rfl
theorem q_text0 (n : Int) : f_is_text [.fr (.int n)] = .ok (.bl false) [.un] := rfl
theorem q_textN : f_is_text [.fr .non] = .ok (.bl false) [.un] := rfl
theorem q_textL (ds : List D) : f_is_text [.fr (.lst ds)] = .ok (.bl false) [.un] := rfl
/-- a number, a table -/
def nD (n : Nat) : D := .int (n : Int)
def tL (t : List Nat) : D := .lst (t.map nD)
def tT (t : List Nat) : D := .tup (t.map nD)
def GoodT (n : Nat) (t : List Nat) : Prop := t.length = n ∧ ∀ x ∈ t, x < n
structure Good (n : Nat) (tabs : List (List Nat)) : Prop where
  n1 : 1 ≤ n
  n2 : n ≤ 60
  k1 : 1 ≤ tabs.length
  k2 : tabs.length ≤ 5
  t : ∀ t ∈ tabs, GoodT n t
theorem blsD_map {α : Type} (f : α → Bool) : ∀ l : List α, blsD (l.map fun x => .bl (f x)) = some (l.map f)
  | [] => rfl
  | x :: l => by
    show (blsD (l.map fun x => .bl (f x))).map (f x :: ·) = _
    rw [blsD_map f l]
    rfl
theorem q_table {n : Nat} {t : List Nat} (h : GoodT n t) (n1 : 1 ≤ n) (n2 : n ≤ 60) (many : D) (hm : many = .non ∨ many = .int (n : Int)) : f_is_table [.fr (tL t), .fr many] = .ok (.bl true) [.un, .un] := by
  refine fn_rt (σ1 := [.fr (tL t), .fr many, .un]) ?_
  have hlen : ((t.map nD).length : Int) = n := by rw [List.length_map, h.1]
  refine seq_to (σ1 := [.fr (tL t), .fr many, .un]) (if_f (or_f (tnot_to (tru_to (k := true) (call_ok rfl rfl (q_seq _)) rfl)) (or_f (tnot_to (tE_to (k := true) (σ1 := [.fr (tL t), .fr many, .un]) ?_)) ?_)) rfl) ?_
  · show (match some (D.bl (decide ((1 : Int) ≤ ((t.map nD).length : Int)))) with
      | some (.bl true) => R.opt (some (D.bl (decide (((t.map nD).length : Int) ≤ 60)))) _
      | some (.bl false) => .ok (.bl false) _
      | _ => .stuck) = _
    rw [hlen, decide_eq_true (by omega : (1 : Int) ≤ n), decide_eq_true (by omega : (n : Int) ≤ 60)]
    rfl
  · rcases hm with rfl | rfl
    · exact and_f rfl
    · refine and_t (σ1 := [.fr (tL t), .fr (.int (n : Int)), .un]) rfl (tE_to ?_)
      show R.ok (D.bl (!decide (((t.map nD).length : Int) = n))) _ = _
      rw [hlen, decide_eq_true rfl]
      rfl
  · refine seq_rt (ret_to (eL_to (ds := [.lst (t.map fun x => .bl true)]) (cons_to (new_to ?_) nil_to) ?_))
    · have := lc_map (i := 2) (σ := [.fr (tL t), .fr many, .un]) (e := (eAnd (eCall f_is_number (aD (eV 2) aNil)) (e2 oLt (eV 2) (eL cLen (lCons (eV 0) lNil))))) (it := lIt (eV 0)) (xs := t.map nD) (fun _ => .bl true) (σ1 := [.fr (tL t), .fr many, .un]) rfl (.inl rfl) (by rw [List.length_map, h.1]; omega) fun x hx => ?_
      · rw [this, List.map_map]
        rfl
      · obtain ⟨y, hy, rfl⟩ := List.mem_map.mp hx
        refine eand_t (σ1 := [.fr (tL t), .fr many, .fr (.int (y : Int))]) ?_ ?_
        · refine (call_ok (σ1 := [.fr (tL t), .fr many, .fr (.int (y : Int))]) rfl rfl (q_num _)).trans ?_
          rw [decide_eq_true (by omega : (0 : Int) ≤ y)]
          rfl
        · show R.ok (D.bl (decide ((y : Int) < ((t.map nD).length : Int)))) _ = _
          rw [hlen, decide_eq_true (by have := h.2 y hy; omega)]
          rfl
    · show (blsD (t.map fun x => .bl true)).map _ = _
      rw [blsD_map (fun _ => true)]
      show some (D.bl ((t.map fun _ => true).all id)) = _
      rw [List.all_map]
      congr 2
      exact List.all_eq_true.mpr fun _ _ => rfl
/-- the device of such tables -/
def devD (n : Nat) (tabs : List (List Nat)) : D := .ins 3 [("states", nD n), ("signals", .str (L2.cutS "abcde" none (some (tabs.length : Int)))), ("tables", .tup (tabs.map tT))]
theorem ix0 {α : Type} (f : α → D) (x : α) (l : List α) : L2.atI ((x :: l).map f) 0 = some (f x) := by
  show (L2.ixN ((x :: l).map f).length 0).bind _ = _
  unfold L2.ixN
  rw [if_pos (by decide), List.length_map, List.length_cons]
  simp
theorem q_init {n : Nat} {tabs : List (List Nat)} (h : Good n tabs) : f_Device___init [.ow (.ins 3 []), .fr (.lst (tabs.map tL))] = .ok .non [.ow (devD n tabs), .un] := by
  have hlen : ((tabs.map tL).length : Int) = (tabs.length : Int) := by rw [List.length_map]
  obtain ⟨t0, tr, et⟩ : ∃ t0 tr, tabs = t0 :: tr := by
    cases tabs with
    | nil => exact absurd h.k1 (by simp)
    | cons a r => exact ⟨a, r, rfl⟩
  have h0 : t0.length = n := (h.t t0 (by rw [et]; exact List.mem_cons_self)).1
  have i0 : oIx (.lst (tabs.map tL)) (.int 0) = some (tL t0) := by rw [et]; exact ix0 tL t0 tr
  have len0 : ∀ s2 s3 : Sl, eL cLen (lCons (e2 oIx (eV 1) (eC (.int 0))) lNil) [.ow (.ins 3 []), .fr (.lst (tabs.map tL)), s2, s3] = .ok (nD n) [.ow (.ins 3 []), .fr (.lst (tabs.map tL)), s2, s3] := fun s2 s3 =>
    eL_to (cons_to (e2_to (x := .lst (tabs.map tL)) (y := .int 0) rfl rfl i0) nil_to) (by show some (D.int ((t0.map nD).length : Int)) = _; rw [List.length_map, h0]; rfl)
  obtain ⟨σ', g1, s2, s3, rfl, hs3'⟩ := for_nx (it := lEnum (eV 1)) (tg := gT [(gN 2), (gN 3)]) (σ := [.ow (.ins 3 []), .fr (.lst (tabs.map tL)), .un, .un]) (xs := enumD 0 (tabs.map tL)) (σ1 := [.ow (.ins 3 []), .fr (.lst (tabs.map tL)), .un, .un])
    (body := (sSeq (sIf (tNot (tTru truD (eCall f_is_table (aD (eV 3) (aD (eIf (tE (e2 oGt (eV 2) (eC (.int 0)))) (eL cLen (lCons (e2 oIx (eV 1) (eC (.int 0))) lNil)) (eC .non)) aNil))))) (sSeq (sRaise 1 (fun d => [("at", d)]) (eV 2)) sNext) sNext) sNext)) rfl
    (fun i σ => ∃ s2 s3, σ = [.ow (.ins 3 []), .fr (.lst (tabs.map tL)), s2, s3] ∧ (s3 = .un ∨ ∃ d, s3 = .fr d)) ⟨_, _, rfl, .inl rfl⟩ fun i x σ hi ⟨s2, s3, e, _⟩ => by
      subst e
      rw [enumD_at, List.getElem?_map] at hi
      cases ht : tabs[i]? with
      | none => rw [ht] at hi; cases hi
      | some t =>
        rw [ht] at hi
        cases hi
        have gt := h.t t (List.mem_of_getElem? ht)
        refine ⟨[.ow (.ins 3 []), .fr (.lst (tabs.map tL)), .fr (.int ((0 + i : Nat) : Int)), .fr (tL t)], [.ow (.ins 3 []), .fr (.lst (tabs.map tL)), .fr (.int ((0 + i : Nat) : Int)), .fr (tL t)], rfl, .inl (seq_to (if_f (tnot_to (tru_to (d := .bl true) (k := true) ?_ rfl)) rfl) rfl), ⟨_, _, rfl, .inr ⟨_, rfl⟩⟩⟩
        by_cases hz : i = 0
        · subst hz
          exact call_ok (l := [.dv (tL t), .dv .non]) rfl rfl (q_table gt h.n1 h.n2 .non (.inl rfl))
        · refine call_ok (l := [.dv (tL t), .dv (nD n)]) ?_ rfl (q_table gt h.n1 h.n2 (nD n) (.inr rfl))
          exact aD_to rfl (aD_to (eif_t (σ1 := [.ow (.ins 3 []), .fr (.lst (tabs.map tL)), .fr (.int ((0 + i : Nat) : Int)), .fr (tL t)]) (tE_to (by show R.ok (D.bl (decide ((0 : Int) < ((0 + i : Nat) : Int)))) _ = _; rw [decide_eq_true (by omega)])) (len0 _ _)) aN_to)
  have hs3 : ∀ o : Sl, ([o, .fr (.lst (tabs.map tL)), s2, s3] : Ev)[3]? = some .un ∨ ∃ d, ([o, .fr (.lst (tabs.map tL)), s2, s3] : Ev)[3]? = some (.fr d) := fun o => hs3'.elim (fun e => .inl (by rw [e]; rfl)) fun ⟨d, e⟩ => .inr ⟨d, by rw [e]; rfl⟩
  refine fn_nx (σ1 := [.ow (devD n tabs), .fr (.lst (tabs.map tL)), s2, s3]) ?_
  refine seq_to (σ1 := [.ow (.ins 3 []), .fr (.lst (tabs.map tL)), .un, .un]) (if_f (or_f (tnot_to (tru_to (k := true) (call_ok rfl rfl (q_seq _)) rfl)) (tnot_to (tE_to (k := true) (σ1 := [.ow (.ins 3 []), .fr (.lst (tabs.map tL)), .un, .un]) ?_))) rfl) ?_
  · show (match some (D.bl (decide ((1 : Int) ≤ ((tabs.map tL).length : Int)))) with
      | some (.bl true) => R.opt (some (D.bl (decide (((tabs.map tL).length : Int) ≤ 5)))) _
      | some (.bl false) => .ok (.bl false) _
      | _ => .stuck) = _
    have := h.k1
    have := h.k2
    rw [hlen, decide_eq_true (by omega : (1 : Int) ≤ (tabs.length : Int)), decide_eq_true (by omega : (tabs.length : Int) ≤ 5)]
    rfl
  refine seq_to g1 ?_
  refine seq_to (fld_to (c := 3) (fs := []) (len0 s2 s3) rfl (by decide)) ?_
  refine seq_to (fld_to (c := 3) (fs := [("states", nD n)]) (σ1 := [.ow (.ins 3 [("states", nD n)]), .fr (.lst (tabs.map tL)), s2, s3]) (d := .str (L2.cutS "abcde" none (some (tabs.length : Int)))) ?_ rfl ⟨by simp, rfl⟩) ?_
  · show R.ok (D.str (L2.cutS "abcde" none (some ((tabs.map tL).length : Int)))) _ = _
    rw [hlen]
    rfl
  refine seq_to (fld_to (c := 3) (fs := [("states", nD n), ("signals", .str (L2.cutS "abcde" none (some (tabs.length : Int))))]) (σ1 := [.ow (.ins 3 [("states", nD n), ("signals", .str (L2.cutS "abcde" none (some (tabs.length : Int))))]), .fr (.lst (tabs.map tL)), s2, s3]) (d := .tup (tabs.map tT)) ?_ rfl ⟨by simp, rfl⟩) rfl
  refine eL_to (cons_to (new_to (lc_map (xs := tabs.map tL) (fun x => match x with
    | .lst ds => .tup ds
    | _ => .non) rfl (hs3 _) (by have := h.k2; rw [List.length_map]; omega) fun x hx => ?_)) nil_to) ?_
  · obtain ⟨t, _, rfl⟩ := List.mem_map.mp hx
    rfl
  · show some (D.tup ((tabs.map tL).map _)) = _
    rw [List.map_map]
    rfl

theorem pd_tL (t : List Nat) : (pd (tT t)).canLay0 = true ∧ (pd (tT t)).depth ≤ 1 := by
  constructor
  · show (PySem.PyData.tuple (pds (t.map nD))).canLay0 = true
    rw [PySem.PyData.canLay0]
    exact lay_map fun x _ => by
      show (pd (.int _)).canLay0 = true
      rw [pd, PySem.PyData.canLay0]
  · show (PySem.PyData.tuple (pds (t.map nD))).depth ≤ 1
    rw [PySem.PyData.depth]
    have := dep_map (f := nD) (k := 0) (l := t) fun x _ => by
      show (pd (.int _)).depth ≤ 0
      rw [pd, PySem.PyData.depth]
      exact Nat.le_refl 0
    omega
theorem q_eq (n : Nat) (tabs : List (List Nat)) : f_Device___eq [.fr (devD n tabs), .fr (devD n tabs)] = .ok (.bl true) [.un, .un] := by
  refine fn_rt (σ1 := [.fr (devD n tabs), .fr (devD n tabs)]) (seq_rt (ret_to (eand_t (σ1 := [.fr (devD n tabs), .fr (devD n tabs)]) rfl (e2_to (x := .tup (tabs.map tT)) (y := .tup (tabs.map tT)) rfl rfl ?_))))
  show eqD (.tup (tabs.map tT)) (.tup (tabs.map tT)) = _
  refine eqD_refl rfl ?_ ?_ ?_
  · exact datDs_map fun t _ => datDs_map fun x _ => rfl
  · show (PySem.PyData.tuple (pds (tabs.map tT))).canLay0 = true
    rw [PySem.PyData.canLay0]
    exact lay_map fun t _ => (pd_tL t).1
  · show (PySem.PyData.tuple (pds (tabs.map tT))).depth ≤ 64
    rw [PySem.PyData.depth]
    have := dep_map (f := tT) (k := 1) (l := tabs) fun t _ => (pd_tL t).2
    omega
/-! ### read_count -/
def digs : List Nat := tl "0123456789"
theorem mem_digs {c : Nat} : c ∈ digs ↔ 48 ≤ c ∧ c ≤ 57 := by
  have e : digs = [48, 49, 50, 51, 52, 53, 54, 55, 56, 57] := by decide +kernel
  rw [e]
  simp only [List.mem_cons, List.not_mem_nil, or_false]
  omega
theorem rc_chain {w : Str} {m : D} (hw : w.length ≤ 1000) : eChain oLe oLe (eC (.int 1)) (eL cLen (lCons (eV 0) lNil)) (eC (.int 2)) [.fr (.str w), .fr m, .un, .un] = .ok (.bl (decide (1 ≤ w.length ∧ w.length ≤ 2))) [.fr (.str w), .fr m, .un, .un] := by
  have e : (eL cLen (lCons (eV 0) lNil)) [.fr (.str w), .fr m, .un, .un] = .ok (.int w.length) [.fr (.str w), .fr m, .un, .un] := eL_to (ds := [.str w]) rfl (if_pos (by omega))
  show ((eL cLen (lCons (eV 0) lNil)) [.fr (.str w), .fr m, .un, .un]).bind _ = _
  rw [e]
  show (match some (D.bl (decide ((1 : Int) ≤ (w.length : Int)))) with
    | some (.bl true) => R.opt (some (D.bl (decide ((w.length : Int) ≤ 2)))) _
    | some (.bl false) => .ok (.bl false) _
    | _ => .stuck) = _
  by_cases h1 : 1 ≤ w.length
  · rw [decide_eq_true (by omega : (1 : Int) ≤ (w.length : Int))]
    show R.ok (D.bl (decide ((w.length : Int) ≤ 2))) _ = _
    congr 2
    exact decide_eq_decide.mpr ⟨fun h => ⟨h1, by omega⟩, fun h => by omega⟩
  · rw [decide_eq_false (by omega : ¬ (1 : Int) ≤ (w.length : Int)), decide_eq_false (by omega : ¬ (1 ≤ w.length ∧ w.length ≤ 2))]
theorem rc_len {w : Str} {m : D} (hw : w.length ≤ 1000) (h : ¬ (1 ≤ w.length ∧ w.length ≤ 2)) : f_read_count [.fr (.str w), .fr m] = .ok .non [.un, .un] := by
  refine fn_rt (σ1 := [.fr (.str w), .fr m, .un, .un]) (seq_rt (if_t (or_t (tnot_to (k := false) (tE_to ?_))) (seq_rt rfl)))
  refine (rc_chain hw).trans ?_
  rw [decide_eq_false h]
theorem rc_all {w : Str} {m : D} (hw : w.length ≤ 1000) : (eL cAll (lCons (eNew (lLc (lIt (eV 0)) (gN 3) tYes (e2 oIn (eV 3) (eC (.str "0123456789"))) [3])) lNil)) [.fr (.str w), .fr m, .un, .un] = .ok (.bl (decide (∀ c ∈ tl w, c ∈ digs))) [.fr (.str w), .fr m, .un, .un] := by
  have g := lc_map (i := 3) (σ := [.fr (.str w), .fr m, .un, .un]) (e := e2 oIn (eV 3) (eC (.str "0123456789"))) (it := lIt (eV 0)) (xs := (tl w).map fun c => .str ⟨#[c]⟩) (fun x => match x with
    | .str y => .bl (decide (y.cps.toList.headD 0 ∈ digs))
    | _ => .non) (σ1 := [.fr (.str w), .fr m, .un, .un]) rfl (.inl rfl) (by rw [List.length_map, ← len_tl]; omega) fun x hx => by
      obtain ⟨c, _, rfl⟩ := List.mem_map.mp hx
      rfl
  refine eL_to (cons_to (new_to g) nil_to) ?_
  rw [List.map_map]
  show (blsD ((tl w).map fun c => .bl (decide (c ∈ digs)))).map _ = _
  rw [blsD_map]
  show some (D.bl (((tl w).map fun c => decide (c ∈ digs)).all id)) = _
  rw [List.all_map]
  congr 2
  rw [Bool.eq_iff_iff, List.all_eq_true, decide_eq_true_iff]
  exact ⟨fun h c hc => of_decide_eq_true (h c hc), fun h c hc => decide_eq_true (h c hc)⟩
theorem rc_sign {w : Str} {m : D} (hw : w.length ≤ 1000) {c : Nat} (hc : c ∈ tl w) (hd : c ∉ digs) : f_read_count [.fr (.str w), .fr m] = .ok .non [.un, .un] := by
  by_cases h : 1 ≤ w.length ∧ w.length ≤ 2
  · refine fn_rt (σ1 := [.fr (.str w), .fr m, .un, .un]) (seq_rt (if_t (or_f (σ1 := [.fr (.str w), .fr m, .un, .un]) (tnot_to (k := true) (tE_to ?_)) (tnot_to (k := false) (tru_to (rc_all hw) ?_))) (seq_rt rfl)))
    · refine (rc_chain hw).trans ?_
      rw [decide_eq_true h]
    · rw [decide_eq_false fun z => hd (z c hc)]
      rfl
  · exact rc_len hw h
/-- signs are figures: the number is read back -/
theorem rc_fig {w : Str} {v m : Nat} (h : 1 ≤ w.length ∧ w.length ≤ 2) (hd : ∀ c ∈ tl w, c ∈ digs) (hv : PySem.intText? w = some (v : Int)) (h100 : v < 100) : f_read_count [.fr (.str w), .fr (nD m)] = .ok (if nm v = w ∧ v < m then nD v else .non) [.un, .un] := by
  have hw : w.length ≤ 1000 := by omega
  have hi : cInt [.str w] = some (nD v) := by
    show (if w.length ≤ 640 then (PySem.intText? w).map D.int else none) = _
    rw [if_pos (by omega), hv]
    rfl
  have hs : cStr [nD v] = some (.str (nm v)) := by
    show (if ((v : Int)).natAbs.log2 < 1920 then some (D.str (toString (v : Int))) else none) = _
    rw [if_pos]
    · rfl
    · rw [Int.natAbs_natCast]
      exact Nat.lt_of_le_of_lt (Nat.log2_le_self v) (by omega)
  refine fn_rt (σ1 := [.fr (.str w), .fr (nD m), .fr (nD v), .un]) (seq_to (σ1 := [.fr (.str w), .fr (nD m), .un, .un]) (if_f (or_f (σ1 := [.fr (.str w), .fr (nD m), .un, .un]) (tnot_to (k := true) (tE_to ?_)) (tnot_to (k := true) (tru_to (rc_all hw) ?_))) rfl)
    (seq_to (σ1 := [.fr (.str w), .fr (nD m), .fr (nD v), .un]) (set_to (eL_to (ds := [.str w]) rfl hi)) (seq_rt (ret_to ?_))))
  · refine (rc_chain hw).trans ?_
    rw [decide_eq_true h]
  · rw [decide_eq_true hd]
    rfl
  · have c1 : tE (e2 (orO eqS eqD) (eL cStr (lCons (eV 2) lNil)) (eV 0)) [.fr (.str w), .fr (nD m), .fr (nD v), .un] = .ok (decide (nm v = w)) [.fr (.str w), .fr (nD m), .fr (nD v), .un] := tE_to (e2_to (x := .str (nm v)) (y := .str w) (eL_to (ds := [nD v]) rfl hs) rfl rfl)
    by_cases e1 : nm v = w
    · rw [decide_eq_true e1] at c1
      have c2 : tE (e2 oLt (eV 2) (eV 1)) [.fr (.str w), .fr (nD m), .fr (nD v), .un] = .ok (decide (v < m)) [.fr (.str w), .fr (nD m), .fr (nD v), .un] := by
        show R.ok (decide ((v : Int) < (m : Int))) _ = _
        congr 1
        exact decide_eq_decide.mpr Int.ofNat_lt
      by_cases e2 : v < m
      · rw [decide_eq_true e2] at c2
        rw [if_pos ⟨e1, e2⟩]
        exact eif_t (and_t c1 c2) rfl
      · rw [decide_eq_false e2] at c2
        rw [if_neg fun z => e2 z.2]
        exact eif_f (and_t c1 c2) rfl
    · rw [decide_eq_false e1] at c1
      rw [if_neg fun z => e1 z.1]
      exact eif_f (and_f c1) rfl
theorem rc_num {n m : Nat} (h : n < 100) : f_read_count [.fr (.str (nm n)), .fr (nD m)] = .ok (if n < m then nD n else .non) [.un, .un] := by
  have hl := nm_len h
  refine (rc_fig hl (fun c hc => ?_) (int_num (by rw [← tl_nm, ← len_tl]; omega)) h).trans ?_
  · rw [tl_nm] at hc
    exact mem_digs.mpr (numL_digits n c hc)
  · congr 1
    by_cases e : n < m
    · rw [if_pos ⟨rfl, e⟩, if_pos e]
    · rw [if_neg fun z => e z.2, if_neg e]
theorem rc_00 (m : Nat) : f_read_count [.fr (.str "00"), .fr (nD m)] = .ok .non [.un, .un] := by
  refine (rc_fig (v := 0) (by decide +kernel) (by decide +kernel) (by decide +kernel) (by decide)).trans ?_
  rw [if_neg fun z => absurd z.1 (by decide +kernel)]
/-! ### read_device -/
def wD (ws : List Str) : D := .lst (ws.map D.str)
def sig (i : Nat) : Str := ⟨#[97 + i]⟩
def trow (i : Nat) (t : List Nat) : List Str := sig i :: t.map nm
def trows (tabs : List (List Nat)) : List (List Str) := tabs.mapIdx trow
def hdr (n : Nat) : List Str := ["states", nm n]
/-- lines of words, short enough -/
structure Cl (rows : List (List Str)) : Prop where
  ne : rows ≠ []
  row : ∀ r ∈ rows, r ≠ [] ∧ ∀ w ∈ r, Wd w
  few : rows.length ≤ 20
  few2 : ∀ r ∈ rows, r.length ≤ 70
  short : ∀ r ∈ rows, ∀ w ∈ r, w.length ≤ 20
theorem ln_short {r : List Str} (h1 : r.length ≤ 70) (h2 : ∀ w ∈ r, w.length ≤ 20) : (ln r).length ≤ 1470 := by
  have g := len_join (y := " ") h2
  have e : (" " : Str).length = 1 := by decide +kernel
  rw [e] at g
  exact Nat.le_trans g (by omega)
theorem tx_short {rows : List (List Str)} (h : Cl rows) : (tx rows).length ≤ 29420 := by
  have g := len_join (y := "\n") (b := 1470) (ps := rows.map ln) fun p hp => by
    obtain ⟨r, hr, rfl⟩ := List.mem_map.mp hp
    exact ln_short (h.few2 r hr) (h.short r hr)
  have e : ("\n" : Str).length = 1 := by decide +kernel
  rw [e, List.length_map] at g
  have := h.few
  exact Nat.le_trans g (by omega)
def S1 (rows : List (List Str)) : Ev := [.fr (.str (tx rows)), .fr (.lst (rows.map wD)), .un, .un, .un, .un, .un, .un, .un]
def S2 (rows : List (List Str)) (d : D) : Ev := [.fr (.str (tx rows)), .fr (.lst (rows.map wD)), .fr d, .un, .un, .un, .un, .un, .un]
theorem rd_rows {rows : List (List Str)} (h : Cl rows) : sSet 1 (eNew (lLc (lIt (eM1 mSplit (eV 0) (eC (.str "\n")))) (gN 7) tYes (eM1 mSplit (eV 7) (eC (.str " "))) [7])) [.fr (.str (tx rows)), .un, .un, .un, .un, .un, .un, .un, .un] = .nx (S1 rows) := by
  have hs := tx_short h
  have g := lc_map (i := 7) (σ := [.fr (.str (tx rows)), .un, .un, .un, .un, .un, .un, .un, .un]) (e := eM1 mSplit (eV 7) (eC (.str " "))) (it := lIt (eM1 mSplit (eV 0) (eC (.str "\n")))) (xs := (rows.map ln).map D.str) (fun x => match x with
    | .str y => wD (Txt.split y " ")
    | _ => .non) (σ1 := [.fr (.str (tx rows)), .un, .un, .un, .un, .un, .un, .un, .un]) (it_to (d := .lst ((rows.map ln).map D.str)) (m1_to (x := tx rows) (y := .str "\n") rfl rfl ?_) rfl) (.inl rfl) (by have := h.few; rw [List.length_map, List.length_map]; omega) fun x hx => by
      obtain ⟨y, hy, rfl⟩ := List.mem_map.mp hx
      obtain ⟨r, hr, rfl⟩ := List.mem_map.mp hy
      have := ln_short (h.few2 r hr) (h.short r hr)
      exact m1_to (x := ln r) (y := .str " ") rfl rfl (mSplit_to (by decide +kernel) (by omega))
  · refine (set_toL g).trans ?_
    have e : ((rows.map ln).map D.str).map (fun x => match x with
      | .str y => wD (Txt.split y " ")
      | _ => .non) = rows.map wD := by
      rw [List.map_map, List.map_map]
      refine List.map_congr_left fun r hr => ?_
      show wD (Txt.split (ln r) " ") = wD r
      rw [split_ln (h.row r hr).1 (h.row r hr).2]
    rw [e]
    rfl
  · rw [mSplit_to (by decide +kernel) (by omega), split_tx h.ne fun r hr => (h.row r hr).2]
theorem oIx_nat (ds : List D) (k : Nat) : oIx (.lst ds) (.int (k : Int)) = ds[k]? := atI_nat ds k
/-- the first line -/
theorem rd_head {a : List Str} {rest : List (List Str)} (d : D) (hd : d = .non ∨ ∃ n : Nat, d = nD n ∧ n ≠ 0)
    (h : (a.length ≠ 2 ∧ d = .non) ∨ ∃ w0 w1, a = [w0, w1] ∧ ((w0 ≠ ("states" : Str) ∧ d = .non) ∨ (w0 = ("states" : Str) ∧ f_read_count [.fr (.str w1), .fr (nD 61)] = .ok d [.un, .un]))) :
    sSet 2 (eIf (tAnd (tE (e2 (orO eqS eqD) (eL cLen (lCons (e2 oIx (eV 1) (eC (.int 0))) lNil)) (eC (.int 2)))) (tE (e2 (orO eqS eqD) (e2 oIx (e2 oIx (eV 1) (eC (.int 0))) (eC (.int 0))) (eC (.str "states"))))) (eCall f_read_count (aD (e2 oIx (e2 oIx (eV 1) (eC (.int 0))) (eC (.int 1))) (aD (e2 oAdd (eC (.int 60)) (eC (.int 1))) aNil))) (eC .non)) (S1 (a :: rest)) = .nx (S2 (a :: rest) d) := by
  have r0 : (e2 oIx (eV 1) (eC (.int 0))) (S1 (a :: rest)) = .ok (wD a) (S1 (a :: rest)) := e2_to (x := .lst ((a :: rest).map wD)) (y := .int 0) rfl rfl (oIx_nat _ 0)
  have c1 : tE (e2 (orO eqS eqD) (eL cLen (lCons (e2 oIx (eV 1) (eC (.int 0))) lNil)) (eC (.int 2))) (S1 (a :: rest)) = .ok (decide (a.length = 2)) (S1 (a :: rest)) := by
    refine tE_to (e2_to (x := .int (a.length : Int)) (y := .int 2) (eL_to (cons_to r0 nil_to) ?_) rfl ?_)
    · show some (D.int ((a.map D.str).length : Int)) = _
      rw [List.length_map]
    · show some (D.bl (decide ((a.length : Int) = 2))) = _
      congr 2
      exact decide_eq_decide.mpr ⟨fun h => by omega, fun h => by omega⟩
  rcases h with ⟨h1, rfl⟩ | ⟨w0, w1, rfl, h⟩
  · rw [decide_eq_false h1] at c1
    exact set_to (eif_f (and_f c1) rfl)
  · have c2 : tE (e2 (orO eqS eqD) (e2 oIx (e2 oIx (eV 1) (eC (.int 0))) (eC (.int 0))) (eC (.str "states"))) (S1 ([w0, w1] :: rest)) = .ok (decide (w0 = ("states" : Str))) (S1 ([w0, w1] :: rest)) :=
      tE_to (e2_to (x := .str w0) (y := .str "states") (e2_to (y := .int 0) r0 rfl (oIx_nat _ 0)) rfl rfl)
    rcases h with ⟨h1, rfl⟩ | ⟨h1, h2⟩
    · rw [decide_eq_false h1] at c2
      exact set_to (eif_f (and_t c1 c2) rfl)
    · rw [decide_eq_true h1] at c2
      exact set_to (eif_t (and_t c1 c2) (call_ok (l := [.dv (.str w1), .dv (.int 61)]) (aD_to (e2_to (y := .int 1) r0 rfl (oIx_nat _ 1)) (aD_to rfl aN_to)) rfl h2))
def rdTail : SM := (sSeq (sSet 2 (eIf (tAnd (tE (e2 (orO eqS eqD) (eL cLen (lCons (e2 oIx (eV 1) (eC (.int 0))) lNil)) (eC (.int 2)))) (tE (e2 (orO eqS eqD) (e2 oIx (e2 oIx (eV 1) (eC (.int 0))) (eC (.int 0))) (eC (.str "states"))))) (eCall f_read_count (aD (e2 oIx (e2 oIx (eV 1) (eC (.int 0))) (eC (.int 1))) (aD (e2 oAdd (eC (.int 60)) (eC (.int 1))) aNil))) (eC .non))) (sSeq (sIf (tOr (tE (e2 oIsN (eV 2) (eC .non))) (tE (e2 (orO eqS eqD) (eV 2) (eC (.int 0))))) (sSeq (sRaise 2 (fun d => [("at", d)]) (eC (.int 1))) sNext) sNext) (sSeq (sIf (tE (e2 (orO eqS eqD) (eL cLen (lCons (eV 1) lNil)) (eC (.int 1)))) (sSeq (sRaise 2 (fun d => [("at", d)]) (eC (.int 2))) sNext) sNext) (sSeq (sOwn 3 (lD lNil)) (sSeq (sFor (lEnum (eSl oSl (eV 1) (oS (eC (.int 1))) oN)) (gT [(gN 4), (gN 5)]) (sSeq (sSet 6 (eNew (lLc (lIt (eSl oSl (eV 5) (oS (eC (.int 1))) oN)) (gN 8) tYes (eCall f_read_count (aD (eV 8) (aD (eV 2) aNil))) [8]))) (sSeq (sIf (tOr (tE (e2 oGe (eV 4) (eL cLen (lCons (eC (.str "abcde")) lNil)))) (tOr (tE (e2 (orO neS neD) (e2 oIx (eV 5) (eC (.int 0))) (e2 oIx (eC (.str "abcde")) (eV 4)))) (tOr (tE (e2 (orO neS neD) (eL cLen (lCons (eV 6) lNil)) (eV 2))) (tE (e2 oIn (eC .non) (eV 6)))))) (sSeq (sRaise 2 (fun d => [("at", d)]) (e2 oAdd (eV 4) (eC (.int 2)))) sNext) sNext) (sSeq (sApp 3 (eV 6)) sNext)))) (sSeq (sRet (eMake 3 f_Device___init (aD (eFz 3) aNil))) sNext))))))
theorem rd_body {rows : List (List Str)} (h : Cl rows) : b_read_device [.fr (.str (tx rows)), .un, .un, .un, .un, .un, .un, .un, .un] = rdTail (S1 rows) :=
  seq_to (σ1 := [.fr (.str (tx rows)), .un, .un, .un, .un, .un, .un, .un, .un]) (if_f (tnot_to (k := true) (tru_to (d := .bl true) (call_ok (l := [.dv (.str (tx rows))]) rfl rfl (q_text _)) rfl)) rfl) (seq_to (rd_rows h) rfl)
theorem raise2 (k : Nat) (e : EM) (σ σ1 : Ev) (b : SM) (h : e σ = .ok (.int (k : Int)) σ1) : sSeq (sRaise 2 (fun d => [("at", d)]) e) b σ = .exc 2 [("at", .int (k : Int))] σ1 := seq_exc (raise_to h)
/-- a first line that tells no number of states -/
theorem rd_h {a : List Str} {rest : List (List Str)} (hc : Cl (a :: rest)) (h : a.length ≠ 2 ∨ ∃ w0 w1, a = [w0, w1] ∧ (w0 ≠ ("states" : Str) ∨ f_read_count [.fr (.str w1), .fr (nD 61)] = .ok .non [.un, .un])) :
    f_read_device [.fr (.str (tx (a :: rest)))] = .exc 2 [("at", .int ((1 : Nat) : Int))] [.un] := by
  have g := rd_head (a := a) (rest := rest) .non (.inl rfl) (h.elim (fun q => .inl ⟨q, rfl⟩) fun ⟨w0, w1, e, q⟩ => by
    by_cases e0 : w0 = ("states" : Str)
    · exact .inr ⟨w0, w1, e, .inr ⟨e0, q.elim (fun z => absurd e0 z) id⟩⟩
    · exact .inr ⟨w0, w1, e, .inl ⟨e0, rfl⟩⟩)
  refine fn_exc (σ1 := S2 (a :: rest) .non) ((rd_body hc).trans (seq_to g (seq_exc (if_t (or_t (tE_to rfl)) (raise2 1 _ _ _ _ rfl)))))
theorem rd_num {n : Nat} (h1 : 1 ≤ n) (h2 : n ≤ 60) {rest : List (List Str)} (hc : Cl (hdr n :: rest)) {r : RS} {b : SM} (hr : b (S2 (hdr n :: rest) (nD n)) = r) :
    sSeq (sSet 2 (eIf (tAnd (tE (e2 (orO eqS eqD) (eL cLen (lCons (e2 oIx (eV 1) (eC (.int 0))) lNil)) (eC (.int 2)))) (tE (e2 (orO eqS eqD) (e2 oIx (e2 oIx (eV 1) (eC (.int 0))) (eC (.int 0))) (eC (.str "states"))))) (eCall f_read_count (aD (e2 oIx (e2 oIx (eV 1) (eC (.int 0))) (eC (.int 1))) (aD (e2 oAdd (eC (.int 60)) (eC (.int 1))) aNil))) (eC .non))) (sSeq (sIf (tOr (tE (e2 oIsN (eV 2) (eC .non))) (tE (e2 (orO eqS eqD) (eV 2) (eC (.int 0))))) (sSeq (sRaise 2 (fun d => [("at", d)]) (eC (.int 1))) sNext) sNext) b) (S1 (hdr n :: rest)) = r := by
  have g := rd_head (a := hdr n) (rest := rest) (nD n) (.inr ⟨n, rfl, by omega⟩) (.inr ⟨_, _, rfl, .inr ⟨rfl, by
    have := rc_num (n := n) (m := 61) (by omega)
    rw [if_pos (by omega)] at this
    exact this⟩⟩)
  refine seq_to g (seq_to (if_f (or_f (tE_to rfl) (tE_to (k := false) ?_)) rfl) hr)
  show R.ok (D.bl (decide ((n : Int) = 0))) _ = _
  rw [decide_eq_false (by omega)]
/-- the first line alone -/
theorem rd_one {n : Nat} (h1 : 1 ≤ n) (h2 : n ≤ 60) (hc : Cl [hdr n]) : f_read_device [.fr (.str (tx [hdr n]))] = .exc 2 [("at", .int ((2 : Nat) : Int))] [.un] :=
  fn_exc ((rd_body hc).trans (rd_num h1 h2 hc (seq_exc (if_t (σ1 := S2 [hdr n] (nD n)) (tE_to rfl) (raise2 2 _ _ _ _ rfl)))))
def S4 (rows : List (List Str)) (n : Nat) (tabs : List (List Nat)) (s4 s5 s6 : Sl) : Ev := [.fr (.str (tx rows)), .fr (.lst (rows.map wD)), .fr (nD n), .ow (.lst (tabs.map tL)), s4, s5, s6, .un, .un]
theorem sig_at {i : Nat} (h : i < 5) : oIx (.str "abcde") (.int (i : Int)) = some (.str (sig i)) := by
  have e : ("abcde" : Str).length ≤ 16777216 := by decide +kernel
  show (if ("abcde" : Str).length ≤ 16777216 then (L2.atI (tl "abcde") (i : Int)).map (fun c => D.str ⟨#[c]⟩) else none) = _
  rw [if_pos e, atI_nat]
  match i, h with
  | 0, _ => rfl
  | 1, _ => rfl
  | 2, _ => rfl
  | 3, _ => rfl
  | 4, _ => rfl
def loopB : SM := (sSeq (sSet 6 (eNew (lLc (lIt (eSl oSl (eV 5) (oS (eC (.int 1))) oN)) (gN 8) tYes (eCall f_read_count (aD (eV 8) (aD (eV 2) aNil))) [8]))) (sSeq (sIf (tOr (tE (e2 oGe (eV 4) (eL cLen (lCons (eC (.str "abcde")) lNil)))) (tOr (tE (e2 (orO neS neD) (e2 oIx (eV 5) (eC (.int 0))) (e2 oIx (eC (.str "abcde")) (eV 4)))) (tOr (tE (e2 (orO neS neD) (eL cLen (lCons (eV 6) lNil)) (eV 2))) (tE (e2 oIn (eC .non) (eV 6)))))) (sSeq (sRaise 2 (fun d => [("at", d)]) (e2 oAdd (eV 4) (eC (.int 2)))) sNext) sNext) (sSeq (sApp 3 (eV 6)) sNext)))
theorem sl_one (ds : List D) : oSl (.lst ds) (some 1) none = some (.lst (ds.drop 1)) := by
  show some (D.lst (cutG ds (some ((1 : Nat) : Int)) none)) = _
  rw [cutG_drop]
/-- the words of a line as numbers -/
theorem lb_table {rows : List (List Str)} {n i : Nat} {tabs : List (List Nat)} {s6 : Sl} {w0 : Str} {ws : List Str} (f : Str → D) (hl : ws.length ≤ 70) (hf : ∀ w ∈ ws, f_read_count [.fr (.str w), .fr (nD n)] = .ok (f w) [.un, .un]) :
    sSet 6 (eNew (lLc (lIt (eSl oSl (eV 5) (oS (eC (.int 1))) oN)) (gN 8) tYes (eCall f_read_count (aD (eV 8) (aD (eV 2) aNil))) [8])) (S4 rows n tabs (.fr (nD i)) (.fr (wD (w0 :: ws))) s6) = .nx (S4 rows n tabs (.fr (nD i)) (.fr (wD (w0 :: ws))) (.fr (.lst (ws.map f)))) := by
  have g := lc_map (i := 8) (σ := S4 rows n tabs (.fr (nD i)) (.fr (wD (w0 :: ws))) s6) (e := eCall f_read_count (aD (eV 8) (aD (eV 2) aNil))) (it := lIt (eSl oSl (eV 5) (oS (eC (.int 1))) oN)) (xs := ws.map D.str) (fun x => match x with
    | .str y => f y
    | _ => .non) (σ1 := S4 rows n tabs (.fr (nD i)) (.fr (wD (w0 :: ws))) s6) (it_to (d := .lst (ws.map D.str)) ?_ rfl) (.inl rfl) (by rw [List.length_map]; omega) fun x hx => by
      obtain ⟨w, hw, rfl⟩ := List.mem_map.mp hx
      exact call_ok (l := [.dv (.str w), .dv (nD n)]) rfl rfl (hf w hw)
  · refine (set_toL g).trans ?_
    rw [List.map_map]
    rfl
  · show R.opt (oSl (wD (w0 :: ws)) (some 1) none) _ = _
    rw [show wD (w0 :: ws) = .lst ((w0 :: ws).map D.str) from rfl, sl_one]
    rfl
/-- the test at a line -/
inductive BadRow (k n : Nat) (w0 : Str) (ws : List Str) (f : Str → D) : Prop where
  | many (h : 5 ≤ k)
  | sign (h : w0 ≠ sig k)
  | len (h : ws.length ≠ n)
  | num (h : ∃ w ∈ ws, f w = .non)
theorem len5 : cLen [.str "abcde"] = some (.int 5) := by
  have e : ("abcde" : Str).length = 5 := by decide +kernel
  show (if ("abcde" : Str).length ≤ 16777216 then some (D.int (("abcde" : Str).length : Int)) else none) = _
  rw [e]
  rfl
theorem lb_t1 (σ : Ev) (i : Nat) (h : σ[4]? = some (.fr (nD i))) : tE (e2 oGe (eV 4) (eL cLen (lCons (eC (.str "abcde")) lNil))) σ = .ok (decide (5 ≤ i)) σ := by
  refine tE_to (e2_to (x := nD i) (y := .int 5) ?_ (eL_to (ds := [.str "abcde"]) rfl len5) ?_)
  · unfold eV; rw [h]
  · show some (D.bl (decide ((5 : Int) ≤ (i : Int)))) = _
    congr 2
    exact decide_eq_decide.mpr (by omega)
theorem lb_t2 (rows : List (List Str)) (n i : Nat) (tabs : List (List Nat)) (w0 : Str) (ws : List Str) (s6 : Sl) (h : i < 5) : tE (e2 (orO neS neD) (e2 oIx (eV 5) (eC (.int 0))) (e2 oIx (eC (.str "abcde")) (eV 4))) (S4 rows n tabs (.fr (nD i)) (.fr (wD (w0 :: ws))) s6) = .ok (!decide (w0 = sig i)) (S4 rows n tabs (.fr (nD i)) (.fr (wD (w0 :: ws))) s6) :=
  tE_to (e2_to (x := .str w0) (y := .str (sig i)) (e2_to (x := wD (w0 :: ws)) (y := .int 0) rfl rfl (oIx_nat _ 0)) (e2_to (x := .str "abcde") (y := nD i) rfl rfl (sig_at h)) rfl)
theorem lb_t3 (rows : List (List Str)) (n i : Nat) (tabs : List (List Nat)) (s5 : Sl) (ds : List D) : tE (e2 (orO neS neD) (eL cLen (lCons (eV 6) lNil)) (eV 2)) (S4 rows n tabs (.fr (nD i)) s5 (.fr (.lst ds))) = .ok (!decide (ds.length = n)) (S4 rows n tabs (.fr (nD i)) s5 (.fr (.lst ds))) := by
  refine tE_to (e2_to (x := .int (ds.length : Int)) (y := nD n) rfl rfl ?_)
  show some (D.bl (!decide ((ds.length : Int) = (n : Int)))) = _
  congr 3
  exact decide_eq_decide.mpr (by omega)
def flatN (d : D) : Prop := d = .non ∨ ∃ i : Int, d = .int i
theorem lb_t4 (rows : List (List Str)) (n i : Nat) (tabs : List (List Nat)) (s5 : Sl) (ds : List D) (h : ∀ d ∈ ds, flatN d) : ∃ b, tE (e2 oIn (eC .non) (eV 6)) (S4 rows n tabs (.fr (nD i)) s5 (.fr (.lst ds))) = .ok b (S4 rows n tabs (.fr (nD i)) s5 (.fr (.lst ds))) ∧ (b = true ↔ D.non ∈ ds) := by
  have hf : ds.all flatD = true := List.all_eq_true.mpr fun d hd => by rcases h d hd with e | ⟨i, e⟩ <;> rw [e] <;> rfl
  refine ⟨ds.any fun y => eqF y .non, tE_to (e2_to (x := .non) (y := .lst ds) rfl rfl ?_), ?_⟩
  · show (if flatD .non = true ∧ ds.all flatD = true then some (D.bl (ds.any fun y => eqF y .non)) else none) = _
    rw [if_pos ⟨rfl, hf⟩]
  · rw [List.any_eq_true]
    constructor
    · rintro ⟨d, hd, e⟩
      rcases h d hd with e1 | ⟨i, e1⟩
      · rw [← e1]; exact hd
      · rw [e1] at e; cases e
    · exact fun h => ⟨_, h, rfl⟩
theorem lb_bad {rows : List (List Str)} {n k : Nat} {tabs : List (List Nat)} {s6 : Sl} {w0 : Str} {ws : List Str} (f : Str → D) (hl : ws.length ≤ 70) (hf : ∀ w ∈ ws, f_read_count [.fr (.str w), .fr (nD n)] = .ok (f w) [.un, .un] ∧ flatN (f w)) (hb : BadRow k n w0 ws f) :
    ∃ σ', loopB (S4 rows n tabs (.fr (nD k)) (.fr (wD (w0 :: ws))) s6) = .exc 2 [("at", .int ((k + 2 : Nat) : Int))] σ' := by
  have g := lb_table (rows := rows) (n := n) (i := k) (tabs := tabs) (s6 := s6) (w0 := w0) f hl fun w hw => (hf w hw).1
  refine ⟨_, seq_to g (seq_exc (if_t (σ1 := S4 rows n tabs (.fr (nD k)) (.fr (wD (w0 :: ws))) (.fr (.lst (ws.map f)))) ?_ (raise2 (k + 2) _ _ (S4 rows n tabs (.fr (nD k)) (.fr (wD (w0 :: ws))) (.fr (.lst (ws.map f)))) _ rfl)))⟩
  have t1 := lb_t1 (S4 rows n tabs (.fr (nD k)) (.fr (wD (w0 :: ws))) (.fr (.lst (ws.map f)))) k rfl
  by_cases h5 : 5 ≤ k
  · rw [decide_eq_true h5] at t1
    exact or_t t1
  rw [decide_eq_false h5] at t1
  refine or_f t1 ?_
  have t2 := lb_t2 rows n k tabs w0 ws (.fr (.lst (ws.map f))) (by omega)
  by_cases h0 : w0 = sig k
  · rw [decide_eq_true h0] at t2
    refine or_f t2 ?_
    have t3 := lb_t3 rows n k tabs (.fr (wD (w0 :: ws))) (ws.map f)
    rw [List.length_map] at t3
    by_cases hn : ws.length = n
    · rw [decide_eq_true hn] at t3
      refine or_f t3 ?_
      obtain ⟨b, t4, hb4⟩ := lb_t4 rows n k tabs (.fr (wD (w0 :: ws))) (ws.map f) fun d hd => by
        obtain ⟨w, hw, rfl⟩ := List.mem_map.mp hd
        exact (hf w hw).2
      have : b = true := hb4.mpr (by
        cases hb with
        | many h => exact absurd h h5
        | sign h => exact absurd h0 h
        | len h => exact absurd hn h
        | num h =>
          obtain ⟨w, hw, e⟩ := h
          exact List.mem_map.mpr ⟨w, hw, e⟩)
      rw [this] at t4
      exact t4
    · rw [decide_eq_false hn] at t3
      exact or_t t3
  · rw [decide_eq_false h0] at t2
    exact or_t t2
theorem rc_row {n : Nat} (n2 : n ≤ 60) {t : List Nat} (h : GoodT n t) : ∀ w ∈ t.map nm, f_read_count [.fr (.str w), .fr (nD n)] = .ok ((fun w => match PySem.intText? w with
    | some i => D.int i
    | none => D.non) w) [.un, .un] := fun w hw => by
  obtain ⟨x, hx, rfl⟩ := List.mem_map.mp hw
  have hlt := h.2 x hx
  have := rc_num (n := x) (m := n) (by omega)
  rw [if_pos hlt] at this
  rw [this]
  have e : PySem.intText? (nm x) = some (x : Int) := int_num (by rw [← tl_nm, ← len_tl]; have := nm_len (n := x) (by omega); omega)
  simp only [e]
  rfl
theorem lb_good {rows : List (List Str)} {n i : Nat} (n2 : n ≤ 60) {tabs : List (List Nat)} {s6 : Sl} {t : List Nat} (hg : GoodT n t) (hi : i < 5) (hk : tabs.length < 16777216) :
    loopB (S4 rows n tabs (.fr (nD i)) (.fr (wD (trow i t))) s6) = .nx (S4 rows n (tabs ++ [t]) (.fr (nD i)) (.fr (wD (trow i t))) (.fr (tL t))) := by
  have g := lb_table (rows := rows) (n := n) (i := i) (tabs := tabs) (s6 := s6) (w0 := sig i) (ws := t.map nm) _ (by rw [List.length_map, hg.1]; omega) (rc_row n2 hg)
  have e : (t.map nm).map (fun w => match PySem.intText? w with
    | some i => D.int i
    | none => D.non) = t.map nD := by
    rw [List.map_map]
    refine List.map_congr_left fun x hx => ?_
    have hlt := hg.2 x hx
    have e : PySem.intText? (nm x) = some (x : Int) := int_num (by rw [← tl_nm, ← len_tl]; have := nm_len (n := x) (by omega); omega)
    show (match PySem.intText? (nm x) with
    | some i => D.int i
    | none => D.non) = _
    rw [e]
    rfl
  rw [e] at g
  have t1 := lb_t1 (S4 rows n tabs (.fr (nD i)) (.fr (wD (trow i t))) (.fr (.lst (t.map nD)))) i rfl
  rw [decide_eq_false (by omega)] at t1
  have t2 := lb_t2 rows n i tabs (sig i) (t.map nm) (.fr (.lst (t.map nD))) hi
  rw [decide_eq_true rfl] at t2
  have t3 := lb_t3 rows n i tabs (.fr (wD (trow i t))) (t.map nD)
  rw [List.length_map, decide_eq_true hg.1] at t3
  obtain ⟨b, t4, hb4⟩ := lb_t4 rows n i tabs (.fr (wD (trow i t))) (t.map nD) fun d hd => by
    obtain ⟨x, hx, rfl⟩ := List.mem_map.mp hd
    exact .inr ⟨_, rfl⟩
  have hb : b = false := Bool.eq_false_iff.mpr fun z => by
    obtain ⟨x, hx, e⟩ := List.mem_map.mp (hb4.mp z)
    cases e
  rw [hb] at t4
  refine seq_to g (seq_to (if_f (or_f t1 (or_f t2 (or_f t3 t4))) rfl) (seq_to (app_to (ds := tabs.map tL) (d0 := .non) (d := tL t) (σ1 := S4 rows n tabs (.fr (nD i)) (.fr (wD (trow i t))) (.fr (.lst (t.map nD)))) rfl rfl rfl (by rw [List.length_map]; exact hk)) ?_))
  show RS.nx (S4 rows n tabs (.fr (nD i)) (.fr (wD (trow i t))) (.fr (.lst (t.map nD))) |>.set 3 (.ow (.lst (tabs.map tL ++ [tL t])))) = _
  rw [show tabs.map tL ++ [tL t] = (tabs ++ [t]).map tL by rw [List.map_append]; rfl]
  rfl
theorem trows_get {tabs : List (List Nat)} {i : Nat} {r : List Str} (h : (trows tabs)[i]? = some r) : ∃ t, tabs[i]? = some t ∧ r = trow i t := by
  unfold trows at h
  rw [List.getElem?_mapIdx] at h
  cases e : tabs[i]? with
  | none => rw [e] at h; cases h
  | some t => rw [e] at h; cases h; exact ⟨t, rfl, rfl⟩
theorem trows_len (tabs : List (List Nat)) : (trows tabs).length = tabs.length := by unfold trows; rw [List.length_mapIdx]
theorem take_snoc {α : Type} {l : List α} {i : Nat} {x : α} (h : l[i]? = some x) : l.take i ++ [x] = l.take (i + 1) := by
  obtain ⟨hl, e⟩ := List.getElem?_eq_some_iff.mp h
  rw [List.take_succ, h]
  rfl
/-- the state at the loop's i-th turn -/
def IL (rows : List (List Str)) (n : Nat) (tabs : List (List Nat)) : Nat → Ev → Prop := fun i σ => ∃ s4 s5 s6, σ = S4 rows n (tabs.take i) s4 s5 s6
theorem for_items {rows : List (List Str)} {n : Nat} {a : List Str} {rest : List (List Str)} (e : rows = a :: rest) : (lEnum (eSl oSl (eV 1) (oS (eC (.int 1))) oN)) (S4 rows n [] .un .un .un) = .ok (enumD 0 (rest.map wD)) (S4 rows n [] .un .un .un) := by
  subst e
  show (R.opt (oSl (.lst ((a :: rest).map wD)) (some 1) none) _).bind _ = _
  rw [sl_one]
  rfl
theorem turn_good {rows : List (List Str)} {n i : Nat} {tabs : List (List Nat)} {t : List Nat} {σ : Ev} (n2 : n ≤ 60) (hk : tabs.length ≤ 5) (ht : tabs[i]? = some t) (hg : GoodT n t) (h : IL rows n tabs i σ) :
    ∃ σ1 σ2, (gT [(gN 4), (gN 5)]) (.tup [.int ((0 + i : Nat) : Int), wD (trow i t)]) σ = some σ1 ∧ (loopB σ1 = .nx σ2 ∨ loopB σ1 = .ct σ2) ∧ IL rows n tabs (i + 1) σ2 := by
  obtain ⟨s4, s5, s6, rfl⟩ := h
  have hi : i < tabs.length := (List.getElem?_eq_some_iff.mp ht).1
  have g := lb_good (rows := rows) (i := i) n2 (tabs := tabs.take i) (s6 := s6) hg (by omega) (by rw [List.length_take]; omega)
  rw [take_snoc ht] at g
  refine ⟨S4 rows n (tabs.take i) (.fr (nD i)) (.fr (wD (trow i t))) s6, _, ?_, .inl g, ⟨_, _, _, rfl⟩⟩
  rw [Nat.zero_add]
  rfl
theorem rd_pre {n : Nat} (h1 : 1 ≤ n) (h2 : n ≤ 60) {x : List Str} {rest : List (List Str)} (hc : Cl (hdr n :: x :: rest)) {r : RS} {b : SM} (hr : b (S4 (hdr n :: x :: rest) n [] .un .un .un) = r) (hb : ∀ σ, rdTail σ = sSeq (sSet 2 (eIf (tAnd (tE (e2 (orO eqS eqD) (eL cLen (lCons (e2 oIx (eV 1) (eC (.int 0))) lNil)) (eC (.int 2)))) (tE (e2 (orO eqS eqD) (e2 oIx (e2 oIx (eV 1) (eC (.int 0))) (eC (.int 0))) (eC (.str "states"))))) (eCall f_read_count (aD (e2 oIx (e2 oIx (eV 1) (eC (.int 0))) (eC (.int 1))) (aD (e2 oAdd (eC (.int 60)) (eC (.int 1))) aNil))) (eC .non))) (sSeq (sIf (tOr (tE (e2 oIsN (eV 2) (eC .non))) (tE (e2 (orO eqS eqD) (eV 2) (eC (.int 0))))) (sSeq (sRaise 2 (fun d => [("at", d)]) (eC (.int 1))) sNext) sNext) (sSeq (sIf (tE (e2 (orO eqS eqD) (eL cLen (lCons (eV 1) lNil)) (eC (.int 1)))) (sSeq (sRaise 2 (fun d => [("at", d)]) (eC (.int 2))) sNext) sNext) (sSeq (sOwn 3 (lD lNil)) b))) σ) :
    rdTail (S1 (hdr n :: x :: rest)) = r := by
  rw [hb]
  refine rd_num h1 h2 hc (seq_to (if_f (σ1 := S2 (hdr n :: x :: rest) (nD n)) (tE_to (k := false) ?_) rfl) (seq_to (own_to rfl) hr))
  show R.ok (D.bl (decide ((((hdr n :: x :: rest).map wD).length : Int) = 1))) _ = _
  rw [List.length_map, decide_eq_false (by rw [List.length_cons, List.length_cons]; omega)]
/-- the first bad line is told -/
theorem rd_bad {n : Nat} (h1 : 1 ≤ n) (h2 : n ≤ 60) {tabs : List (List Nat)} {w0 : Str} {ws : List Str} {rest : List (List Str)} (f : Str → D) (hk : tabs.length ≤ 5) (ht : ∀ t ∈ tabs, GoodT n t) (hc : Cl (hdr n :: (trows tabs ++ (w0 :: ws) :: rest)))
    (hf : ∀ w ∈ ws, f_read_count [.fr (.str w), .fr (nD n)] = .ok (f w) [.un, .un] ∧ flatN (f w)) (hb : BadRow tabs.length n w0 ws f) :
    f_read_device [.fr (.str (tx (hdr n :: (trows tabs ++ (w0 :: ws) :: rest))))] = .exc 2 [("at", .int ((tabs.length + 2 : Nat) : Int))] [.un] := by
  obtain ⟨x, r, e⟩ : ∃ x r, trows tabs ++ (w0 :: ws) :: rest = x :: r := by
    cases trows tabs with
    | nil => exact ⟨_, _, rfl⟩
    | cons a b => exact ⟨_, _, rfl⟩
  have hl : ws.length ≤ 70 := by
    have := hc.few2 (w0 :: ws) (List.mem_cons_of_mem _ (List.mem_append_right _ List.mem_cons_self))
    rw [List.length_cons] at this
    omega
  have hitems : (enumD 0 ((trows tabs ++ (w0 :: ws) :: rest).map wD))[tabs.length]? = some (.tup [.int ((0 + tabs.length : Nat) : Int), wD (w0 :: ws)]) := by
    rw [enumD_at, List.getElem?_map, List.getElem?_append_right (by rw [trows_len]; exact Nat.le_refl _), trows_len, Nat.sub_self]
    rfl
  obtain ⟨σ', g⟩ := for_exc (tg := gT [(gN 4), (gN 5)]) (body := loopB) (for_items (n := n) (rows := hdr n :: (trows tabs ++ (w0 :: ws) :: rest)) rfl) (IL (hdr n :: (trows tabs ++ (w0 :: ws) :: rest)) n tabs) tabs.length hitems ⟨_, _, _, rfl⟩ (fun i y σ hi hy hI => by
      rw [enumD_at, List.getElem?_map, List.getElem?_append_left (by rw [trows_len]; exact hi)] at hy
      cases er : (trows tabs)[i]? with
      | none => rw [er] at hy; cases hy
      | some q =>
        rw [er] at hy
        cases hy
        obtain ⟨t, e1, e2⟩ := trows_get er
        subst e2
        exact turn_good h2 hk e1 (ht t (List.mem_of_getElem? e1)) hI) (fun σ hI => by
      obtain ⟨s4, s5, s6, rfl⟩ := hI
      rw [List.take_length]
      obtain ⟨σ2, hb2⟩ := lb_bad (rows := hdr n :: (trows tabs ++ (w0 :: ws) :: rest)) (tabs := tabs) (s6 := s6) f hl hf hb
      refine ⟨S4 _ n tabs (.fr (nD tabs.length)) (.fr (wD (w0 :: ws))) s6, σ2, ?_, hb2⟩
      rw [Nat.zero_add]
      rfl)
  refine fn_exc (σ1 := σ') ((rd_body hc).trans ?_)
  rw [e] at hc g ⊢
  exact rd_pre h1 h2 hc (seq_exc g) fun σ => rfl
/-- a right text -/
theorem rd_good {n : Nat} {tabs : List (List Nat)} (h : Good n tabs) (hc : Cl (hdr n :: trows tabs)) : f_read_device [.fr (.str (tx (hdr n :: trows tabs)))] = .ok (devD n tabs) [.un] := by
  obtain ⟨x, r, e⟩ : ∃ x r, trows tabs = x :: r := by
    cases q : trows tabs with
    | nil =>
      have := h.k1
      rw [← trows_len, q] at this
      exact absurd this (by decide)
    | cons a b => exact ⟨_, _, rfl⟩
  obtain ⟨σ', g, hI⟩ := for_nx (tg := gT [(gN 4), (gN 5)]) (body := loopB) (for_items (n := n) (rows := hdr n :: trows tabs) rfl) (IL (hdr n :: trows tabs) n tabs) ⟨_, _, _, rfl⟩ (fun i y σ hy hI => by
      rw [enumD_at, List.getElem?_map] at hy
      cases er : (trows tabs)[i]? with
      | none => rw [er] at hy; cases hy
      | some q =>
        rw [er] at hy
        cases hy
        obtain ⟨t, e1, e2⟩ := trows_get er
        subst e2
        exact turn_good h.n2 h.k2 e1 (h.t t (List.mem_of_getElem? e1)) hI)
  rw [enumD_len, List.length_map, trows_len] at hI
  obtain ⟨s4, s5, s6, rfl⟩ := hI
  rw [List.take_length] at g
  refine (fn_rt (σ1 := [.fr (.str (tx (hdr n :: trows tabs))), .fr (.lst ((hdr n :: trows tabs).map wD)), .fr (nD n), .fr (.lst (tabs.map tL)), s4, s5, s6, .un, .un]) ((rd_body hc).trans ?_))
  rw [e] at hc g ⊢
  refine rd_pre h.n1 h.n2 hc (seq_to g (seq_rt (ret_to (make_ok (l := [.dv (.lst (tabs.map tL))]) (outs := [.un]) rfl rfl (q_init h))))) fun σ => rfl
/-! ### what the law reads -/
theorem rds_exc {x : Str} {k : Nat} (h : f_read_device [.fr (.str x)] = .exc 2 [("at", .int (k : Int))] [.un]) : f__law_reads [.fr (.str x)] = .ok (.int (k : Int)) [.un] :=
  fn_rt (σ1 := [.fr (.str x), .un]) (seq_rt (try_exc (σ1 := [.fr (.str x), .un]) (seq_exc (ret_exc (call_exc (l := [.dv (.str x)]) rfl rfl h))) rfl rfl rfl))
theorem rds_ok {x : Str} {d : D} (h : f_read_device [.fr (.str x)] = .ok d [.un]) : f__law_reads [.fr (.str x)] = .ok d [.un] :=
  fn_rt (σ1 := [.fr (.str x), .un]) (seq_rt (try_rt (seq_rt (ret_to (call_ok (l := [.dv (.str x)]) rfl rfl h)))))
/-! ### the box -/
def bx (a b c : Int) : D := .lst [.int a, .int b, .int c]
def IsBx (d : D) : Prop := ∃ a b c, d = bx a b c
theorem q_take (a b c : Int) {m : Nat} (h1 : 0 < m) (h2 : m < 1073741824) : ∃ r d', r < m ∧ IsBx d' ∧ f__law_take [.ow (bx a b c), .fr (nD m)] = .ok (nD r) [.ow d', .un] := by
  have hm : (0 : Int) < (m : Int) := by omega
  by_cases ha : 0 < a
  · have hr0 : 0 ≤ a % (m : Int) := Int.emod_nonneg _ (by omega)
    have hr1 : a % (m : Int) < m := Int.emod_lt_of_pos _ hm
    have er : (((a % (m : Int)).toNat : Nat) : Int) = a % (m : Int) := Int.toNat_of_nonneg hr0
    refine ⟨(a % (m : Int)).toNat, bx (a / (m : Int)) b c, by omega, ⟨_, _, _, rfl⟩, fn_rt (σ1 := [.ow (bx (a / (m : Int)) b c), .fr (nD m), .un, .fr (.int (a % (m : Int)))]) (seq_rt (if_t (σ1 := [.ow (bx a b c), .fr (nD m), .un, .un]) (tE_to ?_) (seq_to (set_to (e2_to (x := .int a) (y := nD m) rfl rfl (if_pos hm))) (seq_to (put_to (k := 0) (ds0 := [.int a, .int b, .int c]) (e2_to (x := .int a) (y := nD m) rfl rfl (if_pos ⟨hm, by omega⟩)) rfl rfl rfl (by simp)) (seq_rt (ret_to ?_))))))⟩
    · show R.ok (D.bl (decide (0 < a))) _ = _
      rw [decide_eq_true ha]
      rfl
    · unfold nD
      rw [er]
      rfl
  · have mul : ∀ x y : Int, (-18446744073709551616 < y ∧ y < 18446744073709551616) → oMul3 (.int x) (.int y) = some (.int (x * y)) := fun x y h => oMul_r h
    have mul' : ∀ x y : Int, (-18446744073709551616 < x ∧ x < 18446744073709551616) → oMul3 (.int x) (.int y) = some (.int (x * y)) := fun x y h => oMul_l h
    have raw0 : (0 : Int) < 2147483497 := by decide
    let raw : Int := ((b + 70001 * (c + 1)) * 60089 + 43) % 2147483497
    let b' : Int := (raw * 47059 + 20011) % 2147483543 + 1
    let v : Int := ((raw * 2147483629 + b') / 8209) % (m : Int)
    have hr0 : 0 ≤ v := Int.emod_nonneg _ (by omega)
    have hr1 : v < m := Int.emod_lt_of_pos _ hm
    have er : ((v.toNat : Nat) : Int) = v := Int.toNat_of_nonneg hr0
    refine ⟨v.toNat, bx a b' (c + 1), by omega, ⟨_, _, _, rfl⟩, fn_rt (σ1 := [.ow (bx a b' (c + 1)), .fr (nD m), .fr (.int raw), .un]) (seq_to (σ1 := [.ow (bx a b c), .fr (nD m), .un, .un]) (if_f (tE_to (k := false) ?_) rfl) (seq_to (put_to (k := 2) (ds0 := [.int a, .int b, .int c]) (d := .int (c + 1)) rfl rfl rfl rfl (by simp)) (seq_to (set_to (d := .int raw) (σ1 := [.ow (bx a b (c + 1)), .fr (nD m), .un, .un]) ?_) (seq_to (put_to (k := 1) (ds0 := [.int a, .int b, .int (c + 1)]) (ds := [.int a, .int b, .int (c + 1)]) (d := .int b') (σ1 := [.ow (bx a b (c + 1)), .fr (nD m), .fr (.int raw), .un]) (σ2 := [.ow (bx a b (c + 1)), .fr (nD m), .fr (.int raw), .un]) ?_ rfl rfl rfl (by simp)) (seq_rt (ret_to ?_))))))⟩
    · show R.ok (D.bl (decide (0 < a))) _ = _
      rw [decide_eq_false ha]
      rfl
    · exact e2_to (x := .int ((b + 70001 * (c + 1)) * 60089 + 43)) (y := .int 2147483497) (eL_to (ds := [.int ((b + 70001 * (c + 1)) * 60089 + 43)]) (cons_to (e2_to (x := .int ((b + 70001 * (c + 1)) * 60089)) (y := .int 43) (e2_to (x := .int (b + 70001 * (c + 1))) (y := .int 60089) (e2_to (x := .int b) (y := .int (70001 * (c + 1))) rfl (e2_to (x := .int 70001) (y := .int (c + 1)) rfl rfl (mul' _ _ (by decide))) rfl) rfl (mul _ _ (by decide))) rfl rfl) nil_to) rfl) rfl (oMod_to raw0)
    · exact e2_to (x := .int ((raw * 47059 + 20011) % 2147483543)) (y := .int 1) (e2_to (x := .int (raw * 47059 + 20011)) (y := .int 2147483543) (eL_to (ds := [.int (raw * 47059 + 20011)]) (cons_to (e2_to (x := .int (raw * 47059)) (y := .int 20011) (e2_to (x := .int raw) (y := .int 47059) rfl rfl (mul _ _ (by decide))) rfl rfl) nil_to) rfl) rfl (oMod_to (by decide))) rfl rfl
    · unfold nD
      rw [er]
      exact e2_to (x := .int ((raw * 2147483629 + b') / 8209)) (y := nD m) (eL_to (ds := [.int ((raw * 2147483629 + b') / 8209)]) (cons_to (e2_to (x := .int (raw * 2147483629 + b')) (y := .int 8209) (e2_to (x := .int (raw * 2147483629)) (y := .int b') (e2_to (x := .int raw) (y := .int 2147483629) rfl rfl (mul _ _ (by decide))) rfl rfl) rfl (oDiv_to (by decide) (by decide))) nil_to) rfl) rfl (oMod_to hm)
theorem q_pick {d : D} (hd : IsBx d) {ds : List D} (h1 : ds ≠ []) (h2 : ds.length < 1073741824) : ∃ (r : Nat) (x d' : D), ds[r]? = some x ∧ IsBx d' ∧ f__law_pick [.ow d, .fr (.lst ds)] = .ok x [.ow d', .un] := by
  obtain ⟨a, b, c, rfl⟩ := hd
  have hl : 0 < ds.length := List.length_pos_iff.mpr h1
  obtain ⟨r, d', hr, hd', e⟩ := q_take a b c hl h2
  refine ⟨r, ds[r], d', List.getElem?_eq_getElem hr, hd', fn_rt (σ1 := [.ow d', .fr (.lst ds)]) (seq_rt (ret_to (e2_to (x := .lst ds) (y := nD r) rfl (call_ok (l := [.ox 0, .dv (nD ds.length)]) (outs := [.ow d', .un]) rfl rfl e) ?_)))⟩
  rw [show nD r = .int (r : Int) from rfl, oIx_nat]
  exact List.getElem?_eq_getElem hr
/-! ### the tables -/
abbrev T0 (d p k : D) (n : Nat) (found : List (List Nat)) (s5 s6 s7 s8 : Sl) : Ev := [.ow d, .fr p, .fr k, .fr (nD n), .ow (.lst (found.map tL)), s5, s6, s7, s8]
theorem rng_mem {n : Nat} {x : D} (h : x ∈ rng 0 n) : ∃ i : Nat, i < n ∧ x = nD i := by
  obtain ⟨i, hi⟩ := List.mem_iff_getElem?.mp h
  rw [rng_at] at hi
  by_cases e : i < n
  · rw [if_pos e] at hi
    cases hi
    refine ⟨i, e, ?_⟩
    unfold nD
    rw [Int.zero_add]
  · rw [if_neg e] at hi; cases hi
theorem pair_tab {n : Nat} : ∀ {xs ds : List D}, PySem.Paired (fun _ d => ∃ r : Nat, r < n ∧ d = nD r) xs ds → ∃ t : List Nat, ds = t.map nD ∧ t.length = xs.length ∧ ∀ x ∈ t, x < n
  | _, _, .nil => ⟨[], rfl, rfl, fun _ h => by cases h⟩
  | _, _, .cons ⟨r, h1, h2⟩ t => by
    obtain ⟨q, e1, e2, e3⟩ := pair_tab t
    refine ⟨r :: q, by rw [h2, e1]; rfl, by rw [List.length_cons, List.length_cons, e2], fun x hx => ?_⟩
    rcases List.mem_cons.mp hx with e | hx
    · rw [e]; exact h1
    · exact e3 x hx
/-- one table by a comprehension that may take from the box -/
theorem tab_comp {d p k : D} {n : Nat} {found : List (List Nat)} {s5 s6 s7 : Sl} {e : EM} (hd : IsBx d) (hn : n ≤ 60)
    (he : ∀ (i : Nat) (d : D), i < n → IsBx d → ∃ r d', r < n ∧ IsBx d' ∧ e (T0 d p k n found s5 s6 s7 (.fr (nD i))) = .ok (nD r) (T0 d' p k n found s5 s6 s7 (.fr (nD i)))) :
    ∃ t d', GoodT n t ∧ IsBx d' ∧ (lLc (lR1 (eV 3)) (gN 8) tYes e [8]) (T0 d p k n found s5 s6 s7 .un) = .ok (t.map nD) (T0 d' p k n found s5 s6 s7 .un) := by
  obtain ⟨ds, σ', g1, g2, d', hd', e'⟩ := lc_inv (i := 8) (σ := T0 d p k n found s5 s6 s7 .un) (σ1 := T0 d p k n found s5 s6 s7 .un) (it := lR1 (eV 3)) (xs := rng 0 n) (e := e) (P := fun _ d => ∃ r : Nat, r < n ∧ d = nD r) (lr1_to rfl (by omega))
    (fun σ => ∃ d, IsBx d ∧ σ = T0 d p k n found s5 s6 s7 .un) (fun σ ⟨d, _, h⟩ => by rw [h]; rfl) (by rw [rng_len]; omega) ⟨d, hd, rfl⟩ fun x hx σ ⟨d, hd, h⟩ => by
      subst h
      obtain ⟨i, hi, rfl⟩ := rng_mem hx
      obtain ⟨r, d', h1, h2, h3⟩ := he i d hi hd
      exact ⟨_, _, h3, ⟨r, h1, rfl⟩, d', h2, rfl⟩
  subst e'
  obtain ⟨t, e1, e2, e3⟩ := pair_tab g2
  rw [rng_len] at e2
  exact ⟨t, d', ⟨e2, e3⟩, hd', by rw [g1, e1]⟩
theorem eq_int (i j : Int) : (orO (orO eqS eqD) (eqI 3 f_Device___eq)) (.int i) (.int j) = some (.bl (decide (i = j))) := rfl
/-- one turn -/
def tabB : SM := (sSeq (sSet 6 (eCall f__law_pick (aO 0 (aD (eNew (lD (lCons (eC (.int 0)) (lCons (eC (.int 0)) (lCons (eC (.int 1)) (lCons (eC (.int 1)) (lCons (eC (.int 2)) lNil))))))) aNil)))) (sSeq (sIf (tE (e2 (orO (orO eqS eqD) (eqI 3 f_Device___eq)) (eV 6) (eC (.int 0)))) (sSeq (sApp 4 (eNew (lLc (lR1 (eV 3)) (gN 8) tYes (eCall f__law_take (aO 0 (aD (eV 3) aNil))) [8]))) sNext) (sSeq (sIf (tE (e2 (orO (orO eqS eqD) (eqI 3 f_Device___eq)) (eV 6) (eC (.int 1)))) (sSeq (sApp 4 (eNew (lLc (lR1 (eV 3)) (gN 8) tYes (eIf (tE (e2 (orO (orO eqS eqD) (eqI 3 f_Device___eq)) (eCall f__law_take (aO 0 (aD (eC (.int 2)) aNil))) (eC (.int 0)))) (eV 8) (eCall f__law_take (aO 0 (aD (eV 3) aNil)))) [8]))) sNext) (sSeq (sSet 7 (eCall f__law_take (aO 0 (aD (eV 3) aNil)))) (sSeq (sApp 4 (eNew (lLc (lR1 (eV 3)) (gN 8) tYes (e2 oMod (eL cInt (lCons (e2 oAdd (eV 8) (eV 7)) lNil)) (eV 3)) [8]))) sNext))) sNext)) sNext))
theorem app_tab {d d' p k : D} {n : Nat} {found : List (List Nat)} {s5 s6 s7 : Sl} {l : LM} {t : List Nat} (hf : found.length < 10) (h : l (T0 d p k n found s5 s6 s7 .un) = .ok (t.map nD) (T0 d' p k n found s5 s6 s7 .un)) :
    sApp 4 (eNew l) (T0 d p k n found s5 s6 s7 .un) = .nx (T0 d' p k n (found ++ [t]) s5 s6 s7 .un) := by
  refine (app_to (ds := found.map tL) (d := tL t) (d0 := .non) (σ1 := T0 d' p k n found s5 s6 s7 .un) rfl (new_to h) rfl (by rw [List.length_map]; omega)).trans ?_
  show RS.nx (T0 d' p k n found s5 s6 s7 .un |>.set 4 (.ow (.lst (found.map tL ++ [tL t])))) = _
  rw [show found.map tL ++ [tL t] = (found ++ [t]).map tL by rw [List.map_append]; rfl]
  rfl
theorem tab_turn {d p k : D} {n : Nat} {found : List (List Nat)} {s5 s6 s7 : Sl} (hd : IsBx d) (n1 : 1 ≤ n) (hn : n ≤ 60) (hf : found.length < 10) :
    ∃ t d' s6' s7', GoodT n t ∧ IsBx d' ∧ tabB (T0 d p k n found s5 s6 s7 .un) = .nx (T0 d' p k n (found ++ [t]) s5 s6' s7' .un) := by
  obtain ⟨r, x, d1, hx, hd1, hp⟩ := q_pick hd (ds := [.int 0, .int 0, .int 1, .int 1, .int 2]) (by simp) (by simp)
  have hs : ∃ st : Int, x = .int st := by
    have : x ∈ [D.int 0, .int 0, .int 1, .int 1, .int 2] := List.mem_of_getElem? hx
    simp only [List.mem_cons, List.not_mem_nil, or_false] at this
    rcases this with h | h | h | h | h <;> exact ⟨_, h⟩
  obtain ⟨st, rfl⟩ := hs
  have c1 : sSet 6 (eCall f__law_pick (aO 0 (aD (eNew (lD (lCons (eC (.int 0)) (lCons (eC (.int 0)) (lCons (eC (.int 1)) (lCons (eC (.int 1)) (lCons (eC (.int 2)) lNil))))))) aNil))) (T0 d p k n found s5 s6 s7 .un) = .nx (T0 d1 p k n found s5 (.fr (.int st)) s7 .un) :=
    set_to (call_ok (l := [.ox 0, .dv (.lst [.int 0, .int 0, .int 1, .int 1, .int 2])]) (outs := [.ow d1, .un]) (σ1 := T0 d p k n found s5 s6 s7 .un) rfl rfl hp)
  have tk : ∀ (d : D) (s5 s6 s7 s8 : Sl), IsBx d → ∃ r d', r < n ∧ IsBx d' ∧ eCall f__law_take (aO 0 (aD (eV 3) aNil)) (T0 d p k n found s5 s6 s7 s8) = .ok (nD r) (T0 d' p k n found s5 s6 s7 s8) := fun d s5 s6 s7 s8 ⟨a, b, c, e⟩ => by
    subst e
    obtain ⟨r, d', h1, h2, h3⟩ := q_take a b c (m := n) (by omega) (by omega)
    exact ⟨r, d', h1, h2, call_ok (l := [.ox 0, .dv (nD n)]) (outs := [.ow d', .un]) (σ1 := T0 (bx a b c) p k n found s5 s6 s7 s8) rfl rfl h3⟩
  by_cases h0 : st = 0
  · obtain ⟨t, d', ht, hd', g⟩ := tab_comp (p := p) (k := k) (found := found) (s5 := s5) (s6 := .fr (.int st)) (s7 := s7) (e := eCall f__law_take (aO 0 (aD (eV 3) aNil))) hd1 hn fun i d _ hd => tk d _ _ _ _ hd
    refine ⟨t, d', _, s7, ht, hd', seq_to c1 (seq_to (if_t (σ1 := T0 d1 p k n found s5 (.fr (.int st)) s7 .un) (tE_to (e2_to (x := .int st) (y := .int 0) rfl rfl ((eq_int _ _).trans (by rw [decide_eq_true h0])))) (seq_to (app_tab hf g) rfl)) rfl)⟩
  · by_cases h1 : st = 1
    · obtain ⟨t, d', ht, hd', g⟩ := tab_comp (p := p) (k := k) (found := found) (s5 := s5) (s6 := .fr (.int st)) (s7 := s7) (e := (eIf (tE (e2 (orO (orO eqS eqD) (eqI 3 f_Device___eq)) (eCall f__law_take (aO 0 (aD (eC (.int 2)) aNil))) (eC (.int 0)))) (eV 8) (eCall f__law_take (aO 0 (aD (eV 3) aNil))))) hd1 hn fun i d hi ⟨a, b, c, e⟩ => by
        subst e
        obtain ⟨q, d2, _, h2, h3⟩ := q_take a b c (m := 2) (by omega) (by omega)
        have c2 : tE (e2 (orO (orO eqS eqD) (eqI 3 f_Device___eq)) (eCall f__law_take (aO 0 (aD (eC (.int 2)) aNil))) (eC (.int 0))) (T0 (bx a b c) p k n found s5 (.fr (.int st)) s7 (.fr (nD i))) = .ok (decide ((q : Int) = 0)) (T0 d2 p k n found s5 (.fr (.int st)) s7 (.fr (nD i))) :=
          tE_to (e2_to (x := nD q) (y := .int 0) (call_ok (l := [.ox 0, .dv (nD 2)]) (outs := [.ow d2, .un]) (σ1 := T0 (bx a b c) p k n found s5 (.fr (.int st)) s7 (.fr (nD i))) rfl rfl h3) rfl (eq_int _ _))
        by_cases hq : (q : Int) = 0
        · rw [decide_eq_true hq] at c2
          exact ⟨i, d2, hi, h2, eif_t c2 rfl⟩
        · rw [decide_eq_false hq] at c2
          obtain ⟨r, d', g1, g2, g3⟩ := tk d2 s5 (.fr (.int st)) s7 (.fr (nD i)) h2
          exact ⟨r, d', g1, g2, eif_f c2 g3⟩
      refine ⟨t, d', _, s7, ht, hd', seq_to c1 (seq_to (if_f (σ1 := T0 d1 p k n found s5 (.fr (.int st)) s7 .un) (tE_to (e2_to (x := .int st) (y := .int 0) rfl rfl ((eq_int _ _).trans (by rw [decide_eq_false h0])))) (seq_to (if_t (σ1 := T0 d1 p k n found s5 (.fr (.int st)) s7 .un) (tE_to (e2_to (x := .int st) (y := .int 1) rfl rfl ((eq_int _ _).trans (by rw [decide_eq_true h1])))) (seq_to (app_tab hf g) rfl)) rfl)) rfl)⟩
    · obtain ⟨sh, d2, _, hd2, g0⟩ := tk d1 s5 (.fr (.int st)) s7 .un hd1
      obtain ⟨t, d', ht, hd', g⟩ := tab_comp (p := p) (k := k) (found := found) (s5 := s5) (s6 := .fr (.int st)) (s7 := .fr (nD sh)) (e := (e2 oMod (eL cInt (lCons (e2 oAdd (eV 8) (eV 7)) lNil)) (eV 3))) hd2 hn fun i d hi hd => by
        have hm : (0 : Int) < (n : Int) := by omega
        have hr0 : 0 ≤ ((i : Int) + (sh : Int)) % (n : Int) := Int.emod_nonneg _ (by omega)
        have hr1 : ((i : Int) + (sh : Int)) % (n : Int) < n := Int.emod_lt_of_pos _ hm
        refine ⟨(((i : Int) + (sh : Int)) % (n : Int)).toNat, d, by omega, hd, ?_⟩
        unfold nD
        rw [Int.toNat_of_nonneg hr0]
        exact e2_to (x := .int ((i : Int) + (sh : Int))) (y := nD n) rfl rfl (oMod_to hm)
      refine ⟨t, d', _, _, ht, hd', seq_to c1 (seq_to (if_f (σ1 := T0 d1 p k n found s5 (.fr (.int st)) s7 .un) (tE_to (e2_to (x := .int st) (y := .int 0) rfl rfl ((eq_int _ _).trans (by rw [decide_eq_false h0])))) (seq_to (if_f (σ1 := T0 d1 p k n found s5 (.fr (.int st)) s7 .un) (tE_to (e2_to (x := .int st) (y := .int 1) rfl rfl ((eq_int _ _).trans (by rw [decide_eq_false h1])))) (seq_to (set_to g0) (seq_to (app_tab hf g) rfl))) rfl)) rfl)⟩
theorem q_tables {d : D} (hd : IsBx d) {most k : Nat} (hm : 1 ≤ most) (hm2 : most ≤ 60) (hk : k ≤ 5) : ∃ (n : Nat) (tabs : List (List Nat)) (d' : D), 1 ≤ n ∧ n ≤ most ∧ tabs.length = k ∧ (∀ t ∈ tabs, GoodT n t) ∧ IsBx d' ∧ f__law_tables [.ow d, .fr (nD most), .fr (nD k)] = .ok (.lst (tabs.map tL)) [.ow d', .un, .un] := by
  obtain ⟨a, b, c, rfl⟩ := hd
  obtain ⟨r, d1, hr, hd1, g0⟩ := q_take a b c (m := most) (by omega) (by omega)
  have c1 : sSet 3 (e2 oAdd (eC (.int 1)) (eCall f__law_take (aO 0 (aD (eV 1) aNil)))) [.ow (bx a b c), .fr (nD most), .fr (nD k), .un, .un, .un, .un, .un, .un] = .nx [.ow d1, .fr (nD most), .fr (nD k), .fr (nD (r + 1)), .un, .un, .un, .un, .un] := by
    refine set_to (e2_to (x := .int 1) (y := nD r) rfl (call_ok (l := [.ox 0, .dv (nD most)]) (outs := [.ow d1, .un]) (σ1 := [.ow (bx a b c), .fr (nD most), .fr (nD k), .un, .un, .un, .un, .un, .un]) rfl rfl g0) ?_)
    show some (D.int (1 + (r : Int))) = some (D.int ((r + 1 : Nat) : Int))
    rw [show (1 : Int) + (r : Int) = ((r + 1 : Nat) : Int) by omega]
  obtain ⟨σ', g, found, d', s5, s6, s7, hf, ht, hd', e⟩ := for_nx (it := lR1 (eV 2)) (tg := gN 5) (body := tabB) (σ := T0 d1 (nD most) (nD k) (r + 1) [] .un .un .un .un) (σ1 := T0 d1 (nD most) (nD k) (r + 1) [] .un .un .un .un) (xs := rng 0 k) (lr1_to rfl (by omega))
    (fun i σ => ∃ found d s5 s6 s7, found.length = i ∧ (∀ t ∈ found, GoodT (r + 1) t) ∧ IsBx d ∧ σ = T0 d (nD most) (nD k) (r + 1) found s5 s6 s7 .un) ⟨[], d1, _, _, _, rfl, fun _ h => (by cases h), hd1, rfl⟩ fun i x σ hi ⟨found, d, s5, s6, s7, hf, ht, hd, e⟩ => by
      subst e
      have hik : i < k := by
        rw [rng_at] at hi
        by_cases e : i < k
        · exact e
        · rw [if_neg e] at hi; cases hi
      obtain ⟨t, d', s6', s7', g1, g2, g3⟩ := tab_turn (p := nD most) (k := nD k) (n := r + 1) (found := found) (s5 := .fr x) (s6 := s6) (s7 := s7) hd (by omega) (by omega) (by omega)
      refine ⟨_, _, rfl, .inl g3, found ++ [t], d', _, _, _, by rw [List.length_append, hf]; rfl, fun q hq => ?_, g2, rfl⟩
      rcases List.mem_append.mp hq with hq | hq
      · exact ht q hq
      · rw [List.mem_singleton.mp hq]; exact g1
  subst e
  rw [rng_len] at hf
  exact ⟨r + 1, found, d', by omega, by omega, hf, ht, hd', fn_rt (σ1 := [.ow d', .fr (nD most), .fr (nD k), .fr (nD (r + 1)), .fr (.lst (found.map tL)), s5, s6, s7, .un]) (seq_to c1 (seq_to (own_to rfl) (seq_to g (seq_rt (ret_to rfl)))))⟩
/-! ### the text of a device -/
theorem cStr_nm {x : Nat} (h : x < 1000) : cStr [nD x] = some (.str (nm x)) := by
  show (if ((x : Int)).natAbs.log2 < 1920 then some (D.str (toString (x : Int))) else none) = _
  rw [if_pos]
  · rfl
  · rw [Int.natAbs_natCast]
    exact Nat.lt_of_le_of_lt (Nat.log2_le_self x) (by omega)
theorem fmt_nm {x : Nat} (h : x < 1000) : fmtD (nD x) = some (.str (nm x)) := by
  show (if ((x : Int)).natAbs.log2 < 1920 then some (D.str (toString (x : Int))) else none) = _
  rw [if_pos]
  · rfl
  · rw [Int.natAbs_natCast]
    exact Nat.lt_of_le_of_lt (Nat.log2_le_self x) (by omega)
theorem add_str {x y : Str} (h : x.length + y.length ≤ 16777216) : oAdd (.str x) (.str y) = some (.str (x ++ y)) := by
  show (match addI (.str x) (.str y) with
    | some z => some z
    | none => (orO addS addL) (.str x) (.str y)) = _
  show (match addS (.str x) (.str y) with
    | some z => some z
    | none => addL (.str x) (.str y)) = _
  rw [show addS (.str x) (.str y) = some (.str (x ++ y)) from if_pos h]
theorem add_lst {x y : List D} (h : x.length + y.length ≤ 16777216) : oAdd (.lst x) (.lst y) = some (.lst (x ++ y)) := if_pos h
theorem hdr_ln (n : Nat) : ("states " : Str) ++ nm n = ln (hdr n) := by
  apply ext_tl
  rw [tl_append, tl_ln]
  have e : tl ("states " : Str) = tl "states" ++ [32] := by decide +kernel
  rw [e, List.append_assoc]
  rfl
theorem sig_len (i : Nat) : (sig i).length = 1 := rfl
theorem trow_short {n i : Nat} {t : List Nat} (n2 : n ≤ 60) (h : GoodT n t) : ∀ w ∈ trow i t, w.length ≤ 20 := fun w hw => by
  rcases List.mem_cons.mp hw with e | hw
  · rw [e, sig_len]; omega
  · obtain ⟨x, hx, rfl⟩ := List.mem_map.mp hw
    have := h.2 x hx
    have := nm_len (n := x) (by omega)
    omega
theorem trow_len {n i : Nat} {t : List Nat} (h : GoodT n t) : (trow i t).length = n + 1 := by
  show (sig i :: t.map nm).length = _
  rw [List.length_cons, List.length_map, h.1]
/-- a line's words joined -/
theorem row_join {σ : Ev} {e1 e2 : EM} {n i : Nat} {t : List Nat} (n2 : n ≤ 60) (h : GoodT n t) (h1 : e1 σ = .ok (.str (sig i)) σ) (h2 : e2 σ = .ok (.lst ((t.map nm).map D.str)) σ) :
    (eM1 mJoin (eC (.str " ")) (VM.e2 oAdd (eNew (lD (lCons e1 lNil))) e2)) σ = .ok (.str (ln (trow i t))) σ := by
  refine m1_to (x := " ") (y := .lst ((trow i t).map D.str)) rfl (e2_to (x := .lst [.str (sig i)]) (y := .lst ((t.map nm).map D.str)) ?_ h2 ?_) ?_
  · refine new_to ?_
    show (lCons e1 lNil σ).bind _ = _
    rw [cons_to h1 nil_to]
    rfl
  · rw [add_lst]
    · rfl
    · rw [List.length_map, List.length_map, h.1, List.length_singleton]; omega
  · refine mJoin_to (b := 20) (trow_short n2 h) ?_
    have e : (" " : Str).length = 1 := by decide +kernel
    rw [e, trow_len h]
    omega
theorem comp_str {σ : Ev} {i : Nat} {it : LM} {n : Nat} {t : List Nat} (n2 : n ≤ 60) (h : GoodT n t) (hi : it σ = .ok (t.map nD) σ) (hun : σ[i]? = some .un) : (eNew (lLc it (gN i) tYes (eL cStr (lCons (eV i) lNil)) [i])) σ = .ok (.lst ((t.map nm).map D.str)) σ := by
  have hlt : i < σ.length := (List.getElem?_eq_some_iff.mp hun).1
  have g := lc_map (i := i) (e := eL cStr (lCons (eV i) lNil)) (fun x => match x with
    | .int i => .str (toString i)
    | _ => .non) hi (.inl hun) (by rw [List.length_map, h.1]; omega) fun x hx => by
      obtain ⟨y, hy, rfl⟩ := List.mem_map.mp hx
      have := h.2 y hy
      refine eL_to (ds := [nD y]) (cons_to ?_ nil_to) (cStr_nm (by omega))
      unfold eV
      rw [List.getElem?_set_self hlt]
  refine (new_to g).trans ?_
  rw [List.map_map, List.map_map]
  rfl
theorem trows_snoc {tabs : List (List Nat)} {i : Nat} {t : List Nat} (h : tabs[i]? = some t) : trows (tabs.take i) ++ [trow i t] = trows (tabs.take (i + 1)) := by
  have hl : i < tabs.length := (List.getElem?_eq_some_iff.mp h).1
  rw [← take_snoc h]
  unfold trows
  rw [List.mapIdx_append]
  simp only [List.mapIdx_cons, List.mapIdx_nil, List.length_take, Nat.min_eq_left (Nat.le_of_lt hl), Nat.zero_add]
def rowsOf (n : Nat) (tabs : List (List Nat)) : List (List Str) := hdr n :: trows tabs
theorem nm_lit (n : Nat) (h : n ≤ 60) : Wd (nm n) ∧ (nm n).length ≤ 20 := ⟨nm_wd n, by have := nm_len (n := n) (by omega); omega⟩
theorem sig_wd {i : Nat} : Wd (sig i) := by
  have e : tl (sig i) = [97 + i] := rfl
  unfold Wd
  rw [e]
  simp only [List.mem_singleton]
  omega
theorem hdr_ok {n : Nat} (h : n ≤ 60) : ∀ w ∈ hdr n, Wd w ∧ w.length ≤ 20 := fun w hw => by
  rcases List.mem_cons.mp hw with e | hw
  · rw [e]; unfold Wd; decide +kernel
  · rw [List.mem_singleton.mp hw]; exact nm_lit n h
theorem trow_ok {n i : Nat} {t : List Nat} (n2 : n ≤ 60) (h : GoodT n t) : ∀ w ∈ trow i t, Wd w ∧ w.length ≤ 20 := fun w hw => by
  refine ⟨?_, trow_short n2 h w hw⟩
  rcases List.mem_cons.mp hw with e | hw
  · rw [e]; exact sig_wd
  · obtain ⟨x, hx, rfl⟩ := List.mem_map.mp hw
    exact nm_wd x
/-- a line that may stand in a text -/
def LnOk (r : List Str) : Prop := r ≠ [] ∧ r.length ≤ 70 ∧ ∀ w ∈ r, Wd w ∧ w.length ≤ 20
theorem cl_of {rows : List (List Str)} (h1 : rows ≠ []) (h2 : rows.length ≤ 20) (h : ∀ r ∈ rows, LnOk r) : Cl rows := ⟨h1, fun r hr => ⟨(h r hr).1, fun w hw => ((h r hr).2.2 w hw).1⟩, h2, fun r hr => (h r hr).2.1, fun r hr w hw => ((h r hr).2.2 w hw).2⟩
theorem hdr_lnOk {n : Nat} (h : n ≤ 60) : LnOk (hdr n) := ⟨by simp [hdr], by simp [hdr], hdr_ok h⟩
theorem trow_lnOk {n i : Nat} {t : List Nat} (n2 : n ≤ 60) (h : GoodT n t) : LnOk (trow i t) := ⟨by simp [trow], by rw [trow_len h]; omega, trow_ok n2 h⟩
theorem trows_lnOk {n : Nat} {tabs : List (List Nat)} (n2 : n ≤ 60) (h : ∀ t ∈ tabs, GoodT n t) : ∀ r ∈ trows tabs, LnOk r := fun r hr => by
  obtain ⟨i, hi⟩ := List.mem_iff_getElem?.mp hr
  obtain ⟨t, e1, e2⟩ := trows_get hi
  rw [e2]
  exact trow_lnOk n2 (h t (List.mem_of_getElem? e1))
theorem rows_lnOk {n : Nat} {tabs : List (List Nat)} (h : Good n tabs) : ∀ r ∈ rowsOf n tabs, LnOk r := fun r hr => by
  rcases List.mem_cons.mp hr with e | hr
  · rw [e]; exact hdr_lnOk h.n2
  · exact trows_lnOk h.n2 h.t r hr
/-- lines joined to a text -/
theorem lines_join {rows : List (List Str)} (h2 : rows.length ≤ 20) (h : ∀ r ∈ rows, LnOk r) : mJoin "\n" (.lst ((rows.map ln).map D.str)) = some (.str (tx rows)) := by
  refine mJoin_to (b := 1470) (fun y hy => ?_) ?_
  · obtain ⟨r, hr, rfl⟩ := List.mem_map.mp hy
    exact ln_short (h r hr).2.1 fun w hw => ((h r hr).2.2 w hw).2
  · have e : ("\n" : Str).length = 1 := by decide +kernel
    rw [e, List.length_map]
    omega
def lnsD (rows : List (List Str)) : D := .lst ((rows.map ln).map D.str)
theorem states_row {n : Nat} (n2 : n ≤ 60) : oAdd (.str "states ") (.str (nm n)) = some (.str (ln (hdr n))) := by
  rw [add_str, hdr_ln]
  have e : ("states " : Str).length = 7 := by decide +kernel
  have := nm_len (n := n) (by omega)
  omega
theorem lns_snoc {n : Nat} {tabs : List (List Nat)} {i : Nat} {t : List Nat} (h : tabs[i]? = some t) : ((rowsOf n (tabs.take i)).map ln).map D.str ++ [D.str (ln (trow i t))] = ((rowsOf n (tabs.take (i + 1))).map ln).map D.str := by
  unfold rowsOf
  rw [← trows_snoc h, List.map_cons, List.map_cons, List.map_cons, List.map_cons, List.map_append, List.map_append, List.cons_append]
  rfl
theorem sigs_at {k i : Nat} (hk : k ≤ 5) (hi : i < k) : (strD (L2.cutS "abcde" none (some (k : Int))))[i]? = some (.str (sig i)) := by
  have hk' : k ∈ [0, 1, 2, 3, 4, 5] := by simp only [List.mem_cons, List.not_mem_nil, or_false]; omega
  match k, i, hk, hi with
  | 1, 0, _, _ => rfl
  | 2, 0, _, _ => rfl
  | 2, 1, _, _ => rfl
  | 3, 0, _, _ => rfl
  | 3, 1, _, _ => rfl
  | 3, 2, _, _ => rfl
  | 4, 0, _, _ => rfl
  | 4, 1, _, _ => rfl
  | 4, 2, _, _ => rfl
  | 4, 3, _, _ => rfl
  | 5, 0, _, _ => rfl
  | 5, 1, _, _ => rfl
  | 5, 2, _, _ => rfl
  | 5, 3, _, _ => rfl
  | 5, 4, _, _ => rfl
theorem sigs_len {k : Nat} (hk : k ≤ 5) : (strD (L2.cutS "abcde" none (some (k : Int)))).length = k := by
  match k, hk with
  | 0, _ => rfl
  | 1, _ => rfl
  | 2, _ => rfl
  | 3, _ => rfl
  | 4, _ => rfl
  | 5, _ => rfl
theorem zip_len : ∀ {a b : List D}, a.length = b.length → (zipD a b).length = b.length
  | [], [], _ => rfl
  | x :: a, y :: b, h => congrArg (· + 1) (zip_len (Nat.succ.inj h))
  | [], _ :: _, h => by cases h
  | _ :: _, [], h => by cases h
theorem q_dtext {n : Nat} {tabs : List (List Nat)} (h : Good n tabs) : f_device_text [.fr (devD n tabs)] = .ok (.str (tx (rowsOf n tabs))) [.un] := by
  let S (rows : List (List Str)) (s2 s3 : Sl) : Ev := [.fr (devD n tabs), .ow (lnsD rows), s2, s3, .un]
  have k2 := h.k2
  obtain ⟨σ', g, s2, s3, e⟩ := for_nx (it := lZip zipST (e1 (fldD [3] "signals") (eV 0)) (e1 (fldD [3] "tables") (eV 0))) (tg := gT [(gN 2), (gN 3)]) (body := (sSeq (sApp 1 (eM1 mJoin (eC (.str " ")) (e2 oAdd (eNew (lD (lCons (eV 2) lNil))) (eNew (lLc (lIt (eV 3)) (gN 4) tYes (eL cStr (lCons (eV 4) lNil)) [4]))))) sNext))
    (σ := S [hdr n] .un .un) (σ1 := S [hdr n] .un .un) (xs := zipD (strD (L2.cutS "abcde" none (some (tabs.length : Int)))) (tabs.map tT)) rfl
    (fun i σ => ∃ s2 s3, σ = S (rowsOf n (tabs.take i)) s2 s3) ⟨_, _, rfl⟩ fun i x σ hi ⟨s2, s3, e⟩ => by
      subst e
      obtain ⟨d1, d2, e2, e3, e1⟩ := zipD_get hi
      rw [List.getElem?_map] at e3
      cases ht : tabs[i]? with
      | none => rw [ht] at e3; cases e3
      | some t =>
        rw [ht] at e3
        cases e3
        have hil : i < tabs.length := (List.getElem?_eq_some_iff.mp ht).1
        rw [sigs_at k2 hil] at e2
        cases e2
        subst e1
        have gt := h.t t (List.mem_of_getElem? ht)
        have hrow := row_join (σ := S (rowsOf n (tabs.take i)) (.fr (.str (sig i))) (.fr (tT t))) (e1 := eV 2) (i := i) h.n2 gt rfl (comp_str (i := 4) (it := lIt (eV 3)) h.n2 gt rfl rfl)
        refine ⟨S (rowsOf n (tabs.take i)) (.fr (.str (sig i))) (.fr (tT t)), S (rowsOf n (tabs.take (i + 1))) (.fr (.str (sig i))) (.fr (tT t)), rfl, .inl (seq_to (app_to (ds := ((rowsOf n (tabs.take i)).map ln).map D.str) (d0 := .non) (σ1 := S (rowsOf n (tabs.take i)) (.fr (.str (sig i))) (.fr (tT t))) rfl hrow rfl ?_) ?_), _, _, rfl⟩
        · rw [List.length_map, List.length_map]
          unfold rowsOf
          rw [List.length_cons, trows_len, List.length_take]
          omega
        · rw [lns_snoc ht]
          rfl
  subst e
  rw [zip_len (by rw [sigs_len k2, List.length_map]), List.length_map, List.take_length] at g
  have hl : (lD (lCons (eJ2 (eC (.str "states ")) (e1 fmtD (e1 (fldD [3] "states") (eV 0)))) lNil)) [.fr (devD n tabs), .un, .un, .un, .un] = .ok [.str (ln (hdr n))] [.fr (devD n tabs), .un, .un, .un, .un] := by
    have e0 : ("states " : Str).length ≤ 16777216 := by decide +kernel
    have ef : (e1 fmtD (e1 (fldD [3] "states") (eV 0))) [.fr (devD n tabs), .un, .un, .un, .un] = .ok (.str (nm n)) [.fr (devD n tabs), .un, .un, .un, .un] := e1_to (x := nD n) rfl (fmt_nm (by have := h.n2; omega))
    have ej : (eJ2 (eC (.str "states ")) (e1 fmtD (e1 (fldD [3] "states") (eV 0)))) [.fr (devD n tabs), .un, .un, .un, .un] = .ok (.str (ln (hdr n))) [.fr (devD n tabs), .un, .un, .un, .un] := by
      show (if ("states " : Str).length ≤ 16777216 then (e1 fmtD (e1 (fldD [3] "states") (eV 0)) [.fr (devD n tabs), .un, .un, .un, .un]).bind (fun z σ2 => .opt (addS (.str "states ") z) σ2) else .stuck) = _
      rw [if_pos e0, ef]
      show R.opt (addS (.str "states ") (.str (nm n))) _ = _
      rw [show addS (.str "states ") (.str (nm n)) = some (.str ("states " ++ nm n)) from if_pos (by
        have e : ("states " : Str).length = 7 := by decide +kernel
        have := nm_len (n := n) (by have := h.n2; omega)
        omega), hdr_ln]
      rfl
    show (lCons _ lNil _).bind _ = _
    rw [cons_to ej nil_to]
    rfl
  refine fn_rt (σ1 := [.fr (devD n tabs), .fr (lnsD (rowsOf n tabs)), s2, s3, .un]) (seq_to (own_to hl) (seq_to g (seq_rt (ret_to (m1_to (x := "\n") (y := lnsD (rowsOf n tabs)) rfl rfl (lines_join ?_ (rows_lnOk h)))))))
  unfold rowsOf
  rw [List.length_cons, trows_len]
  omega
end K04
end
section
set_option linter.all false
set_option maxRecDepth 100000
set_option maxHeartbeats 4000000
namespace K04
open VM
open PySem (Str Txt.join Txt.split)
open TL
/-! ### bent lines -/
theorem rc_any {w : Str} (hw : w.length ≤ 1000) (m : Nat) : ∃ d, f_read_count [.fr (.str w), .fr (nD m)] = .ok d [.un, .un] ∧ flatN d := by
  by_cases hl : 1 ≤ w.length ∧ w.length ≤ 2
  · by_cases hd : ∀ c ∈ tl w, c ∈ digs
    · have ha : PySem.NumText.AllDigits (tl w) := fun c hc => mem_digs.mp (hd c hc)
      have hne : tl w ≠ [] := fun z => by
        have := hl.1
        rw [len_tl, z] at this
        exact absurd this (by decide)
      have hv := PySem.intText_digits (x := w) ha hne (by omega)
      have h100 : PySem.NumText.digitsVal (tl w) < 100 := by
        have h2 := hl.2
        rw [len_tl] at h2
        match e : tl w, h2, ha with
        | [], _, _ => decide
        | [a], _, ha =>
          have := ha a List.mem_cons_self
          show 0 * 10 + (a - 48) < 100
          omega
        | [a, b], _, ha =>
          have := ha a List.mem_cons_self
          have := ha b (List.mem_cons_of_mem _ List.mem_cons_self)
          show (0 * 10 + (a - 48)) * 10 + (b - 48) < 100
          omega
        | a :: b :: c :: r, h2, _ => exact absurd h2 (by rw [List.length_cons, List.length_cons, List.length_cons]; omega)
      refine ⟨_, rc_fig hl hd hv h100, ?_⟩
      by_cases h : nm (PySem.NumText.digitsVal (tl w)) = w ∧ PySem.NumText.digitsVal (tl w) < m
      · rw [if_pos h]; exact .inr ⟨_, rfl⟩
      · rw [if_neg h]; exact .inl rfl
    · obtain ⟨c, hc⟩ := Classical.not_forall.mp hd
      obtain ⟨hc, hn⟩ := Classical.not_imp.mp hc
      exact ⟨_, rc_sign hw hc hn, .inl rfl⟩
  · exact ⟨_, rc_len hw hl, .inl rfl⟩
def fD (n : Nat) (w : Str) : D := match f_read_count [.fr (.str w), .fr (nD n)] with
  | .ok d _ => d
  | _ => .non
theorem fD_ok {w : Str} (hw : w.length ≤ 1000) (n : Nat) : f_read_count [.fr (.str w), .fr (nD n)] = .ok (fD n w) [.un, .un] ∧ flatN (fD n w) := by
  obtain ⟨d, h1, h2⟩ := rc_any hw n
  have e : fD n w = d := by unfold fD; rw [h1]
  rw [e]
  exact ⟨h1, h2⟩
theorem fD_of {w : Str} {n : Nat} {d : D} (h : f_read_count [.fr (.str w), .fr (nD n)] = .ok d [.un, .un]) : fD n w = d := by unfold fD; rw [h]
/-- words that are no number below -/
theorem no_empty (m : Nat) : f_read_count [.fr (.str ""), .fr (nD m)] = .ok .non [.un, .un] := rc_len (by decide +kernel) (by decide +kernel)
theorem no_61 {m : Nat} (h : m ≤ 61) : f_read_count [.fr (.str "61"), .fr (nD m)] = .ok .non [.un, .un] := by
  have e : ("61" : Str) = nm 61 := by decide +kernel
  rw [e, rc_num (by omega), if_neg (by omega)]
theorem no_neg (m : Nat) : f_read_count [.fr (.str "-1"), .fr (nD m)] = .ok .non [.un, .un] := rc_sign (c := 45) (by decide +kernel) (by decide +kernel) (by decide +kernel)
theorem no_x (m : Nat) : f_read_count [.fr (.str "x"), .fr (nD m)] = .ok .non [.un, .un] := rc_sign (c := 120) (by decide +kernel) (by decide +kernel) (by decide +kernel)
theorem no_q (x m : Nat) (hx : x < 100) : f_read_count [.fr (.str (nm x ++ "?")), .fr (nD m)] = .ok .non [.un, .un] := by
  have hl : (nm x ++ "?").length ≤ 1000 := by
    have := nm_len hx
    have e : tl ("?" : Str) = [63] := by decide +kernel
    rw [len_tl, tl_append, e, List.length_append, ← len_tl, List.length_singleton]
    omega
  refine rc_sign (c := 63) hl ?_ (by decide +kernel)
  rw [tl_append]
  exact List.mem_append_right _ (by decide +kernel)
def upc (c : Nat) : Nat := if 97 ≤ c then c - 32 else c
def up (w : Str) : Str := ⟨((tl w).map upc).toArray⟩
def okc (c : Nat) : Prop := c = 32 ∨ (48 ≤ c ∧ c ≤ 57) ∨ (97 ≤ c ∧ c ≤ 122)
theorem upc_of {c : Nat} (h : okc c) : PySem.Unicode.upperOf c = [upc c] := by
  have key : ∀ c, c < 123 → (c = 32 ∨ (48 ≤ c ∧ c ≤ 57) ∨ (97 ≤ c ∧ c ≤ 122)) → PySem.Unicode.upperOf c = [upc c] := by decide +kernel
  exact key c (by rcases h with h | h | h <;> omega) h
theorem flat_up : ∀ l : List Nat, (∀ c ∈ l, okc c) → (l.map fun c => PySem.Unicode.upperOf c).flatten = l.map upc
  | [], _ => rfl
  | a :: r, h => by
    rw [List.map_cons, List.flatten_cons, upc_of (h a List.mem_cons_self), flat_up r fun c hc => h c (List.mem_cons_of_mem _ hc)]
    rfl
theorem tl_upper {x : Str} (h : ∀ c ∈ tl x, okc c) : tl (PySem.Txt.upper x) = (tl x).map upc := by
  show (PySem.placed x fun _ c => PySem.Unicode.upperOf c).toList = _
  unfold PySem.placed
  rw [Array.toList_flatten, Array.toList_mapIdx, ← flat_up _ h]
  congr 1
  apply List.ext_getElem?
  intro i
  rw [List.getElem?_map, List.getElem?_mapIdx, List.getElem?_map]
  cases x.cps.toList[i]? <;> rfl
theorem joinL_map {f : Nat → Nat} {S : List Nat} (hS : S.map f = S) : ∀ ps : List (List Nat), (joinL S ps).map f = joinL S (ps.map (List.map f))
  | [] => rfl
  | [p] => rfl
  | p :: q :: r => by
    show (p ++ (S ++ joinL S (q :: r))).map f = p.map f ++ (S ++ joinL S ((q :: r).map (List.map f)))
    rw [List.map_append, List.map_append, hS, joinL_map hS (q :: r)]
theorem upper_ln {ws : List Str} (h : ∀ w ∈ ws, ∀ c ∈ tl w, okc c) : PySem.Txt.upper (ln ws) = ln (ws.map up) := by
  apply ext_tl
  rw [tl_upper, tl_ln, tl_ln, joinL_map rfl, List.map_map, List.map_map]
  · rfl
  · intro c hc
    rw [tl_ln] at hc
    rcases mem_joinL hc with m | ⟨p, h1, h2⟩
    · exact .inl (List.mem_singleton.mp m)
    · obtain ⟨w, hw, rfl⟩ := List.mem_map.mp h1
      exact h w hw c h2
/-- a text from its second sign on -/
def tail1 (w : Str) : Str := ⟨((tl w).drop 1).toArray⟩
theorem cut1 (x : Str) : tl (L2.cutS x (some 1) none) = (tl x).drop 1 := by
  have g := cutG_drop (tl x) 1
  unfold cutG at g
  rw [← len_tl] at g
  exact g
theorem cut_ln {w0 : Str} {ws : List Str} (h0 : tl w0 ≠ []) : L2.cutS (ln (w0 :: ws)) (some 1) none = ln (tail1 w0 :: ws) := by
  apply ext_tl
  rw [cut1, tl_ln, tl_ln]
  cases hz : tl w0 with
  | nil => exact absurd hz h0
  | cons a r =>
    cases ws with
    | nil =>
      show (tl w0).drop 1 = (tl w0).drop 1
      rfl
    | cons b q =>
      show (tl w0 ++ ([32] ++ joinL [32] ((b :: q).map tl))).drop 1 = (tl w0).drop 1 ++ ([32] ++ joinL [32] ((b :: q).map tl))
      rw [hz]
      rfl
/-- the bent lines of the line w0 :: (mid ++ [la]) -/
def bents (w0 : Str) (mid : List Str) (la : Str) : List (List Str) :=
  [w0 :: (mid ++ [la]) ++ ([""] : List Str), "" :: w0 :: (mid ++ [la]), [""], w0 :: (mid ++ [la]) ++ (["0"] : List Str), tail1 w0 :: (mid ++ [la]), (w0 :: (mid ++ [la])).map up, w0 :: mid, w0 :: mid ++ ([""] : List Str), w0 :: mid ++ (["00"] : List Str), w0 :: mid ++ (["61"] : List Str), w0 :: mid ++ (["-1"] : List Str), w0 :: mid ++ (["x"] : List Str), w0 :: mid ++ [la ++ "?"]]
theorem ln_end {ws : List Str} (h : ws ≠ []) (w z z' : Str) (e : z = " " ++ z') : ln ws ++ z = ln (ws ++ [z']) := by rw [e]; exact ln_app h z'
theorem ln_one (w : Str) : ln [w] = w := by
  apply ext_tl
  rw [tl_ln]
  rfl
theorem ln_q {w0 : Str} {mid : List Str} {la : Str} : ln (w0 :: (mid ++ [la])) ++ "?" = ln (w0 :: mid ++ [la ++ "?"]) := by
  have e : w0 :: (mid ++ [la]) = (w0 :: mid) ++ [la] := rfl
  rw [e, ← ln_app (by simp), ← ln_app (by simp)]
  apply ext_tl
  simp only [tl_append, List.append_assoc]

theorem line_short {v : List Str} (h : LnOk v) : (ln v).length ≤ 1470 := ln_short h.2.1 fun w hw => (h.2.2 w hw).2
/-- the list of bent lines -/
def bentE : LM := (lD (lCons (e2 oAdd (eV 6) (eC (.str " "))) (lCons (e2 oAdd (eC (.str " ")) (eV 6)) (lCons (eC (.str "")) (lCons (e2 oAdd (eV 6) (eC (.str " 0"))) (lCons (eSl oSl (eV 6) (oS (eC (.int 1))) oN) (lCons (eM0 mUpper (eV 6)) (lCons (eV 7) (lCons (e2 oAdd (eV 7) (eC (.str " "))) (lCons (e2 oAdd (eV 7) (eC (.str " 00"))) (lCons (e2 oAdd (eV 7) (eC (.str " 61"))) (lCons (e2 oAdd (eV 7) (eC (.str " -1"))) (lCons (e2 oAdd (eV 7) (eC (.str " x"))) (lCons (e2 oAdd (eV 6) (eC (.str "?"))) lNil))))))))))))))
theorem bent_to {σ : Ev} {w0 : Str} {mid : List Str} {la : Str} (h6 : σ[6]? = some (.fr (.str (ln (w0 :: (mid ++ [la])))))) (h7 : σ[7]? = some (.fr (.str (ln (w0 :: mid))))) (hl : LnOk (w0 :: (mid ++ [la]))) (hm : LnOk (w0 :: mid)) (h0 : tl w0 ≠ []) (hc : ∀ w ∈ w0 :: (mid ++ [la]), ∀ c ∈ tl w, okc c) :
    bentE σ = .ok ((bents w0 mid la).map fun v => .str (ln v)) σ := by
  have v6 : eV 6 σ = .ok (.str (ln (w0 :: (mid ++ [la])))) σ := by unfold eV; rw [h6]
  have v7 : eV 7 σ = .ok (.str (ln (w0 :: mid))) σ := by unfold eV; rw [h7]
  have l6 := line_short hl
  have l7 := line_short hm
  have add : ∀ {e : EM} {x : Str} (y : Str), e σ = .ok (.str x) σ → x.length ≤ 1470 → y.length ≤ 10 → e2 oAdd e (eC (.str y)) σ = .ok (.str (x ++ y)) σ := fun {e x} y h h1 h2 => e2_to (y := .str y) h rfl (add_str (by omega))
  have endd : ∀ {ws : List Str} (z z' : Str), ws ≠ [] → z = " " ++ z' → (D.str (ln ws ++ z)) = D.str (ln (ws ++ [z'])) := fun {ws} z z' h e => by rw [ln_end h z z z' e]
  have key : lCons (e2 oAdd (eV 6) (eC (.str " "))) (lCons (e2 oAdd (eC (.str " ")) (eV 6)) (lCons (eC (.str "")) (lCons (e2 oAdd (eV 6) (eC (.str " 0"))) (lCons (eSl oSl (eV 6) (oS (eC (.int 1))) oN) (lCons (eM0 mUpper (eV 6)) (lCons (eV 7) (lCons (e2 oAdd (eV 7) (eC (.str " "))) (lCons (e2 oAdd (eV 7) (eC (.str " 00"))) (lCons (e2 oAdd (eV 7) (eC (.str " 61"))) (lCons (e2 oAdd (eV 7) (eC (.str " -1"))) (lCons (e2 oAdd (eV 7) (eC (.str " x"))) (lCons (e2 oAdd (eV 6) (eC (.str "?"))) lNil)))))))))))) σ =
      .ok ((bents w0 mid la).map fun v => .str (ln v)) σ := by
    have c1 : ∀ {e : EM} {d : D} {l : LM} {ds : List D}, e σ = .ok d σ → l σ = .ok ds σ → lCons e l σ = .ok (d :: ds) σ := fun h1 h2 => cons_to h1 h2
    refine c1 ?_ (c1 ?_ (c1 ?_ (c1 ?_ (c1 ?_ (c1 ?_ (c1 v7 (c1 ?_ (c1 ?_ (c1 ?_ (c1 ?_ (c1 ?_ (c1 ?_ nil_to))))))))))))
    · rw [add " " v6 l6 (by decide +kernel), endd " " "" (by simp) (by decide +kernel)]
    · show e2 oAdd (eC (D.str " ")) (eV 6) σ = R.ok (D.str (ln ("" :: w0 :: (mid ++ [la])))) σ
      rw [ln_cons (by simp)]
      have es : (" " : Str).length = 1 := by decide +kernel
      refine e2_to (x := .str " ") (y := .str (ln (w0 :: (mid ++ [la])))) rfl v6 ((add_str (by omega)).trans ?_)
      rw [show ("" : Str) ++ (" " ++ ln (w0 :: (mid ++ [la]))) = " " ++ ln (w0 :: (mid ++ [la])) from ext_tl (by rw [tl_append]; rfl)]
    · show R.ok (D.str "") σ = R.ok (D.str (ln [""])) σ
      rw [ln_one]
    · rw [add " 0" v6 l6 (by decide +kernel), endd " 0" "0" (by simp) (by decide +kernel)]
    · show (eV 6 σ).bind _ = _
      rw [v6]
      show R.opt (if (ln (w0 :: (mid ++ [la]))).length ≤ 16777216 then some (D.str (L2.cutS (ln (w0 :: (mid ++ [la]))) (some 1) none)) else none) σ = _
      rw [if_pos (by omega), cut_ln h0]
      rfl
    · show (eV 6 σ).bind _ = _
      rw [v6]
      show R.opt (if (ln (w0 :: (mid ++ [la]))).length ≤ 5592405 then some (D.str (PySem.Txt.upper (ln (w0 :: (mid ++ [la]))))) else none) σ = _
      rw [if_pos (by omega), upper_ln hc]
      rfl
    · rw [add " " v7 l7 (by decide +kernel), endd " " "" (by simp) (by decide +kernel)]
    · rw [add " 00" v7 l7 (by decide +kernel), endd " 00" "00" (by simp) (by decide +kernel)]
    · rw [add " 61" v7 l7 (by decide +kernel), endd " 61" "61" (by simp) (by decide +kernel)]
    · rw [add " -1" v7 l7 (by decide +kernel), endd " -1" "-1" (by simp) (by decide +kernel)]
    · rw [add " x" v7 l7 (by decide +kernel), endd " x" "x" (by simp) (by decide +kernel)]
    · rw [add "?" v6 l6 (by decide +kernel), ln_q]
  show (lCons _ _ σ).bind _ = _
  rw [key]
  rfl
def WdOk (w : Str) : Prop := Wd w ∧ w.length ≤ 20
theorem lit_ok (w : Str) (h : (decide (10 ∉ tl w) && decide (32 ∉ tl w) && decide (w.length ≤ 20)) = true) : WdOk w := by
  simp only [Bool.and_eq_true, decide_eq_true_eq] at h
  exact ⟨h.1, h.2⟩
theorem q_ok {x : Nat} (h : x < 100) : WdOk (nm x ++ "?") := by
  have e : tl ("?" : Str) = [63] := by decide +kernel
  refine ⟨⟨?_, ?_⟩, ?_⟩
  · rw [tl_append, e]
    exact fun z => (List.mem_append.mp z).elim (nm_wd x).1 fun z => absurd (List.mem_singleton.mp z) (by decide)
  · rw [tl_append, e]
    exact fun z => (List.mem_append.mp z).elim (nm_wd x).2 fun z => absurd (List.mem_singleton.mp z) (by decide)
  · have := nm_len h
    rw [len_tl, tl_append, e, List.length_append, ← len_tl, List.length_singleton]
    omega
theorem lnOk_of {v : List Str} (h1 : v ≠ []) (h2 : v.length ≤ 70) (h : ∀ w ∈ v, WdOk w) : LnOk v := ⟨h1, h2, h⟩
theorem lnOk_app {v : List Str} {w : Str} (h : LnOk v) (h2 : v.length ≤ 69) (hw : WdOk w) : LnOk (v ++ [w]) := ⟨by simp, by rw [List.length_append, List.length_singleton]; omega, fun z hz => by
  rcases List.mem_append.mp hz with hz | hz
  · exact h.2.2 z hz
  · rw [List.mem_singleton.mp hz]; exact hw⟩
theorem upc_wd {c : Nat} (h : c ≠ 10 ∧ c ≠ 32) (hc : okc c) : upc c ≠ 10 ∧ upc c ≠ 32 := by
  unfold upc
  rcases hc with h1 | h1 | h1
  · exact absurd h1 h.2
  · rw [if_neg (by omega)]; exact h
  · rw [if_pos (by omega)]; omega
theorem up_ok {w : Str} (h : WdOk w) (hc : ∀ c ∈ tl w, okc c) : WdOk (up w) := by
  have e : tl (up w) = (tl w).map upc := rfl
  refine ⟨⟨?_, ?_⟩, ?_⟩
  · rw [e]
    intro z
    obtain ⟨c, h1, h2⟩ := List.mem_map.mp z
    exact (upc_wd ⟨fun q => h.1.1 (by rw [← q]; exact h1), fun q => h.1.2 (by rw [← q]; exact h1)⟩ (hc c h1)).1 h2
  · rw [e]
    intro z
    obtain ⟨c, h1, h2⟩ := List.mem_map.mp z
    exact (upc_wd ⟨fun q => h.1.1 (by rw [← q]; exact h1), fun q => h.1.2 (by rw [← q]; exact h1)⟩ (hc c h1)).2 h2
  · rw [len_tl, e, List.length_map, ← len_tl]; exact h.2
theorem tail_ok {w : Str} (h : WdOk w) : WdOk (tail1 w) := by
  have e : tl (tail1 w) = (tl w).drop 1 := rfl
  refine ⟨⟨?_, ?_⟩, ?_⟩
  · rw [e]; exact fun z => h.1.1 (List.mem_of_mem_drop z)
  · rw [e]; exact fun z => h.1.2 (List.mem_of_mem_drop z)
  · rw [len_tl, e, List.length_drop, ← len_tl]
    have := h.2
    omega
/-- every bent line may stand in a text -/
theorem bents_ok {w0 : Str} {mid : List Str} {x : Nat} (hx : x < 100) (hl : LnOk (w0 :: (mid ++ [nm x]))) (hlen : mid.length ≤ 65) (hc : ∀ w ∈ w0 :: (mid ++ [nm x]), ∀ c ∈ tl w, okc c) : ∀ v ∈ bents w0 mid (nm x), LnOk v := by
  have h0 : WdOk w0 := hl.2.2 w0 List.mem_cons_self
  have hm : LnOk (w0 :: mid) := ⟨by simp, by rw [List.length_cons]; omega, fun w hw => hl.2.2 w (by
    rcases List.mem_cons.mp hw with e | hw
    · rw [e]; exact List.mem_cons_self
    · exact List.mem_cons_of_mem _ (List.mem_append_left _ hw))⟩
  have hml : (w0 :: mid).length ≤ 69 := by rw [List.length_cons]; omega
  have hll : (w0 :: (mid ++ [nm x])).length ≤ 69 := by rw [List.length_cons, List.length_append, List.length_singleton]; omega
  have e0 : WdOk "" := lit_ok _ (by decide +kernel)
  intro v hv
  unfold bents at hv
  simp only [List.mem_cons, List.not_mem_nil, or_false] at hv
  rcases hv with e | e | e | e | e | e | e | e | e | e | e | e | e
  · rw [e]; exact lnOk_app hl hll e0
  · rw [e]; exact ⟨by simp, by rw [List.length_cons]; omega, fun w hw => (List.mem_cons.mp hw).elim (fun q => by rw [q]; exact e0) (hl.2.2 w)⟩
  · rw [e]; exact ⟨by simp, by simp, fun w hw => by rw [List.mem_singleton.mp hw]; exact e0⟩
  · rw [e]; exact lnOk_app hl hll (lit_ok _ (by decide +kernel))
  · rw [e]; exact ⟨by simp, by rw [List.length_cons] at hll ⊢; omega, fun w hw => (List.mem_cons.mp hw).elim (fun q => by rw [q]; exact tail_ok h0) fun q => hl.2.2 w (List.mem_cons_of_mem _ q)⟩
  · rw [e]
    refine ⟨by simp, by rw [List.length_map]; omega, fun w hw => ?_⟩
    obtain ⟨z, hz, rfl⟩ := List.mem_map.mp hw
    exact up_ok (hl.2.2 z hz) (hc z hz)
  · rw [e]; exact hm
  · rw [e]; exact lnOk_app hm hml e0
  · rw [e]; exact lnOk_app hm hml (lit_ok _ (by decide +kernel))
  · rw [e]; exact lnOk_app hm hml (lit_ok _ (by decide +kernel))
  · rw [e]; exact lnOk_app hm hml (lit_ok _ (by decide +kernel))
  · rw [e]; exact lnOk_app hm hml (lit_ok _ (by decide +kernel))
  · rw [e]; exact lnOk_app hm hml (q_ok hx)
theorem ne_of_tl {a b : Str} (h : tl a ≠ tl b) : a ≠ b := fun e => h (by rw [e])
/-- a bent first line -/
theorem hdr_bad {n : Nat} (n2 : n ≤ 60) : ∀ v ∈ bents "states" [] (nm n), v.length ≠ 2 ∨ ∃ w0 w1, v = [w0, w1] ∧ (w0 ≠ ("states" : Str) ∨ f_read_count [.fr (.str w1), .fr (nD 61)] = .ok .non [.un, .un]) := by
  intro v hv
  unfold bents at hv
  simp only [List.mem_cons, List.not_mem_nil, or_false, List.nil_append] at hv
  rcases hv with e | e | e | e | e | e | e | e | e | e | e | e | e
  · exact .inl (by rw [e]; simp)
  · exact .inl (by rw [e]; simp)
  · exact .inl (by rw [e]; simp)
  · exact .inl (by rw [e]; simp)
  · exact .inr ⟨_, _, e, .inl (by decide +kernel)⟩
  · exact .inr ⟨_, _, e, .inl (by decide +kernel)⟩
  · exact .inl (by rw [e]; simp)
  · exact .inr ⟨_, _, e, .inr (no_empty 61)⟩
  · exact .inr ⟨_, _, e, .inr (rc_00 61)⟩
  · exact .inr ⟨_, _, e, .inr (no_61 (by omega))⟩
  · exact .inr ⟨_, _, e, .inr (no_neg 61)⟩
  · exact .inr ⟨_, _, e, .inr (no_x 61)⟩
  · exact .inr ⟨_, _, e, .inr (no_q n 61 (by omega))⟩
/-- a bent row -/
theorem row_bad {n i x : Nat} {mid : List Str} (n2 : n ≤ 60) (hx : x < 100) (hl : mid.length + 1 = n) : ∀ v ∈ bents (sig i) mid (nm x), ∃ w0 ws, v = w0 :: ws ∧ BadRow i n w0 ws (fD n) := by
  intro v hv
  unfold bents at hv
  simp only [List.mem_cons, List.not_mem_nil, or_false] at hv
  have num : ∀ w : Str, f_read_count [.fr (.str w), .fr (nD n)] = .ok .non [.un, .un] → ∃ w0 ws, (sig i :: mid ++ [w]) = w0 :: ws ∧ BadRow i n w0 ws (fD n) := fun w h => ⟨_, _, rfl, .num ⟨w, List.mem_append_right _ List.mem_cons_self, fD_of h⟩⟩
  have es : tl (sig i) = [97 + i] := rfl
  rcases hv with e | e | e | e | e | e | e | e | e | e | e | e | e
  · exact ⟨sig i, mid ++ [nm x] ++ ([""] : List Str), e, .len (by simp only [List.length_append, List.length_cons, List.length_nil]; omega)⟩
  · exact ⟨_, _, e, .sign (ne_of_tl (by rw [es]; exact fun z => absurd (show ([] : List Nat) = _ from z) (by simp)))⟩
  · exact ⟨_, _, e, .sign (ne_of_tl (by rw [es]; exact fun z => absurd (show ([] : List Nat) = _ from z) (by simp)))⟩
  · exact ⟨sig i, mid ++ [nm x] ++ (["0"] : List Str), e, .len (by simp only [List.length_append, List.length_cons, List.length_nil]; omega)⟩
  · exact ⟨_, _, e, .sign (ne_of_tl (by rw [es]; show (tl (sig i)).drop 1 ≠ _; rw [es]; simp))⟩
  · refine ⟨_, _, e, .sign (ne_of_tl ?_)⟩
    show (tl (sig i)).map upc ≠ tl (sig i)
    rw [es]
    intro z
    have z' : upc (97 + i) = 97 + i := List.head_eq_of_cons_eq z
    unfold upc at z'
    rw [if_pos (by omega)] at z'
    omega
  · exact ⟨sig i, mid, e, .len (by omega)⟩
  · rw [e]; exact num _ (no_empty n)
  · rw [e]; exact num _ (rc_00 n)
  · rw [e]; exact num _ (no_61 (by omega))
  · rw [e]; exact num _ (no_neg n)
  · rw [e]; exact num _ (no_x n)
  · rw [e]; exact num _ (no_q x n hx)
end K04
end
section
set_option linter.all false
set_option maxRecDepth 100000
set_option maxHeartbeats 4000000
namespace K04
open VM
open PySem (Str Txt.join Txt.split)
open TL
theorem trows_take (tabs : List (List Nat)) (i : Nat) : (trows tabs).take i = trows (tabs.take i) := by
  unfold trows
  apply List.ext_getElem?
  intro j
  rw [List.getElem?_take, List.getElem?_mapIdx, List.getElem?_mapIdx, List.getElem?_take]
  by_cases h : j < i
  · rw [if_pos h, if_pos h]
  · rw [if_neg h, if_neg h]; rfl
theorem okc_nm (x : Nat) : ∀ c ∈ tl (nm x), okc c := fun c hc => by
  rw [tl_nm] at hc
  exact .inr (.inl (numL_digits x c hc))
theorem okc_sig {i : Nat} (h : i < 5) : ∀ c ∈ tl (sig i), okc c := fun c hc => by
  have e : c = 97 + i := List.mem_singleton.mp hc
  exact .inr (.inr ⟨by omega, by omega⟩)
theorem rows_len (n : Nat) (tabs : List (List Nat)) : (rowsOf n tabs).length = tabs.length + 1 := by
  unfold rowsOf
  rw [List.length_cons, trows_len]
/-- what a bent text is read as -/
theorem bent_reads {n : Nat} {tabs : List (List Nat)} (h : Good n tabs) {k : Nat} (hk : k < (rowsOf n tabs).length) : ∃ w0 mid x, (rowsOf n tabs)[k]? = some (w0 :: (mid ++ [nm x])) ∧ tl w0 ≠ [] ∧ LnOk (w0 :: (mid ++ [nm x])) ∧ LnOk (w0 :: mid) ∧ (∀ w ∈ w0 :: (mid ++ [nm x]), ∀ c ∈ tl w, okc c) ∧
    ∀ v ∈ bents w0 mid (nm x), LnOk v ∧ f__law_reads [.fr (.str (tx ((rowsOf n tabs).take k ++ [v] ++ (rowsOf n tabs).drop (k + 1))))] = .ok (.int ((k + 1 : Nat) : Int)) [.un] := by
  have n1 := h.n1
  have n2 := h.n2
  have k2 := h.k2
  rw [rows_len] at hk
  match k, hk with
  | 0, hk =>
    have hc : ∀ w ∈ ("states" : Str) :: (([] : List Str) ++ [nm n]), ∀ c ∈ tl w, okc c := fun w hw => by
      rcases List.mem_cons.mp hw with e | hw
      · rw [e]; unfold okc; decide +kernel
      · rw [List.mem_singleton.mp hw]; exact okc_nm n
    have hl : LnOk (("states" : Str) :: (([] : List Str) ++ [nm n])) := hdr_lnOk n2
    refine ⟨"states", [], n, rfl, by decide +kernel, hl, ⟨by simp, by simp, fun w hw => by rw [List.mem_singleton.mp hw]; exact hdr_ok n2 _ List.mem_cons_self⟩, hc, fun v hv => ?_⟩
    have ok := bents_ok (x := n) (by omega) hl (by simp) hc v hv
    refine ⟨ok, ?_⟩
    show f__law_reads [.fr (.str (tx (v :: trows tabs)))] = _
    refine rds_exc (rd_h (cl_of (by simp) (by rw [List.length_cons, trows_len]; omega) fun r hr => ?_) (hdr_bad n2 v hv))
    rcases List.mem_cons.mp hr with e | hr
    · rw [e]; exact ok
    · exact trows_lnOk n2 h.t r hr
  | i + 1, hk =>
    have hi : i < tabs.length := by omega
    have gt := h.t tabs[i] (List.getElem_mem hi)
    have hge : tabs[i]? = some tabs[i] := List.getElem?_eq_getElem hi
    generalize tabs[i] = t at gt hge
    have hne : t ≠ [] := fun z => by
      have := gt.1
      rw [z] at this
      simp at this
      omega
    obtain ⟨ini, x, et⟩ : ∃ ini x, t = ini ++ [x] := ⟨t.dropLast, t.getLast hne, (List.dropLast_concat_getLast hne).symm⟩
    have hx : x < n := gt.2 x (by rw [et]; exact List.mem_append_right _ List.mem_cons_self)
    have hlen : (ini.map nm).length + 1 = n := by
      have := gt.1
      rw [et, List.length_append, List.length_singleton] at this
      rw [List.length_map]
      omega
    have erow : trow i t = sig i :: (ini.map nm ++ [nm x]) := by
      unfold trow
      rw [et, List.map_append]
      rfl
    have hl : LnOk (sig i :: (ini.map nm ++ [nm x])) := by rw [← erow]; exact trow_lnOk n2 gt
    have hc : ∀ w ∈ sig i :: (ini.map nm ++ [nm x]), ∀ c ∈ tl w, okc c := fun w hw => by
      rcases List.mem_cons.mp hw with e | hw
      · rw [e]; exact okc_sig (by omega)
      · rcases List.mem_append.mp hw with hw | hw
        · obtain ⟨y, _, rfl⟩ := List.mem_map.mp hw
          exact okc_nm y
        · rw [List.mem_singleton.mp hw]; exact okc_nm x
    have eget : (rowsOf n tabs)[i + 1]? = some (sig i :: (ini.map nm ++ [nm x])) := by
      show (trows tabs)[i]? = _
      unfold trows
      rw [List.getElem?_mapIdx, hge, ← erow]
      rfl
    refine ⟨sig i, ini.map nm, x, eget, by show [97 + i] ≠ []; simp, hl, ⟨by simp, by rw [List.length_cons]; omega, fun w hw => hl.2.2 w (by
      rcases List.mem_cons.mp hw with e | hw
      · rw [e]; exact List.mem_cons_self
      · exact List.mem_cons_of_mem _ (List.mem_append_left _ hw))⟩, hc, fun v hv => ?_⟩
    have ok := bents_ok (x := x) (by omega) hl (by omega) hc v hv
    refine ⟨ok, ?_⟩
    obtain ⟨w0, ws, ev, hb⟩ := row_bad (i := i) (x := x) n2 (by omega) hlen v hv
    have ti : (tabs.take i).length = i := by rw [List.length_take]; omega
    have erows : (rowsOf n tabs).take (i + 1) ++ [v] ++ (rowsOf n tabs).drop (i + 1 + 1) = hdr n :: (trows (tabs.take i) ++ (w0 :: ws) :: (trows tabs).drop (i + 1)) := by
      unfold rowsOf
      rw [List.take_succ_cons, trows_take, List.drop_succ_cons, ← ev]
      simp
    rw [erows]
    have hb' : BadRow (tabs.take i).length n w0 ws (fD n) := by rw [ti]; exact hb
    have hall : ∀ r ∈ hdr n :: (trows (tabs.take i) ++ (w0 :: ws) :: (trows tabs).drop (i + 1)), LnOk r := fun r hr => by
      rcases List.mem_cons.mp hr with e | hr
      · rw [e]; exact hdr_lnOk n2
      · rcases List.mem_append.mp hr with hr | hr
        · rw [← trows_take] at hr
          exact trows_lnOk n2 h.t r (List.mem_of_mem_take hr)
        · rcases List.mem_cons.mp hr with e | hr
          · rw [e, ← ev]; exact ok
          · exact trows_lnOk n2 h.t r (List.mem_of_mem_drop hr)
    have g := rd_bad n1 n2 (tabs := tabs.take i) (w0 := w0) (ws := ws) (rest := (trows tabs).drop (i + 1)) (fD n) (by rw [ti]; omega) (fun t ht => h.t t (List.mem_of_mem_take ht)) (cl_of (by simp) (by
        rw [List.length_cons, List.length_append, trows_len, ti, List.length_cons, List.length_drop, trows_len]
        omega) hall) (fun w hw => fD_ok (by
          have := (ok.2.2 w (by rw [ev]; exact List.mem_cons_of_mem _ hw)).2
          omega) n) hb'
    rw [ti] at g
    exact rds_exc g
/-- a line twice -/
theorem twice_reads {n : Nat} {tabs : List (List Nat)} (h : Good n tabs) {k : Nat} (hk : k < (rowsOf n tabs).length) : f__law_reads [.fr (.str (tx ((rowsOf n tabs).take (k + 1) ++ (rowsOf n tabs).drop k)))] = .ok (.int ((k + 2 : Nat) : Int)) [.un] := by
  have n1 := h.n1
  have n2 := h.n2
  have k2 := h.k2
  rw [rows_len] at hk
  have hall := rows_lnOk h
  match k, hk with
  | 0, hk =>
    have e : (rowsOf n tabs).take (0 + 1) ++ (rowsOf n tabs).drop 0 = hdr n :: (trows [] ++ (("states" : Str) :: [nm n]) :: trows tabs) := rfl
    rw [e]
    exact rds_exc (rd_bad n1 n2 (tabs := []) (fD n) (by simp) (fun t ht => by cases ht) (cl_of (by simp) (by
        rw [List.length_cons, List.length_append, trows_len, List.length_cons, trows_len]
        simp
        omega) fun r hr => by
          rw [← e] at hr
          rcases List.mem_append.mp hr with hr | hr
          · exact hall r (List.mem_of_mem_take hr)
          · exact hall r (List.mem_of_mem_drop hr)) (fun w hw => fD_ok (by
          rw [List.mem_singleton.mp hw]
          have := nm_len (n := n) (by omega)
          omega) n) (.sign (ne_of_tl (by decide +kernel))))
  | i + 1, hk =>
    have hi : i < tabs.length := by omega
    have ti : (tabs.take (i + 1)).length = i + 1 := by rw [List.length_take]; omega
    have gt := h.t tabs[i] (List.getElem_mem hi)
    have hge : tabs[i]? = some tabs[i] := List.getElem?_eq_getElem hi
    have ed : (trows tabs).drop i = (sig i :: tabs[i].map nm) :: (trows tabs).drop (i + 1) := by
      have hl : i < (trows tabs).length := by rw [trows_len]; exact hi
      rw [List.drop_eq_getElem_cons hl]
      have q : (trows tabs)[i]? = some (trow i tabs[i]) := by unfold trows; rw [List.getElem?_mapIdx, hge]; rfl
      rw [(List.getElem?_eq_some_iff.mp q).2]
      rfl
    have e : (rowsOf n tabs).take (i + 1 + 1) ++ (rowsOf n tabs).drop (i + 1) = hdr n :: (trows (tabs.take (i + 1)) ++ (sig i :: tabs[i].map nm) :: (trows tabs).drop (i + 1)) := by
      unfold rowsOf
      rw [List.take_succ_cons, trows_take, List.drop_succ_cons, ed]
      rfl
    rw [e]
    have g := rd_bad n1 n2 (tabs := tabs.take (i + 1)) (w0 := sig i) (ws := tabs[i].map nm) (rest := (trows tabs).drop (i + 1)) (fD n) (by rw [ti]; omega) (fun t ht => h.t t (List.mem_of_mem_take ht)) (cl_of (by simp) (by
        rw [List.length_cons, List.length_append, trows_len, ti, List.length_cons, List.length_drop, trows_len]
        omega) fun r hr => by
          rw [← e] at hr
          rcases List.mem_append.mp hr with hr | hr
          · exact hall r (List.mem_of_mem_take hr)
          · exact hall r (List.mem_of_mem_drop hr)) (fun w hw => fD_ok (by
          obtain ⟨y, hy, rfl⟩ := List.mem_map.mp hw
          have := gt.2 y hy
          have := nm_len (n := y) (by omega)
          omega) n) (.sign (ne_of_tl (by
            rw [ti]
            show [97 + i] ≠ [97 + (i + 1)]
            simp)))
    rw [ti] at g
    exact rds_exc g
/-- one line too many -/
theorem more_reads {n : Nat} {tabs : List (List Nat)} (h : Good n tabs) : f__law_reads [.fr (.str (tx (rowsOf n tabs) ++ "\n"))] = .ok (.int ((tabs.length + 2 : Nat) : Int)) [.un] := by
  have k2 := h.k2
  have n2 := h.n2
  have e1 : ("\n" : Str) = "\n" ++ ln [""] := by rw [ln_one]; decide +kernel
  have e : tx (rowsOf n tabs) ++ "\n" = tx (hdr n :: (trows tabs ++ (("" : Str) :: []) :: [])) := by
    rw [e1, tx_app (by simp [rowsOf])]
    rfl
  rw [e]
  exact rds_exc (rd_bad h.n1 n2 (fD n) k2 h.t (cl_of (by simp) (by
      rw [List.length_cons, List.length_append, trows_len, List.length_singleton]
      omega) fun r hr => by
        rcases List.mem_cons.mp hr with e | hr
        · rw [e]; exact hdr_lnOk n2
        · rcases List.mem_append.mp hr with hr | hr
          · exact trows_lnOk n2 h.t r hr
          · rw [List.mem_singleton.mp hr]
            exact ⟨by simp, by simp, fun w hw => by rw [List.mem_singleton.mp hw]; exact lit_ok _ (by decide +kernel)⟩) (fun w hw => by cases hw) (.sign (ne_of_tl (by
          show tl "" ≠ [97 + tabs.length]
          exact fun z => absurd (show ([] : List Nat) = _ from z) (by simp)))))
theorem one_reads {n : Nat} {tabs : List (List Nat)} (h : Good n tabs) : f__law_reads [.fr (.str (ln (hdr n)))] = .ok (.int 2) [.un] := by
  have e : ln (hdr n) = tx [hdr n] := by
    apply ext_tl
    unfold tx
    rw [join_eq, tl_join]
    rfl
  rw [e]
  exact rds_exc (k := 2) (rd_one h.n1 h.n2 (cl_of (by simp) (by simp) fun r hr => by rw [List.mem_singleton.mp hr]; exact hdr_lnOk h.n2))
theorem right_reads {n : Nat} {tabs : List (List Nat)} (h : Good n tabs) : f__law_reads [.fr (.str (tx (rowsOf n tabs)))] = .ok (devD n tabs) [.un] :=
  rds_ok (rd_good h (cl_of (by simp) (by have := rows_len n tabs; have := h.k2; unfold rowsOf at *; omega) (rows_lnOk h)))
end K04
end
section
set_option linter.all false
set_option maxRecDepth 100000
set_option maxHeartbeats 4000000
namespace K04
open VM
open PySem (Str Txt.join Txt.split)
open TL
/-! ### one case -/
theorem r_0 : f__law_reads [.fr (.int 0)] = .ok (.int 0) [.un] := by kernel_rfl
theorem r_n : f__law_reads [.fr .non] = .ok (.int 0) [.un] := by kernel_rfl
theorem r_l : f__law_reads [.fr (.lst [.str "states 1"])] = .ok (.int 0) [.un] := by kernel_rfl
theorem r_e : f__law_reads [.fr (.str "")] = .ok (.int 1) [.un] := by kernel_rfl
theorem r_1 : f__law_reads [.fr (.str "states 0\na")] = .ok (.int 1) [.un] := by kernel_rfl
theorem r_2 : f__law_reads [.fr (.str "states 61\na")] = .ok (.int 1) [.un] := by kernel_rfl
theorem r_3 : f__law_reads [.fr (.str "states 01\na 0")] = .ok (.int 1) [.un] := by kernel_rfl
theorem r_4 : f__law_reads [.fr (.str "state 1\na 0")] = .ok (.int 1) [.un] := by kernel_rfl
theorem r_5 : f__law_reads [.fr (.str "states 1 \na 0")] = .ok (.int 1) [.un] := by kernel_rfl
theorem r_6 : f__law_reads [.fr (.str "states -1\na 0")] = .ok (.int 1) [.un] := by kernel_rfl
theorem r_7 : f__law_reads [.fr (.str "states 1\nb 0")] = .ok (.int 2) [.un] := by kernel_rfl
theorem r_8 : f__law_reads [.fr (.str "states 1\na 0\nc 0")] = .ok (.int 3) [.un] := by kernel_rfl
theorem r_9 : f__law_reads [.fr (.str "states 1\na 1")] = .ok (.int 2) [.un] := by kernel_rfl
theorem r_10 : f__law_reads [.fr (.str "states 1\na 0\nb 0\nc 0\nd 0\ne 0\nf 0")] = .ok (.int 7) [.un] := by kernel_rfl
theorem ne_str (x y : Str) : (orO (orO neS neD) (neI 3 f_Device___eq)) (.str x) (.str y) = some (.bl (!decide (x = y))) := rfl
theorem ne_int (i j : Int) : (orO (orO neS neD) (neI 3 f_Device___eq)) (.int i) (.int j) = some (.bl (!decide (i = j))) := rfl
theorem ne_dev (n : Nat) (tabs : List (List Nat)) : (orO (orO neS neD) (neI 3 f_Device___eq)) (devD n tabs) (devD n tabs) = some (.bl false) := by
  have e : eqI 3 f_Device___eq (devD n tabs) (devD n tabs) = some (.bl true) := by
    show (if 3 = 3 ∧ 3 = 3 then match f_Device___eq [.fr (devD n tabs), .fr (devD n tabs)] with
      | .ok (.bl r) _ => some (D.bl r)
      | _ => none
    else none) = _
    rw [if_pos ⟨rfl, rfl⟩, q_eq]
  have e2 : neD (devD n tabs) (devD n tabs) = none := rfl
  have e1 : neS (devD n tabs) (devD n tabs) = none := rfl
  show (match (match neS (devD n tabs) (devD n tabs) with
    | some z => some z
    | none => neD (devD n tabs) (devD n tabs)) with
    | some z => some z
    | none => notB (eqI 3 f_Device___eq (devD n tabs) (devD n tabs))) = _
  rw [e1, e2, e]
  rfl
theorem eq_dev (n : Nat) (tabs : List (List Nat)) : (orO (orO eqS eqD) (eqI 3 f_Device___eq)) (devD n tabs) (devD n tabs) = some (.bl true) := by
  have e : eqI 3 f_Device___eq (devD n tabs) (devD n tabs) = some (.bl true) := by
    show (if 3 = 3 ∧ 3 = 3 then match f_Device___eq [.fr (devD n tabs), .fr (devD n tabs)] with
      | .ok (.bl r) _ => some (D.bl r)
      | _ => none
    else none) = _
    rw [if_pos ⟨rfl, rfl⟩, q_eq]
  have e2 : eqD (devD n tabs) (devD n tabs) = none := rfl
  have e1 : eqS (devD n tabs) (devD n tabs) = none := rfl
  show (match (match eqS (devD n tabs) (devD n tabs) with
    | some z => some z
    | none => eqD (devD n tabs) (devD n tabs)) with
    | some z => some z
    | none => eqI 3 f_Device___eq (devD n tabs) (devD n tabs)) = _
  rw [e1, e2, e]
/-- reads(x) != k is false where it is k -/
theorem t_rd {σ σ1 σ2 : Ev} {e e' : EM} {x : D} {k k' : Int} (he : e σ = .ok x σ1) (hr : f__law_reads [.fr x] = .ok (.int k) [.un]) (he' : e' σ1 = .ok (.int k') σ2) (h : k = k') : tE (e2 (orO (orO neS neD) (neI 3 f_Device___eq)) (eCall f__law_reads (aD e aNil)) e') σ = .ok false σ2 :=
  tE_to (e2_to (x := .int k) (y := .int k') (call_ok (l := [.dv x]) (outs := [.un]) (aD_to he aN_to) rfl hr) he' (by rw [ne_int, decide_eq_true h]; rfl))
theorem e_rd {σ σ1 σ2 : Ev} {e e' : EM} {x : D} {k k' : Int} (he : e σ = .ok x σ1) (hr : f__law_reads [.fr x] = .ok (.int k) [.un]) (he' : e' σ1 = .ok (.int k') σ2) (h : k = k') : e2 (orO (orO eqS eqD) (eqI 3 f_Device___eq)) (eCall f__law_reads (aD e aNil)) e' σ = .ok (.bl true) σ2 :=
  e2_to (x := .int k) (y := .int k') (call_ok (l := [.dv x]) (outs := [.un]) (aD_to he aN_to) rfl hr) he' (by rw [eq_int, decide_eq_true h])
theorem cut_take (ds : List D) (k : Nat) : oSl (.lst ds) none (some (k : Int)) = some (.lst (ds.take k)) := by
  show some (D.lst (cutG ds none (some (k : Int)))) = _
  rw [cutG_take]
theorem cut_drop (ds : List D) (k : Nat) : oSl (.lst ds) (some (k : Int)) none = some (.lst (ds.drop k)) := by
  show some (D.lst (cutG ds (some (k : Int)) none)) = _
  rw [cutG_drop]
theorem odds {σ : Ev} {s9 : Sl} {a0 a1 a2 a3 a4 a5 a6 a7 a8 a10 : Sl} : ∃ s9', sFor (lIt (eTup (lCons (eC (.str "states 0\na")) (lCons (eC (.str "states 61\na")) (lCons (eC (.str "states 01\na 0")) (lCons (eC (.str "state 1\na 0")) (lCons (eC (.str "states 1 \na 0")) (lCons (eC (.str "states -1\na 0")) lNil)))))))) (gN 9) (sSeq (sIf (tE (e2 (orO (orO neS neD) (neI 3 f_Device___eq)) (eCall f__law_reads (aD (eV 9) aNil)) (eC (.int 1)))) (sSeq (sRet (eC (.bl false))) sNext) sNext) sNext) [a0, a1, a2, a3, a4, a5, a6, a7, a8, s9, a10] = .nx [a0, a1, a2, a3, a4, a5, a6, a7, a8, s9', a10] := by
  have body : ∀ x : Str, f__law_reads [.fr (.str x)] = .ok (.int 1) [.un] → (sSeq (sIf (tE (e2 (orO (orO neS neD) (neI 3 f_Device___eq)) (eCall f__law_reads (aD (eV 9) aNil)) (eC (.int 1)))) (sSeq (sRet (eC (.bl false))) sNext) sNext) sNext) [a0, a1, a2, a3, a4, a5, a6, a7, a8, .fr (.str x), a10] = .nx [a0, a1, a2, a3, a4, a5, a6, a7, a8, .fr (.str x), a10] := fun x hx => seq_to (if_f (t_rd (x := .str x) rfl hx rfl rfl) rfl) rfl
  obtain ⟨σ', g, s9', e⟩ := for_nx (it := lIt (eTup (lCons (eC (.str "states 0\na")) (lCons (eC (.str "states 61\na")) (lCons (eC (.str "states 01\na 0")) (lCons (eC (.str "state 1\na 0")) (lCons (eC (.str "states 1 \na 0")) (lCons (eC (.str "states -1\na 0")) lNil)))))))) (tg := gN 9) (body := (sSeq (sIf (tE (e2 (orO (orO neS neD) (neI 3 f_Device___eq)) (eCall f__law_reads (aD (eV 9) aNil)) (eC (.int 1)))) (sSeq (sRet (eC (.bl false))) sNext) sNext) sNext))
    (σ := [a0, a1, a2, a3, a4, a5, a6, a7, a8, s9, a10]) (xs := [.str "states 0\na", .str "states 61\na", .str "states 01\na 0", .str "state 1\na 0", .str "states 1 \na 0", .str "states -1\na 0"]) (σ1 := [a0, a1, a2, a3, a4, a5, a6, a7, a8, s9, a10]) rfl
    (fun i σ => ∃ s9', σ = [a0, a1, a2, a3, a4, a5, a6, a7, a8, s9', a10]) ⟨_, rfl⟩ fun i x σ hi ⟨s9, e⟩ => by
      subst e
      have hx : x ∈ [D.str "states 0\na", .str "states 61\na", .str "states 01\na 0", .str "state 1\na 0", .str "states 1 \na 0", .str "states -1\na 0"] := List.mem_of_getElem? hi
      simp only [List.mem_cons, List.not_mem_nil, or_false] at hx
      rcases hx with e | e | e | e | e | e
      · exact ⟨_, _, rfl, .inl (by rw [e]; exact body _ r_1), _, rfl⟩
      · exact ⟨_, _, rfl, .inl (by rw [e]; exact body _ r_2), _, rfl⟩
      · exact ⟨_, _, rfl, .inl (by rw [e]; exact body _ r_3), _, rfl⟩
      · exact ⟨_, _, rfl, .inl (by rw [e]; exact body _ r_4), _, rfl⟩
      · exact ⟨_, _, rfl, .inl (by rw [e]; exact body _ r_5), _, rfl⟩
      · exact ⟨_, _, rfl, .inl (by rw [e]; exact body _ r_6), _, rfl⟩
  subst e
  exact ⟨s9', g⟩
theorem q_case {d : D} (hd : IsBx d) : ∃ d', IsBx d' ∧ f__law_case_right [.ow d] = .ok (.bl true) [.ow d'] := by
  obtain ⟨a, b, c, rfl⟩ := hd
  obtain ⟨r, d1, hr, hd1, g1⟩ := q_take a b c (m := 5) (by omega) (by omega)
  obtain ⟨n, tabs, d2, n1, n2, kt, gt, hd2, g2⟩ := q_tables hd1 (most := 12) (k := r + 1) (by omega) (by omega) (by omega)
  have G : Good n tabs := ⟨n1, by omega, by omega, by omega, gt⟩
  have k2 := G.k2
  have rl := rows_len n tabs
  have hall := rows_lnOk G
  let T : D := .lst (tabs.map tL)
  let V : D := devD n tabs
  let R := rowsOf n tabs
  let C (d : D) (s3 s4 s5 s6 s7 s8 s9 : Sl) : Ev := [.ow d, .fr T, .fr V, s3, s4, s5, s6, s7, s8, s9, .un]
  -- the tables
  have s1 : sSet 1 (eCall f__law_tables (aO 0 (aD (eC (.int 12)) (aD (e2 oAdd (eC (.int 1)) (eCall f__law_take (aO 0 (aD (eC (.int 5)) aNil)))) aNil)))) [.ow (bx a b c), .un, .un, .un, .un, .un, .un, .un, .un, .un, .un] = .nx [.ow d2, .fr T, .un, .un, .un, .un, .un, .un, .un, .un, .un] := by
    refine set_to (call_ok (l := [.ox 0, .dv (nD 12), .dv (nD (r + 1))]) (outs := [.ow d2, .un, .un]) (σ1 := [.ow d1, .un, .un, .un, .un, .un, .un, .un, .un, .un, .un]) (aO_to rfl (aD_to rfl (aD_to (e2_to (x := .int 1) (y := nD r) rfl (call_ok (l := [.ox 0, .dv (nD 5)]) (outs := [.ow d1, .un]) (aO_to rfl (aD_to rfl aN_to)) rfl g1) ?_) aN_to))) rfl g2)
    show some (D.int (1 + (r : Int))) = some (D.int ((r + 1 : Nat) : Int))
    rw [show (1 : Int) + (r : Int) = ((r + 1 : Nat) : Int) by omega]
  -- the device
  have s2 : sSet 2 (eMake 3 f_Device___init (aD (eV 1) aNil)) [.ow d2, .fr T, .un, .un, .un, .un, .un, .un, .un, .un, .un] = .nx (C d2 .un .un .un .un .un .un .un) := set_to (make_ok (l := [.dv T]) (outs := [.un]) rfl rfl (q_init G))
  -- its lines
  have s3 : sOwn 3 (lD (lCons (e2 oAdd (eC (.str "states ")) (eL cStr (lCons (e1 (fldD [3] "states") (eV 2)) lNil))) lNil)) (C d2 .un .un .un .un .un .un .un) = .nx (C d2 (.ow (lnsD (rowsOf n (tabs.take 0)))) .un .un .un .un .un .un) :=
    own_to (ds := [.str (ln (hdr n))]) (lD1_to (e2_to (x := .str "states ") (y := .str (nm n)) rfl (eL_to (ds := [nD n]) rfl (cStr_nm (by omega))) (states_row G.n2)))
  obtain ⟨σ', s4, v4, e4⟩ := for_nx (it := lR1 (eL cLen (lCons (eV 1) lNil))) (tg := gN 4) (body := (sSeq (sApp 3 (eM1 mJoin (eC (.str " ")) (e2 oAdd (eNew (lD (lCons (e2 oIx (eC (.str "abcde")) (eV 4)) lNil))) (eNew (lLc (lIt (e2 oIx (eV 1) (eV 4))) (gN 10) tYes (eL cStr (lCons (eV 10) lNil)) [10]))))) sNext))
    (σ := C d2 (.ow (lnsD (rowsOf n (tabs.take 0)))) .un .un .un .un .un .un) (σ1 := C d2 (.ow (lnsD (rowsOf n (tabs.take 0)))) .un .un .un .un .un .un) (xs := rng 0 tabs.length) (lr1_to (n := tabs.length) (eL_to (ds := [T]) rfl (by show some (D.int ((tabs.map tL).length : Int)) = _; rw [List.length_map])) (by omega))
    (fun i σ => ∃ v4, σ = C d2 (.ow (lnsD (rowsOf n (tabs.take i)))) v4 .un .un .un .un .un) ⟨_, rfl⟩ fun i x σ hi ⟨v4, e⟩ => by
      subst e
      rw [rng_at] at hi
      have hil : i < tabs.length := by
        by_cases e : i < tabs.length
        · exact e
        · rw [if_neg e] at hi; cases hi
      rw [if_pos hil] at hi
      have hx : x = nD i := by
        unfold nD
        rw [← Option.some.inj hi, Int.zero_add]
      subst hx
      have hge : tabs[i]? = some tabs[i] := List.getElem?_eq_getElem hil
      have gti := G.t tabs[i] (List.getElem_mem hil)
      generalize tabs[i] = t at hge gti
      have ht : oIx T (nD i) = some (tL t) := by
        show oIx (.lst (tabs.map tL)) (.int (i : Int)) = _
        rw [oIx_nat, List.getElem?_map, hge]
        rfl
      have hrow := row_join (σ := C d2 (.ow (lnsD (rowsOf n (tabs.take i)))) (.fr (nD i)) .un .un .un .un .un) (e1 := e2 oIx (eC (.str "abcde")) (eV 4)) (i := i) G.n2 gti (e2_to (x := .str "abcde") (y := nD i) rfl rfl (sig_at (by omega))) (comp_str (i := 10) (it := lIt (e2 oIx (eV 1) (eV 4))) G.n2 gti (it_to (d := tL t) (e2_to (x := T) (y := nD i) rfl rfl ht) rfl) rfl)
      refine ⟨C d2 (.ow (lnsD (rowsOf n (tabs.take i)))) (.fr (nD i)) .un .un .un .un .un, C d2 (.ow (lnsD (rowsOf n (tabs.take (i + 1))))) (.fr (nD i)) .un .un .un .un .un, rfl, .inl (seq_to (app_to (ds := ((rowsOf n (tabs.take i)).map ln).map D.str) (d0 := .non) (σ1 := C d2 (.ow (lnsD (rowsOf n (tabs.take i)))) (.fr (nD i)) .un .un .un .un .un) rfl hrow rfl ?_) ?_), _, rfl⟩
      · rw [List.length_map, List.length_map, rows_len, List.length_take]
        omega
      · rw [lns_snoc hge]
        rfl
  subst e4
  rw [rng_len, List.take_length] at s4
  -- the text
  have s5 : sSet 5 (eM1 mJoin (eC (.str "\n")) (eFz 3)) (C d2 (.ow (lnsD R)) v4 .un .un .un .un .un) = .nx (C d2 (.fr (lnsD R)) v4 (.fr (.str (tx R))) .un .un .un .un) :=
    set_to (m1_to (x := "\n") (y := lnsD R) (σ := C d2 (.ow (lnsD R)) v4 .un .un .un .un .un) (σ1 := C d2 (.ow (lnsD R)) v4 .un .un .un .un .un) (σ2 := C d2 (.fr (lnsD R)) v4 .un .un .un .un .un) rfl rfl (lines_join (by rw [rl]; omega) hall))
  have s6 : (sIf (tOr (tE (e2 (orO (orO neS neD) (neI 3 f_Device___eq)) (eCall f_device_text (aD (eV 2) aNil)) (eV 5))) (tOr (tE (e2 (orO (orO neS neD) (neI 3 f_Device___eq)) (eCall f__law_reads (aD (eV 5) aNil)) (eV 2))) (tOr (tE (e2 (orO (orO neS neD) (neI 3 f_Device___eq)) (eCall f__law_reads (aD (eC (.int 0)) aNil)) (eC (.int 0)))) (tOr (tE (e2 (orO (orO neS neD) (neI 3 f_Device___eq)) (eCall f__law_reads (aD (eC .non) aNil)) (eC (.int 0)))) (tE (e2 (orO (orO neS neD) (neI 3 f_Device___eq)) (eCall f__law_reads (aD (eNew (lD (lCons (eC (.str "states 1")) lNil))) aNil)) (eC (.int 0)))))))) (sSeq (sRet (eC (.bl false))) sNext) sNext) (C d2 (.fr (lnsD R)) v4 (.fr (.str (tx R))) .un .un .un .un) = .nx (C d2 (.fr (lnsD R)) v4 (.fr (.str (tx R))) .un .un .un .un) :=
    if_f (or_f (tE_to (e2_to (x := .str (tx R)) (y := .str (tx R)) (call_ok (l := [.dv V]) (outs := [.un]) (σ1 := C d2 (.fr (lnsD R)) v4 (.fr (.str (tx R))) .un .un .un .un) rfl rfl (q_dtext G)) rfl (by rw [ne_str, decide_eq_true rfl]; rfl))) (or_f (tE_to (e2_to (x := V) (y := V) (call_ok (l := [.dv (.str (tx R))]) (outs := [.un]) (σ1 := C d2 (.fr (lnsD R)) v4 (.fr (.str (tx R))) .un .un .un .un) rfl rfl (right_reads G)) rfl (ne_dev n tabs))) (or_f (t_rd (x := .int 0) rfl r_0 rfl rfl) (or_f (t_rd (x := .non) rfl r_n rfl rfl) (t_rd (x := .lst [.str "states 1"]) rfl r_l rfl rfl))))) rfl
  -- a place
  obtain ⟨a2, b2, c2, rfl⟩ := hd2
  have llen : ((((R.map ln).map D.str).length : Nat) : Int) = ((tabs.length + 1 : Nat) : Int) := by rw [List.length_map, List.length_map, rl]
  obtain ⟨k, d3, hk, hd3, g3⟩ := q_take a2 b2 c2 (m := tabs.length + 1) (by omega) (by omega)
  have len_to : ∀ (d : D) (s4 s5 s6 s7 s8 s9 : Sl), (eL cLen (lCons (eFz 3) lNil)) (C d (.fr (lnsD R)) s4 s5 s6 s7 s8 s9) = .ok (nD (tabs.length + 1)) (C d (.fr (lnsD R)) s4 s5 s6 s7 s8 s9) := fun d s4 s5 s6 s7 s8 s9 => eL_to (ds := [lnsD R]) rfl (by show some (D.int ((((R.map ln).map D.str).length : Nat) : Int)) = _; rw [llen]; rfl)
  have s7 : sSet 4 (eCall f__law_take (aO 0 (aD (eL cLen (lCons (eFz 3) lNil)) aNil))) (C (bx a2 b2 c2) (.fr (lnsD R)) v4 (.fr (.str (tx R))) .un .un .un .un) = .nx (C d3 (.fr (lnsD R)) (.fr (nD k)) (.fr (.str (tx R))) .un .un .un .un) :=
    set_to (call_ok (l := [.ox 0, .dv (nD (tabs.length + 1))]) (outs := [.ow d3, .un]) (aO_to rfl (aD_to (len_to _ _ _ _ _ _ _) aN_to)) rfl g3)
  have hkR : k < R.length := by rw [rl]; exact hk
  obtain ⟨w0, mid, x, hget, h0, hl, hm, hc, hb⟩ := bent_reads G hkR
  have line : oIx (lnsD R) (nD k) = some (.str (ln (w0 :: (mid ++ [nm x])))) := by
    show oIx (.lst ((R.map ln).map D.str)) (.int (k : Int)) = _
    rw [oIx_nat, List.getElem?_map, List.getElem?_map, show R[k]? = _ from hget]
    rfl
  have s8 : sSet 6 (e2 oIx (eFz 3) (eV 4)) (C d3 (.fr (lnsD R)) (.fr (nD k)) (.fr (.str (tx R))) .un .un .un .un) = .nx (C d3 (.fr (lnsD R)) (.fr (nD k)) (.fr (.str (tx R))) (.fr (.str (ln (w0 :: (mid ++ [nm x]))))) .un .un .un) := set_to (e2_to (x := lnsD R) (y := nD k) rfl rfl line)
  have ls := line_short hl
  have spl : (eM1 mSplit (eV 6) (eC (.str " "))) (C d3 (.fr (lnsD R)) (.fr (nD k)) (.fr (.str (tx R))) (.fr (.str (ln (w0 :: (mid ++ [nm x]))))) .un .un .un) = .ok (.lst ((w0 :: (mid ++ [nm x])).map D.str)) (C d3 (.fr (lnsD R)) (.fr (nD k)) (.fr (.str (tx R))) (.fr (.str (ln (w0 :: (mid ++ [nm x]))))) .un .un .un) :=
    m1_to (x := ln (w0 :: (mid ++ [nm x]))) (y := .str " ") rfl rfl (by rw [mSplit_to (by decide +kernel) (by omega), split_ln (by simp) fun w hw => (hl.2.2 w hw).1])
  have s9 : sSet 7 (eM1 mJoin (eC (.str " ")) (eSl oSl (eM1 mSplit (eV 6) (eC (.str " "))) oN (oS (e2 oSub (eL cLen (lCons (eM1 mSplit (eV 6) (eC (.str " "))) lNil)) (eC (.int 1)))))) (C d3 (.fr (lnsD R)) (.fr (nD k)) (.fr (.str (tx R))) (.fr (.str (ln (w0 :: (mid ++ [nm x]))))) .un .un .un) =
      .nx (C d3 (.fr (lnsD R)) (.fr (nD k)) (.fr (.str (tx R))) (.fr (.str (ln (w0 :: (mid ++ [nm x]))))) (.fr (.str (ln (w0 :: mid)))) .un .un) := by
    refine set_to (m1_to (x := " ") (y := .lst ((w0 :: mid).map D.str)) rfl (sl_to (x := .lst ((w0 :: (mid ++ [nm x])).map D.str)) (lo := none) (hi := some ((mid.length + 1 : Nat) : Int)) spl rfl (oS_to (e2_to (x := .int (((w0 :: (mid ++ [nm x])).map D.str).length : Int)) (y := .int 1) (eL_to (cons_to spl nil_to) rfl) rfl ?_)) ?_) ?_)
    · show some (D.int ((((w0 :: (mid ++ [nm x])).map D.str).length : Int) - 1)) = _
      rw [List.length_map, List.length_cons, List.length_append, List.length_singleton, show ((mid.length + 1 + 1 : Nat) : Int) - 1 = ((mid.length + 1 : Nat) : Int) by omega]
    · have et : (w0 :: (mid ++ [nm x])).take (mid.length + 1) = w0 :: mid := by rw [List.take_succ_cons, List.take_left]
      rw [cut_take, ← List.map_take, et]
    · refine mJoin_to (b := 20) (fun w hw => (hm.2.2 w hw).2) ?_
      have es : (" " : Str).length = 1 := by decide +kernel
      have := hm.2.1
      rw [es]
      omega
  have s10 : sSet 8 (eNew bentE) (C d3 (.fr (lnsD R)) (.fr (nD k)) (.fr (.str (tx R))) (.fr (.str (ln (w0 :: (mid ++ [nm x]))))) (.fr (.str (ln (w0 :: mid)))) .un .un) = .nx (C d3 (.fr (lnsD R)) (.fr (nD k)) (.fr (.str (tx R))) (.fr (.str (ln (w0 :: (mid ++ [nm x]))))) (.fr (.str (ln (w0 :: mid)))) (.fr (.lst ((bents w0 mid (nm x)).map fun v => .str (ln v)))) .un) :=
    set_toL (bent_to rfl rfl hl hm h0 hc)
  obtain ⟨j, y, d4, hy, hd4, g4⟩ := q_pick hd3 (ds := (bents w0 mid (nm x)).map fun v => D.str (ln v)) (by simp [bents]) (by rw [List.length_map]; simp [bents])
  obtain ⟨v, hv, rfl⟩ : ∃ v ∈ bents w0 mid (nm x), D.str (ln v) = y := List.mem_map.mp (List.mem_of_getElem? hy)
  obtain ⟨okv, rdv⟩ := hb v hv
  let F (d : D) : Ev := C d (.fr (lnsD R)) (.fr (nD k)) (.fr (.str (tx R))) (.fr (.str (ln (w0 :: (mid ++ [nm x]))))) (.fr (.str (ln (w0 :: mid)))) (.fr (.lst ((bents w0 mid (nm x)).map fun v => .str (ln v)))) .un
  have eb : ((R.map ln).map D.str).take k ++ [D.str (ln v)] ++ ((R.map ln).map D.str).drop (k + 1) = ((R.take k ++ [v] ++ R.drop (k + 1)).map ln).map D.str := by
    simp only [List.map_append, List.map_take, List.map_drop, List.map_cons, List.map_nil]
  have mapl : ((R.map ln).map D.str).length = tabs.length + 1 := by rw [List.length_map, List.length_map, rl]
  have kp1 : some (D.int ((k : Int) + 1)) = some (D.int ((k + 1 : Nat) : Int)) := by rw [show (k : Int) + 1 = ((k + 1 : Nat) : Int) by omega]
  have s11 : (sIf (tE (e2 (orO (orO neS neD) (neI 3 f_Device___eq)) (eCall f__law_reads (aD (eM1 mJoin (eC (.str "\n")) (e2 oAdd (e2 oAdd (eSl oSl (eFz 3) oN (oS (eV 4))) (eNew (lD (lCons (eCall f__law_pick (aO 0 (aD (eV 8) aNil))) lNil)))) (eSl oSl (eFz 3) (oS (e2 oAdd (eV 4) (eC (.int 1)))) oN))) aNil)) (e2 oAdd (eV 4) (eC (.int 1))))) (sSeq (sRet (eC (.bl false))) sNext) sNext) (F d3) = .nx (F d4) := by
    refine if_f (t_rd (x := .str (tx (R.take k ++ [v] ++ R.drop (k + 1)))) (σ1 := F d4) (k' := ((k + 1 : Nat) : Int)) ?_ rdv (e2_to (x := nD k) (y := .int 1) rfl rfl kp1) rfl) rfl
    refine m1_to (x := "\n") (y := .lst (((R.take k ++ [v] ++ R.drop (k + 1)).map ln).map D.str)) rfl (e2_to (x := .lst (((R.map ln).map D.str).take k ++ [D.str (ln v)])) (y := .lst (((R.map ln).map D.str).drop (k + 1))) (e2_to (x := .lst (((R.map ln).map D.str).take k)) (y := .lst [D.str (ln v)]) (sl_to (x := lnsD R) (lo := none) (hi := some (k : Int)) rfl rfl rfl (cut_take _ _))
      (new_to (lD1_to (call_ok (l := [.ox 0, .dv (.lst ((bents w0 mid (nm x)).map fun v => .str (ln v)))]) (outs := [.ow d4, .un]) (σ1 := F d3) rfl rfl g4))) (add_lst ?_)) (sl_to (x := lnsD R) (lo := some ((k + 1 : Nat) : Int)) (hi := none) rfl (oS_to (e2_to (x := nD k) (y := .int 1) rfl rfl kp1)) rfl (cut_drop _ _)) ((add_lst ?_).trans (by rw [eb]))) (lines_join ?_ ?_)
    · rw [List.length_take, mapl, List.length_singleton]; omega
    · rw [List.length_append, List.length_take, List.length_drop, mapl, List.length_singleton]; omega
    · rw [List.length_append, List.length_append, List.length_take, List.length_drop, rl, List.length_singleton]; omega
    · intro r hr
      rcases List.mem_append.mp hr with hr | hr
      · rcases List.mem_append.mp hr with hr | hr
        · exact hall r (List.mem_of_mem_take hr)
        · rw [List.mem_singleton.mp hr]; exact okv
      · exact hall r (List.mem_of_mem_drop hr)
  have txs : (tx R).length ≤ 29420 := tx_short (cl_of (by simp [R, rowsOf]) (by rw [rl]; omega) hall)
  have line0 : oIx (lnsD R) (.int 0) = some (.str (ln (hdr n))) := by
    show oIx (.lst ((R.map ln).map D.str)) (.int ((0 : Nat) : Int)) = _
    rw [oIx_nat]
    rfl
  have s12 : (sIf (tOr (tE (e2 (orO (orO neS neD) (neI 3 f_Device___eq)) (eCall f__law_reads (aD (e2 oAdd (eV 5) (eC (.str "\n"))) aNil)) (e2 oAdd (eL cLen (lCons (eFz 3) lNil)) (eC (.int 1))))) (tOr (tE (e2 (orO (orO neS neD) (neI 3 f_Device___eq)) (eCall f__law_reads (aD (e2 oIx (eFz 3) (eC (.int 0))) aNil)) (eC (.int 2)))) (tE (e2 (orO (orO neS neD) (neI 3 f_Device___eq)) (eCall f__law_reads (aD (eC (.str "")) aNil)) (eC (.int 1)))))) (sSeq (sRet (eC (.bl false))) sNext) sNext) (F d4) = .nx (F d4) := by
    refine if_f (or_f (t_rd (x := .str (tx R ++ "\n")) (k' := ((tabs.length + 1 : Nat) : Int) + 1) (e2_to (x := .str (tx R)) (y := .str "\n") rfl rfl (add_str ?_)) (more_reads G) (e2_to (x := nD (tabs.length + 1)) (y := .int 1) (len_to _ _ _ _ _ _ _) rfl rfl) (by omega)) (or_f (t_rd (x := .str (ln (hdr n))) (e2_to (x := lnsD R) (y := .int 0) rfl rfl line0) (one_reads G) rfl rfl) (t_rd (x := .str "") rfl r_e rfl rfl))) rfl
    have : ("\n" : Str).length = 1 := by decide +kernel
    omega
  have e2t : ((R.map ln).map D.str).take (k + 1) ++ ((R.map ln).map D.str).drop k = ((R.take (k + 1) ++ R.drop k).map ln).map D.str := by
    simp only [List.map_append, List.map_take, List.map_drop]
  have s13 : (sIf (tE (e2 (orO (orO neS neD) (neI 3 f_Device___eq)) (eCall f__law_reads (aD (eM1 mJoin (eC (.str "\n")) (e2 oAdd (eSl oSl (eFz 3) oN (oS (e2 oAdd (eV 4) (eC (.int 1))))) (eSl oSl (eFz 3) (oS (eV 4)) oN))) aNil)) (e2 oAdd (eV 4) (eC (.int 2))))) (sSeq (sRet (eC (.bl false))) sNext) sNext) (F d4) = .nx (F d4) := by
    refine if_f (t_rd (x := .str (tx (R.take (k + 1) ++ R.drop k))) (σ1 := F d4) (k' := (k : Int) + 2) ?_ (twice_reads G hkR) (e2_to (x := nD k) (y := .int 2) rfl rfl rfl) (by omega)) rfl
    refine m1_to (x := "\n") (y := .lst (((R.take (k + 1) ++ R.drop k).map ln).map D.str)) rfl (e2_to (x := .lst (((R.map ln).map D.str).take (k + 1))) (y := .lst (((R.map ln).map D.str).drop k)) (sl_to (x := lnsD R) (lo := none) (hi := some ((k + 1 : Nat) : Int)) rfl rfl (oS_to (e2_to (x := nD k) (y := .int 1) rfl rfl kp1)) (cut_take _ _)) (sl_to (x := lnsD R) (lo := some (k : Int)) (hi := none) rfl rfl rfl (cut_drop _ _)) ((add_lst ?_).trans (by rw [e2t]))) (lines_join ?_ ?_)
    · rw [List.length_take, List.length_drop, mapl]; omega
    · rw [List.length_append, List.length_take, List.length_drop, rl]; omega
    · intro r hr
      rcases List.mem_append.mp hr with hr | hr
      · exact hall r (List.mem_of_mem_take hr)
      · exact hall r (List.mem_of_mem_drop hr)
  obtain ⟨s9', s14⟩ := odds (σ := []) (s9 := .un) (a0 := .ow d4) (a1 := .fr T) (a2 := .fr V) (a3 := .fr (lnsD R)) (a4 := .fr (nD k)) (a5 := .fr (.str (tx R))) (a6 := .fr (.str (ln (w0 :: (mid ++ [nm x]))))) (a7 := .fr (.str (ln (w0 :: mid)))) (a8 := .fr (.lst ((bents w0 mid (nm x)).map fun v => .str (ln v)))) (a10 := .un)
  refine ⟨d4, hd4, fn_rt (σ1 := [.ow d4, .fr T, .fr V, .fr (lnsD R), .fr (nD k), .fr (.str (tx R)), .fr (.str (ln (w0 :: (mid ++ [nm x])))), .fr (.str (ln (w0 :: mid))), .fr (.lst ((bents w0 mid (nm x)).map fun v => .str (ln v))), s9', .un]) (seq_to s1 (seq_to s2 (seq_to s3 (seq_to s4 (seq_to s5 (seq_to s6 (seq_to s7 (seq_to s8 (seq_to s9 (seq_to s10 (seq_to s11 (seq_to s12 (seq_to s13 (seq_to s14 (seq_rt (ret_to ?_))))))))))))))))⟩
  exact eand_t (e_rd (x := .str "states 1\nb 0") rfl r_7 rfl rfl) (eand_t (e_rd (x := .str "states 1\na 0\nc 0") rfl r_8 rfl rfl) (e_rd (x := .str "states 1\na 1") rfl r_9 rfl rfl))
/-! ### the boxes, the law -/
theorem ix_scr (ns : List Int) (k : Nat) : oIx (.scr (ns.map D.int)) (.int (k : Int)) = (ns[k]?).map D.int := by
  show L2.atI (ns.map D.int) (k : Int) = _
  rw [atI_nat, List.getElem?_map]
theorem q_box (ns : List Int) (hn : ns.length ≤ 63) (k : Nat) (hk : k < 4) : ∃ ds, IsBx (.lst ds) ∧ f__law_box [.fr (.scr (ns.map D.int)), .fr (nD k)] = .ok (.lst ds) [.un, .un] := by
  -- the cell
  have cell : ∃ c : Int, (sSeq (sSet 2 (e2 oAdd (e2 oMul3 (eC (.int 5227)) (eV 1)) (eC (.int 631)))) (sIf (tE (e2 oLt (eV 1) (eL cLen (lCons (eV 0) lNil)))) (sSeq (sSet 2 (eL cAbs (lCons (e2 oIx (eV 0) (eV 1)) lNil))) sNext) (sSeq (sIf (tE (e2 oGt (eL cLen (lCons (eV 0) lNil)) (eC (.int 0)))) (sSeq (sSet 2 (e2 oAdd (eV 2) (e2 oMul3 (e2 oMod (eL cInt (lCons (eL cAbs (lCons (e2 oIx (eV 0) (e2 oMod (eL cInt (lCons (eV 1) lNil)) (eL cLen (lCons (eV 0) lNil)))) lNil)) lNil)) (eC (.int 2147483543))) (eC (.int 42157))))) sNext) sNext) sNext))) [.fr (.scr (ns.map D.int)), .fr (nD k), .un] = .nx [.fr (.scr (ns.map D.int)), .fr (nD k), .fr (.int c)] := by
    have s1 : sSet 2 (e2 oAdd (e2 oMul3 (eC (.int 5227)) (eV 1)) (eC (.int 631))) [.fr (.scr (ns.map D.int)), .fr (nD k), .un] = .nx [.fr (.scr (ns.map D.int)), .fr (nD k), .fr (.int (5227 * (k : Int) + 631))] := set_to (e2_to (x := .int (5227 * (k : Int))) (y := .int 631) (e2_to (x := .int 5227) (y := nD k) rfl rfl (oMul_l (by decide))) rfl rfl)
    have ln : ∀ s2 : Sl, (eL cLen (lCons (eV 0) lNil)) [.fr (.scr (ns.map D.int)), .fr (nD k), s2] = .ok (.int (ns.length : Int)) [.fr (.scr (ns.map D.int)), .fr (nD k), s2] := fun s2 => eL_to (ds := [.scr (ns.map D.int)]) rfl (by show some (D.int ((ns.map D.int).length : Int)) = _; rw [List.length_map])
    by_cases h : k < ns.length
    · refine ⟨_, seq_to s1 (if_t (tE_to (e2_to (x := nD k) (y := .int (ns.length : Int)) rfl (ln _) (by show some (D.bl (decide ((k : Int) < (ns.length : Int)))) = _; rw [decide_eq_true (by omega)]))) (seq_to (set_to (eL_to (ds := [.int ns[k]]) (cons_to (e2_to (x := .scr (ns.map D.int)) (y := nD k) rfl rfl ?_) nil_to) rfl)) rfl))⟩
      show oIx (.scr (ns.map D.int)) (.int (k : Int)) = _
      rw [ix_scr, List.getElem?_eq_getElem h]
      rfl
    · have hf : tE (e2 oLt (eV 1) (eL cLen (lCons (eV 0) lNil))) [.fr (.scr (ns.map D.int)), .fr (nD k), .fr (.int (5227 * (k : Int) + 631))] = .ok false [.fr (.scr (ns.map D.int)), .fr (nD k), .fr (.int (5227 * (k : Int) + 631))] := tE_to (e2_to (x := nD k) (y := .int (ns.length : Int)) rfl (ln _) (by show some (D.bl (decide ((k : Int) < (ns.length : Int)))) = _; rw [decide_eq_false (by omega)]))
      by_cases h0 : 0 < ns.length
      · have hm : (0 : Int) < (ns.length : Int) := by omega
        have hi0 : 0 ≤ (k : Int) % (ns.length : Int) := Int.emod_nonneg _ (by omega)
        have hi1 : (k : Int) % (ns.length : Int) < ns.length := Int.emod_lt_of_pos _ hm
        have hlt : ((k : Int) % (ns.length : Int)).toNat < ns.length := by omega
        have ex : oIx (.scr (ns.map D.int)) (.int ((k : Int) % (ns.length : Int))) = some (.int ns[((k : Int) % (ns.length : Int)).toNat]) := by
          have e := ix_scr ns ((k : Int) % (ns.length : Int)).toNat
          rw [List.getElem?_eq_getElem hlt, Int.toNat_of_nonneg hi0] at e
          exact e
        refine ⟨_, seq_to s1 (if_f hf (seq_to (if_t (tE_to (e2_to (x := .int (ns.length : Int)) (y := .int 0) (ln _) rfl (by show some (D.bl (decide ((0 : Int) < (ns.length : Int)))) = _; rw [decide_eq_true hm]))) (seq_to (set_to (e2_to (x := .int (5227 * (k : Int) + 631)) rfl (e2_to (y := .int 42157) (e2_to (y := .int 2147483543) (eL_to (cons_to (eL_to (ds := [.int ns[((k : Int) % (ns.length : Int)).toNat]]) (cons_to (e2_to (x := .scr (ns.map D.int)) (y := .int ((k : Int) % (ns.length : Int))) rfl (e2_to (x := nD k) (y := .int (ns.length : Int)) rfl (ln _) (oMod_to hm)) ex) nil_to) rfl) nil_to) rfl) rfl (oMod_to (by decide))) rfl (oMul_r (by decide))) rfl)) rfl)) rfl))⟩
      · refine ⟨_, seq_to s1 (if_f hf (seq_to (if_f (tE_to (e2_to (x := .int (ns.length : Int)) (y := .int 0) (ln _) rfl (by show some (D.bl (decide ((0 : Int) < (ns.length : Int)))) = _; rw [decide_eq_false (by omega)]))) rfl) rfl))⟩
  obtain ⟨c, hc⟩ := cell
  let Z : Ev := [.fr (.scr (ns.map D.int)), .fr (nD k), .fr (.int c)]
  have p18 : oPow (.int 10) (.int 18) = some (.int 1000000000000000000) := rfl
  have first : ∃ a : Int, (e2 oIx (eNew (lD (lCons (eC (.int 0)) (lCons (eV 2) lNil)))) (eL cInt (lCons (e2 oGe (eV 2) (e2 oPow (eC (.int 10)) (eC (.int 18)))) lNil))) Z = .ok (.int a) Z := by
    have g : ∀ b : Bool, decide ((1000000000000000000 : Int) ≤ c) = b → (eL cInt (lCons (e2 oGe (eV 2) (e2 oPow (eC (.int 10)) (eC (.int 18)))) lNil)) Z = .ok (.int (if b then 1 else 0)) Z := fun b hb =>
      eL_to (ds := [.bl b]) (cons_to (e2_to (x := .int c) (y := .int 1000000000000000000) rfl (e2_to rfl rfl p18) (by show some (D.bl (decide ((1000000000000000000 : Int) ≤ c))) = _; rw [hb])) nil_to) rfl
    by_cases h : (1000000000000000000 : Int) ≤ c
    · exact ⟨c, e2_to (x := .lst [.int 0, .int c]) (y := .int 1) rfl (g true (decide_eq_true h)) rfl⟩
    · exact ⟨0, e2_to (x := .lst [.int 0, .int c]) (y := .int 0) rfl (g false (decide_eq_false h)) rfl⟩
  obtain ⟨a, ha⟩ := first
  have second : ∃ b : Int, (e2 oAdd (e2 oMod (eL cInt (lCons (e2 oAdd (e2 oMul3 (e2 oMod (eL cInt (lCons (eV 2) lNil)) (eC (.int 2147483543))) (eC (.int 38699))) (e2 oMul3 (eC (.int 24029)) (eV 1))) lNil)) (eC (.int 2147483543))) (eC (.int 1))) Z = .ok (.int b) Z :=
    ⟨_, e2_to (y := .int 1) (e2_to (y := .int 2147483543) (eL_to (cons_to (e2_to (e2_to (y := .int 38699) (e2_to (x := .int c) (y := .int 2147483543) rfl rfl (oMod_to (by decide))) rfl (oMul_r (by decide))) (e2_to (x := .int 24029) (y := nD k) rfl rfl (oMul_l (by decide))) rfl) nil_to) rfl) rfl (oMod_to (by decide))) rfl rfl⟩
  obtain ⟨b, hb⟩ := second
  have sA : ∀ {x y z : SM} {σ σ1 : Ev} {r : RS}, sSeq x y σ = .nx σ1 → z σ1 = r → sSeq x (sSeq y z) σ = r := fun {x y z σ σ1 r} h1 h2 => by
    have h1' : (match x σ with
      | .nx σ1 => y σ1
      | r => r) = .nx σ1 := h1
    cases hx : x σ with
    | nx s =>
      rw [hx] at h1'
      exact seq_to hx (seq_to h1' h2)
    | rt d s => rw [hx] at h1'; cases h1'
    | bk s => rw [hx] at h1'; cases h1'
    | ct s => rw [hx] at h1'; cases h1'
    | exc c f s => rw [hx] at h1'; cases h1'
    | stuck => rw [hx] at h1'; cases h1'
  exact ⟨[.int a, .int b, .int 0], ⟨a, b, 0, rfl⟩, fnF_rt (σ1 := Z) (sA hc (seq_rt (retF_to (lD_to (cons_to ha (cons_to hb (cons_to rfl nil_to))) (by simp)))))⟩
theorem q_big : f__law_reads [.fr (.str (tx (rowsOf 60 [List.replicate 60 59])))] = .ok (devD 60 [List.replicate 60 59]) [.un] := right_reads ⟨by decide, by decide, by decide, by decide, fun t ht => by
  rw [List.mem_singleton.mp ht]
  exact ⟨by decide, by decide⟩⟩
theorem pure_law (ns : List Int) (hn : ns.length ≤ 63) : ∃ outs, f_law [.fr (.scr (ns.map D.int))] = .ok (.bl true) outs := by
  let S : D := .scr (ns.map D.int)
  obtain ⟨σ', g, s1, e⟩ := for_nx (it := lR1 (eC (.int 4))) (tg := gN 1) (body := (sSeq (sIf (tNot (tTru truD (eCallN f__law_case_right (lCall f__law_box (aD (eV 0) (aD (eV 1) aNil)))))) (sSeq (sRet (eC (.bl false))) sNext) sNext) sNext)) (σ := [.fr S, .un, .un]) (σ1 := [.fr S, .un, .un]) (xs := rng 0 4) (lr1_to (n := 4) rfl (by omega))
    (fun i σ => ∃ s1, σ = [.fr S, s1, .un]) ⟨_, rfl⟩ fun i x σ hi ⟨s1, e⟩ => by
      subst e
      obtain ⟨k, hk, rfl⟩ := rng_mem (List.mem_of_getElem? hi)
      obtain ⟨ds, hb, hq⟩ := q_box ns hn k hk
      obtain ⟨d', _, hc⟩ := q_case hb
      exact ⟨[.fr S, .fr (nD k), .un], [.fr S, .fr (nD k), .un], rfl, .inl (seq_to (if_f (tnot_to (k := true) (tru_to (d := .bl true) (callN_to (lCall_to (call_ok (l := [.dv S, .dv (nD k)]) (outs := [.un, .un]) (σ1 := [.fr S, .fr (nD k), .un]) rfl rfl hq)) hc) rfl)) rfl) rfl), _, rfl⟩
  subst e
  have t59 : oAdd (.str "states 60\na") (.str (PySem.Txt.mul " 59" 60)) = some (.str (tx (rowsOf 60 [List.replicate 60 59]))) := by kernel_rfl
  have r60 : ∃ d, oAdd (.str "states 60\na") (.str (PySem.Txt.mul " 60" 60)) = some d ∧ f__law_reads [.fr d] = .ok (.int 2) [.un] := ⟨_, rfl, by kernel_rfl⟩
  obtain ⟨d60, e60, h60⟩ := r60
  let B : D := devD 60 [List.replicate 60 59]
  have c2 : sSet 2 (eCall f__law_reads (aD (e2 oAdd (eC (.str "states 60\na")) (e2 oMul3 (eC (.str " 59")) (eC (.int 60)))) aNil)) [.fr S, s1, .un] = .nx [.fr S, s1, .fr B] :=
    set_to (call_ok (l := [.dv (.str (tx (rowsOf 60 [List.replicate 60 59])))]) (outs := [.un]) (σ1 := [.fr S, s1, .un]) (aD_to (e2_to (x := .str "states 60\na") (y := .str (PySem.Txt.mul " 59" 60)) rfl (e2_to (x := .str " 59") (y := .int 60) rfl rfl (by kernel_rfl)) t59) aN_to) rfl q_big)
  have big : Good 60 [List.replicate 60 59] := ⟨by decide, by decide, by decide, by decide, fun t ht => by
    rw [List.mem_singleton.mp ht]
    exact ⟨by decide, by decide⟩⟩
  have hl : [List.replicate 60 59].map tL = [tL (List.replicate 60 59)] := rfl
  have hi := q_init big
  rw [hl] at hi
  have mul : oMul3 (.lst [.int 59]) (.int 60) = some (tL (List.replicate 60 59)) := by kernel_rfl
  generalize tL (List.replicate 60 59) = TB at hi mul
  have mk : (eMake 3 f_Device___init (aD (eNew (lD (lCons (e2 oMul3 (eNew (lD (lCons (eC (.int 59)) lNil))) (eC (.int 60))) lNil))) aNil)) [.fr S, s1, .fr B] = .ok B [.fr S, s1, .fr B] :=
    make_ok (l := [.dv (.lst [TB])]) (outs := [.un]) (σ1 := [.fr S, s1, .fr B]) (aD_to (new_to (lD1_to (e2_to (x := .lst [.int 59]) (y := .int 60) rfl rfl mul))) aN_to) rfl hi
  refine ⟨_, fn_rt (σ1 := [.fr S, s1, .fr B]) (seq_to g (seq_to c2 (seq_to (if_f (t_rd (x := .str "states 1\na 0\nb 0\nc 0\nd 0\ne 0\nf 0") (σ1 := [.fr S, s1, .fr B]) (σ2 := [.fr S, s1, .fr B]) rfl r_10 rfl rfl) rfl) (seq_rt (ret_to (eand_t (e2_to (x := B) (y := B) rfl mk (eq_dev _ _)) (e_rd (x := d60) (e2_to (x := .str "states 60\na") (y := .str (PySem.Txt.mul " 60" 60)) rfl (e2_to (x := .str " 60") (y := .int 60) rfl rfl (by kernel_rfl)) e60) h60 rfl rfl)))))))⟩
end K04
end
set_option linter.all false
set_option maxRecDepth 100000
set_option maxHeartbeats 4000000
set_option pp.maxSteps 600
/-! the head of k04, printed by gen.py -/
namespace K04
open PySem PySem.Spec L2 VM
open PyProof.Rows (envOfC)
theorem is_BadDevice : InitSt (inClass (topS 3) 0) "BadDevice.__init__" "self" "at" "at" := ⟨⟨_, _, _, _, _, _, _, _, _, _, _, _, _, _, rfl, rfl, rfl, rfl, ⟨_, fun _ => rfl⟩⟩, rfl, rfl, rfl, by decide +kernel, rfl, rfl, rfl, rfl, fun _ _ _ _ _ _ _ _ _ => rfl, by decide, by decide, by decide⟩
theorem is_BadText : InitSt (inClass (topS 4) 0) "BadText.__init__" "self" "at" "at" := ⟨⟨_, _, _, _, _, _, _, _, _, _, _, _, _, _, rfl, rfl, rfl, rfl, ⟨_, fun _ => rfl⟩⟩, rfl, rfl, rfl, by decide +kernel, rfl, rfl, rfl, rfl, fun _ _ _ _ _ _ _ _ _ => rfl, by decide, by decide, by decide⟩
def caK (K : PySem.W.Frag) : Nat → Addr := cal [ad K "BackError", ad K "BadDevice", ad K "BadText", ad K "Device"]
def spL (K : PySem.W.Frag) : Sp := fun vs H Q _ => spV ⟨K, caK K⟩ (vD ⟨K, caK K⟩) 1 f_law vs H Q E0
theorem all_mk {P : Program} {w : World} {K : PySem.W.Frag} {h : Heap} {mg : Str → Option Value} {fa : Addr} {C0 : Addr} {C1 : Addr} {C2 : Addr} {C3 : Addr} {p_is_sequence : Addr} {d_is_sequence : FuncData} {p_is_integer : Addr} {d_is_integer : FuncData} {p_is_number : Addr} {d_is_number : FuncData} {p_is_table : Addr} {d_is_table : FuncData} {p_Device___init : Addr} {d_Device___init : FuncData} {p_is_text : Addr} {d_is_text : FuncData} {p_read_count : Addr} {d_read_count : FuncData} {p_read_device : Addr} {d_read_device : FuncData} {p_Device___eq : Addr} {d_Device___eq : FuncData} {p__law_reads : Addr} {d__law_reads : FuncData} {p__law_take : Addr} {d__law_take : FuncData} {p__law_pick : Addr} {d__law_pick : FuncData} {p__law_tables : Addr} {d__law_tables : FuncData} {p_device_text : Addr} {d_device_text : FuncData} {p__law_case_right : Addr} {d__law_case_right : FuncData} {p__law_box : Addr} {d__law_box : FuncData} {p_law : Addr} {d_law : FuncData} {t_FIGURES : Tok} {t_MOST_STATES : Tok} {t_SIGNALS : Tok} {q1 : Addr} {q2 : Addr} (X : K.In h) (G : h.Ns mainGlobals mg) (hfa : mg "law" = some (.ref fa))
    (a0 : PySem.W.nsIn K mainGlobals "BackError" = some (some (.ref C0)))
    (a1 : PySem.W.nsIn K mainGlobals "BadDevice" = some (some (.ref C1)))
    (a2 : PySem.W.nsIn K mainGlobals "BadText" = some (some (.ref C2)))
    (a3 : PySem.W.nsIn K mainGlobals "Device" = some (some (.ref C3)))
    (mk_Device : Mk K C3 p_Device___init)
    (eq_Device___eq : EqFacts K C3 p_Device___eq)
    (g_is_sequence : PySem.W.nsIn K mainGlobals "is_sequence" = some (some (.ref p_is_sequence)))
    (F_is_sequence : Fun K "is_sequence" "is_sequence" (topS 11) p_is_sequence d_is_sequence)
    (g_is_integer : PySem.W.nsIn K mainGlobals "is_integer" = some (some (.ref p_is_integer)))
    (F_is_integer : Fun K "is_integer" "is_integer" (topS 8) p_is_integer d_is_integer)
    (g_is_number : PySem.W.nsIn K mainGlobals "is_number" = some (some (.ref p_is_number)))
    (F_is_number : Fun K "is_number" "is_number" (topS 9) p_is_number d_is_number)
    (g_is_table : PySem.W.nsIn K mainGlobals "is_table" = some (some (.ref p_is_table)))
    (F_is_table : Fun K "is_table" "is_table" (topS 14) p_is_table d_is_table)
    (F_Device___init : Fun K "__init__" "Device.__init__" (inClass (topS 13) 0) p_Device___init d_Device___init)
    (g_is_text : PySem.W.nsIn K mainGlobals "is_text" = some (some (.ref p_is_text)))
    (F_is_text : Fun K "is_text" "is_text" (topS 10) p_is_text d_is_text)
    (g_read_count : PySem.W.nsIn K mainGlobals "read_count" = some (some (.ref p_read_count)))
    (F_read_count : Fun K "read_count" "read_count" (topS 18) p_read_count d_read_count)
    (g_read_device : PySem.W.nsIn K mainGlobals "read_device" = some (some (.ref p_read_device)))
    (F_read_device : Fun K "read_device" "read_device" (topS 19) p_read_device d_read_device)
    (F_Device___eq : Fun K "__eq__" "Device.__eq__" (inClass (topS 13) 1) p_Device___eq d_Device___eq)
    (g__law_reads : PySem.W.nsIn K mainGlobals "_law_reads" = some (some (.ref p__law_reads)))
    (F__law_reads : Fun K "_law_reads" "_law_reads" (topS 27) p__law_reads d__law_reads)
    (g__law_take : PySem.W.nsIn K mainGlobals "_law_take" = some (some (.ref p__law_take)))
    (F__law_take : Fun K "_law_take" "_law_take" (topS 22) p__law_take d__law_take)
    (g__law_pick : PySem.W.nsIn K mainGlobals "_law_pick" = some (some (.ref p__law_pick)))
    (F__law_pick : Fun K "_law_pick" "_law_pick" (topS 23) p__law_pick d__law_pick)
    (g__law_tables : PySem.W.nsIn K mainGlobals "_law_tables" = some (some (.ref p__law_tables)))
    (F__law_tables : Fun K "_law_tables" "_law_tables" (topS 24) p__law_tables d__law_tables)
    (g_device_text : PySem.W.nsIn K mainGlobals "device_text" = some (some (.ref p_device_text)))
    (F_device_text : Fun K "device_text" "device_text" (topS 17) p_device_text d_device_text)
    (g__law_case_right : PySem.W.nsIn K mainGlobals "_law_case_right" = some (some (.ref p__law_case_right)))
    (F__law_case_right : Fun K "_law_case_right" "_law_case_right" (topS 28) p__law_case_right d__law_case_right)
    (g__law_box : PySem.W.nsIn K mainGlobals "_law_box" = some (some (.ref p__law_box)))
    (F__law_box : Fun K "_law_box" "_law_box" (topS 21) p__law_box d__law_box)
    (g_law : PySem.W.nsIn K mainGlobals "law" = some (some (.ref p_law)))
    (F_law : Fun K "law" "law" (topS 29) p_law d_law)
    (z_abs : PySem.W.nsIn K mainGlobals "abs" = some none)
    (z_all : PySem.W.nsIn K mainGlobals "all" = some none)
    (z_bool : PySem.W.nsIn K mainGlobals "bool" = some none)
    (z_enumerate : PySem.W.nsIn K mainGlobals "enumerate" = some none)
    (z_int : PySem.W.nsIn K mainGlobals "int" = some none)
    (z_isinstance : PySem.W.nsIn K mainGlobals "isinstance" = some none)
    (z_len : PySem.W.nsIn K mainGlobals "len" = some none)
    (z_list : PySem.W.nsIn K mainGlobals "list" = some none)
    (z_range : PySem.W.nsIn K mainGlobals "range" = some none)
    (z_str : PySem.W.nsIn K mainGlobals "str" = some none)
    (z_super : PySem.W.nsIn K mainGlobals "super" = some none)
    (z_tuple : PySem.W.nsIn K mainGlobals "tuple" = some none)
    (z_zip : PySem.W.nsIn K mainGlobals "zip" = some none)
    (k_FIGURES : PySem.W.nsIn K mainGlobals "FIGURES" = some (some (.str "0123456789" t_FIGURES)))
    (k_MOST_STATES : PySem.W.nsIn K mainGlobals "MOST_STATES" = some (some (.int 60 t_MOST_STATES)))
    (k_SIGNALS : PySem.W.nsIn K mainGlobals "SIGNALS" = some (some (.str "abcde" t_SIGNALS)))
    (cl3 : Cls K C3)
    (n_signals_3 : NoAttr K C3 "signals")
    (n_states_3 : NoAttr K C3 "states")
    (n_tables_3 : NoAttr K C3 "tables")
    (ow3 : OwnTy K C3)
    (ko_3_3 : PySem.W.kitOne K (.ref C3) (.ref C3) = some true)
    (x1 : ∀ mg : Str → Option Value, mg "super" = none → PySem.VErr.Txt K P mg C1 q1 "self" "at" "at")
    (x2 : ∀ mg : Str → Option Value, mg "super" = none → PySem.VErr.Txt K P mg C2 q2 "self" "at" "at")
    (s_BadText_1 : PySem.W.exmOne K (.ref C1) (.ref C2) = some false)
    (s_BadText_2 : PySem.W.exmOne K (.ref C2) (.ref C2) = some true)
    (vx_1 : PySem.W.VxC K C1)
    (vx_2 : PySem.W.VxC K C2)
    (i_BackError_1 : PySem.W.kitOne K (.ref C1) (.ref C0) = some true)
    (i_BackError_2 : PySem.W.kitOne K (.ref C2) (.ref C0) = some true)
    (i_BadDevice_1 : PySem.W.kitOne K (.ref C1) (.ref C1) = some true)
    (i_BadDevice_2 : PySem.W.kitOne K (.ref C2) (.ref C1) = some false)
    (xf_at_1 : XfC K C1 ∧ PySem.W.findIn K (.ref C1) "at" = some none)
    (xf_at_2 : XfC K C2 ∧ PySem.W.findIn K (.ref C2) "at" = some none) :
    ∃ fd : FuncData, (∀ (s : Shared) (v : Value), BindsTo s fd ⟨[v], []⟩ [("_law_script", v)]) ∧ ∀ base : Heap, K.In base → base.Ns mainGlobals mg → FnOk P w K mg base CX0 10 fa fd ["_law_script"] (spL K) := by
  have e := hfa.symm.trans (PySem.W.mg_of X G g_law)
  cases e
  have hc : caK K = cal [C0, C1, C2, C3] := by unfold caK; rw [ad_of a0, ad_of a1, ad_of a2, ad_of a3]
  let T : Facts P K mg (cal [C0, C1, C2, C3]) := {
    p_is_sequence := p_is_sequence,
    d_is_sequence := d_is_sequence,
    F_is_sequence := F_is_sequence,
    b_is_sequence := F_is_sequence.binds (ps := ["value"]) fun _ _ _ _ _ _ us hl => match us, hl with | [_], _ => rfl,
    g_is_sequence := PySem.W.mg_of X G g_is_sequence,
    p_is_integer := p_is_integer,
    d_is_integer := d_is_integer,
    F_is_integer := F_is_integer,
    b_is_integer := F_is_integer.binds (ps := ["value"]) fun _ _ _ _ _ _ us hl => match us, hl with | [_], _ => rfl,
    g_is_integer := PySem.W.mg_of X G g_is_integer,
    p_is_number := p_is_number,
    d_is_number := d_is_number,
    F_is_number := F_is_number,
    b_is_number := F_is_number.binds (ps := ["value"]) fun _ _ _ _ _ _ us hl => match us, hl with | [_], _ => rfl,
    g_is_number := PySem.W.mg_of X G g_is_number,
    p_is_table := p_is_table,
    d_is_table := d_is_table,
    F_is_table := F_is_table,
    b_is_table := F_is_table.binds (ps := ["value", "many"]) fun _ _ _ _ _ _ us hl => match us, hl with | [_, _], _ => rfl,
    g_is_table := PySem.W.mg_of X G g_is_table,
    p_Device___init := p_Device___init,
    d_Device___init := d_Device___init,
    F_Device___init := F_Device___init,
    b_Device___init := F_Device___init.binds (ps := ["self", "tables"]) fun _ _ _ _ _ _ us hl => match us, hl with | [_, _], _ => rfl,
    p_is_text := p_is_text,
    d_is_text := d_is_text,
    F_is_text := F_is_text,
    b_is_text := F_is_text.binds (ps := ["value"]) fun _ _ _ _ _ _ us hl => match us, hl with | [_], _ => rfl,
    g_is_text := PySem.W.mg_of X G g_is_text,
    p_read_count := p_read_count,
    d_read_count := d_read_count,
    F_read_count := F_read_count,
    b_read_count := F_read_count.binds (ps := ["word", "most"]) fun _ _ _ _ _ _ us hl => match us, hl with | [_, _], _ => rfl,
    g_read_count := PySem.W.mg_of X G g_read_count,
    p_read_device := p_read_device,
    d_read_device := d_read_device,
    F_read_device := F_read_device,
    b_read_device := F_read_device.binds (ps := ["text"]) fun _ _ _ _ _ _ us hl => match us, hl with | [_], _ => rfl,
    g_read_device := PySem.W.mg_of X G g_read_device,
    kb_read_device := kw_binds (ps := ["text"]) F_read_device fun _ _ _ _ _ _ us hl => match us, hl with | [_], _ => rfl,
    p_Device___eq := p_Device___eq,
    d_Device___eq := d_Device___eq,
    F_Device___eq := F_Device___eq,
    b_Device___eq := F_Device___eq.binds (ps := ["self", "other"]) fun _ _ _ _ _ _ us hl => match us, hl with | [_, _], _ => rfl,
    p__law_reads := p__law_reads,
    d__law_reads := d__law_reads,
    F__law_reads := F__law_reads,
    b__law_reads := F__law_reads.binds (ps := ["_law_text"]) fun _ _ _ _ _ _ us hl => match us, hl with | [_], _ => rfl,
    g__law_reads := PySem.W.mg_of X G g__law_reads,
    p__law_take := p__law_take,
    d__law_take := d__law_take,
    F__law_take := F__law_take,
    b__law_take := F__law_take.binds (ps := ["_law_box_here", "_law_many"]) fun _ _ _ _ _ _ us hl => match us, hl with | [_, _], _ => rfl,
    g__law_take := PySem.W.mg_of X G g__law_take,
    p__law_pick := p__law_pick,
    d__law_pick := d__law_pick,
    F__law_pick := F__law_pick,
    b__law_pick := F__law_pick.binds (ps := ["_law_box_here", "_law_some"]) fun _ _ _ _ _ _ us hl => match us, hl with | [_, _], _ => rfl,
    g__law_pick := PySem.W.mg_of X G g__law_pick,
    p__law_tables := p__law_tables,
    d__law_tables := d__law_tables,
    F__law_tables := F__law_tables,
    b__law_tables := F__law_tables.binds (ps := ["_law_box_here", "_law_most", "_law_signals"]) fun _ _ _ _ _ _ us hl => match us, hl with | [_, _, _], _ => rfl,
    g__law_tables := PySem.W.mg_of X G g__law_tables,
    p_device_text := p_device_text,
    d_device_text := d_device_text,
    F_device_text := F_device_text,
    b_device_text := F_device_text.binds (ps := ["device"]) fun _ _ _ _ _ _ us hl => match us, hl with | [_], _ => rfl,
    g_device_text := PySem.W.mg_of X G g_device_text,
    kb_device_text := kw_binds (ps := ["device"]) F_device_text fun _ _ _ _ _ _ us hl => match us, hl with | [_], _ => rfl,
    p__law_case_right := p__law_case_right,
    d__law_case_right := d__law_case_right,
    F__law_case_right := F__law_case_right,
    b__law_case_right := F__law_case_right.binds (ps := ["_law_box_here"]) fun _ _ _ _ _ _ us hl => match us, hl with | [_], _ => rfl,
    g__law_case_right := PySem.W.mg_of X G g__law_case_right,
    p__law_box := p__law_box,
    d__law_box := d__law_box,
    F__law_box := F__law_box,
    b__law_box := F__law_box.binds (ps := ["_law_script", "_law_k"]) fun _ _ _ _ _ _ us hl => match us, hl with | [_, _], _ => rfl,
    g__law_box := PySem.W.mg_of X G g__law_box,
    p_law := fa,
    d_law := d_law,
    F_law := F_law,
    b_law := F_law.binds (ps := ["_law_script"]) fun _ _ _ _ _ _ us hl => match us, hl with | [_], _ => rfl,
    g_law := PySem.W.mg_of X G g_law,
    z_abs := PySem.W.mg_none_of X G z_abs,
    z_all := PySem.W.mg_none_of X G z_all,
    z_bool := PySem.W.mg_none_of X G z_bool,
    z_enumerate := PySem.W.mg_none_of X G z_enumerate,
    z_int := PySem.W.mg_none_of X G z_int,
    z_isinstance := PySem.W.mg_none_of X G z_isinstance,
    z_len := PySem.W.mg_none_of X G z_len,
    z_list := PySem.W.mg_none_of X G z_list,
    z_range := PySem.W.mg_none_of X G z_range,
    z_str := PySem.W.mg_none_of X G z_str,
    z_tuple := PySem.W.mg_none_of X G z_tuple,
    z_zip := PySem.W.mg_none_of X G z_zip,
    t_FIGURES := t_FIGURES,
    k_FIGURES := PySem.W.mg_of X G k_FIGURES,
    t_MOST_STATES := t_MOST_STATES,
    k_MOST_STATES := PySem.W.mg_of X G k_MOST_STATES,
    t_SIGNALS := t_SIGNALS,
    k_SIGNALS := PySem.W.mg_of X G k_SIGNALS,
    g_BackError := PySem.W.mg_of X G a0,
    g_BadDevice := PySem.W.mg_of X G a1,
    g_BadText := PySem.W.mg_of X G a2,
    g_Device := PySem.W.mg_of X G a3,
    mk_Device := mk_Device,
    a_signals := fun c hc => ((List.mem_cons.mp hc).elim (fun e => by rw [e]; exact ⟨cl3, n_signals_3⟩) fun hc => absurd hc List.not_mem_nil),
    a_states := fun c hc => ((List.mem_cons.mp hc).elim (fun e => by rw [e]; exact ⟨cl3, n_states_3⟩) fun hc => absurd hc List.not_mem_nil),
    a_tables := fun c hc => ((List.mem_cons.mp hc).elim (fun e => by rw [e]; exact ⟨cl3, n_tables_3⟩) fun hc => absurd hc List.not_mem_nil),
    eq_Device___eq := eq_Device___eq,
    selO := fun a b r h => (by
        unfold selO at h
        split at h
        · cases h; exact ⟨ow3, ko_3_3⟩
        · cases h),
    q_BadDevice := q1,
    x_BadDevice := x1 mg (PySem.W.mg_none_of X G z_super),
    q_BadText := q2,
    x_BadText := x2 mg (PySem.W.mg_none_of X G z_super),
    s_BadText := fun c b h => (by
        unfold sel_BadText at h
        split at h
        · cases h; exact s_BadText_1
        · cases h; exact s_BadText_2
        · cases h),
    i_BackError := fun c b h => (by
        unfold sel_BackError at h
        split at h
        · cases h; exact ⟨vx_1, i_BackError_1⟩
        · cases h; exact ⟨vx_2, i_BackError_2⟩
        · cases h),
    i_BadDevice := fun c b h => (by
        unfold sel_BadDevice at h
        split at h
        · cases h; exact ⟨vx_1, i_BadDevice_1⟩
        · cases h; exact ⟨vx_2, i_BadDevice_2⟩
        · cases h),
    xf_at := fun c hc => ((List.mem_cons.mp hc).elim (fun e => by rw [e]; exact xf_at_1) fun hc => ((List.mem_cons.mp hc).elim (fun e => by rw [e]; exact xf_at_2) fun hc => absurd hc List.not_mem_nil)) }
  refine ⟨d_law, fun s v => ?_, fun base _ _ => ?_⟩
  · obtain ⟨oc, od, kV, doc, pm, an, cdv, ct, osl, rfl, lk, hcd⟩ := F_law.ex
    exact .of_eq rfl
  · unfold spL; rw [hc]; exact ok_law T
end K04
open PySem PySem.W PyProof.Rows
set_option maxRecDepth 100000 in
set_option maxHeartbeats 0 in
theorem PySem.Challenge.cw_backinstep_k04_texts_of_devices_holds : PySem.Challenge.rw_backinstep_k04_texts_of_devices.Holds := by
  w_on; o_law; k_head; (case hw => w_witness2)
  k_fill
  refine L2.walk_ofK (l := PySem.Challenge.rw_backinstep_k04_texts_of_devices) (n := 63) (k := 10) (x := "_law_script") (CX := L2.CX0) (sp := K04.spL) rfl (by decide) rfl ⟨rfl, by decide, by decide⟩ (fun w h Y => PySem.W.kIn_of Y) ?F (fun K H a ns hl hO hS => VM.law_sp (K04.pure_law ns hl) hO hS) (fun _ _ _ _ h => h)
  case F =>
    intro w mg fa h KX G hmg
    replace hmg : mg "law" = some (.ref fa) := hmg
    refine' K04.all_mk KX G hmg ?a0 ?a1 ?a2 ?a3 ?mk_Device ?eq_Device___eq ?g_is_sequence ?F_is_sequence ?g_is_integer ?F_is_integer ?g_is_number ?F_is_number ?g_is_table ?F_is_table ?F_Device___init ?g_is_text ?F_is_text ?g_read_count ?F_read_count ?g_read_device ?F_read_device ?F_Device___eq ?g__law_reads ?F__law_reads ?g__law_take ?F__law_take ?g__law_pick ?F__law_pick ?g__law_tables ?F__law_tables ?g_device_text ?F_device_text ?g__law_case_right ?F__law_case_right ?g__law_box ?F__law_box ?g_law ?F_law ?z_abs ?z_all ?z_bool ?z_enumerate ?z_int ?z_isinstance ?z_len ?z_list ?z_range ?z_str ?z_super ?z_tuple ?z_zip ?k_FIGURES ?k_MOST_STATES ?k_SIGNALS ?cl3 ?n_signals_3 ?n_states_3 ?n_tables_3 ?ow3 ?ko_3_3 ?x1 ?x2 ?s_BadText_1 ?s_BadText_2 ?vx_1 ?vx_2 ?i_BackError_1 ?i_BackError_2 ?i_BadDevice_1 ?i_BadDevice_2 ?xf_at_1 ?xf_at_2
    (case a0 => first | (k_is) | exact FAILED_a0)
    (case a1 => first | (k_is) | exact FAILED_a1)
    (case a2 => first | (k_is) | exact FAILED_a2)
    (case a3 => first | (k_is) | exact FAILED_a3)
    (case mk_Device => first | (exact ⟨by k_is, by k_is, by k_is, by k_is⟩) | exact FAILED_mk_Device)
    (case eq_Device___eq => first | (exact ⟨by k_is, by k_is, by k_is, by k_is⟩) | exact FAILED_eq_Device___eq)
    (case g_is_sequence => first | (k_is) | exact FAILED_g_is_sequence)
    (case F_is_sequence => first | (exact L2.fun_mk (by k_is) (by k_is) (by k_is)) | exact FAILED_F_is_sequence)
    (case g_is_integer => first | (k_is) | exact FAILED_g_is_integer)
    (case F_is_integer => first | (exact L2.fun_mk (by k_is) (by k_is) (by k_is)) | exact FAILED_F_is_integer)
    (case g_is_number => first | (k_is) | exact FAILED_g_is_number)
    (case F_is_number => first | (exact L2.fun_mk (by k_is) (by k_is) (by k_is)) | exact FAILED_F_is_number)
    (case g_is_table => first | (k_is) | exact FAILED_g_is_table)
    (case F_is_table => first | (exact L2.fun_mk (by k_is) (by k_is) (by k_is)) | exact FAILED_F_is_table)
    (case F_Device___init => first | (exact L2.fun_mk (by k_is) (by k_is) (by k_is)) | exact FAILED_F_Device___init)
    (case g_is_text => first | (k_is) | exact FAILED_g_is_text)
    (case F_is_text => first | (exact L2.fun_mk (by k_is) (by k_is) (by k_is)) | exact FAILED_F_is_text)
    (case g_read_count => first | (k_is) | exact FAILED_g_read_count)
    (case F_read_count => first | (exact L2.fun_mk (by k_is) (by k_is) (by k_is)) | exact FAILED_F_read_count)
    (case g_read_device => first | (k_is) | exact FAILED_g_read_device)
    (case F_read_device => first | (exact L2.fun_mk (by k_is) (by k_is) (by k_is)) | exact FAILED_F_read_device)
    (case F_Device___eq => first | (exact L2.fun_mk (by k_is) (by k_is) (by k_is)) | exact FAILED_F_Device___eq)
    (case g__law_reads => first | (k_is) | exact FAILED_g__law_reads)
    (case F__law_reads => first | (exact L2.fun_mk (by k_is) (by k_is) (by k_is)) | exact FAILED_F__law_reads)
    (case g__law_take => first | (k_is) | exact FAILED_g__law_take)
    (case F__law_take => first | (exact L2.fun_mk (by k_is) (by k_is) (by k_is)) | exact FAILED_F__law_take)
    (case g__law_pick => first | (k_is) | exact FAILED_g__law_pick)
    (case F__law_pick => first | (exact L2.fun_mk (by k_is) (by k_is) (by k_is)) | exact FAILED_F__law_pick)
    (case g__law_tables => first | (k_is) | exact FAILED_g__law_tables)
    (case F__law_tables => first | (exact L2.fun_mk (by k_is) (by k_is) (by k_is)) | exact FAILED_F__law_tables)
    (case g_device_text => first | (k_is) | exact FAILED_g_device_text)
    (case F_device_text => first | (exact L2.fun_mk (by k_is) (by k_is) (by k_is)) | exact FAILED_F_device_text)
    (case g__law_case_right => first | (k_is) | exact FAILED_g__law_case_right)
    (case F__law_case_right => first | (exact L2.fun_mk (by k_is) (by k_is) (by k_is)) | exact FAILED_F__law_case_right)
    (case g__law_box => first | (k_is) | exact FAILED_g__law_box)
    (case F__law_box => first | (exact L2.fun_mk (by k_is) (by k_is) (by k_is)) | exact FAILED_F__law_box)
    (case g_law => first | (k_is) | exact FAILED_g_law)
    (case F_law => first | (exact L2.fun_mk (by k_is) (by k_is) (by k_is)) | exact FAILED_F_law)
    (case z_abs => first | (k_is) | exact FAILED_z_abs)
    (case z_all => first | (k_is) | exact FAILED_z_all)
    (case z_bool => first | (k_is) | exact FAILED_z_bool)
    (case z_enumerate => first | (k_is) | exact FAILED_z_enumerate)
    (case z_int => first | (k_is) | exact FAILED_z_int)
    (case z_isinstance => first | (k_is) | exact FAILED_z_isinstance)
    (case z_len => first | (k_is) | exact FAILED_z_len)
    (case z_list => first | (k_is) | exact FAILED_z_list)
    (case z_range => first | (k_is) | exact FAILED_z_range)
    (case z_str => first | (k_is) | exact FAILED_z_str)
    (case z_super => first | (k_is) | exact FAILED_z_super)
    (case z_tuple => first | (k_is) | exact FAILED_z_tuple)
    (case z_zip => first | (k_is) | exact FAILED_z_zip)
    (case k_FIGURES => first | (k_is) | exact FAILED_k_FIGURES)
    (case k_MOST_STATES => first | (k_is) | exact FAILED_k_MOST_STATES)
    (case k_SIGNALS => first | (k_is) | exact FAILED_k_SIGNALS)
    (case cl3 => first | (exact ⟨by k_is, by k_is, by k_is, by k_is⟩) | exact FAILED_cl3)
    (case n_signals_3 => first | (exact (show PySem.W.findIn _ _ _ = some none by k_is)) | exact FAILED_n_signals_3)
    (case n_states_3 => first | (exact (show PySem.W.findIn _ _ _ = some none by k_is)) | exact FAILED_n_states_3)
    (case n_tables_3 => first | (exact (show PySem.W.findIn _ _ _ = some none by k_is)) | exact FAILED_n_tables_3)
    (case ow3 => first | (exact ⟨⟨by k_is, by k_is, by k_is, by k_is⟩, by k_is, by k_is, by k_is, by k_is⟩) | exact FAILED_ow3)
    (case ko_3_3 => first | (kit_is) | exact FAILED_ko_3_3)
    (case x1 => first | (exact fun mg hs => VM.err_txt K04.is_BadDevice (by k_is) (by rfl) (by k_is) (by k_is) (by k_is) (by k_is) (by k_is) (by k_is) (by k_is) (by k_is) (by k_is) (by ks_is) (by k_is) hs (by decide +kernel) (by k_is) (by k_is) (by k_is) (by rfl) (by decide +kernel) (by k_is)) | exact FAILED_x1)
    (case x2 => first | (exact fun mg hs => VM.err_txt K04.is_BadText (by k_is) (by rfl) (by k_is) (by k_is) (by k_is) (by k_is) (by k_is) (by k_is) (by k_is) (by k_is) (by k_is) (by ks_is) (by k_is) hs (by decide +kernel) (by k_is) (by k_is) (by k_is) (by rfl) (by decide +kernel) (by k_is)) | exact FAILED_x2)
    (case s_BadText_1 => first | (kts_exm) | exact FAILED_s_BadText_1)
    (case s_BadText_2 => first | (kts_exm) | exact FAILED_s_BadText_2)
    (case vx_1 => first | (exact ⟨by k_is, by k_is, by k_is, by k_is, by k_is, by k_is, by k_is, by k_is⟩) | exact FAILED_vx_1)
    (case vx_2 => first | (exact ⟨by k_is, by k_is, by k_is, by k_is, by k_is, by k_is, by k_is, by k_is⟩) | exact FAILED_vx_2)
    (case i_BackError_1 => first | (kit_is) | exact FAILED_i_BackError_1)
    (case i_BackError_2 => first | (kit_is) | exact FAILED_i_BackError_2)
    (case i_BadDevice_1 => first | (kit_is) | exact FAILED_i_BadDevice_1)
    (case i_BadDevice_2 => first | (kit_is) | exact FAILED_i_BadDevice_2)
    (case xf_at_1 => first | (exact ⟨⟨by k_is, by k_is, by k_is, by k_is⟩, by k_is⟩) | exact FAILED_xf_at_1)
    (case xf_at_2 => first | (exact ⟨⟨by k_is, by k_is, by k_is, by k_is⟩, by k_is⟩) | exact FAILED_xf_at_2)
