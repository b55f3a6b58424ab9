import PyProof.Rows.All
import Wide.All
import OpenK.AllK
import Wide.FinOn
import HandS.ForMost
import HandS.ForExc
import HandS.ExcInit
import HandS.ExcInitHot
import HandS.ExcIs
import HandS.ExcField
import HandS.HotCalls
import HandS.IsInst
import HandS.Walk
import HandS.Wide
import HandS.CallSlots
import HandS.TryOnly
import HandS.RaiseMore
import HandS.ListEq
import HandS.DeepEq
import HandS.TupAny
import HandS.Style
import HandS.Flow
import HandS.HeadHook2
import HandS.Head2
import HandS.HeadEnd
import HandS.SortKw
import KE.DatumOrd
import HandS.Text
import KE.KExcIs
import KE.KStateDown
import HandS.Head0
import HandS.Head1
import HandS.HeadHook1
import PySem.Challenge.RW_wellrun_k78_whole_least_lengths
import KE.KEqDeep
set_option Elab.async false
set_option linter.all false
/-! PmA: a small pure reading of the texts: plain data, slots, results; the combinators that a def's body is made of. No heap here. -/
namespace Pm
/-- plain data; hnd i: the i-th object of the store (a list that may change) -/
inductive D where
  | non | bl (b : Bool) | int (i : Int) | str (s : PySem.Str) | lst (l : List D) | tup (l : List D) | hnd (i : Nat) | ty (n : String)
/-- a slot of a frame: not set, a value, a list of its own (it alone knows it), a list lent by the caller (ro: a list that is only read) -/
inductive Sl where
  | un | val (d : D) | own (l : List D) | bor (l : List D) | ro (l : List D) | exc (a dd : PySem.Addr) (fs : List (PySem.Str × D))
structure S where
  env : List Sl
  mem : List (List D)
/-- what an expression gives: data, a new list that nobody else knows, the list of a slot -/
inductive R where
  | d (x : D) | fr (l : List D) | slt (i : Nat)
structure Xn where
  cls : Nat
  fs : List (PySem.Str × D)
inductive Ou (α : Type) where
  | ok (a : α) (s : S) | ex (x : Xn) (s : S) | st
def Ou.bind {α β : Type} (o : Ou α) (f : α → S → Ou β) : Ou β := match o with
  | .ok a s => f a s
  | .ex x s => .ex x s
  | .st => .st
@[simp] theorem Ou.bind_ok {α β : Type} (a : α) (s : S) (f : α → S → Ou β) : (Ou.ok a s).bind f = f a s := rfl
@[simp] theorem Ou.bind_ex {α β : Type} (x : Xn) (s : S) (f : α → S → Ou β) : (Ou.ex x s : Ou α).bind f = .ex x s := rfl
@[simp] theorem Ou.bind_st {α β : Type} (f : α → S → Ou β) : (Ou.st : Ou α).bind f = .st := rfl
abbrev Me := S → Ou R
abbrev Mt := S → Ou Bool
abbrev Ma := S → Ou (List R)
inductive Fl where
  | nx | rt (r : R) | bk | ct
abbrev Ms := S → Ou Fl
/-- the size that no list of ours passes -/
def LIM : Nat := 1000000
/-- the list that a result shows -/
def S.lv (s : S) : R → Option (List D)
  | .d (.lst l) => some l
  | .fr l => some l
  | .slt i => (match s.env[i]? with
    | some (.own l) => some l
    | some (.bor l) => some l
    | _ => none)
  | _ => none
/-- .. that may be read -/
def S.lr (s : S) : R → Option (List D)
  | .d (.lst l) => some l
  | .fr l => some l
  | .slt i => (match s.env[i]? with
    | some (.own l) => some l
    | some (.bor l) => some l
    | some (.ro l) => some l
    | _ => none)
  | _ => none
/-- data alone (a list of a slot is none) -/
def R.toD : R → Option D
  | .d x => some x
  | .fr l => some (.lst l)
  | .slt _ => none
def toDs : List R → Option (List D)
  | [] => some []
  | r :: rs => (match r.toD, toDs rs with
    | some d, some ds => some (d :: ds)
    | _, _ => none)
/-! ### expressions -/
def mVar (i : Nat) : Me := fun s => match s.env[i]? with
  | some (.val d) => .ok (.d d) s
  | some (.own _) => .ok (.slt i) s
  | some (.bor _) => .ok (.slt i) s
  | some (.ro _) => .ok (.slt i) s
  | some (.exc _ _ _) => .ok (.slt i) s
  | _ => .st
def mC (d : D) : Me := fun s => .ok (.d d) s
def ofR (o : Option R) (s : S) : Ou R := match o with
  | some r => .ok r s
  | none => .st
@[simp] theorem ofR_some (r : R) (s : S) : ofR (some r) s = .ok r s := rfl
@[simp] theorem ofR_none (s : S) : ofR none s = .st := rfl
def mBin (f : S → R → R → Option R) (a b : Me) : Me := fun s => (a s).bind fun x s1 => (b s1).bind fun y s2 => ofR (f s2 x y) s2
def mUn (f : S → R → Option R) (a : Me) : Me := fun s => (a s).bind fun x s1 => ofR (f s1 x) s1
def aNil : Ma := fun s => .ok [] s
def aCons (a : Me) (b : Ma) : Ma := fun s => (a s).bind fun x s1 => (b s1).bind fun xs s2 => .ok (x :: xs) s2
def mTup (a : Ma) : Me := fun s => (a s).bind fun rs s1 => match toDs rs with
  | some ds => if ds.length ≤ LIM then .ok (.d (.tup ds)) s1 else .st
  | none => .st
def mLst (a : Ma) : Me := fun s => (a s).bind fun rs s1 => match toDs rs with
  | some ds => if ds.length ≤ LIM then .ok (.fr ds) s1 else .st
  | none => .st
/-- a list display whose list becomes an object of the store -/
def mNew (a : Ma) : Me := fun s => (a s).bind fun rs s1 => match toDs rs with
  | some ds => if ds.length ≤ LIM then .ok (.d (.hnd s1.mem.length)) { s1 with mem := s1.mem ++ [ds] } else .st
  | none => .st
/-- a built-in's call by values -/
def mB (f : S → List R → Option R) (a : Ma) : Me := fun s => (a s).bind fun rs s1 => ofR (f s1 rs) s1
/-- arguments as a def gets them -/
inductive Arg where
  | val (d : D) | bor (l : List D) | ro (l : List D) | exc (a dd : PySem.Addr) (fs : List (PySem.Str × D))
def R.arg (s : S) : R → Option Arg
  | .d x => some (.val x)
  | .fr l => some (.val (.lst l))
  | .slt i => (match s.env[i]? with
    | some (.own l) => some (.bor l)
    | some (.bor l) => some (.bor l)
    | some (.ro l) => some (.ro l)
    | some (.exc a dd fs) => some (.exc a dd fs)
    | _ => none)
def toArgs (s : S) : List R → Option (List Arg)
  | [] => some []
  | r :: rs => (match r.arg s, toArgs s rs with
    | some a, some as => some (a :: as)
    | _, _ => none)
/-- what a call gives back -/
inductive Fo where
  | ok (r : R) (m : List (List D)) | ex (x : Xn) (m : List (List D)) | st
abbrev Fns := Nat → List Arg → List (List D) → Fo
def fromFo (o : Fo) (s : S) : Ou R := match o with
  | .ok (.slt _) _ => .st
  | .ok r m => .ok r { s with mem := m }
  | .ex x m => .ex x { s with mem := m }
  | .st => .st
def mCall (F : Fns) (f : Nat) (a : Ma) : Me := fun s => (a s).bind fun rs s1 => match toArgs s1 rs with
  | some as => fromFo (F f as s1.mem) s1
  | none => .st
/-! ### tests -/
def asB (o : Ou R) : Ou Bool := match o with
  | .ok (.d (.bl b)) s => .ok b s
  | .ok _ _ => .st
  | .ex x s => .ex x s
  | .st => .st
@[simp] theorem asB_bl (b : Bool) (s : S) : asB (.ok (.d (.bl b)) s) = .ok b s := rfl
@[simp] theorem asB_ex (x : Xn) (s : S) : asB (.ex x s) = .ex x s := rfl
@[simp] theorem asB_st : asB .st = .st := rfl
def tV (a : Me) : Mt := fun s => asB (a s)
def tAnd (a b : Mt) : Mt := fun s => (a s).bind fun c s1 => if c = true then b s1 else .ok false s1
def tOr (a b : Mt) : Mt := fun s => (a s).bind fun c s1 => if c = true then .ok true s1 else b s1
def tNot (a : Mt) : Mt := fun s => (a s).bind fun c s1 => .ok (!c) s1
/-- the values of and, or, not -/
def mAnd (a b : Me) : Me := fun s => (asB (a s)).bind fun c s1 => if c = true then b s1 else .ok (.d (.bl false)) s1
def mOr (a b : Me) : Me := fun s => (asB (a s)).bind fun c s1 => if c = true then .ok (.d (.bl true)) s1 else b s1
def mNot (a : Me) : Me := fun s => (asB (a s)).bind fun c s1 => .ok (.d (.bl (!c))) s1
def mIf (c : Mt) (a b : Me) : Me := fun s => (c s).bind fun k s1 => if k = true then a s1 else b s1
/-! ### targets -/
inductive Tg where
  | name (i : Nat) | tup (is : List Nat) | none
def setVal (s : S) (i : Nat) (x : Sl) : S := { s with env := s.env.set i x }
def setVals (s : S) : List Nat → List D → Option S
  | [], [] => some s
  | i :: is, d :: ds => setVals (setVal s i (.val d)) is ds
  | _, _ => .none
def Tg.put (t : Tg) (d : D) (s : S) : Option S := match t with
  | .name i => some (setVal s i (.val d))
  | .tup is => (match d with
    | .tup ds => setVals s is ds
    | _ => .none)
  | .none => .none
/-! ### what is walked: the items, and the slot that is locked meanwhile -/
abbrev Mi := S → Ou (List D)
def liftI (o : Ou R) (f : R → S → Option (List D)) : Ou (List D) := o.bind fun r s => match f r s with
  | some l => .ok l s
  | none => .st
/-- a list that does not change meanwhile -/
def S.lstOf (s : S) : R → Option (List D)
  | .d (.lst l) => some l
  | .fr l => some l
  | .slt i => (match s.env[i]? with
    | some (.bor l) => some l
    | some (.ro l) => some l
    | _ => none)
  | _ => none
def tupOf : R → Option (List D)
  | .d (.tup l) => some l
  | _ => none
def iLst (a : Me) : Mi := fun s => liftI (a s) fun r s1 => s1.lstOf r
def iTup (a : Me) : Mi := fun s => liftI (a s) fun r _ => tupOf r
def ivs (lo : Int) (n : Nat) : List D := (List.range n).map fun (k : Nat) => D.int (lo + (k : Int))
def iR1 (a : Me) : Mi := fun s => liftI (a s) fun r _ => match r with
  | .d (.int j) => if j ≤ 100000000 ∧ -100000000 ≤ j then some (ivs 0 j.toNat) else none
  | _ => none
def iR2 (a b : Me) : Mi := fun s => (a s).bind fun x s1 => liftI (b s1) fun y _ => match x, y with
  | .d (.int i), .d (.int j) => if (j ≤ 100000000 ∧ -100000000 ≤ j) ∧ (i ≤ 100000000 ∧ -100000000 ≤ i) then some (ivs i (j - i).toNat) else none
  | _, _ => none
def enumFrom (n : Nat) : List D → List D
  | [] => []
  | x :: xs => .tup [.int (n : Int), x] :: enumFrom (n + 1) xs
/-- enumerate of a list -/
def iEnum (a : Me) : Mi := fun s => liftI (a s) fun r s1 => (s1.lstOf r).map (enumFrom 0)
/-! ### comprehensions -/
def wipeE (e : List Sl) : List Nat → List Sl
  | [] => e
  | i :: is => (wipeE e is).set i .un
def wipe (s : S) (is : List Nat) : S := { s with env := wipeE s.env is }
def compL (own : List Nat) (tg : Tg) (c : Mt) (e : Me) : List D → S → List D → Ou (List D)
  | [], s, acc => .ok acc s
  | x :: xs, s, acc => (match tg.put x s with
    | none => .st
    | some s1 => (c s1).bind fun b s2 => if b = true then (e s2).bind fun r s3 => (match r.toD with
        | some d => if acc.length < LIM then compL own tg c e xs (wipe s3 own) (acc ++ [d]) else .st
        | none => .st) else compL own tg c e xs (wipe s2 own) acc)
def tYes : Mt := fun s => .ok true s
def noEx {α : Type} (o : Ou α) : Ou α := match o with
  | .ex _ _ => .st
  | o => o
def Tg.slots : Tg → List Nat
  | .name i => [i]
  | .tup is => is
  | .none => []
def isUn (o : Option Sl) : Bool := match o with
  | some .un => true
  | none => true
  | _ => false
def notOwn (o : Option Sl) : Bool := match o with
  | some (.own _) => false
  | _ => true
/-- the slots of is as they stand in e1 -/
def restE (e e1 : List Sl) : List Nat → List Sl
  | [] => e
  | i :: is => (match e1[i]? with
    | some b => (restE e e1 is).set i b
    | none => restE e e1 is)
/-- [e for tg in src if c]; own: the slots of its names -/
def mComp (own : List Nat) (tg : Tg) (src : Mi) (c : Mt) (e : Me) : Me := fun s => (src s).bind fun items s1 =>
  if (own.all fun i => notOwn s1.env[i]?) = true ∧ (tg.slots.all fun i => own.contains i) = true then
    noEx ((compL own tg c e items (wipe s1 own) []).bind fun l s2 => .ok (.fr l) { s2 with env := restE s2.env s1.env own }) else .st
/-! ### statements -/
def sNx : Ms := fun s => .ok .nx s
def sSeq (a b : Ms) : Ms := fun s => (a s).bind fun f s1 => match f with
  | .nx => b s1
  | f => .ok f s1
def sBk : Ms := fun s => .ok .bk s
def sCt : Ms := fun s => .ok .ct s
def sRet (a : Me) : Ms := fun s => (a s).bind fun r s1 => .ok (.rt r) s1
def sRetN : Ms := fun s => .ok (.rt (.d .non)) s
def sDrop (a : Me) : Ms := fun s => (a s).bind fun _ s1 => .ok .nx s1
/-- x = e: a value -/
def sSet (i : Nat) (a : Me) : Ms := fun s => (a s).bind fun r s1 => match r.toD with
  | some d => .ok .nx (setVal s1 i (.val d))
  | none => .st
/-- x = e: a new list of the frame's own -/
def sOwn (i : Nat) (a : Me) : Ms := fun s => (a s).bind fun r s1 => match r with
  | .fr l => .ok .nx (setVal s1 i (.own l))
  | _ => .st
/-- x, y = e -/
def sUnp (is : List Nat) (a : Me) : Ms := fun s => (a s).bind fun r s1 => match r with
  | .d (.tup ds) => (match setVals s1 is ds with
    | some s2 => .ok .nx s2
    | none => .st)
  | _ => .st
/-- a list of the frame's own becomes a value -/
def frz (s : S) (i : Nat) : S := match s.env[i]? with
  | some (.own l) => setVal s i (.val (.lst l))
  | _ => s
def sFrz (is : List Nat) (a : Ms) : Ms := fun s => a (is.foldl frz s)
def sIf (c : Mt) (a b : Ms) : Ms := fun s => (c s).bind fun k s1 => if k = true then a s1 else b s1
def ixN (n : Nat) (i : Int) : Option Nat := if 0 ≤ i then (if i < n then some i.toNat else none) else if -(n : Int) ≤ i then some (i + n).toNat else none
/-- a change of the list of slot i, or of the store's object that it names -/
def chg (s : S) (o : R) (f : List D → Option (List D)) : Option S := match o with
  | .slt i => (match s.env[i]? with
    | some (.own l) => (f l).map fun l' => setVal s i (.own l')
    | _ => none)
  | .d (.hnd k) => (match s.mem[k]? with
    | some l => (f l).map fun l' => { s with mem := s.mem.set k l' }
    | none => none)
  | _ => none
def setAt (k : Int) (d : D) (l : List D) : Option (List D) := (ixN l.length k).map fun j => l.set j d
/-- o[i] = e -/
def sSetIx (o i e : Me) : Ms := fun s => (e s).bind fun r s1 => (o s1).bind fun ro s2 => (i s2).bind fun ri s3 => match r.toD, ri with
  | some d, .d (.int k) => (match chg s3 ro (setAt k d) with
    | some s4 => .ok .nx s4
    | none => .st)
  | _, _ => .st
/-- o.append(e) -/
def sApp (o e : Me) : Ms := fun s => (o s).bind fun ro s1 => match chg s1 ro some with
  | none => .st
  | some _ => (e s1).bind fun r s2 => match r.toD with
    | some d => (match chg s2 ro (fun l => if l.length < LIM then some (l ++ [d]) else none) with
      | some s3 => .ok .nx s3
      | none => .st)
    | none => .st
/-- o.extend(e), e a new list -/
def sExt (o e : Me) : Ms := fun s => (o s).bind fun ro s1 => match chg s1 ro some with
  | none => .st
  | some _ => (e s1).bind fun r s2 => match r with
    | .fr l2 => (match chg s2 ro (fun l => if l.length + l2.length ≤ LIM then some (l ++ l2) else none) with
      | some s3 => .ok .nx s3
      | none => .st)
    | _ => .st
/-- x.pop() of a list of the frame's own -/
def mPop (o : Me) : Me := fun s => (o s).bind fun ro s1 => match ro with
  | .slt i => (match s1.env[i]? with
    | some (.own l) => (match l.getLast? with
      | some d => .ok (.d d) (setVal s1 i (.own l.dropLast))
      | none => .st)
    | _ => .st)
  | _ => .st
/-- x.pop(k) -/
def mPopAt (o e : Me) : Me := fun s => (o s).bind fun ro s1 => match chg s1 ro some with
  | none => .st
  | some _ => (e s1).bind fun rk s2 => match ro, rk with
    | .slt i, .d (.int k) => (match s2.env[i]? with
      | some (.own l) => (if k < 0 ∨ LIM < k then .st else match l[k.toNat]? with
        | some d => .ok (.d d) (setVal s2 i (.own (l.eraseIdx k.toNat)))
        | none => .st)
      | _ => .st)
    | _, _ => .st
/-- o[i] += e and its like; f: what the operator makes of the old item and e -/
def sAugIx (f : S → R → R → Option R) (o i e : Me) : Ms := fun s => (o s).bind fun ro s1 => (i s1).bind fun ri s2 => match ri, s2.lv ro with
  | .d (.int k), some l => (match (ixN l.length k).bind fun j => l[j]? with
    | some x => (e s2).bind fun r s3 => (match f s3 (.d x) r with
      | some z => (match z.toD with
        | some d => (match chg s3 ro (setAt k d) with
          | some s4 => .ok .nx s4
          | none => .st)
        | none => .st)
      | none => .st)
    | none => .st)
  | _, _ => .st
def sAug (f : S → R → R → Option R) (i : Nat) (e : Me) : Ms := fun s => match s.env[i]? with
  | some (.val x) => (e s).bind fun r s1 => (match f s1 (.d x) r with
    | some z => (match z.toD with
      | some d => .ok .nx (setVal s1 i (.val d))
      | none => .st)
    | none => .st)
  | _ => .st
/-- raise C(e) -/
def sRaise (c : Nat) (f : PySem.Str) (e : Me) : Ms := fun s => (e s).bind fun r s1 => match r.toD with
  | some d => .ex ⟨c, [(f, d)]⟩ s1
  | none => .st
/-- try: body / except (the text's root class) as e: name = ..; return ['raised', name, the fields]; nm: the classes' names -/
def sTryN (nm : Nat → Option PySem.Str) (ie iname : Nat) (body : Ms) : Ms := fun s => match body s with
  | .ex x s' => (match nm x.cls with
    | some n => if isUn s'.env[ie]? = true ∧ isUn s'.env[iname]? = true then .ok (.rt (.fr [.str "raised", .str n, .tup (x.fs.map (·.2))])) s' else .st
    | none => .st)
  | o => o
/-! ### loops -/
def forL (tg : Tg) (body : Ms) : List D → S → Ou Fl
  | [], s => .ok .nx s
  | x :: xs, s => (match tg.put x s with
    | none => .st
    | some s1 => (body s1).bind fun f s2 => match f with
      | .nx => forL tg body xs s2
      | .ct => forL tg body xs s2
      | .bk => .ok .nx s2
      | .rt r => .ok (.rt r) s2)
def sFor (tg : Tg) (src : Mi) (body : Ms) : Ms := fun s => (src s).bind fun items s1 => forL tg body items s1
def whileL (c : Mt) (body : Ms) : Nat → S → Ou Fl
  | 0, _ => .st
  | n + 1, s => (c s).bind fun k s1 => if k = true then (body s1).bind fun f s2 => (match f with
      | .nx => whileL c body n s2
      | .ct => whileL c body n s2
      | .bk => .ok .nx s2
      | .rt r => .ok (.rt r) s2) else .ok .nx s1
def sWhile (fuel : Nat) (c : Mt) (body : Ms) : Ms := fun s => whileL c body fuel s
def sNev : Ms := fun _ => .st
def mNev : Me := fun _ => .st
def tNev : Mt := fun _ => .st
/-! ### defs -/
structure Fn where
  pars : Nat
  slots : Nat
  body : Fns → Ms
def startEnv (as : List Arg) (n : Nat) : List Sl := as.map (fun a => match a with
  | .val d => Sl.val d
  | .bor l => Sl.bor l
  | .ro l => Sl.ro l
  | .exc a dd fs => Sl.exc a dd fs) ++ List.replicate (n - as.length) .un
def retOf (o : Ou Fl) : Fo := match o with
  | .ok .nx s => .ok (.d .non) s.mem
  | .ok (.rt (.d x)) s => .ok (.d x) s.mem
  | .ok (.rt (.fr l)) s => .ok (.fr l) s.mem
  | .ok (.rt (.slt i)) s => (match s.env[i]? with
    | some (.own l) => .ok (.fr l) s.mem
    | _ => .st)
  | .ex x s => .ex x s.mem
  | _ => .st
def runFn (fn : Fn) (F : Fns) (as : List Arg) (m : List (List D)) : Fo :=
  if as.length = fn.pars ∧ fn.pars ≤ fn.slots then retOf (fn.body F { env := startEnv as fn.slots, mem := m }) else .st
def FF (tab : Nat → Option Fn) : Nat → Fns
  | 0 => fun _ _ _ => .st
  | n + 1 => fun f as m => match tab f with
    | some fn => runFn fn (FF tab n) as m
    | none => .st
end Pm

set_option Elab.async false
set_option linter.all false
set_option maxRecDepth 100000
set_option maxHeartbeats 4000000
/-! PmB: what the plain data stand for over the abstract heap; the readings; the world and how it grows. -/
namespace Pm
open PySem L2
/-- adr: where the store's objects stand; I: what will not change any more; O: the lists of the frame's own; H: the heap -/
structure Wd where
  adr : List Addr
  I : Addr → Prop
  O : Addr → Prop
  H : Hp
structure Up (w w' : Wd) : Prop where
  adr : ∃ l, w'.adr = w.adr ++ l
  new : ∀ a, a ∈ w'.adr → a ∈ w.adr ∨ w.H a = none
  im : ∀ a, w.I a → w'.I a
  fz : ∀ a, w'.I a → w.I a ∨ w.H a = none ∨ w.O a
  ow : ∀ a, w'.O a → w.O a ∨ w.H a = none
  keep : ∀ a o, w.H a = some o → a ∉ w.adr → ¬ w.O a → w'.H a = some o
  dom : ∀ a, w'.H a = none → w.H a = none
theorem Up.refl (w : Wd) : Up w w := ⟨⟨[], by simp⟩, fun _ h => .inl h, fun _ h => h, fun _ h => .inl h, fun _ h => .inl h, fun _ _ h _ _ => h, fun _ h => h⟩
theorem Up.trans {w w1 w2 : Wd} (u : Up w w1) (v : Up w1 w2) : Up w w2 where
  adr := by
    obtain ⟨l, e⟩ := u.adr
    obtain ⟨l', e'⟩ := v.adr
    exact ⟨l ++ l', by rw [e', e, List.append_assoc]⟩
  new := fun a h => by
    rcases v.new a h with h | h
    · exact u.new a h
    · exact .inr (u.dom a h)
  im := fun a h => v.im a (u.im a h)
  fz := fun a h => by
    rcases v.fz a h with h | h | h
    · exact u.fz a h
    · exact .inr (.inl (u.dom a h))
    · rcases u.ow a h with h | h
      · exact .inr (.inr h)
      · exact .inr (.inl h)
  ow := fun a h => by
    rcases v.ow a h with h | h
    · exact u.ow a h
    · exact .inr (u.dom a h)
  keep := fun a o h ha ho => by
    refine v.keep a o (u.keep a o h ha ho) (fun z => ?_) (fun z => ?_)
    · rcases u.new a z with z | z
      · exact ha z
      · rw [z] at h; cases h
    · rcases u.ow a z with z | z
      · exact ho z
      · rw [z] at h; cases h
  dom := fun a h => u.dom a (v.dom a h)

/-- a tuple of the written part -/
def TupK (K : PySem.W.Frag) (a : Addr) (xs : List V) : Prop :=
  ∃ (o : Obj) (its : Array Value) (n : Nat), K.lookup a = some o ∧ o.cls = .type "tuple" ∧ o.data = .seq its n ∧ its.size ≤ sizeLine ∧ Vals xs its.toList
def LstK (K : PySem.W.Frag) (a : Addr) (xs : List V) : Prop :=
  ∃ (o : Obj) (its : Array Value) (n : Nat), K.lookup a = some o ∧ o.cls = .type "list" ∧ o.dict = none ∧ o.data = .seq its n ∧ its.size ≤ sizeLine ∧ Vals xs its.toList
mutual
inductive Rep (K : PySem.W.Frag) (w : Wd) : V → D → Prop where
  | non : Rep K w .non .non
  | bl (b : Bool) : Rep K w (.bl b) (.bl b)
  | int (i : Int) : Rep K w (.int i) (.int i)
  | str (x : Str) : Rep K w (.str x) (.str x)
  | lst {a : Addr} {vs : List V} {l : List D} (i : w.I a) (h : w.H a = some (.lst vs)) (r : Reps K w vs l) : Rep K w (.ref a) (.lst l)
  | tup {a : Addr} {vs : List V} {l : List D} (i : w.I a) (h : w.H a = some (.tup vs)) (r : Reps K w vs l) : Rep K w (.ref a) (.tup l)
  | tupK {a : Addr} {vs : List V} {l : List D} (h : TupK K a vs) (r : Reps K w vs l) : Rep K w (.ref a) (.tup l)
  | hnd {a : Addr} {i : Nat} (h : w.adr[i]? = some a) : Rep K w (.ref a) (.hnd i)
  | ty (n : String) : Rep K w (.ty n) (.ty n)
inductive Reps (K : PySem.W.Frag) (w : Wd) : List V → List D → Prop where
  | nil : Reps K w [] []
  | cons {v : V} {d : D} {vs : List V} {l : List D} (h : Rep K w v d) (r : Reps K w vs l) : Reps K w (v :: vs) (d :: l)
end
/-- what Rep needs of a later world -/
structure Ext (w w' : Wd) : Prop where
  adr : ∃ l, w'.adr = w.adr ++ l
  im : ∀ a, w.I a → w'.I a
  keep : ∀ a o, w.I a → w.H a = some o → w'.H a = some o
theorem Ext.refl (w : Wd) : Ext w w := ⟨⟨[], by simp⟩, fun _ h => h, fun _ _ _ h => h⟩
mutual
theorem Rep.ext {K : PySem.W.Frag} {w w' : Wd} (e : Ext w w') : ∀ {v : V} {d : D}, Rep K w v d → Rep K w' v d
  | _, _, .non => .non
  | _, _, .bl b => .bl b
  | _, _, .int i => .int i
  | _, _, .str x => .str x
  | _, _, .ty n => .ty n
  | _, _, .lst i h r => .lst (e.im _ i) (e.keep _ _ i h) (Reps.ext e r)
  | _, _, .tup i h r => .tup (e.im _ i) (e.keep _ _ i h) (Reps.ext e r)
  | _, _, .tupK h r => .tupK h (Reps.ext e r)
  | _, _, .hnd h => .hnd (by
      obtain ⟨l, q⟩ := e.adr
      rw [q, List.getElem?_append_left (List.getElem?_eq_some_iff.mp h).1]
      exact h)
theorem Reps.ext {K : PySem.W.Frag} {w w' : Wd} (e : Ext w w') : ∀ {vs : List V} {l : List D}, Reps K w vs l → Reps K w' vs l
  | _, _, .nil => .nil
  | _, _, .cons h r => .cons (Rep.ext e h) (Reps.ext e r)
end
theorem Reps.length {K : PySem.W.Frag} {w : Wd} : ∀ {vs : List V} {l : List D}, Reps K w vs l → vs.length = l.length
  | _, _, .nil => rfl
  | _, _, .cons _ r => by simp [Reps.length r]
theorem Reps.at {K : PySem.W.Frag} {w : Wd} : ∀ {vs : List V} {l : List D}, Reps K w vs l → ∀ {i : Nat} {d : D}, l[i]? = some d → ∃ v, vs[i]? = some v ∧ Rep K w v d
  | _, _, .nil, i, d, h => by simp at h
  | _, _, .cons h r, 0, d, e => by
    simp at e
    subst e
    exact ⟨_, rfl, h⟩
  | _, _, .cons h r, i + 1, d, e => by
    simp at e
    obtain ⟨v, h1, h2⟩ := r.at e
    exact ⟨v, by simpa using h1, h2⟩
theorem Reps.atV {K : PySem.W.Frag} {w : Wd} : ∀ {vs : List V} {l : List D}, Reps K w vs l → ∀ {i : Nat} {v : V}, vs[i]? = some v → ∃ d, l[i]? = some d ∧ Rep K w v d
  | _, _, .nil, i, d, h => by simp at h
  | _, _, .cons h r, 0, d, e => by
    simp at e
    subst e
    exact ⟨_, rfl, h⟩
  | _, _, .cons h r, i + 1, d, e => by
    simp at e
    obtain ⟨v, h1, h2⟩ := r.atV e
    exact ⟨v, by simpa using h1, h2⟩
theorem Reps.append {K : PySem.W.Frag} {w : Wd} : ∀ {vs us : List V} {l m : List D}, Reps K w vs l → Reps K w us m → Reps K w (vs ++ us) (l ++ m)
  | _, _, _, _, .nil, q => q
  | _, _, _, _, .cons h r, q => .cons h (r.append q)
theorem Reps.set {K : PySem.W.Frag} {w : Wd} {v : V} {d : D} (h : Rep K w v d) : ∀ {vs : List V} {l : List D}, Reps K w vs l → ∀ i, Reps K w (vs.set i v) (l.set i d)
  | _, _, .nil, i => .nil
  | _, _, .cons _ r, 0 => .cons h r
  | _, _, .cons q r, i + 1 => .cons q (Reps.set h r i)
theorem Reps.one {K : PySem.W.Frag} {w : Wd} {v : V} {d : D} (h : Rep K w v d) : Reps K w [v] [d] := .cons h .nil
theorem Reps.eraseIdx {K : PySem.W.Frag} {w : Wd} : ∀ {vs : List V} {l : List D}, Reps K w vs l → ∀ i, Reps K w (vs.eraseIdx i) (l.eraseIdx i)
  | _, _, .nil, i => .nil
  | _, _, .cons _ r, 0 => r
  | _, _, .cons q r, i + 1 => .cons q (Reps.eraseIdx r i)
theorem Reps.take {K : PySem.W.Frag} {w : Wd} : ∀ {vs : List V} {l : List D}, Reps K w vs l → ∀ n, Reps K w (vs.take n) (l.take n)
  | _, _, .nil, n => by simp; exact .nil
  | _, _, .cons _ r, 0 => .nil
  | _, _, .cons q r, i + 1 => .cons q (Reps.take r i)
theorem Reps.drop {K : PySem.W.Frag} {w : Wd} : ∀ {vs : List V} {l : List D}, Reps K w vs l → ∀ n, Reps K w (vs.drop n) (l.drop n)
  | _, _, .nil, n => by simp; exact .nil
  | _, _, .cons q r, 0 => .cons q r
  | _, _, .cons q r, i + 1 => Reps.drop r i

def FldR (K : PySem.W.Frag) (w : Wd) : List (Str × V) → List (Str × D) → Prop
  | [], [] => True
  | (a, v) :: r, (b, d) :: q => a = b ∧ Rep K w v d ∧ FldR K w r q
  | _, _ => False
theorem FldR.ext {K : PySem.W.Frag} {w w' : Wd} (e : Ext w w') : ∀ {a : List (Str × V)} {b : List (Str × D)}, FldR K w a b → FldR K w' a b
  | [], [], h => h
  | [], _ :: _, h => h.elim
  | _ :: _, [], h => h.elim
  | _ :: _, _ :: _, h => ⟨h.1, Rep.ext e h.2.1, FldR.ext e h.2.2⟩
/-! ### slots, store, the whole relation -/
def SlRel (K : PySem.W.Frag) (w0 w : Wd) (x : Option (Option V)) : Option Sl → Prop
  | some (.val d) => ∃ v, x = some (some v) ∧ Rep K w v d
  | some (.own l) => ∃ p vs, x = some (some (.ref p)) ∧ w.H p = some (.lst vs) ∧ Reps K w vs l ∧ w.O p
  | some (.bor l) => ∃ p vs, x = some (some (.ref p)) ∧ w.H p = some (.lst vs) ∧ Reps K w vs l ∧ w0.H p ≠ none ∧ p ∉ w.adr
  | some (.ro l) => ∃ p vs, x = some (some (.ref p)) ∧ ((Rd w.H p (.lst vs) ∧ w0.H p ≠ none ∧ p ∉ w.adr) ∨ LstK K p vs) ∧ Reps K w vs l
  | some (.exc a dd fs) => x = some (some (.ref a)) ∧ w.I dd ∧ ∃ fv, w.H dd = some (.xd fv) ∧ FldR K w fv fs
  | _ => True
def StoRel (K : PySem.W.Frag) (w : Wd) (m : List (List D)) : Prop :=
  m.length = w.adr.length ∧ ∀ (i : Nat) (a : Addr) (l : List D), w.adr[i]? = some a → m[i]? = some l → ∃ vs, w.H a = some (.lst vs) ∧ Reps K w vs l
structure Rel (K : PySem.W.Frag) (w0 w : Wd) (s : S) (σ : L2.St) : Prop where
  up : Up w0 w
  o0 : ∀ a, ¬ w0.O a
  len : s.env.length = σ.length
  sl : ∀ i : Nat, SlRel K w0 w (σ[i]?) (s.env[i]?)
  own : ∀ a, w.O a → ∃ (i : Nat) (l : List D), s.env[i]? = some (.own l) ∧ σ[i]? = some (some (.ref a))
  dis : ∀ (i j : Nat) (a : Addr) (l l' : List D), s.env[i]? = some (.own l) → s.env[j]? = some (.own l') → σ[i]? = some (some (.ref a)) → σ[j]? = some (some (.ref a)) → i = j
  oI : ∀ a, w.O a → ¬ w.I a ∧ a ∉ w.adr ∧ w0.H a = none
  aI : ∀ a, a ∈ w.adr → ¬ w.I a
  iH : ∀ a, w.I a → w.H a ≠ none
  nd : w.adr.Nodup
  st : StoRel K w s.mem
theorem Rel.dj {K : PySem.W.Frag} {w0 w : Wd} {s : S} {σ : L2.St} (r : Rel K w0 w s σ) {a : Addr} (h : w.I a) : a ∉ w.adr ∧ ¬ w.O a :=
  ⟨fun z => r.aI a z h, fun z => (r.oI a z).1 h⟩
theorem Rel.ext {K : PySem.W.Frag} {w0 w w' : Wd} {s : S} {σ : L2.St} (r : Rel K w0 w s σ) (u : Up w w') : Ext w w' :=
  ⟨u.adr, u.im, fun a o i h => u.keep a o h (r.dj i).1 (r.dj i).2⟩
/-- what stands for a result -/
def RelR (K : PySem.W.Frag) (w : Wd) (σ : L2.St) (v : V) : R → Prop
  | .d x => Rep K w v x
  | .fr l => ∃ p vs, v = .ref p ∧ w.H p = some (.lst vs) ∧ Reps K w vs l ∧ ¬ w.I p ∧ p ∉ w.adr ∧ ¬ w.O p
  | .slt i => σ[i]? = some (some v)
def Frh (w : Wd) (v : V) : R → Prop
  | .fr _ => ∀ p, v = .ref p → w.H p = none
  | _ => True
theorem RelR.up {K : PySem.W.Frag} {w0 w w' : Wd} {s : S} {σ : L2.St} {v : V} {r : R} (rel : Rel K w0 w s σ) (u : Up w w') (h : RelR K w σ v r) : RelR K w' σ v r := by
  cases r with
  | d x => exact Rep.ext (rel.ext u) h
  | fr l =>
    obtain ⟨p, vs, e, h1, h2, h3, h4, h5⟩ := h
    refine ⟨p, vs, e, u.keep p _ h1 h4 h5, Reps.ext (rel.ext u) h2, fun z => ?_, fun z => ?_, fun z => ?_⟩
    · rcases u.fz p z with z | z | z
      · exact h3 z
      · rw [z] at h1; cases h1
      · exact h5 z
    · rcases u.new p z with z | z
      · exact h4 z
      · rw [z] at h1; cases h1
    · rcases u.ow p z with z | z
      · exact h5 z
      · rw [z] at h1; cases h1
  | slt i => exact h
theorem Frh.of {w w' : Wd} {v : V} {r : R} (u : Up w w') (h : Frh w' v r) : Frh w v r := by
  cases r with
  | fr l => exact fun p e => u.dom p (h p e)
  | d x => trivial
  | slt i => trivial
/-- an exception: its class by CA, its own dict -/
def RelX (K : PySem.W.Frag) (CA : Nat → Addr) (w : Wd) (cls : Value) (d : Option Addr) (x : Xn) : Prop :=
  cls = .ref (CA x.cls) ∧ ∃ dd fv, d = some dd ∧ (w.I dd ∧ w.H dd = some (.xd fv)) ∧ FldR K w fv x.fs
/-! ### outcomes -/
def Wp {α : Type} (o : Ou α) (fo : α → S → Prop) (fe : Xn → S → Prop) : Prop := match o with
  | .ok a s => fo a s
  | .ex x s => fe x s
  | .st => False
theorem Wp.bind {α β : Type} {o : Ou α} {f : α → S → Ou β} {fo : β → S → Prop} {fe : Xn → S → Prop} (h : Wp (o.bind f) fo fe) : Wp o (fun a s => Wp (f a s) fo fe) fe := by
  cases o with
  | ok a s => exact h
  | ex x s => exact h
  | st => exact h
theorem Wp.imp {α : Type} {o : Ou α} {fo fo' : α → S → Prop} {fe fe' : Xn → S → Prop} (h : Wp o fo fe) (h1 : ∀ a s, o = .ok a s → fo a s → fo' a s) (h2 : ∀ x s, fe x s → fe' x s) : Wp o fo' fe' := by
  cases o with
  | ok a s => exact h1 a s rfl h
  | ex x s => exact h2 x s h
  | st => exact h
theorem Wp.ok_of {α : Type} {o : Ou α} {fo : α → S → Prop} {fe : Xn → S → Prop} {a : α} {s : S} (e : o = .ok a s) (h : Wp o fo fe) : fo a s := by
  rw [e] at h
  exact h
/-! ### readings -/
section
variable (K : PySem.W.Frag) (CA : Nat → Addr) (W : WX)
def Fe (w0 w : Wd) (σ : L2.St) : Xn → S → Prop := fun x s' => ∀ w' cls d, Rel K w0 w' s' σ → Up w w' → RelX K CA w' cls d x → W cls d σ w'.H
def tI (m : Me) : TE := fun σ H Q => ∃ w0 w s, w.H = H ∧ Rel K w0 w s σ ∧
  Wp (m s) (fun r s' => ∀ w' v, Rel K w0 w' s' σ → Up w w' → RelR K w' σ v r → Frh w v r → Q v w'.H) (Fe K CA W w0 w σ)
def tT (m : Mt) : TT := fun σ H Q => ∃ w0 w s, w.H = H ∧ Rel K w0 w s σ ∧
  Wp (m s) (fun b s' => ∀ w', Rel K w0 w' s' σ → Up w w' → Q b w'.H) (Fe K CA W w0 w σ)
def RelRs (w : Wd) (σ : L2.St) : List V → List R → Prop
  | [], [] => True
  | v :: vs, r :: rs => RelR K w σ v r ∧ RelRs w σ vs rs
  | _, _ => False
def Frhs (w : Wd) : List V → List R → Prop
  | v :: vs, r :: rs => Frh w v r ∧ Frhs w vs rs
  | _, _ => True
def tA (m : Ma) : TA := fun σ H Q => ∃ w0 w s, w.H = H ∧ Rel K w0 w s σ ∧
  Wp (m s) (fun rs s' => ∀ w' vs, Rel K w0 w' s' σ → Up w w' → RelRs K w' σ vs rs → Frhs w vs rs → Q vs w'.H) (Fe K CA W w0 w σ)
def RetFr (w0 : Wd) (v : V) : R → Prop
  | .fr _ => ∀ p, v = .ref p → w0.H p = none
  | _ => True
def FeS (w0 w : Wd) : Xn → S → Prop := fun x s' => ∀ w' σ' cls d, Rel K w0 w' s' σ' → Up w w' → RelX K CA w' cls d x → W cls d σ' w'.H
def FoS (w0 w : Wd) (E : Ends) : Fl → S → Prop := fun f s' => match f with
  | .nx => ∀ w' σ', Rel K w0 w' s' σ' → Up w w' → E.nx σ' w'.H
  | .bk => ∀ w' σ', Rel K w0 w' s' σ' → Up w w' → E.bk σ' w'.H
  | .ct => ∀ w' σ', Rel K w0 w' s' σ' → Up w w' → E.ct σ' w'.H
  | .rt r => ∀ w' σ' v, Rel K w0 w' s' σ' → Up w w' → RelR K w' σ' v r → RetFr w0 v r → E.rt v w'.H
def tS (m : Ms) : TS := fun E σ H => ∃ w0 w s, w.H = H ∧ Rel K w0 w s σ ∧ Wp (m s) (FoS K w0 w E) (FeS K CA W w0 w)
end
theorem _root_.L2.PE.weak {X : Cx} {e : Expr} {t t' : TE} (h : PE X e t) (i : ∀ σ H Q, t' σ H Q → t σ H Q) : PE X e t' := ⟨fun pins s σ H Q I q => h.run pins s σ H Q I (i σ H Q q)⟩
theorem _root_.L2.PT.weak {X : Cx} {e : Expr} {t t' : TT} (h : PT X e t) (i : ∀ σ H Q, t' σ H Q → t σ H Q) : PT X e t' := ⟨fun pins s σ H Q I q => h.run pins s σ H Q I (i σ H Q q)⟩
theorem _root_.L2.PA.weak {X : Cx} {e : List Expr} {t t' : TA} (h : PA X e t) (i : ∀ σ H Q, t' σ H Q → t σ H Q) : PA X e t' := ⟨fun p pins s σ H Q I q => h.run p pins s σ H Q I (i σ H Q q)⟩
theorem _root_.L2.PS.weak {X : Cx} {e : Stmt} {t t' : TS} (h : PS X e t) (i : ∀ D σ H, t' D σ H → t D σ H) : PS X e t' := ⟨fun pins s σ H D I q => h.run pins s σ H D I (i D σ H q)⟩
theorem _root_.L2.PSs.weak {X : Cx} {e : List Stmt} {t t' : TS} (h : PSs X e t) (i : ∀ D σ H, t' D σ H → t D σ H) : PSs X e t' := ⟨fun pins s σ H D I q => h.run pins s σ H D I (i D σ H q)⟩
end Pm

set_option Elab.async false
set_option linter.all false
set_option maxRecDepth 100000
set_option maxHeartbeats 4000000
/-! PmC: how a world grows; readings of the expressions. -/
namespace Pm
open PySem L2
section
variable {K : PySem.W.Frag} {w0 w w' : Wd} {s : S} {σ : L2.St}
theorem Rel.oH (r : Rel K w0 w s σ) {a : Addr} (h : w.O a) : w.H a ≠ none := by
  obtain ⟨i, l, h1, h2⟩ := r.own a h
  have q := r.sl i
  rw [h1, h2] at q
  obtain ⟨p, vs, e, h3, _⟩ := q
  have e2 : a = p := by injection e with e; injection e with e; injection e
  rw [e2, h3]
  intro z; cases z
theorem Rel.aH (r : Rel K w0 w s σ) {a : Addr} (h : a ∈ w.adr) : w.H a ≠ none := by
  obtain ⟨i, hi⟩ := List.getElem?_of_mem h
  have hl : i < s.mem.length := by rw [r.st.1]; exact (List.getElem?_eq_some_iff.mp hi).1
  obtain ⟨vs, h1, _⟩ := r.st.2 i a _ hi (List.getElem?_eq_getElem hl)
  rw [h1]
  intro z; cases z
theorem SlRel.mono {x : Option (Option V)} {o : Option Sl} (e : Ext w w') (ho : ∀ a, w.O a → w'.O a) (ha : ∀ a, w0.H a ≠ none → a ∉ w.adr → a ∉ w'.adr)
    (kO : ∀ a o, w.O a → w.H a = some o → w'.H a = some o) (kB : ∀ a o, w0.H a ≠ none → a ∉ w.adr → w.H a = some o → w'.H a = some o) (h : SlRel K w0 w x o) : SlRel K w0 w' x o := by
  cases o with
  | none => trivial
  | some b =>
    cases b with
    | un => trivial
    | exc a dd fs =>
      obtain ⟨z1, z2, fv, z3, z4⟩ := h
      exact ⟨z1, e.im _ z2, fv, e.keep _ _ z2 z3, FldR.ext e z4⟩
    | val d =>
      obtain ⟨v, h1, h2⟩ := h
      exact ⟨v, h1, Rep.ext e h2⟩
    | own l =>
      obtain ⟨p, vs, h1, h2, h3, h4⟩ := h
      exact ⟨p, vs, h1, kO p _ h4 h2, Reps.ext e h3, ho p h4⟩
    | bor l =>
      obtain ⟨p, vs, h1, h2, h3, h4, h5⟩ := h
      exact ⟨p, vs, h1, kB p _ h4 h5 h2, Reps.ext e h3, h4, ha p h4 h5⟩
    | ro l =>
      obtain ⟨p, vs, h1, h2, h3⟩ := h
      refine ⟨p, vs, h1, ?_, Reps.ext e h3⟩
      rcases h2 with ⟨h2, h4, h5⟩ | h2
      · refine .inl ⟨?_, h4, ha p h4 h5⟩
        rcases h2 with h2 | ⟨o, h2⟩
        · exact .inl (kB p _ h4 h5 h2)
        · exact .inr ⟨o, kB p _ h4 h5 h2⟩
      · exact .inr h2
theorem StoRel.mono {m : List (List D)} (e : Ext w w') (ha : w'.adr = w.adr) (k : ∀ a o, a ∈ w.adr → w.H a = some o → w'.H a = some o) (h : StoRel K w m) : StoRel K w' m := by
  refine ⟨by rw [ha]; exact h.1, fun i a l h1 h2 => ?_⟩
  rw [ha] at h1
  obtain ⟨vs, h3, h4⟩ := h.2 i a l h1 h2
  exact ⟨vs, k a _ (List.mem_of_getElem? h1) h3, Reps.ext e h4⟩
/-- more objects, more that will not change -/
theorem Rel.grow (r : Rel K w0 w s σ) (ea : w'.adr = w.adr) (eo : w'.O = w.O) (im : ∀ a, w.I a → w'.I a) (fz : ∀ a, w'.I a → w.I a ∨ w.H a = none)
    (keep : ∀ a o, w.H a = some o → w'.H a = some o) (iH : ∀ a, w'.I a → w'.H a ≠ none) : Rel K w0 w' s σ ∧ Up w w' := by
  have dom : ∀ a, w'.H a = none → w.H a = none := fun a h => by
    cases q : w.H a with
    | none => rfl
    | some o => rw [keep a o q] at h; cases h
  have u : Up w w' := ⟨⟨[], by simp [ea]⟩, fun a h => .inl (ea ▸ h), im, fun a h => (fz a h).elim .inl fun z => .inr (.inl z), fun a h => .inl (eo ▸ h), fun a o h _ _ => keep a o h, dom⟩
  have e := r.ext u
  refine ⟨{ up := r.up.trans u, o0 := r.o0, len := r.len, sl := fun i => ?_, own := fun a h => r.own a (eo ▸ h), dis := r.dis, oI := fun a h => ?_, aI := fun a h z => ?_, iH := iH, nd := ea ▸ r.nd, st := r.st.mono e ea fun a o _ h => keep a o h }, u⟩
  · exact SlRel.mono e (fun a h => eo ▸ h) (fun a _ h => ea ▸ h) (fun a o _ h => keep a o h) (fun a o _ _ h => keep a o h) (r.sl i)
  · rw [eo] at h
    obtain ⟨h1, h2, h3⟩ := r.oI a h
    refine ⟨fun z => ?_, ea ▸ h2, h3⟩
    rcases fz a z with z | z
    · exact h1 z
    · exact r.oH h z
  · rw [ea] at h
    rcases fz a z with z | z
    · exact r.aI a h z
    · exact r.aH h z
/-- lists that only this result knows will not change any more -/
theorem Rel.freeze {s' : S} {σ' : L2.St} (r0 : Up w0 w) (r : Rel K w0 w' s σ) (u : Up w w') (P : Addr → Prop) (hP : ∀ a, P a → ¬ w'.O a ∧ a ∉ w'.adr ∧ w'.H a ≠ none ∧ w.H a = none) :
    Rel K w0 { w' with I := fun a => w'.I a ∨ P a } s σ ∧ Up w { w' with I := fun a => w'.I a ∨ P a } ∧ Ext w' { w' with I := fun a => w'.I a ∨ P a } := by
  have e : Ext w' { w' with I := fun a => w'.I a ∨ P a } := ⟨⟨[], by simp⟩, fun a h => .inl h, fun a o _ h => h⟩
  refine ⟨{ up := ?_, o0 := r.o0, len := r.len, sl := fun i => ?_, own := r.own, dis := r.dis, oI := fun a h => ?_, aI := fun a h z => ?_, iH := fun a z => ?_, nd := r.nd, st := r.st.mono e rfl fun a o _ h => h }, ?_, e⟩
  · refine ⟨r.up.adr, r.up.new, fun a h => .inl (r.up.im a h), fun a h => ?_, r.up.ow, r.up.keep, r.up.dom⟩
    rcases h with h | h
    · exact r.up.fz a h
    · exact .inr (.inl (r0.dom a (hP a h).2.2.2))
  · exact SlRel.mono e (fun a h => h) (fun a _ h => h) (fun a o _ h => h) (fun a o _ _ h => h) (r.sl i)
  · obtain ⟨h1, h2, h3⟩ := r.oI a h
    refine ⟨fun z => ?_, h2, h3⟩
    rcases z with z | z
    · exact h1 z
    · exact (hP a z).1 h
  · rcases z with z | z
    · exact r.aI a h z
    · exact (hP a z).2.1 h
  · rcases z with z | z
    · exact r.iH a z
    · exact (hP a z).2.2.1
  · refine ⟨u.adr, u.new, fun a h => .inl (u.im a h), fun a h => ?_, u.ow, u.keep, u.dom⟩
    rcases h with h | h
    · exact u.fz a h
    · exact .inr (.inl (hP a h).2.2.2)
def InFr : List V → List R → Addr → Prop
  | v :: vs, .fr _ :: rs, a => v = .ref a ∨ InFr vs rs a
  | _ :: vs, _ :: rs, a => InFr vs rs a
  | _, _, _ => False
theorem inFr_facts : ∀ {vs : List V} {rs : List R}, RelRs K w' σ vs rs → Frhs w vs rs → ∀ {a : Addr}, InFr vs rs a → ¬ w'.O a ∧ a ∉ w'.adr ∧ w'.H a ≠ none ∧ w.H a = none
  | [], [], _, _, _, h => h.elim
  | [], _ :: _, h, _, _, _ => h.elim
  | _ :: _, [], h, _, _, _ => h.elim
  | v :: vs, .d x :: rs, h, f, a, z => inFr_facts h.2 f.2 z
  | v :: vs, .slt i :: rs, h, f, a, z => inFr_facts h.2 f.2 z
  | v :: vs, .fr l :: rs, h, f, a, z => by
    rcases z with z | z
    · obtain ⟨p, ws, e, h1, h2, h3, h4, h5⟩ := h.1
      have e2 : p = a := by rw [e] at z; injection z
      subst e2
      exact ⟨h5, h4, (by rw [h1]; intro q; cases q), f.1 p e⟩
    · exact inFr_facts h.2 f.2 z
theorem toDs_rep (e : Ext w w') (hH : w'.H = w.H) : ∀ {vs : List V} {rs : List R} {ds : List D}, RelRs K w σ vs rs → (∀ a, InFr vs rs a → w'.I a) → toDs rs = some ds → Reps K w' vs ds
  | [], [], ds, _, _, h => by
    injection h with h
    subst h
    exact .nil
  | [], _ :: _, _, h, _, _ => h.elim
  | _ :: _, [], _, h, _, _ => h.elim
  | v :: vs, r :: rs, ds, h, hi, q => by
    unfold toDs at q
    cases hd : r.toD with
    | none => rw [hd] at q; cases q
    | some d =>
      cases ht : toDs rs with
      | none => rw [hd, ht] at q; cases q
      | some ds' =>
        rw [hd, ht] at q
        injection q with q
        subst q
        refine .cons ?_ (toDs_rep e hH h.2 (fun a z => hi a ?_) ht)
        · cases r with
          | d x =>
            injection hd with hd
            subst hd
            exact Rep.ext e h.1
          | fr l =>
            injection hd with hd
            subst hd
            obtain ⟨p, ws, e2, h1, h2, h3, h4, h5⟩ := h.1
            rw [e2]
            have ip : w'.I p := hi p (.inl e2)
            exact .lst ip (by rw [hH]; exact h1) (Reps.ext e h2)
          | slt i => cases hd
        · cases r with
          | d x => exact z
          | fr l => exact .inr z
          | slt i => exact z
/-- results become data: what was new is not changed any more -/
theorem Rel.data {vs : List V} {rs : List R} {ds : List D} (r0 : Up w0 w) (r : Rel K w0 w' s σ) (u : Up w w') (h : RelRs K w' σ vs rs) (f : Frhs w vs rs) (e : toDs rs = some ds) :
    ∃ w2, w2.H = w'.H ∧ w2.adr = w'.adr ∧ Rel K w0 w2 s σ ∧ Up w w2 ∧ Ext w' w2 ∧ Reps K w2 vs ds := by
  obtain ⟨r2, u2, e2⟩ := Rel.freeze (s' := s) (σ' := σ) r0 r u (InFr vs rs) (fun a z => inFr_facts h f z)
  exact ⟨{ w' with I := fun a => w'.I a ∨ InFr vs rs a }, rfl, rfl, r2, u2, e2, toDs_rep e2 rfl h (fun a z => .inr z) e⟩
theorem Rel.data1 {v : V} {rr : R} {d : D} (r0 : Up w0 w) (r : Rel K w0 w' s σ) (u : Up w w') (h : RelR K w' σ v rr) (f : Frh w v rr) (e : rr.toD = some d) :
    ∃ w2, w2.H = w'.H ∧ w2.adr = w'.adr ∧ Rel K w0 w2 s σ ∧ Up w w2 ∧ Ext w' w2 ∧ Rep K w2 v d := by
  obtain ⟨w2, h1, h2, h3, h4, h5, h6⟩ := Rel.data (vs := [v]) (rs := [rr]) (ds := [d]) r0 r u ⟨h, trivial⟩ ⟨f, trivial⟩ (by simp [toDs, e])
  cases h6 with
  | cons h6 _ => exact ⟨w2, h1, h2, h3, h4, h5, h6⟩
/-- the list that a result shows -/
theorem Rel.lv {v : V} {rr : R} {l : List D} (r : Rel K w0 w s σ) (h : RelR K w σ v rr) (e : s.lv rr = some l) : ∃ p vs, v = .ref p ∧ w.H p = some (.lst vs) ∧ Reps K w vs l := by
  cases rr with
  | d x =>
    cases x with
    | lst m =>
      injection e with e
      subst e
      cases h with
      | lst i h2 h3 => exact ⟨_, _, rfl, h2, h3⟩
    | _ => cases e
  | fr m =>
    injection e with e
    subst e
    obtain ⟨p, vs, e, h1, h2, _⟩ := h
    exact ⟨p, vs, e, h1, h2⟩
  | slt i =>
    have q := r.sl i
    have e : (match s.env[i]? with
      | some (.own l) => some l
      | some (.bor l) => some l
      | _ => none) = some l := e
    cases hs : s.env[i]? with
    | none => rw [hs] at e; cases e
    | some b =>
      rw [hs] at e q
      cases b with
      | own m =>
        injection e with e
        subst e
        obtain ⟨p, vs, h1, h2, h3, h4⟩ := q
        have e2 : v = .ref p := by rw [show σ[i]? = some (some v) from h] at h1; injection h1 with h1; injection h1
        exact ⟨p, vs, e2, h2, h3⟩
      | bor m =>
        injection e with e
        subst e
        obtain ⟨p, vs, h1, h2, h3, h4⟩ := q
        have e2 : v = .ref p := by rw [show σ[i]? = some (some v) from h] at h1; injection h1 with h1; injection h1
        exact ⟨p, vs, e2, h2, h3⟩
      | _ => cases e
theorem SqL_of_ro {p : Addr} {vs : List V} (h : (Rd w.H p (.lst vs) ∧ w0.H p ≠ none ∧ p ∉ w.adr) ∨ LstK K p vs) : SqL K w.H p vs := by
  rcases h with ⟨h, _⟩ | h
  · exact .inl h
  · exact .inr h
theorem Rel.lr {v : V} {rr : R} {l : List D} (r : Rel K w0 w s σ) (h : RelR K w σ v rr) (e : s.lr rr = some l) : ∃ p vs, v = .ref p ∧ SqL K w.H p vs ∧ Reps K w vs l := by
  cases rr with
  | d x =>
    obtain ⟨p, vs, h1, h2, h3⟩ := r.lv (rr := .d x) h (l := l) (by cases x <;> exact e)
    exact ⟨p, vs, h1, SqL.of h2, h3⟩
  | fr m =>
    obtain ⟨p, vs, h1, h2, h3⟩ := r.lv (rr := .fr m) h (l := l) e
    exact ⟨p, vs, h1, SqL.of h2, h3⟩
  | slt i =>
    have e : (match s.env[i]? with
      | some (.own l) => some l
      | some (.bor l) => some l
      | some (.ro l) => some l
      | _ => none) = some l := e
    cases hs : s.env[i]? with
    | none => rw [hs] at e; cases e
    | some b =>
      rw [hs] at e
      cases b with
      | own m =>
        obtain ⟨p, vs, h1, h2, h3⟩ := r.lv (rr := .slt i) h (l := l) (by show (match s.env[i]? with | some (.own l) => some l | some (.bor l) => some l | _ => none) = some l; rw [hs]; exact e)
        exact ⟨p, vs, h1, SqL.of h2, h3⟩
      | bor m =>
        obtain ⟨p, vs, h1, h2, h3⟩ := r.lv (rr := .slt i) h (l := l) (by show (match s.env[i]? with | some (.own l) => some l | some (.bor l) => some l | _ => none) = some l; rw [hs]; exact e)
        exact ⟨p, vs, h1, SqL.of h2, h3⟩
      | ro m =>
        injection e with e
        subst e
        have q := r.sl i
        rw [hs] at q
        obtain ⟨p, vs, h1, h2, h3⟩ := q
        have e2 : v = .ref p := by rw [show σ[i]? = some (some v) from h] at h1; injection h1 with h1; injection h1
        exact ⟨p, vs, e2, SqL_of_ro h2, h3⟩
      | _ => cases e
theorem Rep.tupAt {v : V} {l : List D} (h : Rep K w v (.tup l)) : ∃ p vs, v = .ref p ∧ SqT K w.H p vs ∧ Reps K w vs l := by
  cases h with
  | tup i h r => exact ⟨_, _, rfl, SqT.of h, r⟩
  | tupK h r => exact ⟨_, _, rfl, .inr h, r⟩
theorem Rep.hndAt {v : V} {k : Nat} (h : Rep K w v (.hnd k)) : ∃ a, v = .ref a ∧ w.adr[k]? = some a := by
  cases h with
  | hnd h => exact ⟨_, rfl, h⟩
/-- a new object -/
theorem Rel.new {p : Addr} {o : HO} (r : Rel K w0 w s σ) (hp : w.H p = none) : Rel K w0 { w with H := upd w.H p o } s σ ∧ Up w { w with H := upd w.H p o } :=
  r.grow (w' := { w with H := upd w.H p o }) rfl rfl (fun a h => h) (fun a h => .inl h) (fun a o h => by show upd w.H p _ a = _; rw [upd_ne (ne_of_none h hp)]; exact h) (fun a h => by
    show upd w.H p _ a ≠ none
    by_cases e : a = p
    · rw [e, upd_same]; intro z; cases z
    · rw [upd_ne e]; exact r.iH a h)
theorem Rel.newI {p : Addr} {o : HO} (r : Rel K w0 w s σ) (hp : w.H p = none) : Rel K w0 { w with H := upd w.H p o, I := fun a => w.I a ∨ a = p } s σ ∧ Up w { w with H := upd w.H p o, I := fun a => w.I a ∨ a = p } :=
  r.grow (w' := { w with H := upd w.H p o, I := fun a => w.I a ∨ a = p }) rfl rfl (fun a h => .inl h) (fun a h => h.elim .inl fun z => .inr (by rw [z]; exact hp)) (fun a o h => by show upd w.H p _ a = _; rw [upd_ne (ne_of_none h hp)]; exact h) (fun a h => by
    show upd w.H p _ a ≠ none
    by_cases e : a = p
    · rw [e, upd_same]; intro z; cases z
    · rw [upd_ne e]; exact r.iH a (h.elim id fun z => absurd z e))
/-- a new list that only the result knows -/
theorem Rel.newL {p : Addr} {vs : List V} {l : List D} (r : Rel K w0 w s σ) (hp : w.H p = none) (h : Reps K w vs l) :
    ∃ w2, w2.H = upd w.H p (.lst vs) ∧ Rel K w0 w2 s σ ∧ Up w w2 ∧ RelR K w2 σ (.ref p) (.fr l) ∧ Frh w (.ref p) (.fr l) := by
  obtain ⟨r2, u2⟩ := r.new (o := .lst vs) hp
  refine ⟨_, rfl, r2, u2, ⟨p, vs, rfl, upd_same, Reps.ext (r.ext u2) h, fun z => r.iH p z hp, fun z => r.aH z hp, fun z => r.oH z hp⟩, fun q e => ?_⟩
  injection e with e
  rw [← e]
  exact hp
theorem Rel.newT {p : Addr} {vs : List V} {l : List D} (r : Rel K w0 w s σ) (hp : w.H p = none) (h : Reps K w vs l) :
    ∃ w2, w2.H = upd w.H p (.tup vs) ∧ Rel K w0 w2 s σ ∧ Up w w2 ∧ Rep K w2 (.ref p) (.tup l) := by
  obtain ⟨r2, u2⟩ := r.newI (o := .tup vs) hp
  exact ⟨_, rfl, r2, u2, .tup (.inr rfl) upd_same (Reps.ext (r.ext u2) h)⟩
end
theorem LIM_sz {n : Nat} (h : n ≤ LIM) : n ≤ sizeLine := Nat.le_trans h (by decide)
theorem LIM_lt {n : Nat} (h : n < LIM) : n < sizeLine := Nat.lt_of_lt_of_le h (by decide)

/-! ### readings of expressions -/
section
variable {X : Cx} {CA : Nat → Addr} {W : WX} {pos : Pos}
theorem d_var (i : Nat) {x : Str} (h : PE X (.Name x pos) (tVar i)) : PE X (.Name x pos) (tI X.K CA W (mVar i)) := by
  refine h.weak fun σ H Q ⟨w0, w, s, eH, r, q⟩ => ?_
  subst eH
  have hs := r.sl i
  unfold mVar at q
  cases he : s.env[i]? with
  | none => rw [he] at q; exact q.elim
  | some b =>
    rw [he] at q hs
    cases b with
    | un => exact q.elim
    | exc a dd fs => exact ⟨_, hs.1, q w _ r (Up.refl w) hs.1 trivial⟩
    | val d =>
      obtain ⟨v, h1, h2⟩ := hs
      exact ⟨v, h1, q w v r (Up.refl w) h2 trivial⟩
    | own l =>
      obtain ⟨p, vs, h1, _⟩ := hs
      exact ⟨_, h1, q w _ r (Up.refl w) h1 trivial⟩
    | bor l =>
      obtain ⟨p, vs, h1, _⟩ := hs
      exact ⟨_, h1, q w _ r (Up.refl w) h1 trivial⟩
    | ro l =>
      obtain ⟨p, vs, h1, _⟩ := hs
      exact ⟨_, h1, q w _ r (Up.refl w) h1 trivial⟩
theorem d_c {e : Expr} {v : V} {d : D} (h : PE X e (tC v)) (hr : ∀ w, Rep X.K w v d) : PE X e (tI X.K CA W (mC d)) := by
  refine h.weak fun σ H Q ⟨w0, w, s, eH, r, q⟩ => ?_
  subst eH
  exact q w v r (Up.refl w) (hr w) trivial
theorem d_int {i : Int} {j : Nat} : PE X (.Constant (.int i) j pos) (tI X.K CA W (mC (.int i))) := d_c pe_int fun _ => .int i
theorem d_bl {b : Bool} {j : Nat} : PE X (.Constant (.bool b) j pos) (tI X.K CA W (mC (.bl b))) := d_c pe_bl fun _ => .bl b
theorem d_non {j : Nat} : PE X (.Constant .none j pos) (tI X.K CA W (mC .non)) := d_c pe_non fun _ => .non
theorem d_str {x : Str} {j : Nat} : PE X (.Constant (.str x) j pos) (tI X.K CA W (mC (.str x))) := d_c pe_str fun _ => .str x
/-- nothing is said of what is not reached -/
theorem pe_never {X : Cx} {e : Expr} : PE X e (fun _ _ _ => False) := ⟨fun _ _ _ _ _ _ h => h.elim⟩
theorem d_nev {e : Expr} : PE X e (tI X.K CA W mNev) := pe_never.weak fun _ _ _ ⟨_, _, _, _, _, q⟩ => q
/-- one after the other -/
theorem two {σ : L2.St} {H : Hp} {α : Type} {m1 m2 : Me} {f : R → R → S → Ou α} {G : V → V → Hp → Prop} {fo : α → S → Prop} {w0 w : Wd} {s : S} (eH : w.H = H) (r : Rel X.K w0 w s σ)
    (q : Wp ((m1 s).bind fun x s1 => (m2 s1).bind fun y s2 => f x y s2) fo (Fe X.K CA W w0 w σ))
    (k : ∀ rx ry s2 w2 x y, Wp (f rx ry s2) fo (Fe X.K CA W w0 w σ) → Rel X.K w0 w2 s2 σ → Up w w2 → RelR X.K w2 σ x rx → RelR X.K w2 σ y ry → G x y w2.H) :
    tI X.K CA W m1 σ H fun x H1 => tI X.K CA W m2 σ H1 fun y H2 => G x y H2 := by
  refine ⟨w0, w, s, eH, r, q.bind.imp (fun rx s1 _ q1 w1 x r1 u1 h1 f1 => ⟨w0, w1, s1, rfl, r1, q1.bind.imp (fun ry s2 _ q2 w2 y r2 u2 h2 f2 => ?_) fun x s2 q2 w2 cls d r2 u2 h2 => q2 w2 cls d r2 (u1.trans u2) h2⟩) fun x s1 q1 => q1⟩
  exact k rx ry s2 w2 x y q2 r2 (u1.trans u2) (h1.up r1 u2) h2
/-- an operator on results -/
def Bop (K : PySem.W.Frag) (r : R2) (f : S → R → R → Option R) : Prop := ∀ (w0 w : Wd) (s : S) (σ : L2.St) (x y : V) (rx ry rz : R) (Q : VK), Rel K w0 w s σ → RelR K w σ x rx → RelR K w σ y ry → f s rx ry = some rz →
  (∀ w' v, Rel K w0 w' s σ → Up w w' → RelR K w' σ v rz → Frh w v rz → Q v w'.H) → r x y w.H Q
theorem d_op {e : Expr} {a b : Me} {r : R2} {f : S → R → R → Option R} (h : PE X e (tOp r (tI X.K CA W a) (tI X.K CA W b))) (hb : Bop X.K r f) : PE X e (tI X.K CA W (mBin f a b)) := by
  refine h.weak fun σ H Q ⟨w0, w, s, eH, rel, q⟩ => ?_
  refine two eH rel q fun rx ry s2 w2 x y q2 r2 u2 h1 h2 => ?_
  unfold ofR at q2
  cases hf : f s2 rx ry with
  | none => rw [hf] at q2; exact q2.elim
  | some rz =>
    rw [hf] at q2
    exact hb w0 w2 s2 σ x y rx ry rz Q r2 h1 h2 hf fun w3 v r3 u3 h3 f3 => q2 w3 v r3 (u2.trans u3) h3 (f3.of u2)
theorem d_bin {op : Operator} {a b : Expr} {m1 m2 : Me} {r : R2} {f : S → R → R → Option R} (ho : OpR X (binaryOp op) r) (hb : Bop X.K r f) (h1 : PE X a (tI X.K CA W m1)) (h2 : PE X b (tI X.K CA W m2)) : PE X (.BinOp a op b pos) (tI X.K CA W (mBin f m1 m2)) :=
  d_op (pe_op ho h1 h2) hb
theorem d_cmp {op : CmpOp} {a b : Expr} {m1 m2 : Me} {r : R2} {f : S → R → R → Option R} (ho : OpR X (compareOp op) r) (hb : Bop X.K r f) (h1 : PE X a (tI X.K CA W m1)) (h2 : PE X b (tI X.K CA W m2)) (hm : behindInMarks op b = false) : PE X (.Compare a [op] [b] pos) (tI X.K CA W (mBin f m1 m2)) :=
  d_op (pe_cmpR ho h1 h2 hm) hb
/-- an operator of one place -/
def Uop (K : PySem.W.Frag) (r : V → Hp → VK → Prop) (f : S → R → Option R) : Prop := ∀ (w0 w : Wd) (s : S) (σ : L2.St) (x : V) (rx rz : R) (Q : VK), Rel K w0 w s σ → RelR K w σ x rx → f s rx = some rz →
  (∀ w' v, Rel K w0 w' s σ → Up w w' → RelR K w' σ v rz → Frh w v rz → Q v w'.H) → r x w.H Q
theorem d_un {op : UnaryOp} {a : Expr} {m : Me} {r : V → Hp → VK → Prop} {f : S → R → Option R} (ho : UnR X (unaryOp op) r) (hb : Uop X.K r f) (h : PE X a (tI X.K CA W m)) : PE X (.UnaryOp op a pos) (tI X.K CA W (mUn f m)) := by
  refine (pe_un ho h).weak fun σ H Q ⟨w0, w, s, eH, rel, q⟩ => ?_
  refine ⟨w0, w, s, eH, rel, q.bind.imp (fun rx s1 _ q1 w1 x r1 u1 h1 f1 => ?_) fun x s1 q1 => q1⟩
  unfold ofR at q1
  cases hf : f s1 rx with
  | none => rw [hf] at q1; exact q1.elim
  | some rz =>
    rw [hf] at q1
    exact hb w0 w1 s1 σ x rx rz Q r1 h1 hf fun w3 v r3 u3 h3 f3 => q1 w3 v r3 (u1.trans u3) h3 (f3.of u1)
/-! ### tests -/
theorem asB_wp {o : Ou R} {fo : Bool → S → Prop} {fe : Xn → S → Prop} (h : Wp (asB o) fo fe) : Wp o (fun r s => ∃ b, r = .d (.bl b) ∧ fo b s) fe := by
  cases o with
  | ok r s =>
    cases r with
    | d x =>
      cases x with
      | bl b => exact ⟨b, rfl, h⟩
      | _ => exact h.elim
    | _ => exact h.elim
  | ex x s => exact h
  | st => exact h
theorem d_tB {e : Expr} {m : Me} {t : TT} (h : PT X e t) (ht : ∀ σ H Q, tB (tI X.K CA W m) σ H Q → t σ H Q) : PT X e (tT X.K CA W (tV m)) := by
  refine h.weak fun σ H Q ⟨w0, w, s, eH, r, q⟩ => ht σ H Q ⟨w0, w, s, eH, r, (asB_wp q).imp (fun rr s1 _ ⟨b, e, q1⟩ w1 v r1 u1 h1 f1 => ?_) fun x s1 q1 => q1⟩
  subst e
  cases h1
  exact ⟨b, rfl, q1 w1 r1 u1⟩
/-- the truth of a bool -/
theorem d_tV {e : Expr} {m : Me} (h : PE X e (tI X.K CA W m)) (he : ∀ whole, isTrue e X.env whole = (do let v ← whole; standAt e.pos; holding [v] (truthy v)) := by intro _; rfl) : PT X e (tT X.K CA W (tV m)) :=
  d_tB (pt_val h he) fun _ _ _ q => q
theorem d_tcmp {op : CmpOp} {a b : Expr} {m1 m2 : Me} {r : R2} {f : S → R → R → Option R} (ho : OpR X (compareOp op) r) (hb : Bop X.K r f) (h1 : PE X a (tI X.K CA W m1)) (h2 : PE X b (tI X.K CA W m2)) (hm : behindInMarks op b = false) :
    PT X (.Compare a [op] [b] pos) (tT X.K CA W (tV (mBin f m1 m2))) := by
  refine (pt_cmpR ho h1 h2 hm).weak fun σ H Q ⟨w0, w, s, eH, rel, q⟩ => ?_
  refine two (f := fun x y s2 => ofR (f s2 x y) s2) eH rel (asB_wp q) fun rx ry s2 w2 x y q2 r2 u2 h1 h2 => ?_
  unfold ofR at q2
  cases hf : f s2 rx ry with
  | none => rw [hf] at q2; exact q2.elim
  | some rz =>
    rw [hf] at q2
    obtain ⟨b, e, q2⟩ := q2
    subst e
    exact hb w0 w2 s2 σ x y rx ry _ _ r2 h1 h2 hf fun w3 v r3 u3 h3 f3 => by
      cases h3
      exact ⟨b, rfl, q2 w3 r3 (u2.trans u3)⟩
theorem d_tnot {a : Expr} {m : Mt} (h : PT X a (tT X.K CA W m)) : PT X (.UnaryOp .Not a pos) (tT X.K CA W (Pm.tNot m)) := by
  refine (pt_not h).weak fun σ H Q ⟨w0, w, s, eH, rel, q⟩ => ⟨w0, w, s, eH, rel, q.bind.imp (fun b s1 _ q1 w1 r1 u1 => q1 w1 r1 u1) fun x s1 q1 => q1⟩
theorem t_and {m1 m2 : Mt} {σ : L2.St} {H : Hp} {Q : Bool → Hp → Prop} (h : tT X.K CA W (Pm.tAnd m1 m2) σ H Q) : L2.tAnd (tT X.K CA W m1) (tT X.K CA W m2) σ H Q := by
  obtain ⟨w0, w, s, eH, rel, q⟩ := h
  refine ⟨w0, w, s, eH, rel, q.bind.imp (fun b s1 _ q1 w1 r1 u1 => ?_) fun x s1 q1 => q1⟩
  cases b with
  | true => exact ⟨w0, w1, s1, rfl, r1, Wp.imp q1 (fun b2 s2 _ q2 w2 r2 u2 => q2 w2 r2 (u1.trans u2)) fun x s2 q2 w2 cls d r2 u2 h2 => q2 w2 cls d r2 (u1.trans u2) h2⟩
  | false => exact q1 w1 r1 u1
theorem t_or {m1 m2 : Mt} {σ : L2.St} {H : Hp} {Q : Bool → Hp → Prop} (h : tT X.K CA W (Pm.tOr m1 m2) σ H Q) : L2.tOr (tT X.K CA W m1) (tT X.K CA W m2) σ H Q := by
  obtain ⟨w0, w, s, eH, rel, q⟩ := h
  refine ⟨w0, w, s, eH, rel, q.bind.imp (fun b s1 _ q1 w1 r1 u1 => ?_) fun x s1 q1 => q1⟩
  cases b with
  | true => exact q1 w1 r1 u1
  | false => exact ⟨w0, w1, s1, rfl, r1, Wp.imp q1 (fun b2 s2 _ q2 w2 r2 u2 => q2 w2 r2 (u1.trans u2)) fun x s2 q2 w2 cls d r2 u2 h2 => q2 w2 cls d r2 (u1.trans u2) h2⟩
theorem _root_.L2.PW.weak {X : Cx} {e : Expr} {t t' : TT} (h : PW X e t) (i : ∀ σ H Q, t' σ H Q → t σ H Q) : PW X e t' := ⟨fun wh pins s σ H Q I q => h.run wh pins s σ H Q I (i σ H Q q)⟩
theorem d_wand1 {a : Expr} {m : Mt} (h : PT X a (tT X.K CA W m)) : PW X (.BoolOp .And [a] pos) (tT X.K CA W m) := pw_and1 h
theorem d_wor1 {a : Expr} {m : Mt} (h : PT X a (tT X.K CA W m)) : PW X (.BoolOp .Or [a] pos) (tT X.K CA W m) := pw_or1 h
theorem d_wand {a b : Expr} {rest : List Expr} {m1 m2 : Mt} (h : PT X a (tT X.K CA W m1)) (h2 : PW X (.BoolOp .And (b :: rest) pos) (tT X.K CA W m2)) : PW X (.BoolOp .And (a :: b :: rest) pos) (tT X.K CA W (Pm.tAnd m1 m2)) := L2.PW.weak (pw_and h h2) fun _ _ _ q => t_and q
theorem d_wor {a b : Expr} {rest : List Expr} {m1 m2 : Mt} (h : PT X a (tT X.K CA W m1)) (h2 : PW X (.BoolOp .Or (b :: rest) pos) (tT X.K CA W m2)) : PW X (.BoolOp .Or (a :: b :: rest) pos) (tT X.K CA W (Pm.tOr m1 m2)) := L2.PW.weak (pw_or h h2) fun _ _ _ q => t_or q
theorem d_and1 {op : PySem.BoolOp} {a : Expr} {m : Me} (h : PE X a (tI X.K CA W m)) : PE X (.BoolOp op [a] pos) (tI X.K CA W m) := pe_one h
theorem d_and {a b : Expr} {rest : List Expr} {m1 m2 : Me} (h : PE X a (tI X.K CA W m1)) (h2 : PE X (.BoolOp .And (b :: rest) pos) (tI X.K CA W m2)) : PE X (.BoolOp .And (a :: b :: rest) pos) (tI X.K CA W (mAnd m1 m2)) := by
  refine (pe_and h h2).weak fun σ H Q ⟨w0, w, s, eH, rel, q⟩ => ⟨w0, w, s, eH, rel, (asB_wp q.bind).imp (fun rx s1 _ ⟨b, e, q1⟩ w1 x r1 u1 h1 f1 => ?_) fun x s1 q1 => q1⟩
  subst e
  cases h1
  refine ⟨b, rfl, ?_⟩
  cases b with
  | true => exact ⟨w0, w1, s1, rfl, r1, Wp.imp q1 (fun b2 s2 _ q2 w2 v r2 u2 h2 f2 => q2 w2 v r2 (u1.trans u2) h2 (f2.of u1)) fun x s2 q2 w2 cls d r2 u2 h2 => q2 w2 cls d r2 (u1.trans u2) h2⟩
  | false => exact q1 w1 _ r1 u1 (.bl false) trivial
theorem d_or {a b : Expr} {rest : List Expr} {m1 m2 : Me} (h : PE X a (tI X.K CA W m1)) (h2 : PE X (.BoolOp .Or (b :: rest) pos) (tI X.K CA W m2)) : PE X (.BoolOp .Or (a :: b :: rest) pos) (tI X.K CA W (mOr m1 m2)) := by
  refine (pe_or h h2).weak fun σ H Q ⟨w0, w, s, eH, rel, q⟩ => ⟨w0, w, s, eH, rel, (asB_wp q.bind).imp (fun rx s1 _ ⟨b, e, q1⟩ w1 x r1 u1 h1 f1 => ?_) fun x s1 q1 => q1⟩
  subst e
  cases h1
  refine ⟨b, rfl, ?_⟩
  cases b with
  | true => exact q1 w1 _ r1 u1 (.bl true) trivial
  | false => exact ⟨w0, w1, s1, rfl, r1, Wp.imp q1 (fun b2 s2 _ q2 w2 v r2 u2 h2 f2 => q2 w2 v r2 (u1.trans u2) h2 (f2.of u1)) fun x s2 q2 w2 cls d r2 u2 h2 => q2 w2 cls d r2 (u1.trans u2) h2⟩
theorem d_not {a : Expr} {m : Me} (h : PE X a (tI X.K CA W m)) : PE X (.UnaryOp .Not a pos) (tI X.K CA W (mNot m)) := by
  refine (pe_not h).weak fun σ H Q ⟨w0, w, s, eH, rel, q⟩ => ⟨w0, w, s, eH, rel, (asB_wp q.bind).imp (fun rx s1 _ ⟨b, e, q1⟩ w1 x r1 u1 h1 f1 => ?_) fun x s1 q1 => q1⟩
  subst e
  cases h1
  exact ⟨b, rfl, q1 w1 _ r1 u1 (.bl _) trivial⟩
theorem d_ifE {c a b : Expr} {mc : Mt} {m1 m2 : Me} (hc : PT X c (tT X.K CA W mc)) (h : PE X a (tI X.K CA W m1)) (h2 : PE X b (tI X.K CA W m2)) : PE X (.IfExp c a b pos) (tI X.K CA W (mIf mc m1 m2)) := by
  refine (pe_ifExp hc h h2).weak fun σ H Q ⟨w0, w, s, eH, rel, q⟩ => ⟨w0, w, s, eH, rel, q.bind.imp (fun b s1 _ q1 w1 r1 u1 => ?_) fun x s1 q1 => q1⟩
  have go : ∀ {m : Me}, Wp (m s1) (fun r s' => ∀ w' v, Rel X.K w0 w' s' σ → Up w w' → RelR X.K w' σ v r → Frh w v r → Q v w'.H) (Fe X.K CA W w0 w σ) → tI X.K CA W m σ w1.H Q := fun q1 =>
    ⟨w0, w1, s1, rfl, r1, Wp.imp q1 (fun b2 s2 _ q2 w2 v r2 u2 h2 f2 => q2 w2 v r2 (u1.trans u2) h2 (f2.of u1)) fun x s2 q2 w2 cls d r2 u2 h2 => q2 w2 cls d r2 (u1.trans u2) h2⟩
  cases b with
  | true => exact go q1
  | false => exact go q1
/-! ### arguments, displays -/
theorem d_nil : PA X [] (tA X.K CA W aNil) := L2.PA.weak pa_nil fun σ H Q ⟨w0, w, s, eH, r, q⟩ => by
  subst eH
  exact q w [] r (Up.refl w) trivial trivial
theorem RelRs.up {K : PySem.W.Frag} {w0 w w' : Wd} {s : S} {σ : L2.St} (rel : Rel K w0 w s σ) (u : Up w w') : ∀ {vs : List V} {rs : List R}, RelRs K w σ vs rs → RelRs K w' σ vs rs
  | [], [], _ => trivial
  | [], _ :: _, h => h.elim
  | _ :: _, [], h => h.elim
  | _ :: _, _ :: _, h => ⟨h.1.up rel u, RelRs.up rel u h.2⟩
theorem Frhs.of {w w' : Wd} (u : Up w w') : ∀ {vs : List V} {rs : List R}, Frhs w' vs rs → Frhs w vs rs
  | [], [], _ => trivial
  | [], _ :: _, h => trivial
  | _ :: _, [], h => trivial
  | _ :: _, _ :: _, h => ⟨h.1.of u, Frhs.of u h.2⟩
theorem d_cons {e : Expr} {es : List Expr} {m : Me} {ms : Ma} (h : PE X e (tI X.K CA W m)) (h2 : PA X es (tA X.K CA W ms)) (hs : starEach (e :: es) X.env = (false, eval e X.env) :: starEach es X.env := by rfl) : PA X (e :: es) (tA X.K CA W (aCons m ms)) := by
  refine L2.PA.weak (pa_cons h h2 hs) fun σ H Q ⟨w0, w, s, eH, r, q⟩ => ⟨w0, w, s, eH, r, q.bind.imp (fun rx s1 _ q1 w1 x r1 u1 h1 f1 => ⟨w0, w1, s1, rfl, r1, q1.bind.imp (fun rs s2 _ q2 w2 vs r2 u2 h2 f2 => ?_) fun x s2 q2 w2 cls d r2 u2 h2 => q2 w2 cls d r2 (u1.trans u2) h2⟩) fun x s1 q1 => q1⟩
  exact q2 w2 (x :: vs) r2 (u1.trans u2) ⟨h1.up r1 u2, h2⟩ ⟨f1, f2.of u1⟩
theorem d_tup {es : List Expr} {k : Nat} {ms : Ma} (h : PA X es (tA X.K CA W ms)) : PE X (.Tuple es k pos) (tI X.K CA W (mTup ms)) := by
  refine (pe_tup h).weak fun σ H Q ⟨w0, w, s, eH, r, q⟩ => ⟨w0, w, s, eH, r, q.bind.imp (fun rs s1 _ q1 w1 vs r1 u1 h1 f1 => ?_) fun x s1 q1 => q1⟩
  cases hd : toDs rs with
  | none => rw [hd] at q1; exact q1.elim
  | some ds =>
    rw [hd] at q1
    dsimp only at q1
    obtain ⟨w2, e2, _, r2, u2, _, h2⟩ := Rel.data ((Rel.up r)) r1 u1 h1 f1 hd
    by_cases hl : ds.length ≤ LIM
    · rw [if_pos hl] at q1
      refine ⟨LIM_sz (by rw [h2.length]; exact hl), fun p hp => ?_⟩
      rw [← e2] at hp ⊢
      obtain ⟨w3, e3, r3, u3, h3⟩ := r2.newT hp h2
      rw [← e3]
      exact q1 w3 _ r3 (u2.trans u3) h3 trivial
    · rw [if_neg hl] at q1; exact q1.elim
theorem d_lst {es : List Expr} {ms : Ma} (h : PA X es (tA X.K CA W ms)) : PE X (.List es pos) (tI X.K CA W (mLst ms)) := by
  refine (pe_lst h).weak fun σ H Q ⟨w0, w, s, eH, r, q⟩ => ⟨w0, w, s, eH, r, q.bind.imp (fun rs s1 _ q1 w1 vs r1 u1 h1 f1 => ?_) fun x s1 q1 => q1⟩
  cases hd : toDs rs with
  | none => rw [hd] at q1; exact q1.elim
  | some ds =>
    rw [hd] at q1
    dsimp only at q1
    obtain ⟨w2, e2, _, r2, u2, _, h2⟩ := Rel.data r.up r1 u1 h1 f1 hd
    by_cases hl : ds.length ≤ LIM
    · rw [if_pos hl] at q1
      refine ⟨LIM_sz (by rw [h2.length]; exact hl), fun p hp => ?_⟩
      rw [← e2] at hp ⊢
      obtain ⟨w3, e3, r3, u3, h3, f3⟩ := r2.newL hp h2
      rw [← e3]
      exact q1 w3 _ r3 (u2.trans u3) h3 (f3.of u2)
    · rw [if_neg hl] at q1; exact q1.elim
end
end Pm

set_option Elab.async false
set_option linter.all false
set_option maxRecDepth 100000
set_option maxHeartbeats 4000000
/-! PmD: slots set and changed, calls of built-ins and of defs. -/
namespace Pm
open PySem L2
section
variable {K : PySem.W.Frag} {CA : Nat → Addr} {w0 w w' wS : Wd} {s s' : S} {σ : L2.St}
theorem neP {P : Addr → Prop} {a p : Addr} (h : P a) (n : ¬ P p) : a ≠ p := fun z => n (z ▸ h)
theorem slN (i j : Nat) (x : Option V) (h : i ≠ j) : (σ.set i x)[j]? = σ[j]? := List.getElem?_set_ne h
/-- x = a value -/
theorem Rel.setVal (r : Rel K w0 w s σ) (i : Nat) {v : V} {d : D} (h : Rep K w v d) :
    ∃ w1, w1.H = w.H ∧ w1.adr = w.adr ∧ w1.I = w.I ∧ Rel K w0 w1 (setVal s i (.val d)) (σ.set i (some v)) ∧ Up w w1 ∧ Ext w w1 := by
  have e : Ext w { w with O := fun a => w.O a ∧ ¬ (σ[i]? = some (some (.ref a)) ∧ ∃ l, s.env[i]? = some (.own l)) } := ⟨⟨[], by simp⟩, fun _ h => h, fun _ _ _ h => h⟩
  have u : Up w { w with O := fun a => w.O a ∧ ¬ (σ[i]? = some (some (.ref a)) ∧ ∃ l, s.env[i]? = some (.own l)) } :=
    ⟨⟨[], by simp⟩, fun a h => .inl h, fun a h => h, fun a h => .inl h, fun a h => .inl h.1, fun a o h _ _ => h, fun a h => h⟩
  refine ⟨{ w with O := fun a => w.O a ∧ ¬ (σ[i]? = some (some (.ref a)) ∧ ∃ l, s.env[i]? = some (.own l)) }, rfl, rfl, rfl, { up := r.up.trans u, o0 := r.o0, len := by show (s.env.set i _).length = _; simp [r.len], sl := fun j => ?_, own := fun a h => ?_, dis := fun j k a l l' h1 h2 h3 h4 => ?_, oI := fun a h => r.oI a h.1, aI := r.aI, iH := r.iH, nd := r.nd, st := r.st.mono e rfl fun a o _ h => h }, u, e⟩
  · show SlRel K w0 _ ((σ.set i (some v))[j]?) ((s.env.set i (.val d))[j]?)
    by_cases hj : i = j
    · subst hj
      by_cases hl : i < σ.length
      · rw [List.getElem?_set_self hl, List.getElem?_set_self (by rw [r.len]; exact hl)]
        exact ⟨v, rfl, Rep.ext e h⟩
      · rw [List.getElem?_eq_none (l := s.env.set i (.val d)) (by simp [r.len]; omega)]
        trivial
    · rw [List.getElem?_set_ne hj, List.getElem?_set_ne hj]
      have q := r.sl j
      cases ho : s.env[j]? with
      | none => trivial
      | some b =>
        rw [ho] at q
        cases b with
        | un => trivial
        | exc a dd fs =>
          obtain ⟨z1, z2, fv, z3, z4⟩ := q
          exact ⟨z1, e.im _ z2, fv, e.keep _ _ z2 z3, FldR.ext e z4⟩
        | val d' =>
          obtain ⟨v', h1, h2⟩ := q
          exact ⟨v', h1, Rep.ext e h2⟩
        | own l =>
          obtain ⟨p, vs, h1, h2, h3, h4⟩ := q
          exact ⟨p, vs, h1, h2, Reps.ext e h3, h4, fun ⟨z1, l', z2⟩ => hj (r.dis i j p l' l z2 ho z1 h1)⟩
        | bor l =>
          obtain ⟨p, vs, h1, h2, h3, h4⟩ := q
          exact ⟨p, vs, h1, h2, Reps.ext e h3, h4⟩
        | ro l =>
          obtain ⟨p, vs, h1, h2, h3⟩ := q
          exact ⟨p, vs, h1, h2, Reps.ext e h3⟩
  · obtain ⟨j, l, h1, h2⟩ := r.own a h.1
    have hj : i ≠ j := fun z => h.2 (by subst z; exact ⟨h2, l, h1⟩)
    exact ⟨j, l, by show (s.env.set i _)[j]? = _; rw [List.getElem?_set_ne hj]; exact h1, by rw [slN _ _ _ hj]; exact h2⟩
  · have n1 : i ≠ j := fun z => by
      subst z
      have h1 : (s.env.set i (.val d))[i]? = some (.own l) := h1
      rw [List.getElem?_set_self (by have := (List.getElem?_eq_some_iff.mp h1).1; simpa using this)] at h1
      cases h1
    have n2 : i ≠ k := fun z => by
      subst z
      have h2 : (s.env.set i (.val d))[i]? = some (.own l') := h2
      rw [List.getElem?_set_self (by have := (List.getElem?_eq_some_iff.mp h2).1; simpa using this)] at h2
      cases h2
    have h1 : (s.env.set i (.val d))[j]? = some (.own l) := h1
    have h2 : (s.env.set i (.val d))[k]? = some (.own l') := h2
    rw [List.getElem?_set_ne n1] at h1
    rw [List.getElem?_set_ne n2] at h2
    rw [slN _ _ _ n1] at h3
    rw [slN _ _ _ n2] at h4
    exact r.dis j k a l l' h1 h2 h3 h4
/-- x = a new list, the frame's own from now on -/
theorem Rel.setOwn (r : Rel K w0 w s σ) (rS : Up w0 wS) (u : Up wS w) (i : Nat) {p : Addr} {vs : List V} {l : List D} (hp : wS.H p = none) (h1 : w.H p = some (.lst vs)) (h2 : Reps K w vs l) (h3 : ¬ w.I p) (h4 : p ∉ w.adr) (h5 : ¬ w.O p) :
    ∃ w1, w1.H = w.H ∧ Rel K w0 w1 (Pm.setVal s i (.own l)) (σ.set i (some (.ref p))) ∧ Up wS w1 := by
  by_cases hl : i < σ.length
  case neg =>
    refine ⟨w, rfl, ?_, u⟩
    have e1 : σ.set i (some (.ref p)) = σ := List.set_eq_of_length_le (by omega)
    have e2 : s.env.set i (.own l) = s.env := List.set_eq_of_length_le (by rw [r.len]; omega)
    unfold Pm.setVal
    rw [e1, e2]
    exact r
  let O1 : Addr → Prop := fun a => (w.O a ∧ ¬ (σ[i]? = some (some (.ref a)) ∧ ∃ l, s.env[i]? = some (.own l))) ∨ a = p
  have e : Ext w { w with O := O1 } := ⟨⟨[], by simp⟩, fun _ h => h, fun _ _ _ h => h⟩
  have hp0 : w0.H p = none := rS.dom p hp
  have u0 : Up w0 { w with O := O1 } := ⟨r.up.adr, r.up.new, r.up.im, r.up.fz, fun a h => by
    rcases h with h | h
    · exact r.up.ow a h.1
    · exact .inr (by rw [h]; exact hp0), r.up.keep, r.up.dom⟩
  have uS : Up wS { w with O := O1 } := ⟨u.adr, u.new, u.im, u.fz, fun a h => by
    rcases h with h | h
    · exact u.ow a h.1
    · exact .inr (by rw [h]; exact hp), u.keep, u.dom⟩
  refine ⟨{ w with O := O1 }, rfl, { up := u0, o0 := r.o0, len := by show (s.env.set i _).length = _; simp [r.len], sl := fun j => ?_, own := fun a h => ?_, dis := fun j k a m m' g1 g2 g3 g4 => ?_, oI := fun a h => ?_, aI := r.aI, iH := r.iH, nd := r.nd, st := r.st.mono e rfl fun a o _ h => h }, uS⟩
  · show SlRel K w0 _ ((σ.set i (some (.ref p)))[j]?) ((s.env.set i (.own l))[j]?)
    by_cases hj : i = j
    · subst hj
      rw [List.getElem?_set_self hl, List.getElem?_set_self (by rw [r.len]; exact hl)]
      exact ⟨p, vs, rfl, h1, Reps.ext e h2, .inr rfl⟩
    · rw [List.getElem?_set_ne hj, List.getElem?_set_ne hj]
      have q := r.sl j
      cases ho : s.env[j]? with
      | none => trivial
      | some b =>
        rw [ho] at q
        cases b with
        | un => trivial
        | exc a dd fs =>
          obtain ⟨z1, z2, fv, z3, z4⟩ := q
          exact ⟨z1, e.im _ z2, fv, e.keep _ _ z2 z3, FldR.ext e z4⟩
        | val d' =>
          obtain ⟨v', h1, h2⟩ := q
          exact ⟨v', h1, Rep.ext e h2⟩
        | own m =>
          obtain ⟨p', vs', g1, g2, g3, g4⟩ := q
          exact ⟨p', vs', g1, g2, Reps.ext e g3, .inl ⟨g4, fun ⟨z1, l', z2⟩ => hj (r.dis i j p' l' m z2 ho z1 g1)⟩⟩
        | bor m =>
          obtain ⟨p', vs', g1, g2, g3, g4⟩ := q
          exact ⟨p', vs', g1, g2, Reps.ext e g3, g4⟩
        | ro m =>
          obtain ⟨p', vs', g1, g2, g3⟩ := q
          exact ⟨p', vs', g1, g2, Reps.ext e g3⟩
  · rcases h with h | h
    · obtain ⟨j, m, g1, g2⟩ := r.own a h.1
      have hj : i ≠ j := fun z => h.2 (by subst z; exact ⟨g2, m, g1⟩)
      exact ⟨j, m, by show (s.env.set i _)[j]? = _; rw [List.getElem?_set_ne hj]; exact g1, by rw [slN _ _ _ hj]; exact g2⟩
    · exact ⟨i, l, by show (s.env.set i _)[i]? = _; rw [List.getElem?_set_self (by rw [r.len]; exact hl)], by rw [List.getElem?_set_self hl, h]⟩
  · have key : ∀ {j : Nat} {m : List D}, i ≠ j → (s.env.set i (.own l))[j]? = some (.own m) → (σ.set i (some (.ref p)))[j]? = some (some (.ref a)) → a ≠ p := fun {j m} n g1 g3 z => by
      rw [List.getElem?_set_ne n] at g1
      rw [slN _ _ _ n] at g3
      have q := r.sl j
      rw [g1, g3] at q
      obtain ⟨p', vs', e1, e2, e3, e4⟩ := q
      have e5 : a = p' := by injection e1 with e1; injection e1 with e1; injection e1
      rw [z] at e5
      exact h5 (e5 ▸ e4)
    by_cases n1 : i = j
    · by_cases n2 : i = k
      · exact n1.symm.trans n2
      · subst n1
        rw [List.getElem?_set_self hl] at g3
        have e5 : a = p := by injection g3 with g3; injection g3 with g3; injection g3 with g3; exact g3.symm
        exact absurd e5 (key n2 g2 g4)
    · by_cases n2 : i = k
      · subst n2
        rw [List.getElem?_set_self hl] at g4
        have e5 : a = p := by injection g4 with g4; injection g4 with g4; injection g4 with g4; exact g4.symm
        exact absurd e5 (key n1 g1 g3)
      · have g1 : (s.env.set i (.own l))[j]? = some (.own m) := g1
        have g2 : (s.env.set i (.own l))[k]? = some (.own m') := g2
        rw [List.getElem?_set_ne n1] at g1
        rw [List.getElem?_set_ne n2] at g2
        rw [slN _ _ _ n1] at g3
        rw [slN _ _ _ n2] at g4
        exact r.dis j k a m m' g1 g2 g3 g4
  · rcases h with h | h
    · exact r.oI a h.1
    · subst h
      exact ⟨h3, h4, hp0⟩
/-- a list of the frame's own becomes a value -/
theorem Rel.frz (r : Rel K w0 w s σ) (i : Nat) : ∃ w1, w1.H = w.H ∧ Rel K w0 w1 (Pm.frz s i) σ ∧ Up w w1 := by
  unfold Pm.frz
  cases ho : s.env[i]? with
  | none => exact ⟨w, rfl, r, Up.refl w⟩
  | some b =>
    cases b with
    | own l =>
      have q := r.sl i
      rw [ho] at q
      obtain ⟨p, vs, h1, h2, h3, h4⟩ := q
      have e : Ext w { w with I := fun a => w.I a ∨ a = p, O := fun a => w.O a ∧ a ≠ p } := ⟨⟨[], by simp⟩, fun _ h => .inl h, fun _ _ _ h => h⟩
      have u : Up w { w with I := fun a => w.I a ∨ a = p, O := fun a => w.O a ∧ a ≠ p } :=
        ⟨⟨[], by simp⟩, fun a h => .inl h, fun a h => .inl h, fun a h => h.elim .inl fun z => .inr (.inr (z ▸ h4)), fun a h => .inl h.1, fun a o h _ _ => h, fun a h => h⟩
      have hl : i < s.env.length := (List.getElem?_eq_some_iff.mp ho).1
      refine ⟨{ w with I := fun a => w.I a ∨ a = p, O := fun a => w.O a ∧ a ≠ p }, rfl, { up := r.up.trans u, o0 := r.o0, len := by show (s.env.set i _).length = _; simp [r.len], sl := fun j => ?_, own := fun a h => ?_, dis := fun j k a m m' g1 g2 g3 g4 => ?_, oI := fun a h => ?_, aI := fun a h z => ?_, iH := fun a z => ?_, nd := r.nd, st := r.st.mono e rfl fun a o _ h => h }, u⟩
      · show SlRel K w0 _ (σ[j]?) ((s.env.set i (.val (.lst l)))[j]?)
        by_cases hj : i = j
        · subst hj
          rw [List.getElem?_set_self hl]
          exact ⟨_, h1, .lst (.inr rfl) h2 (Reps.ext e h3)⟩
        · rw [List.getElem?_set_ne hj]
          have q := r.sl j
          cases ho' : s.env[j]? with
          | none => trivial
          | some b =>
            rw [ho'] at q
            cases b with
            | un => trivial
            | exc a dd fs =>
              obtain ⟨z1, z2, fv, z3, z4⟩ := q
              exact ⟨z1, e.im _ z2, fv, e.keep _ _ z2 z3, FldR.ext e z4⟩
            | val d' =>
              obtain ⟨v', h1, h2⟩ := q
              exact ⟨v', h1, Rep.ext e h2⟩
            | own m =>
              obtain ⟨p', vs', g1, g2, g3, g4⟩ := q
              exact ⟨p', vs', g1, g2, Reps.ext e g3, g4, fun z => hj (r.dis i j p l m ho ho' h1 (z ▸ g1))⟩
            | bor m =>
              obtain ⟨p', vs', g1, g2, g3, g4⟩ := q
              exact ⟨p', vs', g1, g2, Reps.ext e g3, g4⟩
            | ro m =>
              obtain ⟨p', vs', g1, g2, g3⟩ := q
              exact ⟨p', vs', g1, g2, Reps.ext e g3⟩
      · obtain ⟨j, m, g1, g2⟩ := r.own a h.1
        have hj : i ≠ j := fun z => h.2 (by
          subst z
          rw [h1] at g2
          injection g2 with g2; injection g2 with g2; injection g2 with g2; exact g2.symm)
        exact ⟨j, m, by show (s.env.set i _)[j]? = _; rw [List.getElem?_set_ne hj]; exact g1, g2⟩
      · have sub : ∀ {j : Nat} {m : List D}, (s.env.set i (.val (.lst l)))[j]? = some (.own m) → s.env[j]? = some (.own m) := fun {j m} g => by
          by_cases n : i = j
          · subst n
            rw [List.getElem?_set_self hl] at g
            cases g
          · rw [List.getElem?_set_ne n] at g
            exact g
        exact r.dis j k a m m' (sub g1) (sub g2) g3 g4
      · obtain ⟨g1, g2, g3⟩ := r.oI a h.1
        exact ⟨fun z => z.elim g1 h.2, g2, g3⟩
      · rcases z with z | z
        · exact r.aI a h z
        · subst z
          exact (r.oI a h4).2.1 h
      · rcases z with z | z
        · exact r.iH a z
        · rw [z]
          show w.H p ≠ none
          rw [h2]
          intro z; cases z
    | _ => exact ⟨w, rfl, r, Up.refl w⟩
theorem Rel.frzs (r0 : Rel K w0 w s σ) (is : List Nat) : ∃ w1, w1.H = w.H ∧ Rel K w0 w1 (is.foldl Pm.frz s) σ ∧ Up w w1 := by
  induction is generalizing s w with
  | nil => exact ⟨w, rfl, r0, Up.refl w⟩
  | cons i is ih =>
    obtain ⟨w1, e1, r1, u1⟩ := r0.frz i
    obtain ⟨w2, e2, r2, u2⟩ := ih r1
    exact ⟨w2, e2.trans e1, r2, u1.trans u2⟩
/-- a change of a slot's own list, of an object of the store -/
theorem Rel.chg {v : V} {ro : R} {f : List D → Option (List D)} (r : Rel K w0 w s σ) (h : RelR K w σ v ro) (e : Pm.chg s ro f = some s') :
    ∃ p vs l l', v = .ref p ∧ w.H p = some (.lst vs) ∧ Reps K w vs l ∧ s.lv ro = (match ro with | .slt _ => some l | _ => none) ∧ f l = some l' ∧ ∀ vs', Reps K w vs' l' → Rel K w0 { w with H := upd w.H p (.lst vs') } s' σ ∧ Up w { w with H := upd w.H p (.lst vs') } := by
  have dom : ∀ (p : Addr) (o : HO) (a : Addr), upd w.H p o a = none → w.H a = none := fun p o a z => by
    by_cases q : a = p
    · rw [q, upd_same] at z; cases z
    · rw [upd_ne q] at z; exact z
  have iHn : ∀ (p : Addr) (o : HO) (a : Addr), w.I a → upd w.H p o a ≠ none := fun p o a i z => r.iH a i (dom p o a z)
  cases ro with
  | slt i =>
    unfold Pm.chg at e
    dsimp only at e
    cases ho : s.env[i]? with
    | none => rw [ho] at e; cases e
    | some b =>
      rw [ho] at e
      cases b with
      | own l =>
        dsimp only at e
        cases hf : f l with
        | none => rw [hf] at e; cases e
        | some l' =>
          rw [hf] at e
          injection e with e
          subst e
          have q := r.sl i
          rw [ho] at q
          obtain ⟨p, vs, h1, h2, h3, h4⟩ := q
          have ev : v = .ref p := by rw [show σ[i]? = some (some v) from h] at h1; injection h1 with h1; injection h1
          refine ⟨p, vs, l, l', ev, h2, h3, ?_, hf, fun vs' hv => ?_⟩
          · show (match s.env[i]? with
              | some (.own l) => some l
              | some (.bor l) => some l
              | _ => none) = some l
            rw [ho]
          have oi := r.oI p h4
          have hl : i < s.env.length := (List.getElem?_eq_some_iff.mp ho).1
          have ex : Ext w { w with H := upd w.H p (.lst vs') } := ⟨⟨[], by simp⟩, fun _ h => h, fun a o i h => by
            show upd w.H p _ a = _
            rw [upd_ne (neP i oi.1)]
            exact h⟩
          have u : Up w { w with H := upd w.H p (.lst vs') } := ⟨⟨[], by simp⟩, fun a h => .inl h, fun a h => h, fun a h => .inl h, fun a h => .inl h, fun a o h _ n => by
            show upd w.H p _ a = _
            rw [upd_ne (neP (P := fun x => ¬ w.O x) n (fun z => z h4))]
            exact h, fun a z => dom p _ a z⟩
          have hst : StoRel K { w with H := upd w.H p (.lst vs') } s.mem := r.st.mono ex rfl fun a o ha h => by
            show upd w.H p _ a = _
            rw [upd_ne (neP ha oi.2.1)]
            exact h
          refine ⟨{ up := r.up.trans u, o0 := r.o0, len := by show (s.env.set i _).length = _; simp [r.len], sl := fun j => ?_, own := fun a h => ?_, dis := fun j k a m m' g1 g2 g3 g4 => ?_, oI := r.oI, aI := r.aI, iH := fun a z => iHn p _ a z, nd := r.nd, st := hst }, u⟩
          · show SlRel K w0 _ (σ[j]?) ((s.env.set i (.own l'))[j]?)
            by_cases hj : i = j
            · subst hj
              rw [List.getElem?_set_self hl]
              exact ⟨p, vs', h1, upd_same, Reps.ext ex hv, h4⟩
            · rw [List.getElem?_set_ne hj]
              have q := r.sl j
              cases ho' : s.env[j]? with
              | none => trivial
              | some b =>
                rw [ho'] at q
                cases b with
                | un => trivial
                | exc a dd fs =>
                  obtain ⟨z1, z2, fv, z3, z4⟩ := q
                  exact ⟨z1, ex.im _ z2, fv, ex.keep _ _ z2 z3, FldR.ext ex z4⟩
                | val d' =>
                  obtain ⟨v', h1, h2⟩ := q
                  exact ⟨v', h1, Rep.ext ex h2⟩
                | own m =>
                  obtain ⟨p', vs', g1, g2, g3, g4⟩ := q
                  exact ⟨p', vs', g1, by show upd w.H p _ p' = _; rw [upd_ne (fun z : p' = p => hj (r.dis i j p l m ho ho' h1 (by rw [← z]; exact g1)))]; exact g2, Reps.ext ex g3, g4⟩
                | bor m =>
                  obtain ⟨p', vs', g1, g2, g3, g4, g5⟩ := q
                  exact ⟨p', vs', g1, by show upd w.H p _ p' = _; rw [upd_ne (neP (P := fun x => w0.H x ≠ none) g4 (fun z => z oi.2.2))]; exact g2, Reps.ext ex g3, g4, g5⟩
                | ro m =>
                  obtain ⟨p', vs', g1, g2, g3⟩ := q
                  refine ⟨p', vs', g1, ?_, Reps.ext ex g3⟩
                  rcases g2 with ⟨g2, g4, g5⟩ | g2
                  · refine .inl ⟨?_, g4, g5⟩
                    have n : p' ≠ p := neP (P := fun x => w0.H x ≠ none) g4 (fun z => z oi.2.2)
                    rcases g2 with g2 | ⟨o, g2⟩
                    · exact .inl (by show upd w.H p _ p' = _; rw [upd_ne n]; exact g2)
                    · exact .inr ⟨o, by show upd w.H p _ p' = _; rw [upd_ne n]; exact g2⟩
                  · exact .inr g2
          · obtain ⟨j, m, g1, g2⟩ := r.own a h
            by_cases hj : i = j
            · subst hj
              exact ⟨i, l', by show (s.env.set i _)[i]? = _; rw [List.getElem?_set_self hl], g2⟩
            · exact ⟨j, m, by show (s.env.set i _)[j]? = _; rw [List.getElem?_set_ne hj]; exact g1, g2⟩
          · have sub : ∀ {j : Nat} {m : List D}, (s.env.set i (.own l'))[j]? = some (.own m) → ∃ m, s.env[j]? = some (.own m) := fun {j m} g => by
              by_cases n : i = j
              · subst n
                exact ⟨_, ho⟩
              · rw [List.getElem?_set_ne n] at g
                exact ⟨_, g⟩
            obtain ⟨m1, e1⟩ := sub g1
            obtain ⟨m2, e2⟩ := sub g2
            exact r.dis j k a m1 m2 e1 e2 g3 g4
      | _ => cases e
  | fr l => cases e
  | d x =>
    cases x with
    | hnd k =>
      unfold Pm.chg at e
      dsimp only at e
      cases ho : s.mem[k]? with
      | none => rw [ho] at e; cases e
      | some l =>
        rw [ho] at e
        dsimp only at e
        cases hf : f l with
        | none => rw [hf] at e; cases e
        | some l' =>
          rw [hf] at e
          injection e with e
          subst e
          obtain ⟨p, ev, ha⟩ := Rep.hndAt h
          obtain ⟨vs, h2, h3⟩ := r.st.2 k p l ha ho
          have hpa : p ∈ w.adr := List.mem_of_getElem? ha
          refine ⟨p, vs, l, l', ev, h2, h3, rfl, hf, fun vs' hv => ?_⟩
          have ex : Ext w { w with H := upd w.H p (.lst vs') } := ⟨⟨[], by simp⟩, fun _ h => h, fun a o i h => by
            show upd w.H p _ a = _
            rw [upd_ne (neP i (r.aI p hpa))]
            exact h⟩
          have u : Up w { w with H := upd w.H p (.lst vs') } := ⟨⟨[], by simp⟩, fun a h => .inl h, fun a h => h, fun a h => .inl h, fun a h => .inl h, fun a o h n _ => by
            show upd w.H p _ a = _
            rw [upd_ne (neP (P := fun x => x ∉ w.adr) n (fun z => z hpa))]
            exact h, fun a z => dom p _ a z⟩
          refine ⟨{ up := r.up.trans u, o0 := r.o0, len := r.len, sl := fun j => ?_, own := r.own, dis := r.dis, oI := r.oI, aI := r.aI, iH := fun a z => iHn p _ a z, nd := r.nd, st := ?_ }, u⟩
          · refine SlRel.mono ex (fun a h => h) (fun a _ h => h) (fun a o ho h => ?_) (fun a o _ hn h => ?_) (r.sl j)
            · show upd w.H p _ a = _
              rw [upd_ne (neP (P := fun x => x ∉ w.adr) (r.oI a ho).2.1 (fun z => z hpa))]
              exact h
            · show upd w.H p _ a = _
              rw [upd_ne (neP (P := fun x => x ∉ w.adr) hn (fun z => z hpa))]
              exact h
          · refine ⟨by show (s.mem.set k l').length = _; simp [r.st.1], fun i a m g1 g2 => ?_⟩
            by_cases hk : k = i
            · subst hk
              have e1 : a = p := by
                have g1 : w.adr[k]? = some a := g1
                rw [ha] at g1; injection g1 with g1; exact g1.symm
              have g2 : (s.mem.set k l')[k]? = some m := g2
              rw [List.getElem?_set_self (List.getElem?_eq_some_iff.mp ho).1] at g2
              injection g2 with g2
              subst g2 e1
              exact ⟨vs', upd_same, Reps.ext ex hv⟩
            · have g2 : (s.mem.set k l')[i]? = some m := g2
              rw [List.getElem?_set_ne hk] at g2
              obtain ⟨us, e1, e2⟩ := r.st.2 i a m g1 g2
              have n : a ≠ p := fun z => by
                have g1 : w.adr[i]? = some a := g1
                rw [z] at g1
                exact hk ((List.getElem?_inj (List.getElem?_eq_some_iff.mp ha).1 r.nd).mp (by rw [ha, g1]))
              exact ⟨us, by show upd w.H p _ a = _; rw [upd_ne n]; exact e1, Reps.ext ex e2⟩
    | _ => cases e
/-! ### calls -/
def ArgRel (K : PySem.W.Frag) (w : Wd) (v : V) : Arg → Prop
  | .val d => Rep K w v d
  | .bor l => ∃ p vs, v = .ref p ∧ w.H p = some (.lst vs) ∧ Reps K w vs l ∧ p ∉ w.adr
  | .ro l => ∃ p vs, v = .ref p ∧ ((Rd w.H p (.lst vs) ∧ w.H p ≠ none ∧ p ∉ w.adr) ∨ LstK K p vs) ∧ Reps K w vs l
  | .exc a dd fs => v = .ref a ∧ w.I dd ∧ ∃ fv, w.H dd = some (.xd fv) ∧ FldR K w fv fs
def ArgsRel (K : PySem.W.Frag) (w : Wd) : List V → List Arg → Prop
  | [], [] => True
  | v :: vs, a :: as => ArgRel K w v a ∧ ArgsRel K w vs as
  | _, _ => False
structure Clean (K : PySem.W.Frag) (w : Wd) (m : List (List D)) : Prop where
  o0 : ∀ a, ¬ w.O a
  aI : ∀ a, a ∈ w.adr → ¬ w.I a
  iH : ∀ a, w.I a → w.H a ≠ none
  nd : w.adr.Nodup
  st : StoRel K w m
def RetR (K : PySem.W.Frag) (w w' : Wd) (v : V) : R → Prop
  | .d x => Rep K w' v x
  | .fr l => ∃ p vs, v = .ref p ∧ w.H p = none ∧ w'.H p = some (.lst vs) ∧ Reps K w' vs l ∧ ¬ w'.I p ∧ p ∉ w'.adr
  | .slt _ => False
def FoR (K : PySem.W.Frag) (CA : Nat → Addr) (w : Wd) (Q : VK) (E : XK) : Fo → Prop
  | .ok r m' => ∀ w' v, Clean K w' m' → Up w w' → RetR K w w' v r → Q v w'.H
  | .ex x m' => ∀ w' cls d, Clean K w' m' → Up w w' → RelX K CA w' cls d x → E cls d w'.H
  | .st => False
/-- the promise of every def: it does what the table's def does -/
def spF (K : PySem.W.Frag) (CA : Nat → Addr) (F : Fns) (f np : Nat) : Sp := fun vs H Q E => vs.length = np ∧ ∃ w as m, w.H = H ∧ Clean K w m ∧ ArgsRel K w vs as ∧ FoR K CA w Q E (F f as m)
def noO (w : Wd) : Wd := { w with O := fun _ => False }
theorem ext_noO : Ext w (noO w) := ⟨⟨[], by simp [noO]⟩, fun _ h => h, fun _ _ _ h => h⟩
theorem toArgs_rel (r : Rel K w0 w s σ) (e : Ext w w') (hH : w'.H = w.H) (hA : w'.adr = w.adr) : ∀ {vs : List V} {rs : List R} {as : List Arg}, RelRs K w σ vs rs → (∀ a, InFr vs rs a → w'.I a) → toArgs s rs = some as → ArgsRel K w' vs as
  | [], [], as, _, _, h => by
    injection h with h
    subst h
    exact trivial
  | [], _ :: _, _, h, _, _ => h.elim
  | _ :: _, [], _, h, _, _ => h.elim
  | v :: vs, rr :: rs, as, h, hi, q => by
    unfold toArgs at q
    cases hd : rr.arg s with
    | none => rw [hd] at q; cases q
    | some a =>
      cases ht : toArgs s rs with
      | none => rw [hd, ht] at q; cases q
      | some as' =>
        rw [hd, ht] at q
        injection q with q
        subst q
        refine ⟨?_, toArgs_rel r e hH hA h.2 (fun a z => hi a ?_) ht⟩
        · cases rr with
          | d x =>
            injection hd with hd
            subst hd
            exact Rep.ext e h.1
          | fr l =>
            injection hd with hd
            subst hd
            obtain ⟨p, ws, e2, h1, h2, h3, h4, h5⟩ := h.1
            rw [e2]
            exact Rep.lst (hi p (.inl e2)) (by rw [hH]; exact h1) (Reps.ext e h2)
          | slt i =>
            have hd : (match s.env[i]? with
              | some (.own l) => some (Arg.bor l)
              | some (.bor l) => some (Arg.bor l)
              | some (.ro l) => some (Arg.ro l)
              | some (.exc a dd fs) => some (Arg.exc a dd fs)
              | _ => none) = some a := hd
            have q := r.sl i
            have hv : σ[i]? = some (some v) := h.1
            cases hs : s.env[i]? with
            | none => rw [hs] at hd; cases hd
            | some b =>
              rw [hs] at hd q
              rw [hv] at q
              cases b with
              | un => cases hd
              | exc a dd fs =>
                injection hd with hd
                subst hd
                obtain ⟨h1, h2, fv, h3, h4⟩ := q
                exact ⟨by injection h1 with h1; injection h1, e.im _ h2, fv, by rw [hH]; exact h3, FldR.ext e h4⟩
              | val d => cases hd
              | own l =>
                injection hd with hd
                subst hd
                obtain ⟨p, vs, h1, h2, h3, h4⟩ := q
                exact ⟨p, vs, by injection h1 with h1; injection h1, by rw [hH]; exact h2, Reps.ext e h3, by rw [hA]; exact (r.oI p h4).2.1⟩
              | bor l =>
                injection hd with hd
                subst hd
                obtain ⟨p, vs, h1, h2, h3, h4, h5⟩ := q
                exact ⟨p, vs, by injection h1 with h1; injection h1, by rw [hH]; exact h2, Reps.ext e h3, by rw [hA]; exact h5⟩
              | ro l =>
                injection hd with hd
                subst hd
                obtain ⟨p, vs, h1, h2, h3⟩ := q
                refine ⟨p, vs, by injection h1 with h1; injection h1, ?_, Reps.ext e h3⟩
                rcases h2 with ⟨h2, h4, h5⟩ | h2
                · refine .inl ⟨by rw [hH]; exact h2, ?_, by rw [hA]; exact h5⟩
                  rw [hH]
                  rcases h2 with h2 | ⟨o, h2⟩
                  · rw [h2]; intro z; cases z
                  · rw [h2]; intro z; cases z
                · exact .inr h2
        · cases rr with
          | d x => exact z
          | fr l => exact .inr z
          | slt i => exact z
theorem argsRel_noO : ∀ {vs : List V} {as : List Arg}, ArgsRel K w vs as → ArgsRel K (noO w) vs as
  | [], [], _ => trivial
  | [], _ :: _, h => h.elim
  | _ :: _, [], h => h.elim
  | v :: vs, .val d :: as, h => ⟨Rep.ext ext_noO h.1, argsRel_noO h.2⟩
  | v :: vs, .bor l :: as, h => ⟨by
      obtain ⟨p, vs, g1, g2, g3, g4⟩ := h.1
      exact ⟨p, vs, g1, g2, Reps.ext ext_noO g3, g4⟩, argsRel_noO h.2⟩
  | v :: vs, .ro l :: as, h => ⟨by
      obtain ⟨p, vs, g1, g2, g3⟩ := h.1
      exact ⟨p, vs, g1, g2, Reps.ext ext_noO g3⟩, argsRel_noO h.2⟩
  | v :: vs, .exc a dd fs :: as, h => ⟨by
      obtain ⟨g1, g2, fv, g3, g4⟩ := h.1
      exact ⟨g1, g2, fv, g3, FldR.ext ext_noO g4⟩, argsRel_noO h.2⟩
theorem Rel.args {vs : List V} {rs : List R} {as : List Arg} (r0 : Up w0 w) (r : Rel K w0 w' s σ) (u : Up w w') (h : RelRs K w' σ vs rs) (f : Frhs w vs rs) (e : toArgs s rs = some as) :
    ∃ w2, w2.H = w'.H ∧ w2.O = w'.O ∧ Rel K w0 w2 s σ ∧ Up w w2 ∧ ArgsRel K (noO w2) vs as := by
  obtain ⟨r2, u2, e2⟩ := Rel.freeze (s' := s) (σ' := σ) r0 r u (InFr vs rs) (fun a z => inFr_facts h f z)
  exact ⟨{ w' with I := fun a => w'.I a ∨ InFr vs rs a }, rfl, rfl, r2, u2, argsRel_noO (toArgs_rel r e2 rfl rfl h (fun a z => .inr z) e)⟩
/-- behind a call -/
theorem Rel.call {m' : List (List D)} (r : Rel K w0 w s σ) (c : Clean K w' m') (u : Up (noO w) w') : ∃ w4, w4.H = w'.H ∧ w4.I = w'.I ∧ w4.adr = w'.adr ∧ w4.O = w.O ∧ Ext w' w4 ∧ Rel K w0 w4 { s with mem := m' } σ ∧ Up w w4 := by
  have u2 : Up w { w' with O := w.O } := ⟨u.adr, u.new, u.im, fun a h => (u.fz a h).elim .inl fun z => z.elim (fun z => .inr (.inl z)) False.elim, fun a h => .inl h, fun a o h n _ => u.keep a o h n (fun z => z), u.dom⟩
  have ex := r.ext u2
  have kp : ∀ a o, w.H a = some o → a ∉ w.adr → w'.H a = some o := fun a o h n => u.keep a o h n (fun z => z)
  have ee : Ext w' { w' with O := w.O } := ⟨⟨[], by simp⟩, fun _ h => h, fun _ _ _ h => h⟩
  refine ⟨{ w' with O := w.O }, rfl, rfl, rfl, rfl, ee, { up := r.up.trans u2, o0 := r.o0, len := r.len, sl := fun i => ?_, own := r.own, dis := r.dis, oI := fun a h => ?_, aI := c.aI, iH := c.iH, nd := c.nd, st := ?_ }, u2⟩
  · refine SlRel.mono ex (fun a h => h) (fun a h n z => ?_) (fun a o ho h => kp a o h (r.oI a ho).2.1) (fun a o _ hn h => kp a o h hn) (r.sl i)
    rcases u.new a z with z | z
    · exact n z
    · have z0 : w0.H a = none := r.up.dom a z
      exact h z0
  · obtain ⟨h1, h2, h3⟩ := r.oI a h
    refine ⟨fun z => ?_, fun z => ?_, h3⟩
    · rcases u.fz a z with z | z | z
      · exact h1 z
      · exact r.oH h z
      · exact z
    · rcases u.new a z with z | z
      · exact h2 z
      · exact r.oH h z
  · exact ⟨c.st.1, fun i a l h1 h2 => by
      obtain ⟨vs, h3, h4⟩ := c.st.2 i a l h1 h2
      exact ⟨vs, h3, Reps.ext ee h4⟩⟩
theorem Rel.clean (r : Rel K w0 w s σ) : Clean K (noO w) s.mem := ⟨fun _ h => h, r.aI, r.iH, r.nd, ⟨r.st.1, fun i a l h1 h2 => by
  obtain ⟨vs, h3, h4⟩ := r.st.2 i a l h1 h2
  exact ⟨vs, h3, Reps.ext ext_noO h4⟩⟩⟩
end
section
variable {X : Cx} {CA : Nat → Addr} {W : WX} {pos : Pos}
/-- a built-in's call on results -/
def Cop (K : PySem.W.Frag) (r : List V → Hp → VK → Prop) (f : S → List R → Option R) : Prop := ∀ (w0 w : Wd) (s : S) (σ : L2.St) (vs : List V) (rs : List R) (rz : R) (Q : VK), Rel K w0 w s σ → RelRs K w σ vs rs → f s rs = some rz →
  (∀ w' v, Rel K w0 w' s σ → Up w w' → RelR K w' σ v rz → Frh w v rz → Q v w'.H) → r vs w.H Q
theorem d_blt {e : Expr} {ms : Ma} {r : List V → Hp → VK → Prop} {f : S → List R → Option R} (h : PE X e (tCB r (tA X.K CA W ms))) (hb : Cop X.K r f) : PE X e (tI X.K CA W (mB f ms)) := by
  refine h.weak fun σ H Q ⟨w0, w, s, eH, rel, q⟩ => ⟨w0, w, s, eH, rel, q.bind.imp (fun rs s1 _ q1 w1 vs r1 u1 h1 f1 => ?_) fun x s1 q1 => q1⟩
  unfold ofR at q1
  cases hf : f s1 rs with
  | none => rw [hf] at q1; exact q1.elim
  | some rz =>
    rw [hf] at q1
    exact hb w0 w1 s1 σ vs rs rz Q r1 h1 hf fun w3 v r3 u3 h3 f3 => q1 w3 v r3 (u1.trans u3) h3 (f3.of u1)
/-- a call of a def of the text -/
theorem d_call {e : Expr} {ms : Ma} {F : Fns} {f np : Nat} (h : PE X e (tCallS (spF X.K CA F f np) (WE W) (tA X.K CA W ms))) (har : ∀ as m, as.length ≠ np → F f as m = .st) : PE X e (tI X.K CA W (mCall F f ms)) := by
  refine h.weak fun σ H Q ⟨w0, w, s, eH, rel, q⟩ => ⟨w0, w, s, eH, rel, q.bind.imp (fun rs s1 e1 q1 w1 vs r1 u1 h1 f1 => ?_) fun x s1 q1 => q1⟩
  have hl : ∀ {vs : List V} {rs : List R}, RelRs X.K w1 σ vs rs → vs.length = rs.length := by
    intro vs
    induction vs with
    | nil => intro rs h; cases rs with
      | nil => rfl
      | cons => exact h.elim
    | cons v vs ih => intro rs h; cases rs with
      | nil => exact h.elim
      | cons r rs => simp [ih h.2]
  have hta : ∀ {rs : List R} {as : List Arg}, toArgs s1 rs = some as → as.length = rs.length := by
    intro rs
    induction rs with
    | nil => intro as h; injection h with h; subst h; rfl
    | cons r rs ih =>
      intro as h
      unfold toArgs at h
      cases q1 : r.arg s1 with
      | none => rw [q1] at h; cases h
      | some a =>
        cases q2 : toArgs s1 rs with
        | none => rw [q1, q2] at h; cases h
        | some as' => rw [q1, q2] at h; injection h with h; subst h; simp [ih q2]
  cases ha : toArgs s1 rs with
  | none => rw [ha] at q1; exact q1.elim
  | some as =>
    rw [ha] at q1
    dsimp only at q1
    by_cases hnp : as.length = np
    case neg => rw [har as s1.mem hnp] at q1; exact q1.elim
    refine ⟨(hl h1).trans ((hta ha).symm.trans hnp), ?_⟩
    obtain ⟨w2, eH2, eO2, r2, u2, ar⟩ := Rel.args rel.up r1 u1 h1 f1 ha
    refine ⟨noO w2, as, s1.mem, eH2, r2.clean, ar, ?_⟩
    cases hF : F f as s1.mem with
    | st => rw [hF] at q1; exact q1.elim
    | ex x m' =>
      rw [hF] at q1
      intro w3 cls d c3 u3 x3
      obtain ⟨w4, e1, e2, e3, e4, ex, r4, u4⟩ := r2.call c3 u3
      rw [← e1]
      refine q1 w4 cls d r4 (u2.trans u4) ?_
      obtain ⟨g1, dd, fv, g2, g3, g4⟩ := x3
      exact ⟨g1, dd, fv, g2, ⟨ex.im _ g3.1, by rw [e1]; exact g3.2⟩, FldR.ext ex g4⟩
    | ok r m' =>
      rw [hF] at q1
      intro w3 v c3 u3 x3
      obtain ⟨w4, e1, e2, e3, e4, ex, r4, u4⟩ := r2.call c3 u3
      rw [← e1]
      cases r with
      | slt i => exact x3.elim
      | d y => exact q1 w4 v r4 (u2.trans u4) (Rep.ext ex x3) trivial
      | fr l =>
        obtain ⟨p, us, g1, g2, g3, g4, g5, g6⟩ := x3
        refine q1 w4 v r4 (u2.trans u4) ⟨p, us, g1, by rw [e1]; exact g3, Reps.ext ex g4, by rw [e2]; exact g5, by rw [e3]; exact g6, fun z => r2.oH (e4 ▸ z) g2⟩ fun p' e => ?_
        rw [g1] at e
        injection e with e
        subst e
        exact u2.dom _ g2
end
end Pm

set_option Elab.async false
set_option linter.all false
set_option maxRecDepth 100000
set_option maxHeartbeats 4000000
/-! PmE: targets, what is walked, loops, comprehensions, statements. -/
namespace Pm
open PySem L2
section
variable {K : PySem.W.Frag} {CA : Nat → Addr} {w0 w w' w1 wS : Wd} {s s' : S} {σ σ' : L2.St}
/-- slots that are not set may stand for anything -/
theorem Rel.reσ (r : Rel K w0 w s σ) (hl : σ'.length = σ.length) (h : ∀ i : Nat, isUn s.env[i]? = true ∨ σ'[i]? = σ[i]?) : Rel K w0 w s σ' := by
  have key : ∀ {i : Nat} {b : Sl}, s.env[i]? = some b → (∀ z, b = .un → z) → σ'[i]? = σ[i]? := fun {i b} e n => by
    rcases h i with q | q
    · rw [e] at q
      cases b with
      | un => exact n _ rfl
      | _ => cases q
    · exact q
  refine { up := r.up, o0 := r.o0, len := by rw [hl]; exact r.len, sl := fun i => ?_, own := fun a ha => ?_, dis := fun i j a l l' g1 g2 g3 g4 => ?_, oI := r.oI, aI := r.aI, iH := r.iH, nd := r.nd, st := r.st }
  · have q := r.sl i
    cases e : s.env[i]? with
    | none => trivial
    | some b =>
      rw [e] at q
      cases b with
      | un => trivial
      | _ => rw [key e (fun z h => by cases h)]; exact q
  · obtain ⟨i, l, g1, g2⟩ := r.own a ha
    exact ⟨i, l, g1, by rw [key g1 (fun z h => by cases h)]; exact g2⟩
  · rw [key g1 (fun z h => by cases h)] at g3
    rw [key g2 (fun z h => by cases h)] at g4
    exact r.dis i j a l l' g1 g2 g3 g4
/-- a slot is let go -/
theorem Rel.setUn (r : Rel K w0 w s σ) (i : Nat) : ∃ w1, w1.H = w.H ∧ Rel K w0 w1 { s with env := s.env.set i .un } (σ.set i none) ∧ Up w w1 ∧ Ext w w1 ∧ ∀ a, w1.O a → w.O a := by
  have e : Ext w { w with O := fun a => w.O a ∧ ¬ (σ[i]? = some (some (.ref a)) ∧ ∃ l, s.env[i]? = some (.own l)) } := ⟨⟨[], by simp⟩, fun _ h => h, fun _ _ _ h => h⟩
  have u : Up w { w with O := fun a => w.O a ∧ ¬ (σ[i]? = some (some (.ref a)) ∧ ∃ l, s.env[i]? = some (.own l)) } :=
    ⟨⟨[], by simp⟩, fun a h => .inl h, fun a h => h, fun a h => .inl h, fun a h => .inl h.1, fun a o h _ _ => h, fun a h => h⟩
  have sub : ∀ {j : Nat} {m : List D}, (s.env.set i .un)[j]? = some (.own m) → i ≠ j ∧ s.env[j]? = some (.own m) := fun {j m} g => by
    by_cases n : i = j
    · subst n
      by_cases hl : i < s.env.length
      · rw [List.getElem?_set_self hl] at g
        cases g
      · rw [List.getElem?_eq_none (by simp; omega)] at g
        cases g
    · rw [List.getElem?_set_ne n] at g
      exact ⟨n, g⟩
  refine ⟨{ w with O := fun a => w.O a ∧ ¬ (σ[i]? = some (some (.ref a)) ∧ ∃ l, s.env[i]? = some (.own l)) }, rfl, { up := r.up.trans u, o0 := r.o0, len := by show (s.env.set i _).length = _; simp [r.len], sl := fun j => ?_, own := fun a h => ?_, dis := fun j k a l l' h1 h2 h3 h4 => ?_, oI := fun a h => r.oI a h.1, aI := r.aI, iH := r.iH, nd := r.nd, st := r.st.mono e rfl fun a o _ h => h }, u, e, fun a h => h.1⟩
  · show SlRel K w0 _ ((σ.set i none)[j]?) ((s.env.set i .un)[j]?)
    by_cases hj : i = j
    · subst hj
      by_cases hl : i < s.env.length
      · rw [List.getElem?_set_self hl]
        trivial
      · rw [List.getElem?_eq_none (l := s.env.set i .un) (by simp; omega)]
        trivial
    · rw [List.getElem?_set_ne hj, List.getElem?_set_ne hj]
      have q := r.sl j
      cases ho : s.env[j]? with
      | none => trivial
      | some b =>
        rw [ho] at q
        cases b with
        | un => trivial
        | exc a dd fs =>
          obtain ⟨z1, z2, fv, z3, z4⟩ := q
          exact ⟨z1, e.im _ z2, fv, e.keep _ _ z2 z3, FldR.ext e z4⟩
        | val d' =>
          obtain ⟨v', h1, h2⟩ := q
          exact ⟨v', h1, Rep.ext e h2⟩
        | own l =>
          obtain ⟨p, vs, h1, h2, h3, h4⟩ := q
          exact ⟨p, vs, h1, h2, Reps.ext e h3, h4, fun ⟨z1, l', z2⟩ => hj (r.dis i j p l' l z2 ho z1 h1)⟩
        | bor l =>
          obtain ⟨p, vs, h1, h2, h3, h4⟩ := q
          exact ⟨p, vs, h1, h2, Reps.ext e h3, h4⟩
        | ro l =>
          obtain ⟨p, vs, h1, h2, h3⟩ := q
          exact ⟨p, vs, h1, h2, Reps.ext e h3⟩
  · obtain ⟨j, l, h1, h2⟩ := r.own a h.1
    have hj : i ≠ j := fun z => h.2 (by subst z; exact ⟨h2, l, h1⟩)
    exact ⟨j, l, by show (s.env.set i _)[j]? = _; rw [List.getElem?_set_ne hj]; exact h1, by rw [slN _ _ _ hj]; exact h2⟩
  · obtain ⟨n1, e1⟩ := sub h1
    obtain ⟨n2, e2⟩ := sub h2
    rw [slN _ _ _ n1] at h3
    rw [slN _ _ _ n2] at h4
    exact r.dis j k a l l' e1 e2 h3 h4
theorem Rel.wipe (r : Rel K w0 w s σ) (is : List Nat) : ∃ w1, w1.H = w.H ∧ Rel K w0 w1 (Pm.wipe s is) (L2.wipe σ is) ∧ Up w w1 ∧ Ext w w1 ∧ ∀ a, w1.O a → w.O a := by
  induction is with
  | nil => exact ⟨w, rfl, r, Up.refl w, Ext.refl w, fun _ h => h⟩
  | cons i is ih =>
    obtain ⟨w1, e1, r1, u1, x1, o1⟩ := ih
    obtain ⟨w2, e2, r2, u2, x2, o2⟩ := r1.setUn i
    exact ⟨w2, e2.trans e1, r2, u1.trans u2, ⟨(u1.trans u2).adr, (u1.trans u2).im, fun a o h1 h2 => x2.keep a o (x1.im a h1) (x1.keep a o h1 h2)⟩, fun a h => o1 a (o2 a h)⟩
/-! ### targets -/
def gNames : List Nat → TGs
  | [] => gNil
  | i :: is => gCons (gName i) (gNames is)
def TgOk (K : PySem.W.Frag) (g : TG) (tg : Tg) : Prop := ∀ (w0 w : Wd) (s : S) (σ : L2.St) (v : V) (d : D) (s1 : S) (Q : L2.St → Hp → Prop), Rel K w0 w s σ → Rep K w v d → tg.put d s = some s1 →
  (∀ σ1 w1, w1.H = w.H → Rel K w0 w1 s1 σ1 → Up w w1 → (∀ i, i ∉ tg.slots → σ1[i]? = σ[i]?) → σ1.length = σ.length → Q σ1 w1.H) → g v σ w.H Q
theorem tg_name {i : Nat} : TgOk K (gName i) (.name i) := fun w0 w s σ v d s1 Q r h e k => by
  injection e with e
  subst e
  obtain ⟨w1, e1, _, _, r1, u1, _⟩ := r.setVal i h
  have q := k (σ.set i (some v)) w1 e1 r1 u1 (fun j hj => slN _ _ _ (fun z => hj (by simp [Tg.slots, z]))) (by simp)
  rw [e1] at q
  exact q
theorem names_ok : ∀ {is : List Nat} {w0 w : Wd} {s : S} {σ : L2.St} {vs : List V} {ds : List D} {s1 : S} {Q : L2.St → Hp → Prop}, Rel K w0 w s σ → Reps K w vs ds → setVals s is ds = some s1 →
    (∀ σ1 w1, w1.H = w.H → Rel K w0 w1 s1 σ1 → Up w w1 → (∀ i, i ∉ is → σ1[i]? = σ[i]?) → σ1.length = σ.length → Q σ1 w1.H) → gNames is vs σ w.H Q
  | [], w0, w, s, σ, _, [], s1, Q, r, .nil, e, k => by
    injection e with e
    subst e
    exact ⟨rfl, k σ w rfl r (Up.refl w) (fun _ _ => rfl) rfl⟩
  | [], _, _, _, _, _, _ :: _, _, _, _, _, e, _ => by cases e
  | i :: is, _, _, _, _, _, [], _, _, _, _, e, _ => by cases e
  | i :: is, w0, w, s, σ, _, _ :: _, s1, Q, r, .cons h hs, e, k => by
    obtain ⟨w1, e1, _, _, r1, u1, x1⟩ := r.setVal i h
    refine ⟨_, _, rfl, ?_⟩
    show gNames is _ (σ.set i (some _)) w.H Q
    rw [← e1]
    refine names_ok r1 (Reps.ext x1 hs) e fun σ2 w2 e2 r2 u2 n2 l2 => ?_
    refine k σ2 w2 (e2.trans e1) r2 (u1.trans u2) (fun j hj => ?_) (by rw [l2]; simp)
    rw [n2 j (fun z => hj (List.mem_cons_of_mem _ z)), slN _ _ _ (fun z => hj (by simp [z]))]
theorem setVals_len : ∀ {is : List Nat} {ds : List D} {s s1 : S}, setVals s is ds = some s1 → ds.length = is.length
  | [], [], _, _, _ => rfl
  | [], _ :: _, _, _, e => by cases e
  | _ :: _, [], _, _, e => by cases e
  | i :: is, d :: ds, s, s1, e => by simp [setVals_len (show setVals (Pm.setVal s i (.val d)) is ds = some s1 from e)]
theorem tg_tup {is : List Nat} {n : Nat} (hn : is.length = n) : TgOk K (gTup K n (gNames is)) (.tup is) := fun w0 w s σ v d s1 Q r h e k => by
  cases d with
  | tup ds =>
    obtain ⟨p, vs, e1, h1, h2⟩ := h.tupAt
    exact ⟨p, vs, e1, h1, by rw [h2.length, setVals_len e, hn], names_ok r h2 e k⟩
  | _ => cases e
/-! ### what is walked -/
structure Wlk (K : PySem.W.Frag) (w : Wd) (items : List D) (J : It) : Prop where
  ex : ∃ G Y, Walk J items.length G Y ∧ (∀ w', Up w w' → G w'.H) ∧
    ∀ (i : Nat) (w' w0 : Wd) (s : S) (σ : L2.St) (v : V) (H' : Hp), i < items.length → Rel K w0 w' s σ → Ext w w' → Up w w' → Y i w'.H v H' → ∃ w2 d, w2.H = H' ∧ Rel K w0 w2 s σ ∧ Up w' w2 ∧ items[i]? = some d ∧ Rep K w2 v d
def wI (K : PySem.W.Frag) (CA : Nat → Addr) (W : WX) (m : Mi) : TI := fun σ H R => ∃ w0 w s, w.H = H ∧ Rel K w0 w s σ ∧
  Wp (m s) (fun l s' => ∀ w' J, Rel K w0 w' s' σ → Up w w' → Wlk K w' l J → R J w'.H) (Fe K CA W w0 w σ)
theorem _root_.L2.PI.weak {X : Cx} {tg e : Expr} {t t' : TI} (h : PI X tg e t) (i : ∀ σ H R, t' σ H R → t σ H R) : PI X tg e t' := ⟨fun pins s σ H R I q => h.run pins s σ H R I (i σ H R q)⟩
/-- a list that stays: its place in the world -/
def Stb (K : PySem.W.Frag) (w : Wd) (p : Addr) (vs : List V) : Prop := SqL K w.H p vs ∧ ∀ w', Up w w' → SqL K w'.H p vs
theorem Rel.lstOf {v : V} {rr : R} {l : List D} (r : Rel K w0 w s σ) (h : RelR K w σ v rr) (e : s.lstOf rr = some l) : ∃ p vs, v = .ref p ∧ Stb K w p vs ∧ Reps K w vs l := by
  have kp : ∀ {p : Addr} {vs : List V} {w' : Wd}, w.H p = some (.lst vs) → p ∉ w.adr → ¬ w.O p → Up w w' → SqL K w'.H p vs := fun h1 h2 h3 u => SqL.of (u.keep _ _ h1 h2 h3)
  cases rr with
  | d x =>
    cases x with
    | lst m =>
      injection e with e
      subst e
      cases h with
      | lst i h2 h3 => exact ⟨_, _, rfl, ⟨SqL.of h2, fun w' u => kp h2 (r.dj i).1 (r.dj i).2 u⟩, h3⟩
    | _ => cases e
  | fr m =>
    injection e with e
    subst e
    obtain ⟨p, vs, e, h1, h2, h3, h4, h5⟩ := h
    exact ⟨p, vs, e, ⟨SqL.of h1, fun w' u => kp h1 h4 h5 u⟩, h2⟩
  | slt i =>
    have e : (match s.env[i]? with
      | some (.bor l) => some l
      | some (.ro l) => some l
      | _ => none) = some l := e
    have q := r.sl i
    have hv : σ[i]? = some (some v) := h
    cases hs : s.env[i]? with
    | none => rw [hs] at e; cases e
    | some b =>
      rw [hs] at e q
      rw [hv] at q
      cases b with
      | bor m =>
        injection e with e
        subst e
        obtain ⟨p, vs, h1, h2, h3, h4, h5⟩ := q
        exact ⟨p, vs, by injection h1 with h1; injection h1, ⟨SqL.of h2, fun w' u => kp h2 h5 (fun z => h4 (r.oI p z).2.2) u⟩, h3⟩
      | ro m =>
        injection e with e
        subst e
        obtain ⟨p, vs, h1, h2, h3⟩ := q
        refine ⟨p, vs, by injection h1 with h1; injection h1, ⟨SqL_of_ro h2, fun w' u => ?_⟩, h3⟩
        rcases h2 with ⟨h2, h4, h5⟩ | h2
        · have n : ¬ w.O p := fun z => h4 (r.oI p z).2.2
          rcases h2 with h2 | ⟨o, h2⟩
          · exact .inl (.inl (u.keep _ _ h2 h5 n))
          · exact .inl (.inr ⟨o, u.keep _ _ h2 h5 n⟩)
        · exact .inr h2
      | _ => cases e
theorem Rel.tupStb {v : V} {l : List D} (r : Rel K w0 w s σ) (h : Rep K w v (.tup l)) : ∃ p vs, v = .ref p ∧ SqT K w.H p vs ∧ (∀ w', Up w w' → SqT K w'.H p vs) ∧ Reps K w vs l := by
  cases h with
  | tup i h q => exact ⟨_, _, rfl, SqT.of h, fun w' u => SqT.of (u.keep _ _ h (r.dj i).1 (r.dj i).2), q⟩
  | tupK h q => exact ⟨_, _, rfl, .inr h, fun w' u => .inr h, q⟩
theorem enum_at : ∀ (l : List D) (n i : Nat), (enumFrom n l)[i]? = (l[i]?).map fun x => D.tup [.int ((n + i : Nat) : Int), x]
  | [], n, i => by simp [enumFrom]
  | x :: xs, n, 0 => by simp [enumFrom]
  | x :: xs, n, i + 1 => by
    simp [enumFrom, enum_at xs (n + 1) i]
    have e : ((n : Int) + 1 + (i : Int)) = (n : Int) + ((i : Int) + 1) := by omega
    cases xs[i]? with
    | none => rfl
    | some y => simp [e]
theorem enum_len : ∀ (l : List D) (n : Nat), (enumFrom n l).length = l.length
  | [], _ => rfl
  | _ :: xs, n => by simp [enumFrom, enum_len xs (n + 1)]
end
section
variable {X : Cx} {CA : Nat → Addr} {W : WX} {pos : Pos} {tg e iter : Expr} {m : Me}
theorem liftI_wp {o : Ou R} {f : R → S → Option (List D)} {fo : List D → S → Prop} {fe : Xn → S → Prop} (h : Wp (liftI o f) fo fe) : Wp o (fun r s => ∃ l, f r s = some l ∧ fo l s) fe := by
  refine (Wp.bind h).imp (fun r s _ q => ?_) fun x s q => q
  cases hf : f r s with
  | none => rw [hf] at q; exact q.elim
  | some l => rw [hf] at q; exact ⟨l, rfl, q⟩
theorem d_iLst (h : PE X e (tI X.K CA W m)) : PI X tg e (wI X.K CA W (iLst m)) := by
  refine (pi_list h).weak fun σ H R ⟨w0, w, s, eH, rel, q⟩ => ⟨w0, w, s, eH, rel, (liftI_wp q).imp (fun rr s1 _ ⟨l, hl, q1⟩ w1 v r1 u1 h1 f1 => ?_) fun x s1 q1 => q1⟩
  obtain ⟨p, vs, e1, st, h2⟩ := r1.lstOf h1 hl
  refine ⟨p, e1, ⟨vs, st.1⟩, q1 w1 _ r1 u1 ⟨_, _, by rw [← h2.length]; exact walk_list (xs := vs), fun w' u => st.2 w' u, fun i w' w0 s σ v H' hi r x u y => ?_⟩⟩
  obtain ⟨y1, y2⟩ := y
  obtain ⟨d, hd, hr⟩ := h2.atV y2
  exact ⟨w', d, y1.symm, r, Up.refl w', hd, Rep.ext x hr⟩
theorem d_iTup (h : PE X e (tI X.K CA W m)) : PI X tg e (wI X.K CA W (Pm.iTup m)) := by
  refine (pi_tup h).weak fun σ H R ⟨w0, w, s, eH, rel, q⟩ => ⟨w0, w, s, eH, rel, (liftI_wp q).imp (fun rr s1 _ ⟨l, hl, q1⟩ w1 v r1 u1 h1 f1 => ?_) fun x s1 q1 => q1⟩
  cases rr with
  | d y =>
    cases y with
    | tup l' =>
      injection hl with hl
      subst hl
      obtain ⟨p, vs, e1, h3, st, h2⟩ := r1.tupStb h1
      refine ⟨p, e1, ⟨vs, h3⟩, q1 w1 _ r1 u1 ⟨_, _, by rw [← h2.length]; exact walk_tup (xs := vs), fun w' u => st w' u, fun i w' w0 s σ v H' hi r x u y => ?_⟩⟩
      obtain ⟨y1, y2⟩ := y
      obtain ⟨d, hd, hr⟩ := h2.atV y2
      exact ⟨w', d, y1.symm, r, Up.refl w', hd, Rep.ext x hr⟩
    | _ => cases hl
  | _ => cases hl
theorem d_iEnum {elts : List Expr} {kk : Nat} {tpos : Pos} (h : PI X (.Tuple elts kk tpos) iter (L2.iEnum X.K (tA X.K CA W (aCons m aNil)))) : PI X (.Tuple elts kk tpos) iter (wI X.K CA W (Pm.iEnum m)) := by
  refine h.weak fun σ H R ⟨w0, w, s, eH, rel, q⟩ => ⟨w0, w, s, eH, rel, ?_⟩
  have q := liftI_wp q
  unfold aCons aNil
  cases hm : m s with
  | st => rw [hm] at q; exact q.elim
  | ex x s1 => rw [hm] at q; exact q
  | ok rr s1 =>
    rw [hm] at q
    obtain ⟨l, hl, q1⟩ := q
    intro w1 vs r1 u1 h1 f1
    match vs, h1 with
    | [v], ⟨h1, _⟩ =>
    cases hl' : s1.lstOf rr with
    | none => rw [hl'] at hl; cases hl
    | some l0 =>
      rw [hl'] at hl
      injection hl with hl
      subst hl
      obtain ⟨p, vs, e1, st, h2⟩ := r1.lstOf h1 hl'
      refine ⟨p, vs, by rw [e1], st.1, q1 w1 _ r1 u1 ⟨_, _, by rw [enum_len, ← h2.length]; exact walk_enum (xs := vs), fun w' u => st.2 w' u, fun i w' w0 s σ v H' hi r x u y => ?_⟩⟩
      obtain ⟨T, x1, x2, y1, y2, y3, y4, y5⟩ := y
      injection y4 with y4
      subst y4
      obtain ⟨d, hd, hr⟩ := h2.atV y5
      obtain ⟨w2, e2, r2, u2, h3⟩ := r.newT (vs := [V.int (i : Nat), x2]) (l := [D.int ((i : Nat) : Int), d]) y2 (.cons (.int _) (.cons (Rep.ext x hr) .nil))
      refine ⟨w2, _, e2.trans y3.symm, r2, u2, ?_, by rw [y1]; exact h3⟩
      rw [enum_at, hd]
      simp
end
end Pm

set_option Elab.async false
set_option linter.all false
set_option maxRecDepth 100000
set_option maxHeartbeats 4000000
/-! PmF: ranges, comprehensions, statements, loops. -/
namespace Pm
open PySem L2
abbrev W0 : WX := fun _ _ _ _ => False
section
variable {K : PySem.W.Frag} {CA : Nat → Addr} {W : WX} {w0 w w' w1 wS : Wd} {s s' : S} {σ σ' : L2.St}
theorem ivs_len (lo : Int) (n : Nat) : (ivs lo n).length = n := by simp [ivs]
theorem ivs_at {lo : Int} {n i : Nat} (h : i < n) : (ivs lo n)[i]? = some (.int (lo + (i : Int))) := by simp [ivs, h]
theorem wlk_ivs {lo : Int} {n : Nat} : Wlk K w (ivs lo n) (Itr lo n) := by
  refine ⟨_, _, by rw [ivs_len]; exact walk_range, fun _ _ => trivial, fun i w' w0 s σ v H' hi r x u y => ?_⟩
  rw [ivs_len] at hi
  obtain ⟨y1, y2⟩ := y
  exact ⟨w', _, y1.symm, r, Up.refl w', ivs_at hi, by rw [y2]; exact .int _⟩
theorem d_iR1 {X : Cx} {tg iter : Expr} {m : Me} (h : PI X tg iter (iRng1 (tA X.K CA W (aCons m aNil)))) : PI X tg iter (wI X.K CA W (iR1 m)) := by
  refine h.weak fun σ H R ⟨w0, w, s, eH, rel, q⟩ => ⟨w0, w, s, eH, rel, ?_⟩
  have q := liftI_wp q
  unfold aCons aNil
  cases hm : m s with
  | st => rw [hm] at q; exact q.elim
  | ex x s1 => rw [hm] at q; exact q
  | ok rr s1 =>
    rw [hm] at q
    obtain ⟨l, hl, q1⟩ := q
    intro w1 vs r1 u1 h1 f1
    match vs, h1 with
    | [v], ⟨h1, _⟩ =>
    cases rr with
    | d x =>
      cases x with
      | int j =>
        dsimp only at hl
        by_cases hj : j ≤ 100000000 ∧ -100000000 ≤ j
        · rw [if_pos hj] at hl
          injection hl with hl
          subst hl
          cases h1
          exact ⟨j, rfl, by omega, by omega, q1 w1 _ r1 u1 wlk_ivs⟩
        · rw [if_neg hj] at hl; cases hl
      | _ => cases hl
    | _ => cases hl
theorem d_iR2 {X : Cx} {tg iter : Expr} {m1 m2 : Me} (h : PI X tg iter (iRng2 (tA X.K CA W (aCons m1 (aCons m2 aNil))))) : PI X tg iter (wI X.K CA W (iR2 m1 m2)) := by
  refine h.weak fun σ H R ⟨w0, w, s, eH, rel, q⟩ => ⟨w0, w, s, eH, rel, ?_⟩
  have q : Wp ((m1 s).bind fun x s1 => liftI (m2 s1) fun y _ => match x, y with
    | .d (.int i), .d (.int j) => if (j ≤ 100000000 ∧ -100000000 ≤ j) ∧ (i ≤ 100000000 ∧ -100000000 ≤ i) then some (ivs i (j - i).toNat) else none
    | _, _ => none) _ _ := q
  unfold aCons aNil
  cases hm : m1 s with
  | st => rw [hm] at q; exact q.elim
  | ex x s1 => rw [hm] at q; exact q
  | ok rr s1 =>
    rw [hm] at q
    have q := liftI_wp q
    dsimp only [Ou.bind_ok]
    cases hm2 : m2 s1 with
    | st => rw [hm2] at q; exact q.elim
    | ex x s2 => rw [hm2] at q; exact q
    | ok rr2 s2 =>
      rw [hm2] at q
      obtain ⟨l, hl, q1⟩ := q
      intro w1 vs r1 u1 h1 f1
      match vs, h1 with
      | [v1, v2], ⟨g1, g2, _⟩ =>
      cases rr with
      | d x =>
        cases x with
        | int i =>
          cases rr2 with
          | d x2 =>
            cases x2 with
            | int j =>
              dsimp only at hl
              by_cases hj : (j ≤ 100000000 ∧ -100000000 ≤ j) ∧ (i ≤ 100000000 ∧ -100000000 ≤ i)
              · rw [if_pos hj] at hl
                injection hl with hl
                subst hl
                cases g1
                cases g2
                exact ⟨i, j, rfl, by omega, q1 w1 _ r1 u1 wlk_ivs⟩
              · rw [if_neg hj] at hl; cases hl
            | _ => cases hl
          | _ => cases hl
        | _ => cases hl
      | _ => cases hl
/-! ### comprehensions -/
theorem Rel.tmp {p : Addr} {us : List V} (r : Rel K w0 w s σ) (h1 : w.H p ≠ none) (h3 : ¬ w.I p) (h4 : p ∉ w.adr) (h5 : ¬ w.O p) (h6 : w0.H p = none) :
    ∃ w2, w2.H = upd w.H p (.lst us) ∧ w2.I = w.I ∧ w2.adr = w.adr ∧ w2.O = w.O ∧ Rel K w0 w2 s σ ∧ Ext w w2 ∧ ∀ wS, Up wS w → wS.H p = none → Up wS w2 := by
  have dom : ∀ (a : Addr), upd w.H p (.lst us) a = none → w.H a = none := fun a z => by
    by_cases q : a = p
    · rw [q, upd_same] at z; cases z
    · rw [upd_ne q] at z; exact z
  have kp : ∀ (a : Addr) (o : HO), a ≠ p → w.H a = some o → upd w.H p (.lst us) a = some o := fun a o n h => by rw [upd_ne n]; exact h
  have e : Ext w { w with H := upd w.H p (.lst us) } := ⟨⟨[], by simp⟩, fun _ h => h, fun a o i h => kp a o (neP i h3) h⟩
  have up : ∀ wS, Up wS w → wS.H p = none → Up wS { w with H := upd w.H p (.lst us) } := fun wS u n => ⟨u.adr, u.new, u.im, u.fz, u.ow, fun a o h g1 g2 => kp a o (fun z => by rw [z, n] at h; cases h) (u.keep a o h g1 g2), fun a z => u.dom a (dom a z)⟩
  refine ⟨{ w with H := upd w.H p (.lst us) }, rfl, rfl, rfl, rfl, { up := up w0 r.up h6, o0 := r.o0, len := r.len, sl := fun i => ?_, own := r.own, dis := r.dis, oI := r.oI, aI := r.aI, iH := fun a i z => r.iH a i (dom a z), nd := r.nd, st := r.st.mono e rfl fun a o ha h => kp a o (neP ha h4) h }, e, up⟩
  exact SlRel.mono e (fun a h => h) (fun a _ h => h) (fun a o ho h => kp a o (neP ho h5) h) (fun a o h0 _ h => kp a o (neP (P := fun x => w0.H x ≠ none) h0 (fun z => z h6)) h) (r.sl i)
theorem wipe_out {i : Nat} : ∀ {vs : List Nat}, i ∉ vs → (L2.wipe σ vs)[i]? = σ[i]?
  | [], _ => rfl
  | v :: vs, h => by
    unfold L2.wipe
    rw [List.getElem?_set_ne (fun z => h (by simp [z]))]
    exact wipe_out (fun z => h (List.mem_cons_of_mem _ z))
theorem wipe_in {i : Nat} : ∀ {vs : List Nat}, i ∈ vs → i < σ.length → (L2.wipe σ vs)[i]? = some none
  | v :: vs, h, hl => by
    unfold L2.wipe
    by_cases e : v = i
    · subst e
      rw [List.getElem?_set_self (by rw [wipe_length]; exact hl)]
    · rw [List.getElem?_set_ne e]
      exact wipe_in (by rcases List.mem_cons.mp h with z | z; exact absurd z.symm e; exact z) hl
theorem wipe_eq {vs : List Nat} (hl : σ'.length = σ.length) (h : ∀ i, i ∉ vs → σ'[i]? = (L2.wipe σ vs)[i]?) : L2.wipe σ' vs = L2.wipe σ vs := by
  apply List.ext_getElem?
  intro i
  by_cases hi : i ∈ vs
  · by_cases hn : i < σ.length
    · rw [wipe_in hi hn, wipe_in hi (by omega)]
    · rw [List.getElem?_eq_none (by rw [wipe_length]; omega), List.getElem?_eq_none (by rw [wipe_length]; omega)]
  · rw [wipe_out hi, h i hi]
theorem wipeE_un {e : List Sl} {i : Nat} : ∀ {vs : List Nat}, i ∈ vs → isUn (wipeE e vs)[i]? = true
  | v :: vs, h => by
    unfold wipeE
    by_cases q : v = i
    · subst q
      by_cases hl : v < (wipeE e vs).length
      · rw [List.getElem?_set_self hl]; rfl
      · rw [List.getElem?_eq_none (by simp; omega)]; rfl
    · rw [List.getElem?_set_ne q]
      exact wipeE_un (by rcases List.mem_cons.mp h with z | z; exact absurd z.symm q; exact z)
theorem rest_len {e e1 : List Sl} : ∀ vs : List Nat, (restE e e1 vs).length = e.length
  | [] => rfl
  | i :: is => by
    unfold restE
    split
    · rw [List.length_set, rest_len is]
    · exact rest_len is
theorem rest_out {e e1 : List Sl} {i : Nat} : ∀ {vs : List Nat}, i ∉ vs → (restE e e1 vs)[i]? = e[i]?
  | [], _ => rfl
  | v :: vs, h => by
    unfold restE
    split
    · rw [List.getElem?_set_ne (fun z => h (by simp [z]))]
      exact rest_out (fun z => h (List.mem_cons_of_mem _ z))
    · exact rest_out (fun z => h (List.mem_cons_of_mem _ z))
theorem rest_in {e e1 : List Sl} {i : Nat} (hl : e.length = e1.length) : ∀ {vs : List Nat}, i ∈ vs → (restE e e1 vs)[i]? = e1[i]?
  | v :: vs, h => by
    unfold restE
    by_cases q : v = i
    · subst q
      by_cases hi : v < e1.length
      · rw [List.getElem?_eq_getElem hi]
        dsimp only
        rw [List.getElem?_set_self (by rw [rest_len]; omega)]
      · rw [List.getElem?_eq_none (l := e1) (by omega)]
        dsimp only
        rw [List.getElem?_eq_none (by rw [rest_len]; omega)]
    · have h' : i ∈ vs := by rcases List.mem_cons.mp h with z | z; exact absurd z.symm q; exact z
      split
      · rw [List.getElem?_set_ne q]
        exact rest_in hl h'
      · exact rest_in hl h'
/-- the slots of a comprehension's names are again as they were -/
theorem Rel.restore {s1 : S} {vs : List Nat} (r1 : Rel K w0 w1 s1 σ) (r' : Rel K w0 w' s' (L2.wipe σ vs)) (u : Up w1 w') (n : ∀ i, i ∈ vs → notOwn s1.env[i]? = true) (un : ∀ i, i ∈ vs → isUn s'.env[i]? = true) :
    Rel K w0 w' { s' with env := restE s'.env s1.env vs } σ := by
  have hl : s'.env.length = s1.env.length := by rw [r'.len, wipe_length, r1.len]
  have ex := r1.ext u
  have isown : ∀ {i : Nat} {l : List D}, (restE s'.env s1.env vs)[i]? = some (.own l) → i ∉ vs ∧ s'.env[i]? = some (.own l) := fun {i l} h => by
    by_cases hi : i ∈ vs
    · rw [rest_in hl hi] at h
      have := n i hi
      rw [h] at this
      cases this
    · rw [rest_out hi] at h
      exact ⟨hi, h⟩
  refine { up := r'.up, o0 := r'.o0, len := by show (restE _ _ _).length = _; rw [rest_len, hl]; exact r1.len, sl := fun i => ?_, own := fun a ha => ?_, dis := fun i j a l l' g1 g2 g3 g4 => ?_, oI := r'.oI, aI := r'.aI, iH := r'.iH, nd := r'.nd, st := r'.st }
  · show SlRel K w0 w' (σ[i]?) ((restE s'.env s1.env vs)[i]?)
    by_cases hi : i ∈ vs
    · rw [rest_in hl hi]
      have q := r1.sl i
      have nn := n i hi
      cases e : s1.env[i]? with
      | none => trivial
      | some b =>
        rw [e] at q nn
        cases b with
        | un => trivial
        | exc a dd fs =>
          obtain ⟨z1, z2, fv, z3, z4⟩ := q
          exact ⟨z1, ex.im _ z2, fv, ex.keep _ _ z2 z3, FldR.ext ex z4⟩
        | own l => cases nn
        | val d =>
          obtain ⟨v, h1, h2⟩ := q
          exact ⟨v, h1, Rep.ext ex h2⟩
        | bor l =>
          obtain ⟨p, us, h1, h2, h3, h4, h5⟩ := q
          refine ⟨p, us, h1, u.keep p _ h2 h5 (fun z => h4 (r1.oI p z).2.2), Reps.ext ex h3, h4, fun z => ?_⟩
          rcases u.new p z with z | z
          · exact h5 z
          · rw [h2] at z; cases z
        | ro l =>
          obtain ⟨p, us, h1, h2, h3⟩ := q
          refine ⟨p, us, h1, ?_, Reps.ext ex h3⟩
          rcases h2 with ⟨h2, h4, h5⟩ | h2
          · have nO : ¬ w1.O p := fun z => h4 (r1.oI p z).2.2
            have dom : w1.H p ≠ none := by
              rcases h2 with h2 | ⟨o, h2⟩
              · rw [h2]; intro z; cases z
              · rw [h2]; intro z; cases z
            refine .inl ⟨?_, h4, fun z => ?_⟩
            · rcases h2 with h2 | ⟨o, h2⟩
              · exact .inl (u.keep p _ h2 h5 nO)
              · exact .inr ⟨o, u.keep p _ h2 h5 nO⟩
            · rcases u.new p z with z | z
              · exact h5 z
              · exact dom z
          · exact .inr h2
    · rw [rest_out hi, ← wipe_out (σ := σ) hi]
      exact r'.sl i
  · obtain ⟨i, l, g1, g2⟩ := r'.own a ha
    have hi : i ∉ vs := fun z => by
      have := un i z
      rw [g1] at this
      cases this
    exact ⟨i, l, by show (restE _ _ _)[i]? = _; rw [rest_out hi]; exact g1, by rw [← wipe_out (σ := σ) hi]; exact g2⟩
  · obtain ⟨n1, e1⟩ := isown g1
    obtain ⟨n2, e2⟩ := isown g2
    rw [← wipe_out (σ := σ) n1] at g3
    rw [← wipe_out (σ := σ) n2] at g4
    exact r'.dis i j a l l' e1 e2 g3 g4
theorem noEx_bind2 {α β γ : Type} {o : Ou α} {f : α → S → Ou β} {k : β → S → Ou γ} {fo : γ → S → Prop} {fe : Xn → S → Prop} (h : Wp (noEx ((o.bind f).bind k)) fo fe) :
    Wp o (fun a s => Wp (noEx ((f a s).bind k)) fo fe) (fun _ _ => False) := by
  cases o with
  | ok a s => exact h
  | ex x s => exact h.elim
  | st => exact h.elim
theorem frUp {σ1 σ2 : L2.St} {v : V} {l : List D} (r : Rel K w0 w s σ1) (u : Up w w') (h : RelR K w σ2 v (.fr l)) : RelR K w' σ2 v (.fr l) := RelR.up (σ := σ1) (r := .fr l) r u h
theorem c_lc {wi : TI} {g : TG} {tt : TT} {te : TE} {vs : List Nat} {tg : Tg} {src : Mi} {c : Mt} {e : Me} (hwi : ∀ σ H R, wI K CA W src σ H R → wi σ H R) (htg : TgOk K g tg)
    (htt : ∀ σ H Q, tT K CA W0 c σ H Q → tt σ H Q) (hte : ∀ σ H Q, tI K CA W0 e σ H Q → te σ H Q) {H : Hp} {Q : VK} (h : tI K CA W (mComp vs tg src c e) σ H Q) : tLc wi g tt te vs σ H Q := by
  obtain ⟨w0, w, s, eH, rel, q⟩ := h
  refine hwi σ H _ ⟨w0, w, s, eH, rel, q.bind.imp (fun items s1 _ q1 w1 J r1 u1 wl D hD => ?_) fun x s1 q1 => q1⟩
  by_cases hcond : (vs.all fun i => notOwn s1.env[i]?) = true ∧ (tg.slots.all fun i => vs.contains i) = true
  case neg => rw [if_neg hcond] at q1; exact q1.elim
  rw [if_pos hcond] at q1
  obtain ⟨G, Y, wk, hG, hY⟩ := wl.ex
  have hno : ∀ i, i ∈ vs → notOwn s1.env[i]? = true := fun i hi => List.all_eq_true.mp hcond.1 i hi
  have hsub : ∀ i, i ∈ tg.slots → i ∈ vs := fun i hi => by
    have := List.all_eq_true.mp hcond.2 i hi
    simpa using this
  obtain ⟨wb, eb, rb, ub, _, _⟩ := r1.wipe vs
  obtain ⟨w2, e2, r2, u2', h2, f2⟩ := rb.newL (l := []) (by rw [eb]; exact hD) .nil
  have u2 : Up w1 w2 := ub.trans u2'
  rw [eb] at e2
  refine lc_it wk (fun i H => ∃ w' s' acc, w'.H = H ∧ Rel K w0 w' s' (L2.wipe σ vs) ∧ Up w1 w' ∧ RelR K w' σ (.ref D) (.fr acc) ∧ (∀ i, i ∈ vs → isUn s'.env[i]? = true) ∧
    Wp (noEx ((compL vs tg c e (items.drop i) s' acc).bind fun l s2 => Ou.ok (Pm.R.fr l) { s2 with env := restE s2.env s1.env vs })) (fun r s' => ∀ w' v, Rel K w0 w' s' σ → Up w w' → RelR K w' σ v r → Frh w v r → Q v w'.H) (Fe K CA W w0 w σ))
    ⟨w2, _, [], e2, r2, u2, h2, fun i hi => wipeE_un hi, q1⟩ (fun i H hi ⟨w', s', acc, e1, r', up, _⟩ => by rw [← e1]; exact hG w' up) (fun i x H1 H2 hi ⟨w', s', acc, e1, r', up, hDr, hu, q2⟩ y => ?_) (fun H1 ⟨w', s', acc, e1, r', up, hDr, hu, q2⟩ => ?_)
  · subst e1
    obtain ⟨w3, d, e3, r3, u3, hd, hrep⟩ := hY i w' w0 s' _ x H2 hi r' (r1.ext up) up y
    subst e3
    have hdrop : items.drop i = d :: items.drop (i + 1) := by
      rw [List.drop_eq_getElem_cons hi]
      have : items[i] = d := by rw [List.getElem?_eq_getElem hi] at hd; exact Option.some.inj hd
      rw [this]
    rw [hdrop] at q2
    unfold compL at q2
    cases hput : tg.put d s' with
    | none => rw [hput] at q2; exact q2.elim
    | some sp =>
      rw [hput] at q2
      have hD3 := frUp r' u3 hDr
      refine htg w0 w3 s' _ x d sp _ r3 hrep hput fun σ2 w4 e4 r4 u4 n4 l4 => ?_
      have hw : L2.wipe σ2 vs = L2.wipe σ vs := wipe_eq (by rw [l4, wipe_length]) fun i hi => n4 i (fun z => hi (hsub i z))
      have hD4 := frUp r3 u4 hD3
      refine ⟨hw, htt σ2 w4.H _ ⟨w0, w4, sp, rfl, r4, (noEx_bind2 q2).imp (fun b s2 _ q3 w5 r5 u5 => ?_) fun _ _ z => z.elim⟩⟩
      have hD5 := frUp r4 u5 hD4
      have up5 : Up w1 w5 := ((up.trans u3).trans u4).trans u5
      cases b with
      | false =>
        show ∃ w' s' acc, _
        obtain ⟨w6, e6, r6, u6, _, _⟩ := r5.wipe vs
        rw [hw] at r6
        exact ⟨w6, _, acc, e6, r6, up5.trans u6, frUp r5 u6 hD5, fun i hi => wipeE_un hi, q3⟩
      | true =>
        refine hte σ2 w5.H _ ⟨w0, w5, s2, rfl, r5, (noEx_bind2 q3).imp (fun r s3 _ q4 w6 yv r6 u6 h6 f6 => ?_) fun _ _ z => z.elim⟩
        cases hdd : r.toD with
        | none => rw [hdd] at q4; exact q4.elim
        | some dd =>
          rw [hdd] at q4
          dsimp only at q4
          by_cases hlt : acc.length < LIM
          case neg => rw [if_neg hlt] at q4; exact q4.elim
          rw [if_pos hlt] at q4
          obtain ⟨w7, e7, _, r7, u7, x7, h7⟩ := Rel.data1 r5.up r6 u6 h6 f6 hdd
          obtain ⟨p, us, ep, g1, g2, g3, g4, g5⟩ := frUp r5 u7 hD5
          injection ep with ep
          subst ep
          have n0 : w0.H D = none := r1.up.dom D hD
          obtain ⟨w8, e8, i8, a8, o8, r8, x8, up8⟩ := r7.tmp (us := us ++ [yv]) (by rw [g1]; intro z; cases z) g3 g4 g5 n0
          obtain ⟨w9, e9, r9, u9, x9, o9⟩ := r8.wipe vs
          rw [hw] at r9
          have up7 : Up w1 w7 := up5.trans u7
          have up8' : Up w1 w8 := up8 w1 up7 hD
          have hR8 : RelR K w8 σ (.ref D) (.fr (acc ++ [dd])) := ⟨D, us ++ [yv], rfl, by rw [e8]; exact upd_same, (Reps.ext x8 g2).append (.cons (Rep.ext x8 h7) .nil), by rw [i8]; exact g3, by rw [a8]; exact g4, by rw [o8]; exact g5⟩
          rw [← e7]
          refine ⟨us, g1, LIM_lt (by rw [g2.length]; exact hlt), w9, _, acc ++ [dd], by rw [e9, e8], r9, up8'.trans u9, ?_, fun i hi => wipeE_un hi, q4⟩
          exact frUp r8 u9 hR8
  · rw [List.drop_eq_nil_of_le (Nat.le_refl _)] at q2
    subst e1
    exact q2 w' _ (Rel.restore r1 r' up hno hu) (u1.trans up) hDr (fun p e => by injection e with e; subst e; exact u1.dom D hD)
end
end Pm

set_option Elab.async false
set_option linter.all false
set_option maxRecDepth 100000
set_option maxHeartbeats 4000000
/-! PmG: statements. -/
namespace Pm
open PySem L2
section
variable {K : PySem.W.Frag} {CA : Nat → Addr} {W : WX} {w0 w w' w1 wS : Wd} {s s' : S} {σ σ' : L2.St} {D' : Ends}
theorem FoS.up {f : Fl} (u : Up w w1) (h : FoS K w0 w D' f s) : FoS K w0 w1 D' f s := by
  cases f with
  | nx => exact fun w' σ' r u' => h w' σ' r (u.trans u')
  | bk => exact fun w' σ' r u' => h w' σ' r (u.trans u')
  | ct => exact fun w' σ' r u' => h w' σ' r (u.trans u')
  | rt x => exact fun w' σ' v r u' => h w' σ' v r (u.trans u')
theorem FeS.up {x : Xn} (u : Up w w1) (h : FeS K CA W w0 w x s) : FeS K CA W w0 w1 x s := fun w' σ' cls d r u' => h w' σ' cls d r (u.trans u')
theorem FeS.e {x : Xn} (h : FeS K CA W w0 w x s) : Fe K CA W w0 w σ x s := fun w' cls d r u => h w' σ cls d r u
theorem wpUp {o : Ou Fl} (u : Up w w1) (h : Wp o (FoS K w0 w D') (FeS K CA W w0 w)) : Wp o (FoS K w0 w1 D') (FeS K CA W w0 w1) := h.imp (fun _ _ _ q => FoS.up u q) fun _ _ q => FeS.up u q
end
section
variable {X : Cx} {CA : Nat → Addr} {W : WX} {pos : Pos} {st : Stmt} {rest : List Stmt}
theorem d_nilS : PSs X [] (tS X.K CA W sNx) := pss_nil.weak fun D σ H ⟨w0, w, s, eH, r, q⟩ => by
  subst eH
  exact q w σ r (Up.refl w)
theorem d_oneS {m : Ms} (h : PS X st (tS X.K CA W m)) : PSs X [st] (tS X.K CA W m) := pss_one h
theorem t_seq {m1 m2 : Ms} {D : Ends} {σ : L2.St} {H : Hp} (h : tS X.K CA W (sSeq m1 m2) D σ H) : tSeq (tS X.K CA W m1) (tS X.K CA W m2) D σ H := by
  obtain ⟨w0, w, s, eH, r, q⟩ := h
  refine ⟨w0, w, s, eH, r, q.bind.imp (fun f s1 _ q1 => ?_) fun x s1 q1 => q1⟩
  cases f with
  | nx => exact fun w' σ' r' u' => ⟨w0, w', s1, rfl, r', wpUp u' q1⟩
  | bk => exact q1
  | ct => exact q1
  | rt x => exact q1
theorem d_seq {m1 m2 : Ms} (h : PS X st (tS X.K CA W m1)) (h2 : PSs X rest (tS X.K CA W m2)) : PSs X (st :: rest) (tS X.K CA W (sSeq m1 m2)) := (pss_cons h h2).weak fun _ _ _ q => t_seq q
theorem d_pass : PS X (.Pass pos) (tS X.K CA W sNx) := ps_pass.weak fun D σ H ⟨w0, w, s, eH, r, q⟩ => by
  subst eH
  exact q w σ r (Up.refl w)
theorem d_bk : PS X (.Break pos) (tS X.K CA W sBk) := ps_break.weak fun D σ H ⟨w0, w, s, eH, r, q⟩ => by
  subst eH
  exact q w σ r (Up.refl w)
theorem d_ct : PS X (.Continue pos) (tS X.K CA W sCt) := ps_continue.weak fun D σ H ⟨w0, w, s, eH, r, q⟩ => by
  subst eH
  exact q w σ r (Up.refl w)
theorem d_nevS : PS X st (tS X.K CA W sNev) := ps_never.weak fun D σ H ⟨w0, w, s, eH, r, q⟩ => q
theorem d_nevSs {sts : List Stmt} : PSs X sts (tS X.K CA W sNev) := pss_never.weak fun D σ H ⟨w0, w, s, eH, r, q⟩ => q
theorem d_ret {e : Expr} {m : Me} (h : PE X e (tI X.K CA W m)) : PS X (.Return (some e) pos) (tS X.K CA W (sRet m)) := by
  refine (ps_ret h).weak fun D σ H ⟨w0, w, s, eH, r, q⟩ => ⟨w0, w, s, eH, r, q.bind.imp (fun rr s1 _ q1 w1 v r1 u1 h1 f1 => q1 w1 σ v r1 u1 h1 ?_) fun x s1 q1 => q1.e⟩
  cases rr with
  | fr l => exact fun p e => r.up.dom p (f1 p e)
  | d x => trivial
  | slt i => trivial
theorem d_retN : PS X (.Return none pos) (tS X.K CA W sRetN) := by
  refine ps_retN.weak fun D σ H ⟨w0, w, s, eH, r, q⟩ => ?_
  subst eH
  exact q w σ _ r (Up.refl w) .non trivial
theorem d_drop {st : Stmt} {m : Me} (h : PS X st (tDrop (tI X.K CA W m))) : PS X st (tS X.K CA W (sDrop m)) :=
  h.weak fun D σ H ⟨w0, w, s, eH, r, q⟩ => ⟨w0, w, s, eH, r, q.bind.imp (fun rr s1 _ q1 w1 v r1 u1 h1 f1 => q1 w1 σ r1 u1) fun x s1 q1 => q1.e⟩
theorem d_if {c : Expr} {a b : List Stmt} {mc : Mt} {m1 m2 : Ms} (hc : PT X c (tT X.K CA W mc)) (ha : PSs X a (tS X.K CA W m1)) (hb : PSs X b (tS X.K CA W m2)) : PS X (.If c a b pos) (tS X.K CA W (sIf mc m1 m2)) := by
  refine (ps_if hc ha hb).weak fun D σ H ⟨w0, w, s, eH, r, q⟩ => ⟨w0, w, s, eH, r, q.bind.imp (fun k s1 _ q1 w1 r1 u1 => ?_) fun x s1 q1 => q1.e⟩
  cases k with
  | true => exact ⟨w0, w1, s1, rfl, r1, wpUp u1 q1⟩
  | false => exact ⟨w0, w1, s1, rfl, r1, wpUp u1 q1⟩
/-- x = e -/
theorem d_set {i : Nat} {m : Me} (h : PS X st (tAsg (tI X.K CA W m) (gName i))) : PS X st (tS X.K CA W (sSet i m)) := by
  refine h.weak fun D σ H ⟨w0, w, s, eH, r, q⟩ => ⟨w0, w, s, eH, r, q.bind.imp (fun rr s1 _ q1 w1 v r1 u1 h1 f1 => ?_) fun x s1 q1 => q1.e⟩
  cases hd : rr.toD with
  | none => rw [hd] at q1; exact q1.elim
  | some d =>
    rw [hd] at q1
    obtain ⟨w2, e2, _, r2, u2, _, h2⟩ := Rel.data1 r.up r1 u1 h1 f1 hd
    obtain ⟨w3, e3, _, _, r3, u3, _⟩ := r2.setVal i h2
    have := q1 w3 _ r3 (u2.trans u3)
    rw [e3, e2] at this
    exact this
theorem d_own {i : Nat} {m : Me} (h : PS X st (tAsg (tI X.K CA W m) (gName i))) : PS X st (tS X.K CA W (sOwn i m)) := by
  refine h.weak fun D σ H ⟨w0, w, s, eH, r, q⟩ => ⟨w0, w, s, eH, r, q.bind.imp (fun rr s1 _ q1 w1 v r1 u1 h1 f1 => ?_) fun x s1 q1 => q1.e⟩
  cases rr with
  | fr l =>
    obtain ⟨p, vs, e1, g1, g2, g3, g4, g5⟩ := h1
    obtain ⟨w3, e3, r3, u3⟩ := r1.setOwn r.up u1 i (f1 p e1) g1 g2 g3 g4 g5
    have := q1 w3 _ r3 u3
    rw [e3] at this
    rw [e1]
    exact this
  | d x => exact q1.elim
  | slt i => exact q1.elim
/-- x, y = e -/
theorem d_unp {is : List Nat} {n : Nat} {m : Me} (hn : is.length = n) (h : PS X st (tAsg (tI X.K CA W m) (gTup X.K n (gNames is)))) : PS X st (tS X.K CA W (sUnp is m)) := by
  refine h.weak fun D σ H ⟨w0, w, s, eH, r, q⟩ => ⟨w0, w, s, eH, r, q.bind.imp (fun rr s1 _ q1 w1 v r1 u1 h1 f1 => ?_) fun x s1 q1 => q1.e⟩
  cases rr with
  | d x =>
    cases x with
    | tup ds =>
      dsimp only at q1
      cases hs : setVals s1 is ds with
      | none => rw [hs] at q1; exact q1.elim
      | some s2 =>
        rw [hs] at q1
        exact tg_tup hn w0 w1 s1 σ v (.tup ds) s2 _ r1 h1 hs fun σ2 w2 e2 r2 u2 _ _ => by
          have := q1 w2 σ2 r2 (u1.trans u2)
          exact this
    | _ => exact q1.elim
  | _ => exact q1.elim
/-- ahead of a statement lists of the frame's own become values -/
theorem d_frz {sts : List Stmt} {is : List Nat} {m : Ms} (h : PSs X sts (tS X.K CA W m)) : PSs X sts (tS X.K CA W (sFrz is m)) := by
  refine h.weak fun D σ H ⟨w0, w, s, eH, r, q⟩ => ?_
  obtain ⟨w1, e1, r1, u1⟩ := r.frzs is
  exact ⟨w0, w1, _, e1.trans eH, r1, wpUp u1 q⟩
theorem ixN_eq (n : Nat) (i : Int) : L2.ixN n i = Pm.ixN n i := rfl
/-- o[i] = e -/
theorem d_setIx {o i e : Me} (h : PS X st (tAsg (tI X.K CA W e) (gSub (tI X.K CA W o) (tI X.K CA W i) rSetL))) : PS X st (tS X.K CA W (sSetIx o i e)) := by
  refine h.weak fun D σ H ⟨w0, w, s, eH, r, q⟩ => ⟨w0, w, s, eH, r, q.bind.imp (fun rr s1 _ q1 w1 v r1 u1 h1 f1 => ?_) fun x s1 q1 => q1.e⟩
  refine two (CA := CA) (W := W) (fo := fun (f : Fl) s' => FoS X.K w0 w D f s') (f := fun ro ri s3 => match rr.toD, ri with
    | some d, .d (.int k) => (match chg s3 ro (setAt k d) with
      | some s4 => Ou.ok Fl.nx s4
      | none => .st)
    | _, _ => .st) rfl r1 ((Wp.imp q1 (fun f s2 _ q2 => q2) fun x s2 q2 => (FeS.up u1 q2).e)) fun ro ri s3 w3 ov iv q3 r3 u3 ho hi => ?_
  cases hd : rr.toD with
  | none => rw [hd] at q3; exact q3.elim
  | some d =>
    rw [hd] at q3
    cases ri with
    | d y =>
      cases y with
      | int k =>
        dsimp only at q3
        have u13 : Up w w3 := u1.trans u3
        obtain ⟨w4, e4, a4, r4, u4, x4, h4⟩ := Rel.data1 r.up r3 u13 (h1.up r1 u3) f1 hd
        cases hc : chg s3 ro (setAt k d) with
        | none => rw [hc] at q3; exact q3.elim
        | some s4 =>
          rw [hc] at q3
          have ho4 : RelR X.K w4 σ ov ro := by
            cases ro with
            | d x => exact Rep.ext x4 ho
            | slt j => exact ho
            | fr l => exact absurd hc (by simp [chg])
          obtain ⟨p, vs, l, l', ep, g1, g2, _, g4, g5⟩ := r4.chg ho4 hc
          cases hi
          unfold setAt at g4
          cases hj : Pm.ixN l.length k with
          | none => rw [hj] at g4; cases g4
          | some j =>
            rw [hj] at g4
            injection g4 with g4
            obtain ⟨r5, u5⟩ := g5 (vs.set j v) (by rw [← g4]; exact Reps.set h4 g2 j)
            refine ⟨p, vs, k, j, ep, rfl, by rw [← e4]; exact g1, by rw [ixN_eq, g2.length]; exact hj, ?_⟩
            have := q3 _ σ r5 (u4.trans u5)
            rw [← e4]
            exact this
      | _ => exact q3.elim
    | _ => exact q3.elim
theorem tyL {K : PySem.W.Frag} {p : Addr} {vs : List V} {H : Hp} (h : H p = some (.lst vs)) : tyV K "list" (.ref p) H := .inl ⟨rfl, vs, SqL.of h⟩
theorem Rel.isL {K : PySem.W.Frag} {w0 w : Wd} {s s' : S} {σ : L2.St} {v : V} {ro : R} (r : Rel K w0 w s σ) (h : RelR K w σ v ro) (e : Pm.chg s ro some = some s') : tyV K "list" v w.H := by
  obtain ⟨p, vs, l, l', ep, g1, _⟩ := r.chg h e
  rw [ep]
  exact tyL g1
/-- o.append(e) -/
theorem d_app {o e : Me} (h : PS X st (tDrop (tBM X.K "list" rAppend (tI X.K CA W o) (tA X.K CA W (aCons e aNil))))) : PS X st (tS X.K CA W (sApp o e)) := by
  refine h.weak fun D σ H ⟨w0, w, s, eH, r, q⟩ => ⟨w0, w, s, eH, r, q.bind.imp (fun ro s1 _ q1 w1 ov r1 u1 h1 f1 => ?_) fun x s1 q1 => q1.e⟩
  cases hL : chg s1 ro some with
  | none => rw [hL] at q1; exact q1.elim
  | some sL =>
    rw [hL] at q1
    dsimp only at q1
    refine ⟨r1.isL h1 hL, w0, w1, s1, rfl, r1, ?_⟩
    unfold aCons aNil
    have q1 := q1.bind
    cases he : e s1 with
    | st => rw [he] at q1; exact q1.elim
    | ex x s2 => rw [he] at q1; exact (FeS.up u1 q1).e
    | ok rr s2 =>
      rw [he] at q1
      intro w2 vs r2 u2 h2 f2
      match vs, h2, f2 with
      | [v], ⟨h2, _⟩, ⟨f2, _⟩ =>
      have q1 : Wp (match rr.toD with
        | some d => (match chg s2 ro (fun l => if l.length < LIM then some (l ++ [d]) else none) with
          | some s3 => Ou.ok Fl.nx s3
          | none => .st)
        | none => .st) (FoS X.K w0 w D) (FeS X.K CA W w0 w) := q1
      cases hd : rr.toD with
      | none => rw [hd] at q1; exact q1.elim
      | some d =>
        rw [hd] at q1
        dsimp only at q1
        obtain ⟨w4, e4, a4, r4, u4, x4, h4⟩ := Rel.data1 r1.up r2 u2 h2 f2 hd
        cases hc : chg s2 ro (fun l => if l.length < LIM then some (l ++ [d]) else none) with
        | none => rw [hc] at q1; exact q1.elim
        | some s3 =>
          rw [hc] at q1
          have ho4 : RelR X.K w4 σ ov ro := h1.up r1 u4
          obtain ⟨p, vs, l, l', ep, g1, g2, _, g4, g5⟩ := r4.chg ho4 hc
          by_cases hlt : l.length < LIM
          case neg => rw [if_neg hlt] at g4; cases g4
          rw [if_pos hlt] at g4
          injection g4 with g4
          obtain ⟨r5, u5⟩ := g5 (vs ++ [v]) (by rw [← g4]; exact g2.append (.cons h4 .nil))
          refine ⟨p, vs, v, ep, rfl, by rw [← e4]; exact g1, LIM_lt (by rw [g2.length]; exact hlt), ?_⟩
          have := q1 _ σ r5 ((u1.trans u4).trans u5)
          rw [← e4]
          exact this
/-- o.extend(e) -/
theorem d_ext {o e : Me} (h : PS X st (tDrop (tBM X.K "list" rExtend (tI X.K CA W o) (tA X.K CA W (aCons e aNil))))) : PS X st (tS X.K CA W (sExt o e)) := by
  refine h.weak fun D σ H ⟨w0, w, s, eH, r, q⟩ => ⟨w0, w, s, eH, r, q.bind.imp (fun ro s1 _ q1 w1 ov r1 u1 h1 f1 => ?_) fun x s1 q1 => q1.e⟩
  cases hL : chg s1 ro some with
  | none => rw [hL] at q1; exact q1.elim
  | some sL =>
    rw [hL] at q1
    dsimp only at q1
    refine ⟨r1.isL h1 hL, w0, w1, s1, rfl, r1, ?_⟩
    unfold aCons aNil
    have q1 := q1.bind
    cases he : e s1 with
    | st => rw [he] at q1; exact q1.elim
    | ex x s2 => rw [he] at q1; exact (FeS.up u1 q1).e
    | ok rr s2 =>
      rw [he] at q1
      intro w2 vs r2 u2 h2 f2
      match vs, h2, f2 with
      | [v], ⟨h2, _⟩, ⟨f2, _⟩ =>
      cases rr with
      | fr l2 =>
        have q1 : Wp (match chg s2 ro (fun l => if l.length + l2.length ≤ LIM then some (l ++ l2) else none) with
          | some s3 => Ou.ok Fl.nx s3
          | none => .st) (FoS X.K w0 w D) (FeS X.K CA W w0 w) := q1
        cases hc : chg s2 ro (fun l => if l.length + l2.length ≤ LIM then some (l ++ l2) else none) with
        | none => rw [hc] at q1; exact q1.elim
        | some s3 =>
          rw [hc] at q1
          obtain ⟨p, vs, l, l', ep, g1, g2, _, g4, g5⟩ := r2.chg (h1.up r1 u2) hc
          obtain ⟨p2, vs2, ep2, k1, k2, _⟩ := h2
          by_cases hlt : l.length + l2.length ≤ LIM
          case neg => rw [if_neg hlt] at g4; cases g4
          rw [if_pos hlt] at g4
          injection g4 with g4
          obtain ⟨r5, u5⟩ := g5 (vs ++ vs2) (by rw [← g4]; exact g2.append k2)
          exact ⟨p, p2, vs, vs2, ep, by rw [ep2], g1, k1, LIM_sz (by rw [g2.length, k2.length]; exact hlt), q1 _ σ r5 ((u1.trans u2).trans u5)⟩
      | d x => exact q1.elim
      | slt i => exact q1.elim
theorem Reps.dropLast {K : PySem.W.Frag} {w : Wd} {vs : List V} {l : List D} (h : Reps K w vs l) : Reps K w vs.dropLast l.dropLast := by
  rw [List.dropLast_eq_take, List.dropLast_eq_take, h.length]
  exact h.take _
/-- x.pop() -/
theorem d_pop {e : Expr} {o : Me} (h : PE X e (tBM0 X.K "list" rPop (tI X.K CA W o))) : PE X e (tI X.K CA W (mPop o)) := by
  refine h.weak fun σ H Q ⟨w0, w, s, eH, r, q⟩ => ⟨w0, w, s, eH, r, q.bind.imp (fun ro s1 _ q1 w1 ov r1 u1 h1 f1 => ?_) fun x s1 q1 => q1⟩
  cases ro with
  | slt i =>
    dsimp only at q1
    cases he : s1.env[i]? with
    | none => rw [he] at q1; exact q1.elim
    | some b =>
      rw [he] at q1
      cases b with
      | own l =>
        dsimp only at q1
        cases hl : l.getLast? with
        | none => rw [hl] at q1; exact q1.elim
        | some d =>
          rw [hl] at q1
          have hc : chg s1 (.slt i) (fun l => some l.dropLast) = some (setVal s1 i (.own l.dropLast)) := by
            unfold chg
            dsimp only
            rw [he]
            rfl
          obtain ⟨p, vs, l0, l', ep, g1, g2, g3, g4, g5⟩ := r1.chg h1 hc
          have hl0 : l0 = l := by
            have g3 : (match s1.env[i]? with
              | some (.own l) => some l
              | some (.bor l) => some l
              | _ => none) = some l0 := g3
            rw [he] at g3
            injection g3 with g3
            exact g3.symm
          subst hl0
          injection g4 with g4
          have hne : l0[l0.length - 1]? = some d := by rw [← List.getLast?_eq_getElem?]; exact hl
          obtain ⟨y, hy, hr⟩ := g2.at hne
          obtain ⟨r5, u5⟩ := g5 vs.dropLast (by rw [← g4]; exact g2.dropLast)
          refine ⟨by rw [ep]; exact tyL g1, p, vs, y, ep, rfl, g1, by rw [g2.length]; exact hy, ?_⟩
          exact q1 _ y r5 (u1.trans u5) (Rep.ext (r1.ext u5) hr) trivial
      | _ => exact q1.elim
  | _ => exact q1.elim
/-- x.pop(k) -/
theorem d_popAt {e : Expr} {o k : Me} (h : PE X e (tBM X.K "list" rPopAt (tI X.K CA W o) (tA X.K CA W (aCons k aNil)))) : PE X e (tI X.K CA W (mPopAt o k)) := by
  refine h.weak fun σ H Q ⟨w0, w, s, eH, r, q⟩ => ⟨w0, w, s, eH, r, q.bind.imp (fun ro s1 _ q1 w1 ov r1 u1 h1 f1 => ?_) fun x s1 q1 => q1⟩
  cases hL : chg s1 ro some with
  | none => rw [hL] at q1; exact q1.elim
  | some sL =>
    rw [hL] at q1
    dsimp only at q1
    refine ⟨r1.isL h1 hL, w0, w1, s1, rfl, r1, ?_⟩
    unfold aCons aNil
    have q1 := q1.bind
    cases he : k s1 with
    | st => rw [he] at q1; exact q1.elim
    | ex x s2 => rw [he] at q1; exact fun w' cls d r' u' => q1 w' cls d r' (u1.trans u')
    | ok rr s2 =>
      rw [he] at q1
      intro w2 vs r2 u2 h2 f2
      match vs, h2, f2 with
      | [v], ⟨h2, _⟩, ⟨f2, _⟩ =>
      cases ro with
      | slt i =>
        cases rr with
        | d x =>
          cases x with
          | int z =>
            have q1 : Wp (match s2.env[i]? with
              | some (.own l) => (if z < 0 ∨ LIM < z then .st else match l[z.toNat]? with
                | some d => Ou.ok (R.d d) (setVal s2 i (.own (l.eraseIdx z.toNat)))
                | none => .st)
              | _ => .st) _ _ := q1
            cases he2 : s2.env[i]? with
            | none => rw [he2] at q1; exact q1.elim
            | some b =>
              rw [he2] at q1
              cases b with
              | own l =>
                dsimp only at q1
                by_cases hz : z < 0 ∨ LIM < z
                · rw [if_pos hz] at q1; exact q1.elim
                rw [if_neg hz] at q1
                cases hl : l[z.toNat]? with
                | none => rw [hl] at q1; exact q1.elim
                | some d =>
                  rw [hl] at q1
                  have hc : chg s2 (.slt i) (fun l => some (l.eraseIdx z.toNat)) = some (setVal s2 i (.own (l.eraseIdx z.toNat))) := by
                    unfold chg
                    dsimp only
                    rw [he2]
                    rfl
                  obtain ⟨p, vs, l0, l', ep, g1, g2, g3, g4, g5⟩ := r2.chg (h1.up r1 u2) hc
                  have hl0 : l0 = l := by
                    have g3 : (match s2.env[i]? with
                      | some (.own l) => some l
                      | some (.bor l) => some l
                      | _ => none) = some l0 := g3
                    rw [he2] at g3
                    injection g3 with g3
                    exact g3.symm
                  subst hl0
                  injection g4 with g4
                  obtain ⟨y, hy, hr⟩ := g2.at hl
                  obtain ⟨r5, u5⟩ := g5 (vs.eraseIdx z.toNat) (by rw [← g4]; exact g2.eraseIdx _)
                  have hzl : z.toNat < l0.length := (List.getElem?_eq_some_iff.mp hl).1
                  cases h2
                  refine ⟨p, vs, z, z.toNat, y, ep, rfl, g1, by omega, ?_, ?_, hy, ?_⟩
                  · have : LIM < 2 ^ 62 := by decide
                    omega
                  · exact seqIndex_of (by omega) (by rw [g2.length]; omega)
                  · exact q1 _ y r5 ((u1.trans u2).trans u5) (Rep.ext (r2.ext u5) hr) trivial
              | _ => exact q1.elim
          | _ => exact q1.elim
        | _ => exact q1.elim
      | _ => exact q1.elim
end
end Pm

set_option Elab.async false
set_option linter.all false
set_option maxRecDepth 100000
set_option maxHeartbeats 4000000
/-! PmH: loops, in-place operators, the store, raise; a def of the table. -/
namespace Pm
open PySem L2
section
variable {X : Cx} {CA : Nat → Addr} {W : WX} {pos : Pos} {st : Stmt} {rest : List Stmt}
theorem d_for {src : Mi} {g : TG} {tg : Tg} {m : Ms} (h : PS X st (tFor (wI X.K CA W src) g (tS X.K CA W m))) (htg : TgOk X.K g tg) : PS X st (tS X.K CA W (sFor tg src m)) := by
  refine h.weak fun D σ H ⟨w0, w, s, eH, r, q⟩ => ⟨w0, w, s, eH, r, q.bind.imp (fun items s1 _ q1 w1 J r1 u1 wl => ?_) fun x s1 q1 => q1.e⟩
  obtain ⟨G, Y, wk, hG, hY⟩ := wl.ex
  refine for_it wk (fun i σ' H' => ∃ w' s', w'.H = H' ∧ Rel X.K w0 w' s' σ' ∧ Up w1 w' ∧ Wp (forL tg m (items.drop i) s') (FoS X.K w0 w D) (FeS X.K CA W w0 w))
    ⟨w1, s1, rfl, r1, Up.refl w1, q1⟩ (fun i σ' H' hi ⟨w', s', e1, r', up, _⟩ => by rw [← e1]; exact hG w' up) (fun i x σ' H1 H2 hi ⟨w', s', e1, r', up, q2⟩ y => ?_) (fun σ' H' ⟨w', s', e1, r', up, q2⟩ => ?_)
  · subst e1
    obtain ⟨w3, d, e3, r3, u3, hd, hrep⟩ := hY i w' w0 s' σ' x H2 hi r' (r1.ext up) up y
    subst e3
    have hdrop : items.drop i = d :: items.drop (i + 1) := by
      rw [List.drop_eq_getElem_cons hi]
      have : items[i] = d := by rw [List.getElem?_eq_getElem hi] at hd; exact Option.some.inj hd
      rw [this]
    rw [hdrop] at q2
    unfold forL at q2
    cases hput : tg.put d s' with
    | none => rw [hput] at q2; exact q2.elim
    | some sp =>
      rw [hput] at q2
      refine htg w0 w3 s' σ' x d sp _ r3 hrep hput fun σ2 w4 e4 r4 u4 n4 l4 => ?_
      have up4 : Up w1 w4 := (up.trans u3).trans u4
      refine ⟨w0, w4, sp, rfl, r4, (Wp.bind q2).imp (fun f s2 _ q3 => ?_) fun x s2 q3 => FeS.up (u1.trans up4) q3⟩
      cases f with
      | nx => exact fun w5 σ5 r5 u5 => ⟨w5, s2, rfl, r5, up4.trans u5, q3⟩
      | ct => exact fun w5 σ5 r5 u5 => ⟨w5, s2, rfl, r5, up4.trans u5, q3⟩
      | bk => exact fun w5 σ5 r5 u5 => q3 w5 σ5 r5 ((u1.trans up4).trans u5)
      | rt x => exact fun w5 σ5 v r5 u5 => q3 w5 σ5 v r5 ((u1.trans up4).trans u5)
  · rw [List.drop_eq_nil_of_le (Nat.le_refl _)] at q2
    subst e1
    exact q2 w' σ' r' (u1.trans up)
theorem d_while {c : Mt} {m : Ms} {fuel : Nat} (h : PS X st (tWhile (tT X.K CA W c) (tS X.K CA W m))) : PS X st (tS X.K CA W (sWhile fuel c m)) := by
  refine h.weak fun D σ H ⟨w0, w, s, eH, r, q⟩ => ?_
  refine ⟨fun n σ' H' => ∃ w' s', w'.H = H' ∧ Rel X.K w0 w' s' σ' ∧ Up w w' ∧ Wp (whileL c m n s') (FoS X.K w0 w D) (FeS X.K CA W w0 w), ⟨fuel, w, s, eH, r, Up.refl w, q⟩, ?_⟩
  rintro n σ' H' ⟨w', s', rfl, r', up, q2⟩
  cases n with
  | zero => exact q2.elim
  | succ n =>
    unfold whileL at q2
    refine ⟨w0, w', s', rfl, r', (Wp.bind q2).imp (fun b s2 _ q3 w4 r4 u4 => ?_) fun x s2 q3 => (FeS.up up q3).e⟩
    cases b with
    | false => exact q3 w4 σ' r4 (up.trans u4)
    | true =>
      show ∃ N, _
      have q3 : Wp ((m s2).bind fun f s2 => (match f with
        | .nx => whileL c m n s2
        | .ct => whileL c m n s2
        | .bk => Ou.ok Fl.nx s2
        | .rt r => .ok (.rt r) s2)) (FoS X.K w0 w D) (FeS X.K CA W w0 w) := q3
      refine ⟨fun σ5 H5 => ∃ w' s', w'.H = H5 ∧ Rel X.K w0 w' s' σ5 ∧ Up w w' ∧ Wp (whileL c m n s') (FoS X.K w0 w D) (FeS X.K CA W w0 w), fun σ5 H5 z => ⟨n, Nat.lt_succ_self n, z⟩, w0, w4, s2, rfl, r4, q3.bind.imp (fun f s3 _ q4 => ?_) fun x s3 q4 => FeS.up (up.trans u4) q4⟩
      cases f with
      | nx => exact fun w5 σ5 r5 u5 => ⟨w5, s3, rfl, r5, (up.trans u4).trans u5, q4⟩
      | ct => exact fun w5 σ5 r5 u5 => ⟨w5, s3, rfl, r5, (up.trans u4).trans u5, q4⟩
      | bk => exact fun w5 σ5 r5 u5 => q4 w5 σ5 r5 ((up.trans u4).trans u5)
      | rt x => exact fun w5 σ5 v r5 u5 => q4 w5 σ5 v r5 ((up.trans u4).trans u5)
/-- x op= e -/
theorem d_aug {i : Nat} {f : S → R → R → Option R} {rr : R2} {e : Me} (hb : Bop X.K rr f) (h : PS X st (tAug i (tI X.K CA W e) rr)) : PS X st (tS X.K CA W (sAug f i e)) := by
  refine h.weak fun D σ H ⟨w0, w, s, eH, r, q⟩ => ?_
  unfold sAug at q
  have hs := r.sl i
  cases he : s.env[i]? with
  | none => rw [he] at q; exact q.elim
  | some b =>
    rw [he] at q hs
    cases b with
    | val x =>
      obtain ⟨v, h1, h2⟩ := hs
      refine ⟨v, h1, w0, w, s, eH, r, (Wp.bind q).imp (fun ry s1 _ q1 w1 y r1 u1 g1 f1 => ?_) fun x s1 q1 => q1.e⟩
      cases hf : f s1 (.d x) ry with
      | none => rw [hf] at q1; exact q1.elim
      | some z =>
        rw [hf] at q1
        dsimp only at q1
        cases hd : z.toD with
        | none => rw [hd] at q1; exact q1.elim
        | some d =>
          rw [hd] at q1
          refine hb w0 w1 s1 σ v y (.d x) ry z _ r1 (Rep.ext (r.ext u1) h2) g1 hf fun w2 vz r2 u2 g2 f2 => ?_
          obtain ⟨w3, e3, _, r3, u3, _, h3⟩ := Rel.data1 r.up r2 (u1.trans u2) g2 (f2.of u1) hd
          obtain ⟨w4, e4, _, _, r4, u4, _⟩ := r3.setVal i h3
          have := q1 w4 _ r4 (u3.trans u4)
          rw [e4, e3] at this
          exact this
    | _ => exact q.elim
/-- o[i] op= e -/
theorem d_augIx {f : S → R → R → Option R} {rr : R2} {o i e : Me} (hb : Bop X.K rr f) (h : PS X st (tAugS (tI X.K CA W o) (tI X.K CA W i) (tI X.K CA W e) (rIxL X.K) rr rSetL)) : PS X st (tS X.K CA W (sAugIx f o i e)) := by
  refine h.weak fun D σ H ⟨w0, w, s, eH, r, q⟩ => ?_
  refine two (CA := CA) (W := W) (fo := fun (f : Fl) s' => FoS X.K w0 w D f s') (f := fun ro ri s2 => match ri, s2.lv ro with
    | .d (.int k), some l => (match (Pm.ixN l.length k).bind fun j => l[j]? with
      | some x => (e s2).bind fun r s3 => (match f s3 (.d x) r with
        | some z => (match z.toD with
          | some d => (match chg s3 ro (setAt k d) with
            | some s4 => Ou.ok Fl.nx s4
            | none => .st)
          | none => .st)
        | none => .st)
      | none => .st)
    | _, _ => .st) eH r (Wp.imp q (fun f s2 _ q2 => q2) fun x s2 q2 => q2.e) fun ro ri s2 w2 ov iv q2 r2 u2 ho hi => ?_
  cases ri with
  | d y =>
    cases y with
    | int k =>
      cases hl : s2.lv ro with
      | none => rw [hl] at q2; exact q2.elim
      | some l =>
        rw [hl] at q2
        dsimp only at q2
        cases hx : (Pm.ixN l.length k).bind fun j => l[j]? with
        | none => rw [hx] at q2; exact q2.elim
        | some x =>
          rw [hx] at q2
          dsimp only at q2
          obtain ⟨p, vs, ep, g1, g2⟩ := r2.lv ho hl
          cases hi
          obtain ⟨j, hj, hxj⟩ : ∃ j, Pm.ixN l.length k = some j ∧ l[j]? = some x := by
            cases hj : Pm.ixN l.length k with
            | none => rw [hj] at hx; cases hx
            | some j => rw [hj] at hx; exact ⟨j, rfl, hx⟩
          obtain ⟨xv, hxv, hxr⟩ := g2.at hxj
          refine ⟨p, vs, k, xv, ep, rfl, SqL.of g1, ?_, w0, w2, s2, rfl, r2, (Wp.bind q2).imp (fun re s3 _ q3 w3 yv r3 u3 h3 f3 => ?_) fun x s3 q3 w' cls d r' u' => q3 w' cls d r' (u2.trans u')⟩
          · unfold atI
            rw [ixN_eq, g2.length, hj]
            exact hxv
          · cases hf : f s3 (.d x) re with
            | none => rw [hf] at q3; exact q3.elim
            | some z =>
              rw [hf] at q3
              dsimp only at q3
              cases hd : z.toD with
              | none => rw [hd] at q3; exact q3.elim
              | some d =>
                rw [hd] at q3
                dsimp only at q3
                cases hc : chg s3 ro (setAt k d) with
                | none => rw [hc] at q3; exact q3.elim
                | some s4 =>
                  rw [hc] at q3
                  refine hb w0 w3 s3 σ xv yv (.d x) re z _ r3 (Rep.ext (r2.ext u3) hxr) h3 hf fun w4 vz r4 u4 h4 f4 => ?_
                  obtain ⟨w5, e5, _, r5, u5, x5, h5⟩ := Rel.data1 r.up r4 ((u2.trans u3).trans u4) h4 (f4.of (u2.trans u3)) hd
                  have ho3 := (ho.up r2 u3)
                  have ho4 := ho3.up r3 u4
                  have ho5 : RelR X.K w5 σ ov ro := by
                    cases ro with
                    | d x => exact Rep.ext x5 ho4
                    | slt j => exact ho4
                    | fr l => exact absurd hc (by simp [chg])
                  obtain ⟨p', vs', l0, l', ep', k1, k2, _, k4, k5⟩ := r5.chg ho5 hc
                  unfold setAt at k4
                  cases hj' : Pm.ixN l0.length k with
                  | none => rw [hj'] at k4; cases k4
                  | some j' =>
                    rw [hj'] at k4
                    injection k4 with k4
                    obtain ⟨r6, u6⟩ := k5 (vs'.set j' vz) (by rw [← k4]; exact Reps.set h5 k2 j')
                    refine ⟨p', vs', k, j', ep', rfl, by rw [← e5]; exact k1, by rw [ixN_eq, k2.length]; exact hj', ?_⟩
                    have := q3 _ σ r6 (u5.trans u6)
                    rw [← e5]
                    exact this
    | _ => exact q2.elim
  | _ => exact q2.elim
/-- a new object of the store -/
theorem Rel.newS {K : PySem.W.Frag} {w0 w : Wd} {s : S} {σ : L2.St} {p : Addr} {vs : List V} {l : List D} (r : Rel K w0 w s σ) (hp : w.H p = none) (h : Reps K w vs l) :
    ∃ w2, w2.H = upd w.H p (.lst vs) ∧ Rel K w0 w2 { s with mem := s.mem ++ [l] } σ ∧ Up w w2 ∧ Rep K w2 (.ref p) (.hnd s.mem.length) := by
  have kp : ∀ a o, w.H a = some o → upd w.H p (.lst vs) a = some o := fun a o e => by rw [upd_ne (ne_of_none e hp)]; exact e
  have dom : ∀ (a : Addr), upd w.H p (.lst vs) a = none → w.H a = none := fun a z => by
    by_cases q : a = p
    · rw [q, upd_same] at z; cases z
    · rw [upd_ne q] at z; exact z
  have e : Ext w { w with H := upd w.H p (.lst vs), adr := w.adr ++ [p] } := ⟨⟨[p], rfl⟩, fun _ h => h, fun a o _ h => kp a o h⟩
  have u : Up w { w with H := upd w.H p (.lst vs), adr := w.adr ++ [p] } := ⟨⟨[p], rfl⟩, fun a z => by
    rcases List.mem_append.mp z with z | z
    · exact .inl z
    · rw [List.mem_singleton] at z
      exact .inr (by rw [z]; exact hp), fun _ h => h, fun _ h => .inl h, fun _ h => .inl h, fun a o h _ _ => kp a o h, dom⟩
  have inp : ∀ {a : Addr}, w.H a ≠ none → a ∉ w.adr → a ∉ w.adr ++ [p] := fun n1 n2 z => by
    rcases List.mem_append.mp z with z | z
    · exact n2 z
    · rw [List.mem_singleton] at z
      exact n1 (by rw [z]; exact hp)
  refine ⟨{ w with H := upd w.H p (.lst vs), adr := w.adr ++ [p] }, rfl, { up := r.up.trans u, o0 := r.o0, len := r.len, sl := fun i => ?_, own := r.own, dis := r.dis, oI := fun a h => ?_, aI := fun a h z => ?_, iH := fun a i z => r.iH a i (dom a z), nd := ?_, st := ?_ }, u, ?_⟩
  · refine SlRel.mono e (fun a h => h) (fun a h n => inp (fun z => ?_) n) (fun a o _ h => kp a o h) (fun a o _ _ h => kp a o h) (r.sl i)
    exact h (r.up.dom a z)
  · obtain ⟨h1, h2, h3⟩ := r.oI a h
    exact ⟨h1, inp (r.oH h) h2, h3⟩
  · rcases List.mem_append.mp h with h | h
    · exact r.aI a h z
    · rw [List.mem_singleton] at h
      exact r.iH a z (by rw [h]; exact hp)
  · refine List.nodup_append.mpr ⟨r.nd, by simp, fun a ha b hb => ?_⟩
    rw [List.mem_singleton] at hb
    rw [hb]
    intro z
    exact r.aH ha (by rw [z]; exact hp)
  · refine ⟨by show (s.mem ++ [l]).length = (w.adr ++ [p]).length; simp [r.st.1], fun i a m g1 g2 => ?_⟩
    have g1 : (w.adr ++ [p])[i]? = some a := g1
    have g2 : (s.mem ++ [l])[i]? = some m := g2
    by_cases hi : i < w.adr.length
    · rw [List.getElem?_append_left hi] at g1
      rw [List.getElem?_append_left (by rw [r.st.1]; exact hi)] at g2
      obtain ⟨us, k1, k2⟩ := r.st.2 i a m g1 g2
      exact ⟨us, kp a _ k1, Reps.ext e k2⟩
    · have h2 : i = w.adr.length := by
        have := (List.getElem?_eq_some_iff.mp g1).1
        simp at this
        omega
      subst h2
      have e1 : a = p := by
        rw [List.getElem?_append_right (Nat.le_refl _)] at g1
        simp at g1
        exact g1.symm
      have e2 : m = l := by
        rw [List.getElem?_append_right (by rw [r.st.1]; exact Nat.le_refl _), r.st.1] at g2
        simp at g2
        exact g2.symm
      subst e1 e2
      exact ⟨vs, upd_same, Reps.ext e h⟩
  · refine .hnd ?_
    show (w.adr ++ [p])[s.mem.length]? = some p
    rw [r.st.1]
    simp
theorem d_new {es : List Expr} {ms : Ma} (h : PA X es (tA X.K CA W ms)) : PE X (.List es pos) (tI X.K CA W (mNew ms)) := by
  refine (pe_lst h).weak fun σ H Q ⟨w0, w, s, eH, r, q⟩ => ⟨w0, w, s, eH, r, q.bind.imp (fun rs s1 _ q1 w1 vs r1 u1 h1 f1 => ?_) fun x s1 q1 => q1⟩
  cases hd : toDs rs with
  | none => rw [hd] at q1; exact q1.elim
  | some ds =>
    rw [hd] at q1
    dsimp only at q1
    obtain ⟨w2, e2, _, r2, u2, _, h2⟩ := Rel.data r.up r1 u1 h1 f1 hd
    by_cases hl : ds.length ≤ LIM
    · rw [if_pos hl] at q1
      refine ⟨LIM_sz (by rw [h2.length]; exact hl), fun p hp => ?_⟩
      rw [← e2] at hp ⊢
      obtain ⟨w3, e3, r3, u3, h3⟩ := r2.newS hp h2
      rw [← e3]
      exact q1 w3 _ r3 (u2.trans u3) h3 trivial
    · rw [if_neg hl] at q1; exact q1.elim
/-! ### raise C(e), C with an __init__ that stores its one argument -/
def spInit1 (f : Str) (C : Addr) : Sp := fun vs H Q _ => ∃ (a : Addr) (v : V), vs = [.ref a, v] ∧ H a = some (exo a C none) ∧ ∀ dx, H dx = none → dx ≠ a → Q .non (upd (upd H dx (exd dx [(f, v)])) a (exo a C (some dx)))
theorem d_raise {c : Nat} {f : Str} {m : Me} (h : PS X st (fun D σ H => tMkO (CA c) (spInit1 f (CA c)) [] (tA X.K CA W (aCons m aNil)) σ H fun cls d H' => W cls d σ H')) : PS X st (tS X.K CA W (sRaise c f m)) := by
  refine h.weak fun D σ H ⟨w0, w, s, eH, r, q⟩ => ?_
  refine ⟨w0, w, s, eH, r, ?_⟩
  have q := Wp.bind q
  unfold aCons aNil
  cases hm : m s with
  | st => rw [hm] at q; exact q.elim
  | ex x s1 => rw [hm] at q; exact q.e
  | ok rr s1 =>
    rw [hm] at q
    intro w1 vs r1 u1 h1 f1
    match vs, h1, f1 with
    | [v], ⟨h1, _⟩, ⟨f1, _⟩ =>
    have q : Wp (match rr.toD with
      | some d => Ou.ex ⟨c, [(f, d)]⟩ s1
      | none => .st) (FoS X.K w0 w D) (FeS X.K CA W w0 w) := q
    cases hd : rr.toD with
    | none => rw [hd] at q; exact q.elim
    | some d =>
      rw [hd] at q
      obtain ⟨w2, e2, _, r2, u2, _, h2⟩ := Rel.data1 r.up r1 u1 h1 f1 hd
      refine ⟨by show 1 ≤ 1000; decide, fun a ha => ⟨a, v, rfl, upd_same, fun dx hdx hne => ⟨rfl, dx, [(f, v)], upd_same, by rw [upd_ne hne, upd_same], ?_, ?_⟩⟩⟩
      · rw [upd_ne hne] at hdx
        exact hdx
      · rw [upd_ne hne] at hdx
        rw [← e2] at ha hdx ⊢
        have hD : ∀ b, b ≠ a → b ≠ dx → upd (del (upd (upd (upd w2.H a (exo a (CA c) none)) dx (exd dx [(f, v)])) a (exo a (CA c) (some dx))) a) dx (.xd [(f, v)]) b = w2.H b := fun b n1 n2 => by
          rw [upd_ne n2, del_ne n1, upd_ne n1, upd_ne n2, upd_ne n1]
        have kp : ∀ b o, w2.H b = some o → upd (del (upd (upd (upd w2.H a (exo a (CA c) none)) dx (exd dx [(f, v)])) a (exo a (CA c) (some dx))) a) dx (.xd [(f, v)]) b = some o := fun b o e => by
          rw [hD b (ne_of_none e ha) (ne_of_none e hdx)]
          exact e
        obtain ⟨r3, u3⟩ := r2.grow (w' := { w2 with H := upd (del (upd (upd (upd w2.H a (exo a (CA c) none)) dx (exd dx [(f, v)])) a (exo a (CA c) (some dx))) a) dx (.xd [(f, v)]), I := fun b => w2.I b ∨ b = dx }) rfl rfl (fun _ h => .inl h) (fun _ h => h.elim .inl fun z => .inr (by rw [z]; exact hdx)) kp (fun b i z => by
          have z : upd (del (upd (upd (upd w2.H a (exo a (CA c) none)) dx (exd dx [(f, v)])) a (exo a (CA c) (some dx))) a) dx (.xd [(f, v)]) b = none := z
          rcases i with i | i
          · cases hb : w2.H b with
            | none => exact r2.iH b i hb
            | some o =>
              rw [kp b o hb] at z
              cases z
          · rw [i, upd_same] at z
            cases z)
        exact q _ σ (.ref (CA c)) (some dx) r3 (u2.trans u3) ⟨rfl, dx, [(f, v)], rfl, ⟨.inr rfl, upd_same⟩, rfl, Rep.ext (r2.ext u3) h2, trivial⟩
end
/-! ### a def of the table -/
section
variable {K : PySem.W.Frag} {CA : Nat → Addr}
theorem startEnv_at : ∀ (as : List Arg) (n i : Nat), as.length ≤ n → i < n → (startEnv as n)[i]? = some (match as[i]? with
  | some (.val d) => Sl.val d
  | some (.bor l) => Sl.bor l
  | some (.ro l) => Sl.ro l
  | some (.exc a dd fs) => Sl.exc a dd fs
  | none => Sl.un) := by
  intro as n i h1 h2
  unfold startEnv
  by_cases hi : i < as.length
  · rw [List.getElem?_append_left (by simp; exact hi), List.getElem?_map, List.getElem?_eq_getElem hi]
    simp only [Option.map_some]
    cases as[i] <;> rfl
  · rw [List.getElem?_append_right (by simp; omega), List.getElem?_eq_none (l := as) (by omega), List.length_map, List.getElem?_replicate, if_pos (by omega)]
theorem start_at (N : List Str) (vs : List V) (i : Nat) (h : i < vs.length) : (L2.start N vs)[i]? = some (some vs[i]) := by
  unfold L2.start
  rw [List.getElem?_append_left (by simp; exact h), List.getElem?_map, List.getElem?_eq_getElem h]
  rfl
theorem argsAt : ∀ {w : Wd} {vs : List V} {as : List Arg}, ArgsRel K w vs as → vs.length = as.length ∧ ∀ (i : Nat) (h1 : i < vs.length) (a : Arg), as[i]? = some a → ArgRel K w vs[i] a
  | w, [], [], _ => ⟨rfl, fun i h1 => absurd h1 (by simp)⟩
  | w, [], _ :: _, h => h.elim
  | w, _ :: _, [], h => h.elim
  | w, v :: vs, a :: as, h => by
    obtain ⟨h1, h2⟩ := argsAt h.2
    refine ⟨by simp [h1], fun i hi b hb => ?_⟩
    cases i with
    | zero =>
      simp at hb
      subst hb
      exact h.1
    | succ i =>
      simp at hb
      exact h2 i (by simpa using hi) b hb
/-- the frame at the start -/
theorem Rel.start {w : Wd} {vs : List V} {as : List Arg} {m : List (List D)} {N : List Str} (c : Clean K w m) (h : ArgsRel K w vs as) (hn : as.length ≤ N.length) : Rel K w w { env := startEnv as N.length, mem := m } (L2.start N vs) := by
  obtain ⟨hl, ha⟩ := argsAt h
  have le : (startEnv as N.length).length = N.length := by simp [startEnv]; omega
  have ls : (L2.start N vs).length = N.length := by simp [L2.start]; omega
  have noown : ∀ (i : Nat) (l : List D), (startEnv as N.length)[i]? ≠ some (.own l) := fun i l z => by
    have hi : i < N.length := by rw [← le]; exact (List.getElem?_eq_some_iff.mp z).1
    rw [startEnv_at as _ i hn hi] at z
    injection z with z
    cases q : as[i]? with
    | none => rw [q] at z; cases z
    | some a => rw [q] at z; cases a <;> cases z
  refine { up := Up.refl w, o0 := c.o0, len := by rw [ls]; exact le, sl := fun i => ?_, own := fun a h => absurd h (c.o0 a), dis := fun i j a l l' g1 _ _ _ => absurd g1 (noown i l), oI := fun a h => absurd h (c.o0 a), aI := c.aI, iH := c.iH, nd := c.nd, st := c.st }
  show SlRel K w w ((L2.start N vs)[i]?) ((startEnv as N.length)[i]?)
  by_cases hi : i < N.length
  · rw [startEnv_at as _ i hn hi]
    cases q : as[i]? with
    | none => trivial
    | some a =>
      have hi2 : i < vs.length := by rw [hl]; exact (List.getElem?_eq_some_iff.mp q).1
      have r := ha i hi2 a q
      rw [start_at N vs i hi2]
      cases a with
      | val d => exact ⟨_, rfl, r⟩
      | bor l =>
        obtain ⟨p, us, e, h1, h2, h3⟩ := r
        exact ⟨p, us, by rw [e], h1, h2, (by rw [h1]; intro z; cases z), h3⟩
      | ro l =>
        obtain ⟨p, us, e, h1, h2⟩ := r
        exact ⟨p, us, by rw [e], h1, h2⟩
      | exc a dd fs =>
        obtain ⟨e, h1, fv, h2, h3⟩ := r
        exact ⟨by rw [e], h1, fv, h2, h3⟩
  · rw [List.getElem?_eq_none (l := startEnv as N.length) (by omega)]
    trivial
/-- what a body that is walked gives -/
theorem body_reads {fn : Fn} {F F1 : Fns} {f : Nat} {N : List Str} {vs : List V} {H : Hp} {Q : VK} {E : XK} (hF : ∀ as m, F1 f as m = runFn fn F as m) (hN : fn.slots = N.length) (h : spF K CA F1 f fn.pars vs H Q E) :
    tS K CA (fun cls d _ H => E cls d H) (fn.body F) { nx := fun _ H' => Q .non H', rt := Q } (L2.start N vs) H := by
  obtain ⟨hl, w, as, m, eH, c, ar, q⟩ := h
  rw [hF] at q
  unfold runFn at q
  by_cases hc : as.length = fn.pars ∧ fn.pars ≤ fn.slots
  case neg => rw [if_neg hc] at q; exact q.elim
  rw [if_pos hc, hN] at q
  have rel := Rel.start (N := N) c ar (by omega)
  refine ⟨w, w, _, eH, rel, ?_⟩
  have cl : ∀ {w' : Wd} {s' : S} {σ' : L2.St}, Rel K w w' s' σ' → Up w w' → Clean K (noO w') s'.mem ∧ Up w (noO w') := fun r u =>
    ⟨r.clean, ⟨u.adr, u.new, u.im, u.fz, fun a h => h.elim, u.keep, u.dom⟩⟩
  cases ho : fn.body F { env := startEnv as N.length, mem := m } with
  | st => rw [ho] at q; exact q.elim
  | ex x s' =>
    rw [ho] at q
    intro w' σ' cls d r u hx
    obtain ⟨c', u'⟩ := cl r u
    obtain ⟨g1, dd, fv, g2, g3, g4⟩ := hx
    exact q (noO w') cls d c' u' ⟨g1, dd, fv, g2, g3, FldR.ext ext_noO g4⟩
  | ok fl s' =>
    rw [ho] at q
    cases fl with
    | bk => exact q.elim
    | ct => exact q.elim
    | nx =>
      intro w' σ' r u
      obtain ⟨c', u'⟩ := cl r u
      exact q (noO w') .non c' u' .non
    | rt rr =>
      intro w' σ' v r u hr hf
      obtain ⟨c', u'⟩ := cl r u
      cases rr with
      | d x => exact q (noO w') v c' u' (Rep.ext ext_noO hr)
      | fr l =>
        obtain ⟨p, us, e, h1, h2, h3, h4, h5⟩ := hr
        exact q (noO w') v c' u' ⟨p, us, e, hf p e, h1, Reps.ext ext_noO h2, h3, h4⟩
      | slt i =>
        have hs := r.sl i
        have q : FoR K CA w Q E (match s'.env[i]? with
          | some (.own l) => Fo.ok (.fr l) s'.mem
          | _ => .st) := q
        cases he : s'.env[i]? with
        | none => rw [he] at q; exact q.elim
        | some b =>
          rw [he] at q hs
          cases b with
          | own l =>
            obtain ⟨p, us, e, h1, h2, h3⟩ := hs
            obtain ⟨k1, k2, k3⟩ := r.oI p h3
            have ev : v = .ref p := by rw [show σ'[i]? = some (some v) from hr] at e; injection e with e; injection e
            exact q (noO w') v c' u' ⟨p, us, ev, k3, h1, Reps.ext ext_noO h2, k1, k2⟩
          | _ => exact q.elim
end
end Pm

set_option Elab.async false
set_option linter.all false
set_option maxRecDepth 100000
set_option maxHeartbeats 4000000
/-! PmI: the operators and built-ins by values. -/
namespace Pm
open PySem L2
/-! ### what they give -/
def catL (a b : Option (List D)) : Option R := match a, b with
  | some x, some y => if x.length + y.length ≤ LIM then some (.fr (x ++ y)) else none
  | _, _ => none
def opAdd (s : S) (x y : R) : Option R := match x with
  | .d (.int i) => (match y with
    | .d (.int j) => some (.d (.int (i + j)))
    | _ => none)
  | .d (.str a) => (match y with
    | .d (.str b) => if a.length + b.length ≤ LIM then some (.d (.str (a ++ b))) else none
    | _ => none)
  | .d (.tup a) => (match y with
    | .d (.tup b) => if a.length + b.length ≤ LIM then some (.d (.tup (a ++ b))) else none
    | _ => none)
  | x => catL (s.lv x) (s.lv y)
def opI (f : Int → Int → Option D) (x y : R) : Option R := match x, y with
  | .d (.int i), .d (.int j) => (f i j).map .d
  | _, _ => none
def opSub (_ : S) : R → R → Option R := opI fun i j => some (.int (i - j))
def opMod (_ : S) : R → R → Option R := opI fun i j => if 0 < j then some (.int (i % j)) else none
def opFdiv (_ : S) : R → R → Option R := opI fun i j => if 0 < j ∧ j < 1073741824 then some (.int (i / j)) else none
def opPow (_ : S) : R → R → Option R := opI fun i j => if 0 ≤ j ∧ j ≤ 1000 ∧ i.natAbs < 1000000 then some (.int (i ^ j.toNat)) else none
def smallI (i : Int) : Bool := decide (-(2 ^ 64) < i) && decide (i < 2 ^ 64)
def wideI (i : Int) : Bool := decide (i.natAbs < 2 ^ 1000)
def opMul (s : S) (x y : R) : Option R := match x with
  | .d (.int i) => (match y with
    | .d (.int j) => if (smallI i || (smallI j || (wideI i && wideI j))) = true then some (.d (.int (i * j))) else none
    | _ => none)
  | x => (match s.lv x, y with
    | some l, .d (.int k) => if l.length * k.toNat ≤ LIM ∧ -1000000 ≤ k ∧ k ≤ 1000000 then some (.fr (List.replicate k.toNat l).flatten) else none
    | _, _ => none)
def opLt (_ : S) : R → R → Option R := opI fun i j => some (.bl (decide (i < j)))
def opLe (_ : S) : R → R → Option R := opI fun i j => some (.bl (decide (i ≤ j)))
def opGt (_ : S) : R → R → Option R := opI fun i j => some (.bl (decide (j < i)))
def opGe (_ : S) : R → R → Option R := opI fun i j => some (.bl (decide (j ≤ i)))
def opNeg (_ : S) (x : R) : Option R := match x with
  | .d (.int i) => some (.d (.int (-i)))
  | _ => none
/-- == of plain values -/
def eqS : D → D → Option Bool
  | .int i, .int j => some (decide (i = j))
  | .str a, .str b => some (decide (a = b))
  | .bl a, .bl b => some (decide (a = b))
  | .non, .non => some true
  | .non, .int _ => some false
  | .int _, .non => some false
  | .non, .bl _ => some false
  | .bl _, .non => some false
  | .non, .str _ => some false
  | .str _, .non => some false
  | .int _, .str _ => some false
  | .str _, .int _ => some false
  | .bl _, .str _ => some false
  | .str _, .bl _ => some false
  | _, _ => none
mutual
def py : D → Option PyData
  | .non => some .none
  | .bl b => some (.bool b)
  | .int i => some (.int i)
  | .str x => some (.str x)
  | .lst l => (pys l).map .list
  | .tup l => (pys l).map .tuple
  | .hnd _ => none
  | .ty _ => none
def pys : List D → Option (List PyData)
  | [] => some []
  | d :: l => (match py d, pys l with
    | some a, some b => some (a :: b)
    | _, _ => none)
end
def eqN (a b : D) : Option Bool := match py a, py b with
  | some x, some y => if SeqAt.shaped x = true ∧ SeqAt.shaped y = true then some (PyData.eqv x y) else none
  | _, _ => none
def eqD (a b : D) : Option Bool := match eqS a b with
  | some r => some r
  | none => eqN a b
def S.dat (s : S) (r : R) : Option D := match r with
  | .d x => some x
  | r => (s.lv r).map .lst
def opEq (s : S) (x y : R) : Option R := match s.dat x, s.dat y with
  | some a, some b => (eqD a b).map fun r => .d (.bl r)
  | _, _ => none
def opNe (s : S) (x y : R) : Option R := match s.dat x, s.dat y with
  | some a, some b => (eqD a b).map fun r => .d (.bl (!r))
  | _, _ => none
def isNonD : D → Bool
  | .non => true
  | _ => false
def isNon (s : S) (x : R) : Option Bool := match x with
  | .d a => some (isNonD a)
  | r => (s.lr r).map fun _ => false
def opIs (s : S) (x y : R) : Option R := match y with
  | .d .non => (isNon s x).map fun b => .d (.bl b)
  | _ => none
def opIsnt (s : S) (x y : R) : Option R := match y with
  | .d .non => (isNon s x).map fun b => .d (.bl (!b))
  | _ => none
def flatD : D → Bool
  | .non => true
  | .bl _ => true
  | .int _ => true
  | .str _ => true
  | _ => false
def fV : D → V
  | .non => .non
  | .bl b => .bl b
  | .int i => .int i
  | .str x => .str x
  | _ => .non
def inD (x : D) (l : List D) : Bool := l.any fun y => eqV (fV y) (fV x)
def seqR (s : S) (r : R) : Option (List D) := match r with
  | .d (.tup l) => some l
  | r => s.lr r
def opIn (s : S) (x y : R) : Option R := match x, seqR s y with
  | .d a, some l => if flatD a = true ∧ l.all flatD = true then some (.d (.bl (inD a l))) else none
  | _, _ => none
def opNin (s : S) (x y : R) : Option R := match x, seqR s y with
  | .d a, some l => if flatD a = true ∧ l.all flatD = true then some (.d (.bl (!inD a l))) else none
  | _, _ => none
def atD (l : List D) (i : Int) : Option D := (ixN l.length i).bind fun j => l[j]?
/-- a list, a tuple, an object of the store -/
def S.seqX (s : S) (r : R) : Option (List D) := match r with
  | .d (.tup l) => some l
  | .d (.hnd k) => s.mem[k]?
  | r => s.lr r
def opIx (s : S) (x y : R) : Option R := match s.seqX x, y with
  | some l, .d (.int i) => (atD l i).map .d
  | _, _ => none
/-! ### they are right -/
section
variable {X : Cx} {K : PySem.W.Frag}
theorem Bop.or {r r' : R2} {f : S → R → R → Option R} (h : ∀ (w0 w : Wd) (s : S) (σ : L2.St) (x y : V) (rx ry rz : R) (Q : VK), Rel K w0 w s σ → RelR K w σ x rx → RelR K w σ y ry → f s rx ry = some rz →
  (∀ w' v, Rel K w0 w' s σ → Up w w' → RelR K w' σ v rz → Frh w v rz → Q v w'.H) → r x y w.H Q ∨ r' x y w.H Q) : Bop K (fun x y H Q => r x y H Q ∨ r' x y H Q) f := h
theorem bop_I {f : Int → Int → Option D} {C : Int → Int → Prop} {g : Int → Int → V} (h : ∀ i j d, f i j = some d → C i j ∧ ∀ w, Rep K w (g i j) d) : Bop K (rI C g) (fun _ => opI f) := by
  intro w0 w s σ x y rx ry rz Q r hx hy e k
  cases rx with
  | d a => cases a with
    | int i => cases ry with
      | d b => cases b with
        | int j =>
          have e : (f i j).map R.d = some rz := e
          cases hf : f i j with
          | none => rw [hf] at e; cases e
          | some d =>
            rw [hf] at e
            injection e with e
            subst e
            cases hx
            cases hy
            exact ⟨i, j, rfl, rfl, (h i j d hf).1, k w _ r (Up.refl w) ((h i j d hf).2 w) trivial⟩
        | _ => cases e
      | _ => cases e
    | _ => cases e
  | _ => cases e
theorem bop_I0 {f : Int → Int → Option D} {g : Int → Int → V} (h : ∀ i j d, f i j = some d → ∀ w, Rep K w (g i j) d) : Bop K (rI0 g) (fun _ => opI f) := by
  intro w0 w s σ x y rx ry rz Q r hx hy e k
  obtain ⟨i, j, e1, e2, _, q⟩ := bop_I (K := K) (C := fun _ _ => True) (g := g) (fun i j d e => ⟨trivial, h i j d e⟩) w0 w s σ x y rx ry rz Q r hx hy e k
  exact ⟨i, j, e1, e2, q⟩
theorem bop_sub : Bop K (rI0 fun i j => .int (i - j)) opSub := bop_I0 fun i j d e w => by injection e with e; subst e; exact .int _
theorem bop_mod : Bop K (rI (fun _ j => 0 < j) fun i j => .int (i % j)) opMod := bop_I fun i j d e => by
  by_cases h : 0 < j
  · rw [if_pos h] at e; injection e with e; subst e; exact ⟨h, fun w => .int _⟩
  · rw [if_neg h] at e; cases e
theorem bop_fdiv : Bop K (rI CDiv fun i j => .int (i / j)) opFdiv := bop_I fun i j d e => by
  by_cases h : 0 < j ∧ j < 1073741824
  · rw [if_pos h] at e; injection e with e; subst e; exact ⟨h, fun w => .int _⟩
  · rw [if_neg h] at e; cases e
theorem bop_pow : Bop K (rI CPow fun i j => .int (i ^ j.toNat)) opPow := bop_I fun i j d e => by
  by_cases h : 0 ≤ j ∧ j ≤ 1000 ∧ i.natAbs < 1000000
  · rw [if_pos h] at e; injection e with e; subst e; exact ⟨⟨h.1, by omega, by omega⟩, fun w => .int _⟩
  · rw [if_neg h] at e; cases e
theorem bop_lt : Bop K (rI0 fun i j => .bl (decide (i < j))) opLt := bop_I0 fun i j d e w => by injection e with e; subst e; exact .bl _
theorem bop_le : Bop K (rI0 fun i j => .bl (decide (i ≤ j))) opLe := bop_I0 fun i j d e w => by injection e with e; subst e; exact .bl _
theorem bop_gt : Bop K (rI0 fun i j => .bl (decide (j < i))) opGt := bop_I0 fun i j d e w => by injection e with e; subst e; exact .bl _
theorem bop_ge : Bop K (rI0 fun i j => .bl (decide (j ≤ i))) opGe := bop_I0 fun i j d e w => by injection e with e; subst e; exact .bl _
theorem uop_neg : Uop K (rU fun i => .int (-i)) opNeg := by
  intro w0 w s σ x rx rz Q r hx e k
  cases rx with
  | d a => cases a with
    | int i =>
      injection e with e
      subst e
      cases hx
      exact ⟨i, rfl, k w _ r (Up.refl w) (.int _) trivial⟩
    | _ => cases e
  | _ => cases e
/-- + -/
def rAddS : R2 := fun x y H Q => ∃ i j, x = .str i ∧ y = .str j ∧ i.length + j.length ≤ sizeLine ∧ Q (.str (i ++ j)) H
def rAdd (K : PySem.W.Frag) : R2 := fun x y H Q => rI0 (fun i j => .int (i + j)) x y H Q ∨ (Pm.rAddS x y H Q ∨ (rCatA K x y H Q ∨ rCat x y H Q))
theorem op_addX : OpR X (binaryOp .Add) (Pm.rAdd X.K) := OpR.or op_add (OpR.or op_add_str (OpR.or op_catA op_cat))
theorem Rel.catL {w0 w : Wd} {s : S} {σ : L2.St} {x y : V} {rx ry rz : R} {Q : VK} (r : Rel K w0 w s σ) (hx : RelR K w σ x rx) (hy : RelR K w σ y ry) (e : Pm.catL (s.lv rx) (s.lv ry) = some rz)
    (k : ∀ w' v, Rel K w0 w' s σ → Up w w' → RelR K w' σ v rz → Frh w v rz → Q v w'.H) : rCat x y w.H Q := by
  cases h1 : s.lv rx with
  | none => rw [h1] at e; cases e
  | some a =>
    cases h2 : s.lv ry with
    | none => rw [h1, h2] at e; cases e
    | some b =>
      rw [h1, h2] at e
      have e : (if a.length + b.length ≤ LIM then some (R.fr (a ++ b)) else none) = some rz := e
      by_cases hl : a.length + b.length ≤ LIM
      case neg => rw [if_neg hl] at e; cases e
      rw [if_pos hl] at e
      injection e with e
      subst e
      obtain ⟨p, vs, e1, g1, g2⟩ := r.lv hx h1
      obtain ⟨q, us, e2, k1, k2⟩ := r.lv hy h2
      refine ⟨p, q, vs, us, e1, e2, g1, k1, LIM_sz (by rw [g2.length, k2.length]; exact hl), fun l hl => ?_⟩
      obtain ⟨w2, e3, r3, u3, h3, f3⟩ := r.newL hl (g2.append k2)
      rw [← e3]
      exact k w2 _ r3 u3 h3 f3
theorem bop_add : Bop K (Pm.rAdd K) opAdd := by
  intro w0 w s σ x y rx ry rz Q r hx hy e k
  cases rx with
  | fr l => exact .inr (.inr (.inr (r.catL hx hy e k)))
  | slt i => exact .inr (.inr (.inr (r.catL hx hy e k)))
  | d a => cases a with
    | int i => cases ry with
      | d b => cases b with
        | int j =>
          injection e with e
          subst e
          cases hx
          cases hy
          exact .inl ⟨i, j, rfl, rfl, k w _ r (Up.refl w) (.int _) trivial⟩
        | _ => cases e
      | _ => cases e
    | str i => cases ry with
      | d b => cases b with
        | str j =>
          have e : (if i.length + j.length ≤ LIM then some (R.d (.str (i ++ j))) else none) = some rz := e
          by_cases hl : i.length + j.length ≤ LIM
          case neg => rw [if_neg hl] at e; cases e
          rw [if_pos hl] at e
          injection e with e
          subst e
          cases hx
          cases hy
          exact .inr (.inl ⟨i, j, rfl, rfl, LIM_sz hl, k w _ r (Up.refl w) (.str _) trivial⟩)
        | _ => cases e
      | _ => cases e
    | tup i => cases ry with
      | d b => cases b with
        | tup j =>
          have e : (if i.length + j.length ≤ LIM then some (R.d (.tup (i ++ j))) else none) = some rz := e
          by_cases hl : i.length + j.length ≤ LIM
          case neg => rw [if_neg hl] at e; cases e
          rw [if_pos hl] at e
          injection e with e
          subst e
          obtain ⟨p, vs, e1, g1, g2⟩ := Rep.tupAt hx
          obtain ⟨q, us, e2, k1, k2⟩ := Rep.tupAt hy
          refine .inr (.inr (.inl ⟨p, q, vs, us, e1, e2, g1, k1, LIM_sz (by rw [g2.length, k2.length]; exact hl), fun z => ?_, fun _ z => ?_, fun _ _ l hl => ?_⟩))
          · have : i = [] := by
              have := g2.length
              rw [z] at this
              exact List.eq_nil_of_length_eq_zero this.symm
            subst this
            rw [← e2]
            exact k w y r (Up.refl w) hy trivial
          · have : j = [] := by
              have := k2.length
              rw [z] at this
              exact List.eq_nil_of_length_eq_zero this.symm
            subst this
            rw [← e1]
            rw [List.append_nil] at k
            exact k w x r (Up.refl w) hx trivial
          · obtain ⟨w2, e3, r3, u3, h3⟩ := r.newT hl (g2.append k2)
            rw [← e3]
            exact k w2 _ r3 u3 h3 trivial
        | _ => cases e
      | _ => cases e
    | lst l => exact .inr (.inr (.inr (r.catL hx hy e k)))
    | _ => cases e
/-- * -/
def rMul : R2 := fun x y H Q => rI CMul (fun i j => .int (i * j)) x y H Q ∨ (rI CMulW (fun i j => .int (i * j)) x y H Q ∨ rRep x y H Q)
theorem op_mulX : OpR X (binaryOp .Mult) rMul := OpR.or op_mul (OpR.or op_mulW op_rep)
theorem smallI_ok {i : Int} (h : smallI i = true) : -(2 ^ 64) < i ∧ i < 2 ^ 64 := by
  unfold smallI at h
  obtain ⟨h1, h2⟩ := Bool.and_eq_true_iff.mp h
  exact ⟨of_decide_eq_true h1, of_decide_eq_true h2⟩
theorem Reps.rep {w : Wd} {vs : List V} {l : List D} (h : Reps K w vs l) : ∀ n : Nat, Reps K w (List.replicate n vs).flatten (List.replicate n l).flatten
  | 0 => .nil
  | n + 1 => by
    rw [List.replicate_succ, List.replicate_succ, List.flatten_cons, List.flatten_cons]
    exact h.append (Reps.rep h n)
theorem bop_mul : Bop K rMul opMul := by
  have lists : ∀ (w0 w : Wd) (s : S) (σ : L2.St) (x y : V) (rx ry rz : R) (Q : VK), Rel K w0 w s σ → RelR K w σ x rx → RelR K w σ y ry → (match s.lv rx, ry with
    | some l, .d (.int k) => if l.length * k.toNat ≤ LIM ∧ -1000000 ≤ k ∧ k ≤ 1000000 then some (R.fr (List.replicate k.toNat l).flatten) else none
    | _, _ => none) = some rz → (∀ w' v, Rel K w0 w' s σ → Up w w' → RelR K w' σ v rz → Frh w v rz → Q v w'.H) → rRep x y w.H Q := by
    intro w0 w s σ x y rx ry rz Q r hx hy e k
    cases h1 : s.lv rx with
    | none => rw [h1] at e; cases e
    | some l =>
      rw [h1] at e
      cases ry with
      | d b => cases b with
        | int n =>
          dsimp only at e
          by_cases hl : l.length * n.toNat ≤ LIM ∧ -1000000 ≤ n ∧ n ≤ 1000000
          case neg => rw [if_neg hl] at e; cases e
          rw [if_pos hl] at e
          injection e with e
          subst e
          cases hy
          obtain ⟨p, vs, e1, g1, g2⟩ := r.lv hx h1
          refine ⟨p, n, vs, e1, rfl, g1, by omega, by omega, LIM_sz (by rw [g2.length]; exact hl.1), fun q hq => ?_⟩
          obtain ⟨w2, e3, r3, u3, h3, f3⟩ := r.newL hq (g2.rep n.toNat)
          rw [← e3]
          exact k w2 _ r3 u3 h3 f3
        | _ => cases e
      | _ => cases e
  intro w0 w s σ x y rx ry rz Q r hx hy e k
  cases rx with
  | fr l => exact .inr (.inr (lists w0 w s σ x y _ ry rz Q r hx hy e k))
  | slt i => exact .inr (.inr (lists w0 w s σ x y _ ry rz Q r hx hy e k))
  | d a => cases a with
    | lst l => exact .inr (.inr (lists w0 w s σ x y _ ry rz Q r hx hy e k))
    | int i => cases ry with
      | d b => cases b with
        | int j =>
          have e : (if (smallI i || (smallI j || (wideI i && wideI j))) = true then some (R.d (.int (i * j))) else none) = some rz := e
          by_cases hc : (smallI i || (smallI j || (wideI i && wideI j))) = true
          case neg => rw [if_neg hc] at e; cases e
          rw [if_pos hc] at e
          injection e with e
          subst e
          cases hx
          cases hy
          have q := k w _ r (Up.refl w) (.int (i * j)) trivial
          rcases Bool.or_eq_true_iff.mp hc with h | h
          · exact .inl ⟨i, j, rfl, rfl, .inl (smallI_ok h), q⟩
          · rcases Bool.or_eq_true_iff.mp h with h | h
            · exact .inl ⟨i, j, rfl, rfl, .inr (smallI_ok h), q⟩
            · obtain ⟨h1, h2⟩ := Bool.and_eq_true_iff.mp h
              exact .inr (.inl ⟨i, j, rfl, rfl, wide_mul (of_decide_eq_true h1) (of_decide_eq_true h2) (by decide) (by decide) (by decide), q⟩)
        | _ => cases e
      | _ => cases e
    | _ => cases e
/-- == and != -/
def rEqX (K : PySem.W.Frag) : R2 := fun x y H Q => rEq x y H Q ∨ rEqD K x y H Q
def rNeX (K : PySem.W.Frag) : R2 := fun x y H Q => rNe x y H Q ∨ rNeD K x y H Q
theorem op_eqX (hu : X.A.units + 64 < cLine) : OpR X (compareOp .Eq) (rEqX X.K) := OpR.or op_eq (op_eqD hu)
theorem op_neX (hu : X.A.units + 64 < cLine) : OpR X (compareOp .NotEq) (rNeX X.K) := OpR.or op_ne (op_neD hu)
mutual
theorem Rep.dp {w : Wd} : ∀ {v : V} {d : D} {z : PyData}, Rep K w v d → py d = some z → Dp K w.H v z
  | _, _, _, .non, e => by injection e with e; subst e; exact .non
  | _, _, _, .bl b, e => by injection e with e; subst e; exact .bl b
  | _, _, _, .int i, e => by injection e with e; subst e; exact .int i
  | _, _, _, .str x, e => by injection e with e; subst e; exact .str x
  | _, _, _, .ty x, e => by cases e
  | _, _, _, .hnd _, e => by cases e
  | _, _, z, .lst (l := l) _ h r, e => by
    have e : (pys l).map PyData.list = some z := e
    cases q : pys l with
    | none => rw [q] at e; cases e
    | some zs => rw [q] at e; injection e with e; subst e; exact .lst (SqL.of h) (Reps.dp r q)
  | _, _, z, .tup (l := l) _ h r, e => by
    have e : (pys l).map PyData.tuple = some z := e
    cases q : pys l with
    | none => rw [q] at e; cases e
    | some zs => rw [q] at e; injection e with e; subst e; exact .tup (SqT.of h) (Reps.dp r q)
  | _, _, z, .tupK (l := l) h r, e => by
    have e : (pys l).map PyData.tuple = some z := e
    cases q : pys l with
    | none => rw [q] at e; cases e
    | some zs => rw [q] at e; injection e with e; subst e; exact .tup (.inr h) (Reps.dp r q)
theorem Reps.dp {w : Wd} : ∀ {vs : List V} {l : List D} {zs : List PyData}, Reps K w vs l → pys l = some zs → DpAll K w.H vs zs
  | _, _, _, .nil, e => by injection e with e; subst e; exact .nil
  | _, _, zs, .cons (d := d) (l := l) h r, e => by
    unfold pys at e
    cases q1 : py d with
    | none => rw [q1] at e; cases e
    | some a =>
      cases q2 : pys l with
      | none => rw [q1, q2] at e; cases e
      | some b => rw [q1, q2] at e; injection e with e; subst e; exact .cons (Rep.dp h q1) (Reps.dp r q2)
end
theorem Rel.dp {w0 w : Wd} {s : S} {σ : L2.St} {x : V} {rx : R} {a : D} {z : PyData} (r : Rel K w0 w s σ) (hx : RelR K w σ x rx) (e : s.dat rx = some a) (hz : py a = some z) : Dp K w.H x z := by
  have lists : ∀ {rx : R} {a : D}, RelR K w σ x rx → (s.lv rx).map D.lst = some a → py a = some z → Dp K w.H x z := fun {rx a} hx e hz => by
    cases q : s.lv rx with
    | none => rw [q] at e; cases e
    | some l =>
      rw [q] at e
      injection e with e
      subst e
      obtain ⟨p, vs, e1, g1, g2⟩ := r.lv hx q
      rw [e1]
      have hz : (pys l).map PyData.list = some z := hz
      cases q2 : pys l with
      | none => rw [q2] at hz; cases hz
      | some zs => rw [q2] at hz; injection hz with hz; subst hz; exact .lst (SqL.of g1) (Reps.dp g2 q2)
  cases rx with
  | d b => injection e with e; subst e; exact Rep.dp hx hz
  | fr l => exact lists hx e hz
  | slt i => exact lists hx e hz
theorem eqS_ok {w0 w : Wd} {s : S} {σ : L2.St} {x y : V} {rx ry : R} {a b : D} {c : Bool} (r : Rel K w0 w s σ) (hx : RelR K w σ x rx) (hy : RelR K w σ y ry) (e1 : s.dat rx = some a) (e2 : s.dat ry = some b) (e : eqS a b = some c) : scal x y = true ∧ decide (x = y) = c := by
  have plain : ∀ {v : V} {rr : R} {d : D}, RelR K w σ v rr → s.dat rr = some d → flatD d = true → v = fV d := fun {v rr d} h e f => by
    have li : ∀ {rr : R}, (s.lv rr).map D.lst = some d → False := fun {rr} e => by
      cases q : s.lv rr with
      | none => rw [q] at e; cases e
      | some l => rw [q] at e; injection e with e; subst e; cases f
    cases rr with
    | fr l => exact (li (rr := .fr l) e).elim
    | slt i => exact (li (rr := .slt i) e).elim
    | d x =>
      injection e with e
      subst e
      cases h with
      | non => rfl
      | bl b => rfl
      | int i => rfl
      | str x => rfl
      | _ => cases f
  have fl : flatD a = true ∧ flatD b = true := by
    cases a <;> cases b <;> first | exact ⟨rfl, rfl⟩ | cases e
  rw [plain hx e1 fl.1, plain hy e2 fl.2]
  cases a <;> cases b <;> cases e <;> (refine ⟨rfl, ?_⟩; simp [fV])
theorem eqN_ok {w0 w : Wd} {s : S} {σ : L2.St} {x y : V} {rx ry : R} {a b : D} {c : Bool} (r : Rel K w0 w s σ) (hx : RelR K w σ x rx) (hy : RelR K w σ y ry) (e1 : s.dat rx = some a) (e2 : s.dat ry = some b) (e : eqN a b = some c) :
    ∃ d z, Dp K w.H x d ∧ Dp K w.H y z ∧ SeqAt.shaped d = true ∧ SeqAt.shaped z = true ∧ PyData.eqv d z = c := by
  unfold eqN at e
  cases h1 : py a with
  | none => rw [h1] at e; cases e
  | some d =>
    cases h2 : py b with
    | none => rw [h1, h2] at e; cases e
    | some z =>
      rw [h1, h2] at e
      dsimp only at e
      by_cases hs : SeqAt.shaped d = true ∧ SeqAt.shaped z = true
      case neg => rw [if_neg hs] at e; cases e
      rw [if_pos hs] at e
      injection e with e
      exact ⟨d, z, r.dp hx e1 h1, r.dp hy e2 h2, hs.1, hs.2, e⟩
theorem bop_eq : Bop K (rEqX K) opEq := by
  intro w0 w s σ x y rx ry rz Q r hx hy e k
  unfold opEq at e
  cases h1 : s.dat rx with
  | none => rw [h1] at e; cases e
  | some a =>
    cases h2 : s.dat ry with
    | none => rw [h1, h2] at e; cases e
    | some b =>
      rw [h1, h2] at e
      dsimp only at e
      unfold eqD at e
      cases h3 : eqS a b with
      | some c =>
        rw [h3] at e
        injection e with e
        subst e
        obtain ⟨g1, g2⟩ := eqS_ok r hx hy h1 h2 h3
        exact .inl ⟨g1, by rw [g2]; exact k w _ r (Up.refl w) (.bl c) trivial⟩
      | none =>
        rw [h3] at e
        dsimp only at e
        cases h4 : eqN a b with
        | none => rw [h4] at e; cases e
        | some c =>
          rw [h4] at e
          injection e with e
          subst e
          obtain ⟨d, z, g1, g2, g3, g4, g5⟩ := eqN_ok r hx hy h1 h2 h4
          exact .inr ⟨d, z, g1, g2, g3, g4, by rw [g5]; exact k w _ r (Up.refl w) (.bl c) trivial⟩
theorem bop_ne : Bop K (rNeX K) opNe := by
  intro w0 w s σ x y rx ry rz Q r hx hy e k
  unfold opNe at e
  cases h1 : s.dat rx with
  | none => rw [h1] at e; cases e
  | some a =>
    cases h2 : s.dat ry with
    | none => rw [h1, h2] at e; cases e
    | some b =>
      rw [h1, h2] at e
      dsimp only at e
      unfold eqD at e
      cases h3 : eqS a b with
      | some c =>
        rw [h3] at e
        injection e with e
        subst e
        obtain ⟨g1, g2⟩ := eqS_ok r hx hy h1 h2 h3
        exact .inl ⟨g1, by rw [g2]; exact k w _ r (Up.refl w) (.bl (!c)) trivial⟩
      | none =>
        rw [h3] at e
        dsimp only at e
        cases h4 : eqN a b with
        | none => rw [h4] at e; cases e
        | some c =>
          rw [h4] at e
          injection e with e
          subst e
          obtain ⟨d, z, g1, g2, g3, g4, g5⟩ := eqN_ok r hx hy h1 h2 h4
          exact .inr ⟨d, z, g1, g2, g3, g4, by rw [g5]; exact k w _ r (Up.refl w) (.bl (!c)) trivial⟩
/-- is None -/
theorem isNon_ok {w0 w : Wd} {s : S} {σ : L2.St} {x : V} {rx : R} {b : Bool} (r : Rel K w0 w s σ) (hx : RelR K w σ x rx) (e : isNon s rx = some b) : decide (x = .non) = b := by
  cases rx with
  | d a =>
    injection e with e
    subst e
    cases hx <;> rfl
  | fr l =>
    obtain ⟨p, _, e2, _⟩ := hx
    injection e with e
    rw [e2, ← e]
    rfl
  | slt i =>
    have e : (s.lr (.slt i)).map (fun _ => false) = some b := e
    cases q : s.lr (.slt i) with
    | none => rw [q] at e; cases e
    | some l =>
      rw [q] at e
      injection e with e
      obtain ⟨p, vs, e2, _⟩ := r.lr hx q
      rw [e2, ← e]
      rfl
theorem bop_is : Bop K (fun x y H Q => y = .non ∧ Q (.bl (decide (x = .non))) H) opIs := by
  intro w0 w s σ x y rx ry rz Q r hx hy e k
  cases ry with
  | d b => cases b with
    | non =>
      have e : (isNon s rx).map (fun b => R.d (.bl b)) = some rz := e
      cases q : isNon s rx with
      | none => rw [q] at e; cases e
      | some b =>
        rw [q] at e
        injection e with e
        subst e
        cases hy
        exact ⟨rfl, by rw [isNon_ok r hx q]; exact k w _ r (Up.refl w) (.bl b) trivial⟩
    | _ => cases e
  | _ => cases e
theorem bop_isnt : Bop K (fun x y H Q => y = .non ∧ Q (.bl (!decide (x = .non))) H) opIsnt := by
  intro w0 w s σ x y rx ry rz Q r hx hy e k
  cases ry with
  | d b => cases b with
    | non =>
      have e : (isNon s rx).map (fun b => R.d (.bl (!b))) = some rz := e
      cases q : isNon s rx with
      | none => rw [q] at e; cases e
      | some b =>
        rw [q] at e
        injection e with e
        subst e
        cases hy
        exact ⟨rfl, by rw [isNon_ok r hx q]; exact k w _ r (Up.refl w) (.bl (!b)) trivial⟩
    | _ => cases e
  | _ => cases e
/-- in, not in -/
theorem Rel.seqR {w0 w : Wd} {s : S} {σ : L2.St} {v : V} {rr : R} {l : List D} (r : Rel K w0 w s σ) (h : RelR K w σ v rr) (e : Pm.seqR s rr = some l) : ∃ p vs, v = .ref p ∧ (SqL K w.H p vs ∨ SqT K w.H p vs) ∧ Reps K w vs l := by
  have li : ∀ {rr : R}, RelR K w σ v rr → s.lr rr = some l → ∃ p vs, v = .ref p ∧ (SqL K w.H p vs ∨ SqT K w.H p vs) ∧ Reps K w vs l := fun h e => by
    obtain ⟨p, vs, e1, g1, g2⟩ := r.lr h e
    exact ⟨p, vs, e1, .inl g1, g2⟩
  cases rr with
  | fr m => exact li h e
  | slt i => exact li h e
  | d a => cases a with
    | tup m =>
      injection e with e
      subst e
      obtain ⟨p, vs, e1, g1, g2⟩ := Rep.tupAt h
      exact ⟨p, vs, e1, .inr g1, g2⟩
    | _ => exact li h e
theorem flat_V {w : Wd} {v : V} {d : D} (h : Rep K w v d) (f : flatD d = true) : v = fV d ∧ flatV v = true := by
  cases h with
  | non => exact ⟨rfl, rfl⟩
  | bl b => exact ⟨rfl, rfl⟩
  | int i => exact ⟨rfl, rfl⟩
  | str x => exact ⟨rfl, rfl⟩
  | _ => cases f
theorem flat_Vs {w : Wd} : ∀ {vs : List V} {l : List D}, Reps K w vs l → l.all flatD = true → vs.all flatV = true ∧ ∀ x : V, inV x vs = l.any fun y => eqV (fV y) x
  | _, _, .nil, _ => ⟨rfl, fun _ => rfl⟩
  | _, _, .cons (v := v) (d := d) (vs := vs) (l := l) h r, f => by
    rw [List.all_cons] at f
    obtain ⟨f1, f2⟩ := Bool.and_eq_true_iff.mp f
    obtain ⟨g1, g2⟩ := flat_Vs r f2
    obtain ⟨k1, k2⟩ := flat_V h f1
    refine ⟨by rw [List.all_cons, k2, g1]; rfl, fun x => ?_⟩
    unfold inV at g2 ⊢
    rw [List.any_cons, List.any_cons, g2 x, k1]
theorem bop_in : Bop K (rIn K false) opIn := by
  intro w0 w s σ x y rx ry rz Q r hx hy e k
  cases rx with
  | d a =>
    unfold opIn at e
    cases q : Pm.seqR s ry with
    | none => rw [q] at e; cases e
    | some l =>
      rw [q] at e
      dsimp only at e
      by_cases hf : flatD a = true ∧ l.all flatD = true
      case neg => rw [if_neg hf] at e; cases e
      rw [if_pos hf] at e
      injection e with e
      subst e
      obtain ⟨p, vs, e1, g1, g2⟩ := r.seqR hy q
      obtain ⟨k1, k2⟩ := flat_Vs g2 hf.2
      obtain ⟨m1, m2⟩ := flat_V hx hf.1
      refine ⟨p, vs, e1, g1, m2, k1, ?_⟩
      show Q (.bl (inV x vs)) w.H
      rw [k2 x, m1]
      exact k w _ r (Up.refl w) (.bl _) trivial
  | _ => cases e
theorem bop_nin : Bop K (rIn K true) opNin := by
  intro w0 w s σ x y rx ry rz Q r hx hy e k
  cases rx with
  | d a =>
    unfold opNin at e
    cases q : Pm.seqR s ry with
    | none => rw [q] at e; cases e
    | some l =>
      rw [q] at e
      dsimp only at e
      by_cases hf : flatD a = true ∧ l.all flatD = true
      case neg => rw [if_neg hf] at e; cases e
      rw [if_pos hf] at e
      injection e with e
      subst e
      obtain ⟨p, vs, e1, g1, g2⟩ := r.seqR hy q
      obtain ⟨k1, k2⟩ := flat_Vs g2 hf.2
      obtain ⟨m1, m2⟩ := flat_V hx hf.1
      refine ⟨p, vs, e1, g1, m2, k1, ?_⟩
      show Q (.bl (!inV x vs)) w.H
      rw [k2 x, m1]
      exact k w _ r (Up.refl w) (.bl _) trivial
  | _ => cases e
/-- a subscript -/
theorem Rel.seqX {w0 w : Wd} {s : S} {σ : L2.St} {v : V} {rr : R} {l : List D} (r : Rel K w0 w s σ) (h : RelR K w σ v rr) (e : s.seqX rr = some l) : ∃ p vs, v = .ref p ∧ (SqL K w.H p vs ∨ SqT K w.H p vs) ∧ Reps K w vs l := by
  cases rr with
  | fr m => exact r.seqR h e
  | slt i => exact r.seqR h e
  | d a => cases a with
    | hnd k =>
      obtain ⟨p, ev, ha⟩ := Rep.hndAt h
      obtain ⟨vs, h2, h3⟩ := r.st.2 k p l ha e
      exact ⟨p, vs, ev, .inl (SqL.of h2), h3⟩
    | tup m => exact r.seqR h e
    | lst m => exact r.seqR h e
    | _ => cases e
theorem bop_ix : Bop K (fun x y H Q => rIxL K x y H Q ∨ rIxT K x y H Q) opIx := by
  intro w0 w s σ x y rx ry rz Q r hx hy e k
  unfold opIx at e
  cases q : s.seqX rx with
  | none => rw [q] at e; cases e
  | some l =>
    rw [q] at e
    cases ry with
    | d b => cases b with
      | int i =>
        have e : (atD l i).map R.d = some rz := e
        unfold atD at e
        cases hj : Pm.ixN l.length i with
        | none => rw [hj] at e; cases e
        | some j =>
          rw [hj] at e
          have e : (l[j]?).map R.d = some rz := e
          cases hd : l[j]? with
          | none => rw [hd] at e; cases e
          | some d =>
            rw [hd] at e
            injection e with e
            subst e
            cases hy
            obtain ⟨p, vs, e1, g1, g2⟩ := r.seqX hx q
            obtain ⟨z, hz, hr⟩ := g2.at hd
            have ha : atI vs i = some z := by
              unfold atI
              rw [ixN_eq, g2.length, hj]
              exact hz
            rcases g1 with g1 | g1
            · exact .inl ⟨p, vs, i, z, e1, rfl, g1, ha, k w z r (Up.refl w) hr trivial⟩
            · exact .inr ⟨p, vs, i, z, e1, rfl, g1, ha, k w z r (Up.refl w) hr trivial⟩
      | _ => cases e
    | _ => cases e
theorem ix_X : IxR X (fun x y H Q => rIxL X.K x y H Q ∨ rIxT X.K x y H Q) := ix_list.or ix_tup
/-! ### slices -/
/-- o[lo:hi] -/
def cutD (xs : List D) (lo hi : Option Int) : List D := (xs.drop (HT.sIx xs.length 0 lo)).take (HT.sIx xs.length xs.length hi - HT.sIx xs.length 0 lo)
def opSl (s : S) (x : R) (lo hi : Option Int) : Option R := match x with
  | .d (.tup l) => some (.d (.tup (cutD l lo hi)))
  | .d (.str z) => if z.length ≤ LIM then some (.d (.str (cutS z lo hi))) else none
  | r => (s.lr r).map fun l => .fr (cutD l lo hi)
abbrev Mo := S → Ou (Option Int)
def oNone : Mo := fun s => .ok none s
def oSome (a : Me) : Mo := fun s => (a s).bind fun r s1 => match r with
  | .d (.int i) => .ok (some i) s1
  | _ => .st
def mSl (a : Me) (lo hi : Mo) : Me := fun s => (a s).bind fun x s1 => (lo s1).bind fun l s2 => (hi s2).bind fun h s3 => ofR (opSl s3 x l h) s3
def rSlX (K : PySem.W.Frag) : V → Option Int → Option Int → Hp → VK → Prop := fun x lo hi H Q => rSlL K x lo hi H Q ∨ (rSlA K x lo hi H Q ∨ rSlS x lo hi H Q)
theorem sl_X : SlR X (rSlX X.K) := sl_list.or (sl_tupA.or sl_str)
def tO (K : PySem.W.Frag) (CA : Nat → Addr) (W : WX) (m : Mo) : TO := fun σ H Q => ∃ w0 w s, w.H = H ∧ Rel K w0 w s σ ∧
  Wp (m s) (fun o s' => ∀ w', Rel K w0 w' s' σ → Up w w' → Q o w'.H) (Fe K CA W w0 w σ)
theorem _root_.L2.PO.weak {X : Cx} {e : Option Expr} {t t' : TO} (h : PO X e t) (i : ∀ σ H Q, t' σ H Q → t σ H Q) : PO X e t' := ⟨fun pins s σ H Q I q => h.run pins s σ H Q I (i σ H Q q)⟩
variable {CA : Nat → Addr} {W : WX} {pos : Pos}
theorem d_oNone : PO X none (tO X.K CA W oNone) := po_none.weak fun σ H Q ⟨w0, w, s, eH, r, q⟩ => by
  subst eH
  exact q w r (Up.refl w)
theorem d_oSome {e : Expr} {m : Me} (h : PE X e (tI X.K CA W m)) : PO X (some e) (tO X.K CA W (oSome m)) := by
  refine (po_some h).weak fun σ H Q ⟨w0, w, s, eH, r, q⟩ => ⟨w0, w, s, eH, r, q.bind.imp (fun rr s1 _ q1 w1 v r1 u1 h1 f1 => ?_) fun x s1 q1 => q1⟩
  cases rr with
  | d a => cases a with
    | int i =>
      cases h1
      exact ⟨i, rfl, q1 w1 r1 u1⟩
    | _ => exact q1.elim
  | _ => exact q1.elim
theorem Reps.cut {w : Wd} {vs : List V} {l : List D} (h : Reps K w vs l) (lo hi : Option Int) : Reps K w (cutV vs lo hi) (cutD l lo hi) := by
  unfold cutV cutD
  rw [h.length]
  exact (h.drop _).take _
theorem cut_whole {l : List D} {lo hi : Option Int} (h : HT.sIx l.length 0 lo = 0 ∧ HT.sIx l.length l.length hi = l.length) : cutD l lo hi = l := by
  unfold cutD
  rw [h.1, h.2]
  simp
theorem d_slice {e : Expr} {lo hi : Option Expr} {p2 : Pos} {m : Me} {ml mh : Mo} (he : PE X e (tI X.K CA W m)) (hl : PO X lo (tO X.K CA W ml)) (hh : PO X hi (tO X.K CA W mh)) : PE X (.Subscript e (.Slice lo hi none p2) pos) (tI X.K CA W (mSl m ml mh)) := by
  refine (pe_slice sl_X he hl hh).weak fun σ H Q ⟨w0, w, s, eH, r, q⟩ => ?_
  refine ⟨w0, w, s, eH, r, q.bind.imp (fun rx s1 _ q1 w1 x r1 u1 h1 f1 => ⟨w0, w1, s1, rfl, r1, q1.bind.imp (fun ol s2 _ q2 w2 r2 u2 => ⟨w0, w2, s2, rfl, r2, q2.bind.imp (fun oh s3 _ q3 w3 r3 u3 => ?_) ?_⟩) ?_⟩) fun x s1 q1 => q1⟩
  · have hx := (h1.up r1 u2).up r2 u3
    unfold ofR at q3
    have u13 := (u1.trans u2).trans u3
    have li : ∀ {rr : R}, RelR X.K w3 σ x rr → Wp (match (s3.lr rr).map (fun l => R.fr (cutD l ol oh)) with
      | some r => Ou.ok r s3
      | none => .st) (fun r s' => ∀ w' v, Rel X.K w0 w' s' σ → Up w w' → RelR X.K w' σ v r → Frh w v r → Q v w'.H) (Fe X.K CA W w0 w σ) → rSlX X.K x ol oh w3.H Q := fun {rr} h q => by
      cases e1 : s3.lr rr with
      | none => rw [e1] at q; exact q.elim
      | some l =>
        rw [e1] at q
        obtain ⟨p, vs, ep, g1, g2⟩ := r3.lr h e1
        refine .inl ⟨p, vs, ep, g1, fun b hb => ?_⟩
        obtain ⟨w4, e4, r4, u4, h4, f4⟩ := r3.newL hb (g2.cut ol oh)
        rw [← e4]
        exact q w4 _ r4 (u13.trans u4) h4 (f4.of u13)
    cases rx with
    | fr l => exact li hx q3
    | slt i => exact li hx q3
    | d a => cases a with
      | lst l => exact li hx q3
      | tup l =>
        obtain ⟨p, vs, ep, g1, g2⟩ := Rep.tupAt hx
        refine .inr (.inl ⟨p, vs, ep, g1, fun z => ?_, fun _ b hb => ?_⟩)
        · rw [g2.length] at z
          have q3 : Wp (Ou.ok (R.d (.tup (cutD l ol oh))) s3) _ _ := q3
          rw [cut_whole z] at q3
          rw [← ep]
          exact q3 w3 x r3 u13 hx trivial
        · obtain ⟨w4, e4, r4, u4, h4⟩ := r3.newT hb (g2.cut ol oh)
          rw [← e4]
          exact q3 w4 _ r4 (u13.trans u4) h4 trivial
      | str z =>
        have q3 : Wp (match (if z.length ≤ LIM then some (R.d (.str (cutS z ol oh))) else none) with
          | some r => Ou.ok r s3
          | none => .st) (fun r s' => ∀ w' v, Rel X.K w0 w' s' σ → Up w w' → RelR X.K w' σ v r → Frh w v r → Q v w'.H) (Fe X.K CA W w0 w σ) := q3
        by_cases hz : z.length ≤ LIM
        case neg => rw [if_neg hz] at q3; exact q3.elim
        rw [if_pos hz] at q3
        cases hx
        exact .inr (.inr ⟨z, rfl, LIM_sz hz, q3 w3 _ r3 u13 (.str _) trivial⟩)
      | _ => exact q3.elim
  · exact fun x s3 q3 w' cls d r' u' => q3 w' cls d r' ((u1.trans u2).trans u')
  · exact fun x s3 q3 w' cls d r' u' => q3 w' cls d r' (u1.trans u')
/-- xs[::-1] -/
def opRev (s : S) (x : R) : Option R := (s.lr x).map fun l => .fr l.reverse
theorem Reps.rev {w : Wd} {vs : List V} {l : List D} (h : Reps K w vs l) : Reps K w vs.reverse l.reverse := by
  induction vs generalizing l with
  | nil => cases h; exact .nil
  | cons v vs ih =>
    cases h with
    | cons h r =>
      rw [List.reverse_cons, List.reverse_cons]
      exact (ih r).append (.cons h .nil)
theorem d_rev {e : Expr} {m : Me} (h : PE X e (tRevL X.K (tI X.K CA W m))) : PE X e (tI X.K CA W (mUn opRev m)) := by
  refine h.weak fun σ H Q ⟨w0, w, s, eH, r, q⟩ => ⟨w0, w, s, eH, r, q.bind.imp (fun rx s1 _ q1 w1 x r1 u1 h1 f1 => ?_) fun x s1 q1 => q1⟩
  unfold ofR opRev at q1
  cases e1 : s1.lr rx with
  | none => rw [e1] at q1; exact q1.elim
  | some l =>
    rw [e1] at q1
    obtain ⟨p, vs, ep, g1, g2⟩ := r1.lr h1 e1
    refine ⟨p, vs, ep, g1, fun b hb => ?_⟩
    obtain ⟨w4, e4, r4, u4, h4, f4⟩ := r1.newL hb g2.rev
    rw [← e4]
    exact q1 w4 _ r4 (u1.trans u4) h4 (f4.of u1)
/-! ### built-ins -/
def asLen (s : S) : R → Option Nat
  | .d (.str z) => if z.length ≤ LIM then some z.length else none
  | r => (s.seqX r).map List.length
def bLen (s : S) : List R → Option R
  | [x] => (asLen s x).map fun n => .d (.int (n : Nat))
  | _ => none
def one (f : D → Option D) : List R → Option R
  | [.d x] => (f x).map .d
  | _ => none
def bAbs (_ : S) : List R → Option R := one fun
  | .int i => some (.int (if i < 0 then -i else i))
  | _ => none
def bInt (_ : S) : List R → Option R := one fun
  | .int i => some (.int i)
  | .bl k => some (.int (if k then 1 else 0))
  | _ => none
def bStr (_ : S) : List R → Option R := one fun
  | .int i => if i.natAbs.log2 < 1920 then some (.str (toString i)) else none
  | _ => none
def bMax2 (_ : S) : List R → Option R
  | [.d (.int i), .d (.int j)] => some (.d (.int (if j > i then j else i)))
  | _ => none
def bMin2 (_ : S) : List R → Option R
  | [.d (.int i), .d (.int j)] => some (.d (.int (if j < i then j else i)))
  | _ => none
def bList (s : S) : List R → Option R
  | [x] => (seqR s x).map fun l => .fr l
  | _ => none
def bTuple (s : S) : List R → Option R
  | [.d (.tup l)] => some (.d (.tup l))
  | [x] => (s.lr x).map fun l => .d (.tup l)
  | _ => none
def blD : D → Option Bool
  | .bl b => some b
  | _ => none
def bls : List D → Option (List Bool)
  | [] => some []
  | d :: l => (match blD d, bls l with
    | some a, some b => some (a :: b)
    | _, _ => none)
def bAll (s : S) : List R → Option R
  | [x] => ((s.lr x).bind bls).map fun l => .d (.bl (l.all id))
  | _ => none
/-- the type's name -/
def tyD (s : S) : R → Option String
  | .d .non => some "NoneType"
  | .d (.bl _) => some "bool"
  | .d (.int _) => some "int"
  | .d (.str _) => some "str"
  | .d (.tup _) => some "tuple"
  | .d (.lst _) => some "list"
  | .fr _ => some "list"
  | .slt i => (s.lv (.slt i)).map fun _ => "list"
  | _ => none
def kitD (a b : String) : Option Bool := match b with
  | "int" => some (a == "int" || a == "bool")
  | "bool" => some (a == "bool")
  | "str" => some (a == "str")
  | "list" => some (a == "list")
  | "tuple" => some (a == "tuple")
  | "dict" => some false
  | _ => none
def bIsi (s : S) : List R → Option R
  | [x, .d (.ty t)] => (match tyD s x with
    | some a => (kitD a t).map fun b => .d (.bl b)
    | none => none)
  | _ => none
end
end Pm

set_option Elab.async false
set_option linter.all false
set_option maxRecDepth 100000
set_option maxHeartbeats 4000000
/-! PmJ: built-ins by values. -/
namespace Pm
open PySem L2
section
variable {X : Cx} {K : PySem.W.Frag}
theorem rs1 {w : Wd} {σ : L2.St} {vs : List V} {r : R} (h : RelRs K w σ vs [r]) : ∃ v, vs = [v] ∧ RelR K w σ v r := by
  match vs, h with
  | [v], ⟨h, _⟩ => exact ⟨v, rfl, h⟩
theorem rs2 {w : Wd} {σ : L2.St} {vs : List V} {r q : R} (h : RelRs K w σ vs [r, q]) : ∃ v u, vs = [v, u] ∧ RelR K w σ v r ∧ RelR K w σ u q := by
  match vs, h with
  | [v, u], ⟨h, g, _⟩ => exact ⟨v, u, rfl, h, g⟩
theorem cop_len : Cop K (fun xs H Q => ∃ x n, xs = [x] ∧ LenV K x H n ∧ Q (.int n) H) bLen := by
  intro w0 w s σ vs rs rz Q r hs e k
  match rs, e with
  | [x], e =>
    obtain ⟨v, rfl, h⟩ := rs1 hs
    have e : (asLen s x).map (fun n => R.d (.int (n : Nat))) = some rz := e
    cases q : asLen s x with
    | none => rw [q] at e; cases e
    | some n =>
      rw [q] at e
      injection e with e
      subst e
      refine ⟨v, n, rfl, ?_, k w _ r (Up.refl w) (.int _) trivial⟩
      have li : ∀ {rr : R}, RelR K w σ v rr → (s.seqX rr).map List.length = some n → LenV K v w.H n := fun {rr} h e => by
        cases q : s.seqX rr with
        | none => rw [q] at e; cases e
        | some l =>
          rw [q] at e
          injection e with e
          obtain ⟨p, us, e1, g1, g2⟩ := r.seqX h q
          rw [e1]
          rcases g1 with g1 | g1
          · exact .inl ⟨us, g1, by rw [g2.length]; exact e.symm⟩
          · exact .inr ⟨us, g1, by rw [g2.length]; exact e.symm⟩
      cases x with
      | fr l => exact li h q
      | slt i => exact li h q
      | d a => cases a with
        | str z =>
          have q : (if z.length ≤ LIM then some z.length else none) = some n := q
          by_cases hz : z.length ≤ LIM
          case neg => rw [if_neg hz] at q; cases q
          rw [if_pos hz] at q
          injection q with q
          cases h
          exact ⟨LIM_sz hz, q.symm⟩
        | _ => exact li h q
theorem one_ok {f : D → Option D} {w : Wd} {σ : L2.St} {vs : List V} {rs : List R} {rz : R} (h : RelRs K w σ vs rs) (e : one f rs = some rz) : ∃ v d z, vs = [v] ∧ Rep K w v d ∧ f d = some z ∧ rz = .d z := by
  unfold one at e
  split at e
  · rename_i x
    obtain ⟨v, rfl, h1⟩ := rs1 h
    cases q : f x with
    | none => rw [q] at e; cases e
    | some z =>
      rw [q] at e
      injection e with e
      exact ⟨v, x, z, rfl, h1, q, e.symm⟩
  · cases e
theorem cop_abs : Cop K (fun xs H Q => ∃ i, xs = [.int i] ∧ Q (.int (if i < 0 then -i else i)) H) bAbs := by
  intro w0 w s σ vs rs rz Q r hs e k
  obtain ⟨v, d, z, rfl, h, hz, rfl⟩ := one_ok hs e
  cases h with
  | int i =>
    injection hz with hz
    subst hz
    exact ⟨i, rfl, k w _ r (Up.refl w) (.int _) trivial⟩
  | _ => cases hz
theorem cop_int : Cop K (fun xs H Q => (∃ i, xs = [.int i] ∧ Q (.int i) H) ∨ ∃ k, xs = [.bl k] ∧ Q (.int (if k then 1 else 0)) H) bInt := by
  intro w0 w s σ vs rs rz Q r hs e k
  obtain ⟨v, d, z, rfl, h, hz, rfl⟩ := one_ok hs e
  cases h with
  | int i =>
    injection hz with hz
    subst hz
    exact .inl ⟨i, rfl, k w _ r (Up.refl w) (.int _) trivial⟩
  | bl b =>
    injection hz with hz
    subst hz
    exact .inr ⟨b, rfl, k w _ r (Up.refl w) (.int _) trivial⟩
  | _ => cases hz
theorem cop_str : Cop K (fun xs H Q => ∃ i, xs = [.int i] ∧ i.natAbs.log2 < 1920 ∧ Q (.str (toString i)) H) bStr := by
  intro w0 w s σ vs rs rz Q r hs e k
  obtain ⟨v, d, z, rfl, h, hz, rfl⟩ := one_ok hs e
  cases h with
  | int i =>
    dsimp only at hz
    by_cases hl : i.natAbs.log2 < 1920
    case neg => rw [if_neg hl] at hz; cases hz
    rw [if_pos hl] at hz
    injection hz with hz
    subst hz
    exact ⟨i, rfl, hl, k w _ r (Up.refl w) (.str _) trivial⟩
  | _ => cases hz
theorem cop_max2 : Cop K (fun xs H Q => ∃ i j, xs = [.int i, .int j] ∧ Q (.int (if j > i then j else i)) H) bMax2 := by
  intro w0 w s σ vs rs rz Q r hs e k
  unfold bMax2 at e
  split at e
  · rename_i i j
    obtain ⟨v, u, rfl, h, g⟩ := rs2 hs
    injection e with e
    subst e
    cases h
    cases g
    exact ⟨i, j, rfl, k w _ r (Up.refl w) (.int _) trivial⟩
  · cases e
theorem cop_min2 : Cop K (fun xs H Q => ∃ i j, xs = [.int i, .int j] ∧ Q (.int (if j < i then j else i)) H) bMin2 := by
  intro w0 w s σ vs rs rz Q r hs e k
  unfold bMin2 at e
  split at e
  · rename_i i j
    obtain ⟨v, u, rfl, h, g⟩ := rs2 hs
    injection e with e
    subst e
    cases h
    cases g
    exact ⟨i, j, rfl, k w _ r (Up.refl w) (.int _) trivial⟩
  · cases e
theorem cop_list : Cop K (fun xs H Q => ∃ p ys, xs = [.ref p] ∧ (SqL K H p ys ∨ SqT K H p ys) ∧ ∀ l, H l = none → Q (.ref l) (upd H l (.lst ys))) bList := by
  intro w0 w s σ vs rs rz Q r hs e k
  match rs, e with
  | [x], e =>
    obtain ⟨v, rfl, h⟩ := rs1 hs
    have e : (Pm.seqR s x).map (fun l => R.fr l) = some rz := e
    cases q : Pm.seqR s x with
    | none => rw [q] at e; cases e
    | some l =>
      rw [q] at e
      injection e with e
      subst e
      obtain ⟨p, us, e1, g1, g2⟩ := r.seqR h q
      refine ⟨p, us, by rw [e1], g1, fun b hb => ?_⟩
      obtain ⟨w2, e3, r3, u3, h3, f3⟩ := r.newL hb g2
      rw [← e3]
      exact k w2 _ r3 u3 h3 f3
theorem cop_tuple : Cop K (fun xs H Q => ∃ p ys, xs = [.ref p] ∧ ((SqL K H p ys ∧ ∀ l, H l = none → Q (.ref l) (upd H l (.tup ys))) ∨ (SqT K H p ys ∧ Q (.ref p) H))) bTuple := by
  intro w0 w s σ vs rs rz Q r hs e k
  have li : ∀ {x : R} {v : V}, RelR K w σ v x → (s.lr x).map (fun l => R.d (.tup l)) = some rz → ∃ p ys, [v] = [V.ref p] ∧ ((SqL K w.H p ys ∧ ∀ l, w.H l = none → Q (.ref l) (upd w.H l (.tup ys))) ∨ (SqT K w.H p ys ∧ Q (.ref p) w.H)) := fun {x v} h e => by
    cases q : s.lr x with
    | none => rw [q] at e; cases e
    | some l =>
      rw [q] at e
      injection e with e
      subst e
      obtain ⟨p, us, e1, g1, g2⟩ := r.lr h q
      refine ⟨p, us, by rw [e1], .inl ⟨g1, fun b hb => ?_⟩⟩
      obtain ⟨w2, e3, r3, u3, h3⟩ := r.newT hb g2
      rw [← e3]
      exact k w2 _ r3 u3 h3 trivial
  match rs, e with
  | [], e => cases e
  | x :: y :: z, e => cases x with
    | d a => cases a <;> cases e
    | _ => cases e
  | [x], e =>
    obtain ⟨v, rfl, h⟩ := rs1 hs
    cases x with
    | fr l => exact li h e
    | slt i => exact li h e
    | d a => cases a with
      | tup l =>
        injection e with e
        subst e
        obtain ⟨p, us, e1, g1, g2⟩ := Rep.tupAt h
        exact ⟨p, us, by rw [e1], .inr ⟨g1, by rw [← e1]; exact k w v r (Up.refl w) h trivial⟩⟩
      | _ => exact li h e
theorem bls_ok {w : Wd} : ∀ {vs : List V} {l : List D} {bs : List Bool}, Reps K w vs l → bls l = some bs → vs = bs.map V.bl
  | _, _, _, .nil, e => by injection e with e; subst e; rfl
  | _, _, _, .cons (d := d) (l := l) h r, e => by
    unfold bls at e
    cases q1 : blD d with
    | none => rw [q1] at e; cases e
    | some a =>
      cases q2 : bls l with
      | none => rw [q1, q2] at e; cases e
      | some b =>
        rw [q1, q2] at e
        injection e with e
        subst e
        rw [bls_ok r q2]
        cases h with
        | bl c => injection q1 with q1; subst q1; rfl
        | _ => cases q1
theorem cop_all : Cop K (rAll K) bAll := by
  intro w0 w s σ vs rs rz Q r hs e k
  match rs, e with
  | [x], e =>
    obtain ⟨v, rfl, h⟩ := rs1 hs
    have e : ((s.lr x).bind bls).map (fun l => R.d (.bl (l.all id))) = some rz := e
    cases q : s.lr x with
    | none => rw [q] at e; cases e
    | some l =>
      rw [q] at e
      have e : (bls l).map (fun l => R.d (.bl (l.all id))) = some rz := e
      cases q2 : bls l with
      | none => rw [q2] at e; cases e
      | some bs =>
        rw [q2] at e
        injection e with e
        subst e
        obtain ⟨p, us, e1, g1, g2⟩ := r.lr h q
        exact ⟨p, bs, by rw [e1], by rw [← bls_ok g2 q2]; exact g1, k w _ r (Up.refl w) (.bl _) trivial⟩
theorem kit_tab : ∀ a ∈ ["NoneType", "bool", "int", "str", "tuple", "list"], ∀ t ∈ ["int", "bool", "str", "list", "tuple", "dict"], kitB a t = kitD a t := by decide +kernel
theorem tyD_ok {w0 w : Wd} {s : S} {σ : L2.St} {v : V} {x : R} {a : String} (r : Rel K w0 w s σ) (h : RelR K w σ v x) (e : tyD s x = some a) : TyX K w.H v (.type a) ∧ a ∈ ["NoneType", "bool", "int", "str", "tuple", "list"] := by
  cases x with
  | fr l =>
    injection e with e
    subst e
    obtain ⟨p, us, e1, g1, _⟩ := h
    rw [e1]
    exact ⟨.base (.lst g1), by simp⟩
  | slt i =>
    have e : (s.lv (.slt i)).map (fun _ => "list") = some a := e
    cases q : s.lv (.slt i) with
    | none => rw [q] at e; cases e
    | some l =>
      rw [q] at e
      injection e with e
      subst e
      obtain ⟨p, us, e1, g1, _⟩ := r.lv h q
      rw [e1]
      exact ⟨.base (.lst g1), by simp⟩
  | d y =>
    cases h with
    | non => injection e with e; subst e; exact ⟨.base .non, by simp⟩
    | bl b => injection e with e; subst e; exact ⟨.base (.bl b), by simp⟩
    | int b => injection e with e; subst e; exact ⟨.base (.int b), by simp⟩
    | str b => injection e with e; subst e; exact ⟨.base (.str b), by simp⟩
    | lst i h q => injection e with e; subst e; exact ⟨.base (.lst h), by simp⟩
    | tup i h q => injection e with e; subst e; exact ⟨.base (.tup h), by simp⟩
    | tupK h q =>
      injection e with e
      subst e
      obtain ⟨o, its, n, h1, h2, _⟩ := h
      exact ⟨.kTuple h1 h2, by simp⟩
    | hnd h => cases e
    | ty n => cases e
theorem kitD_in {a t : String} {b : Bool} (h : kitD a t = some b) : t ∈ ["int", "bool", "str", "list", "tuple", "dict"] := by
  unfold kitD at h
  split at h <;> first | (cases h; done) | simp
theorem cop_isi : Cop K (rIsi K) bIsi := by
  intro w0 w s σ vs rs rz Q r hs e k
  unfold bIsi at e
  split at e
  · rename_i x t
    obtain ⟨v, u, rfl, h, g⟩ := rs2 hs
    cases q : tyD s x with
    | none => rw [q] at e; cases e
    | some a =>
      rw [q] at e
      have e : (kitD a t).map (fun b => R.d (.bl b)) = some rz := e
      cases q2 : kitD a t with
      | none => rw [q2] at e; cases e
      | some b =>
        rw [q2] at e
        injection e with e
        subst e
        obtain ⟨g1, g2⟩ := tyD_ok r h q
        cases g
        exact ⟨v, .ty t, .type a, .type t, b, rfl, .ty t, g1, kit_ty ((kit_tab a g2 t (kitD_in q2)).trans q2), k w _ r (Up.refl w) (.bl b) trivial⟩
  · cases e
end
end Pm

set_option Elab.async false
set_option linter.all false
set_option maxRecDepth 100000
set_option maxHeartbeats 4000000
/-! PmK: the words that a derivation is made of. -/
namespace Pm
open PySem L2
/-- a def of the table, as a caller knows it -/
structure Cl (P : Program) (w : World) (K : PySem.W.Frag) (mg : Str → Option Value) (base : Heap) (CA : Nat → Addr) (F : Fns) (k : Nat) (x : Str) (np j : Nat) : Prop where
  ex : ∃ f fd ps, FnOk P w K mg base (L2.CX P w) k f fd ps (spF K CA F j np) ∧ mg x = some (.ref f) ∧ PySem.W.keepIn K (.ref f) = true ∧ Binds K fd ps []
  ar : ∀ as m, as.length ≠ np → F j as m = .st
section
variable {X : Cx} {CA : Nat → Addr} {W : WX} {pos p : Pos} {st : Stmt}
theorem k_call {x : Str} {e : Expr} {es : List Expr} {ms : Ma} {F : Fns} {k j np : Nat} (c : Cl X.prog X.w X.K X.mg X.base CA F k x np j) (tk : Takes X W) (hr : Room k X.A) (hg : Gl X x) (ha : PA X (e :: es) (tA X.K CA W ms))
    (hdb : (x == ("__debug__" : Str)) = false := by decide) (he : starEach (e :: es) X.env = (false, eval e X.env) :: starEach es X.env := by rfl) (hpl : (backTo pos (starEach es X.env)).any (·.1) = false := by rfl) :
    PE X (.Call (.Name x p) (e :: es) [] pos) (tI X.K CA W (mCall F j ms)) := by
  obtain ⟨f, fd, ps, c1, c2, c3, c4⟩ := c.ex
  exact d_call (pe_callS c1 hr hg c2 c3 c4 (fun σ => passAt tk σ) ha hdb he hpl) c.ar
theorem k_blt {x : Str} {id : String} {e : Expr} {es : List Expr} {ms : Ma} {r : List V → Hp → VK → Prop} {f : S → List R → Option R} (hc : CallR X (.builtin id) r) (cf : Cop X.K r f) (hv : bootBuiltins x = some (.builtin id)) (hm : X.mg x = none) (hg : Gl X x) (ha : PA X (e :: es) (tA X.K CA W ms))
    (hn : x ≠ "__name__" := by decide) (hdb : (x == ("__debug__" : Str)) = false := by decide) (he : starEach (e :: es) X.env = (false, eval e X.env) :: starEach es X.env := by rfl) (hpl : (backTo pos (starEach es X.env)).any (·.1) = false := by rfl) :
    PE X (.Call (.Name x p) (e :: es) [] pos) (tI X.K CA W (mB f ms)) := d_blt (pe_callB hc hg hm hv ha hn hdb he hpl) cf
theorem k_bty {x : Str} {T : String} {e : Expr} {es : List Expr} {ms : Ma} {r : List V → Hp → VK → Prop} {f : S → List R → Option R} (hc : CallR X (.type T) r) (cf : Cop X.K r f) (hv : bootBuiltins x = some (.type T)) (hm : X.mg x = none) (hg : Gl X x) (ha : PA X (e :: es) (tA X.K CA W ms))
    (hn : x ≠ "__name__" := by decide) (hdb : (x == ("__debug__" : Str)) = false := by decide) (he : starEach (e :: es) X.env = (false, eval e X.env) :: starEach es X.env := by rfl) (hpl : (backTo pos (starEach es X.env)).any (·.1) = false := by rfl) :
    PE X (.Call (.Name x p) (e :: es) [] pos) (tI X.K CA W (mB f ms)) := d_blt (pe_callTy hc hg hm hv ha hn hdb he hpl) cf
/-- a built-in type's name -/
theorem k_ty {x : Str} {T : String} (hv : bootBuiltins x = some (.type T)) (hm : X.mg x = none) (hg : Gl X x) (hn : x ≠ "__name__" := by decide) (hdb : (x == ("__debug__" : Str)) = false := by decide) : PE X (.Name x pos) (tI X.K CA W (mC (.ty T))) :=
  d_c (v := V.ty T) (pe_bltn hg hm hv (show RelV (V.ty T) (Value.type T) from rfl) hn hdb) fun _ => .ty T
/-- a module's number, its text -/
theorem k_gi {x : Str} {i : Int} (h : ∃ t, X.mg x = some (.int i t)) (hg : Gl X x) (hdb : (x == ("__debug__" : Str)) = false := by decide) : PE X (.Name x pos) (tI X.K CA W (mC (.int i))) := by
  obtain ⟨t, h⟩ := h
  exact d_c (v := V.int i) (pe_glob hg h (show RelV (V.int i) (Value.int i t) from ⟨t, rfl⟩) hdb) fun _ => .int i
theorem k_ix {a b : Expr} {m1 m2 : Me} (h1 : PE X a (tI X.K CA W m1)) (h2 : PE X b (tI X.K CA W m2)) (hs : PlainIx b := by intro _ _; rfl) : PE X (.Subscript a b pos) (tI X.K CA W (mBin opIx m1 m2)) := d_op (pe_ix ix_X h1 h2 hs) bop_ix
theorem k_pwt {e : Expr} {m : Mt} (h : PW X e (tT X.K CA W m)) : PT X e (tT X.K CA W m) := h.pt
/-- a comprehension -/
theorem k_yes {σ : L2.St} {H : Hp} {Q : Bool → Hp → Prop} {K : PySem.W.Frag} (h : tT K CA W Pm.tYes σ H Q) : L2.tYes σ H Q := by
  obtain ⟨w0, w, s, eH, r, q⟩ := h
  subst eH
  exact q w r (Up.refl w)
theorem k_lc {elt tg iter : Expr} {ifs : List Expr} {scope : Scope} {own : List (Str × Nat)} {src : Mi} {g : TG} {tgD : Tg} {c : Mt} {e : Me} {tt : TT} (hc : X.calm = true) (hN : X.N.Nodup) (hi : PI X tg iter (wI X.K CA W src)) (ok : BlkOk X.N X.env.scope scope own) (htg : TgOk X.K g tgD)
    (htt : ∀ σ H Q, tT X.K CA W0 c σ H Q → tt σ H Q)
    (hg : ∀ (s : Shared) (H : Hp) (C : Addr) (cl : List (Str × Addr)) (fp : List Addr), PG (X.blk s H scope (compEnvC scope cl C X.env) fp) tg g) (ht : ∀ (s : Shared) (H : Hp) (C : Addr) (cl : List (Str × Addr)) (fp : List Addr), PTs (X.blk s H scope (compEnvC scope cl C X.env) fp) ifs tt)
    (he : ∀ (s : Shared) (H : Hp) (C : Addr) (cl : List (Str × Addr)) (fp : List Addr), PE (X.blk s H scope (compEnvC scope cl C X.env) fp) elt (tI X.K CA W0 e)) (hs : ∀ x, foldedSetIterable iter X.env x = pure x := by intro _; rfl) :
    PE X (.ListComp elt [⟨tg, iter, ifs, 0⟩] scope pos) (tI X.K CA W (mComp (own.map (·.2)) tgD src c e)) :=
  (pe_lc hc hN hi ok hg ht he hs).weak fun σ H Q q => c_lc (fun _ _ _ q => q) htg htt (fun _ _ _ q => q) q
theorem k_setLc {i : Nat} {y : Str} {py spos : Pos} {elt tg iter : Expr} {ifs : List Expr} {scope : Scope} {own : List (Str × Nat)} {src : Mi} {g : TG} {tgD : Tg} {c : Mt} {e : Me} {tt : TT} (hy : X.N[i]? = some y) (hyl : X.env.scope.names.lookup y = some .local)
    (hsw : swapsWith (.ListComp elt [⟨tg, iter, ifs, 0⟩] scope pos) (some (.Name y py)) spos.line X.env = pure true) (hc : X.calm = true) (hN : X.N.Nodup) (hi : PI X tg iter (wI X.K CA W src)) (ok : BlkOk X.N X.env.scope scope own) (htg : TgOk X.K g tgD)
    (htt : ∀ σ H Q, tT X.K CA W0 c σ H Q → tt σ H Q)
    (hg : ∀ (s : Shared) (H : Hp) (C : Addr) (cl : List (Str × Addr)) (fp : List Addr), PG (X.blk s H scope (compEnvC scope cl C X.env) fp) tg g) (ht : ∀ (s : Shared) (H : Hp) (C : Addr) (cl : List (Str × Addr)) (fp : List Addr), PTs (X.blk s H scope (compEnvC scope cl C X.env) fp) ifs tt)
    (he : ∀ (s : Shared) (H : Hp) (C : Addr) (cl : List (Str × Addr)) (fp : List Addr), PE (X.blk s H scope (compEnvC scope cl C X.env) fp) elt (tI X.K CA W0 e)) (hs : ∀ x, foldedSetIterable iter X.env x = pure x := by intro _; rfl) :
    PS X (.Assign [.Name y py] (.ListComp elt [⟨tg, iter, ifs, 0⟩] scope pos) spos) (tAsg (tI X.K CA W (mComp (own.map (·.2)) tgD src c e)) (gName i)) :=
  (ps_setLc hc hN hy hyl hsw hi ok hg ht he hs).weak fun D σ H q => c_lc (fun _ _ _ q => q) htg htt (fun _ _ _ q => q) q
theorem get_list : PGet X (rIxL X.K) := by
  intro pins s σ H o i ov iv Q I ro ri h
  obtain ⟨p, xs, k, z, rfl, rfl, hq, he, q⟩ := h
  cases ro
  obtain ⟨t, rfl⟩ := ri
  obtain ⟨its, r, pl, hz⟩ := I.list hq
  obtain ⟨j, h1, h2, h3, h4, h5⟩ := atI_get he
  obtain ⟨w', ew, rw'⟩ := r.get h2
  have hl := r.length
  have hn := line63
  by_cases h0 : 0 ≤ k
  · have hj : k.toNat = j := by
      have hs := h1
      rw [seqIndex_of h0 h5] at hs
      exact Option.some.inj hs
    exact wpAny_getItem_list pl.isList h0 (by omega) (by rw [hj]; simpa using ew) ⟨z, H, I, rw', q⟩
  · have hj : (k + (its.toArray.size : Int)).toNat = j := by
      have hs := h1
      rw [seqIndex_neg (by omega) h4] at hs
      rw [List.size_toArray, ← hl]
      exact Option.some.inj hs
    exact wpAny_getItem_list_neg pl.isList (by omega) (by rw [List.size_toArray] <;> omega) (by omega) (by rw [hj]; simpa using ew) ⟨z, H, I, rw', q⟩
def opAddI (_ : S) : R → R → Option R := opI fun i j => some (.int (i + j))
theorem bop_addI {K : PySem.W.Frag} : Bop K (rI0 fun i j => .int (i + j)) opAddI := bop_I0 fun i j d e w => by injection e with e; subst e; exact .int _
theorem pip_of {op : Operator} {r : R2} (h : OpR X (inplaceOp op) r) : PIp X op r := h
/-! ### max(.., default = ..) -/
def mxI : List Int → Int → Int
  | [], d => d
  | x :: xs, _ => xs.foldl (fun a y => if a < y then y else a) x
def intD : D → Option Int
  | .int i => some i
  | _ => none
def intDs : List D → Option (List Int)
  | [] => some []
  | d :: l => (match intD d, intDs l with
    | some a, some b => some (a :: b)
    | _, _ => none)
def maxR (s : S) (x y : R) : Option R := match y with
  | .d (.int d) => ((s.lr x).bind intDs).map fun ns => .d (.int (mxI ns d))
  | _ => none
def mMaxD (a b : Me) : Me := mBin maxR a b
def rMaxDf (K : PySem.W.Frag) : List V → List V → Hp → VK → Prop := fun xs zs H Q => ∃ (a : Addr) (ns : List Int) (d : Int), xs = [.ref a] ∧ zs = [.int d] ∧ SqL K H a (ns.map V.int) ∧ Q (.int (mxI ns d)) H
theorem dpInts {K : PySem.W.Frag} {H : Hp} : ∀ ns : List Int, DpAll K H (ns.map V.int) (ns.map PyData.int)
  | [] => .nil
  | n :: ns => .cons (.int n) (dpInts ns)
theorem cr_maxDf (hc : X.calm = true) (hu : X.A.units + 64 < cLine) : CallRK X (.builtin "max") ["default"] (rMaxDf X.K) := by
  intro pins s σ H xs zs us ws Q I rx rz h
  obtain ⟨a, ns, d, rfl, rfl, hq, q⟩ := h
  obtain ⟨u, rfl, ru⟩ := vals1 rx
  obtain ⟨z, rfl, rz'⟩ := vals1 rz
  cases (show u = Value.ref a from ru)
  obtain ⟨its, rv, pl, hz⟩ := I.list hq
  obtain ⟨as, ra⟩ := Dp.readsAll I (ns.map PyData.int) (ns.map V.int) its (dpInts ns) rv
  have hh : PySem.W.HoldAll (α := Int) s.heap its.toArray.toList ns := ⟨as, (show ReadsAll s.heap its (ns.map PyData.int) as from ra)⟩
  have fin : ∀ (v : Value) (n : Int) h' tk, RelV (V.int n) v → n = mxI ns d → (∀ b o, s.heap.get? b = some o → h'.get? b = some o) → EP X pins σ Q v { s with heap := h', toks := tk } := fun v n h' tk r e k =>
    ⟨.int n, H, I.kept (t' := tk) k, r, by rw [e]; exact q⟩
  show wpAny _ _ (call (.builtin "max") [.ref a] [(Str.ofString "default", z)]) _ _ _
  refine PySem.W.max_list_datum_default (α := Int) (I.ok.hd hc) pl.isList hh (by show X.A.units + 1 + 0 < cLine; omega) (fun e h' tk k => fin z d h' tk rz' (by rw [e]; rfl) k) fun y ys i v h' tk e hv hr k => ?_
  obtain ⟨bs, hr⟩ := hr
  have hr : Reads h' v (.int (PySem.W.maxOf y ys)) bs := hr
  cases hr with
  | int _ t => exact fin _ (PySem.W.maxOf y ys) h' tk ⟨_, rfl⟩ (by
      rw [e]
      show PySem.W.maxOf y ys = ys.foldl (fun a y => if a < y then y else a) y
      unfold PySem.W.maxOf
      congr 1
      funext a b
      show (if decide (a < b) = true then b else a) = _
      by_cases hl : a < b
      · rw [if_pos (decide_eq_true hl), if_pos hl]
      · rw [if_neg (by simpa using hl), if_neg hl]) k
theorem ints_ok {K : PySem.W.Frag} {w : Wd} : ∀ {vs : List V} {l : List D} {ns : List Int}, Reps K w vs l → intDs l = some ns → vs = ns.map V.int
  | _, _, _, .nil, e => by injection e with e; subst e; rfl
  | _, _, _, .cons (d := d) (l := l) h r, e => by
    unfold intDs at e
    cases q1 : intD d with
    | none => rw [q1] at e; cases e
    | some a =>
      cases q2 : intDs l with
      | none => rw [q1, q2] at e; cases e
      | some b =>
        rw [q1, q2] at e
        injection e with e
        subst e
        rw [ints_ok r q2]
        cases h with
        | int c => injection q1 with q1; subst q1; rfl
        | _ => cases q1
theorem k_maxd {x : Str} {e e2 : Expr} {kpos : Pos} {a b : Me} (hm : X.mg x = none) (hc : X.calm = true) (hu : X.A.units + 64 < cLine) (hv : bootBuiltins x = some (.builtin "max")) (hg : Gl X x) (ha : PE X e (tI X.K CA W a)) (hb : PE X e2 (tI X.K CA W b))
    (hn : x ≠ "__name__" := by decide) (hdb : (x == ("__debug__" : Str)) = false := by decide) (hs : starEach [e] X.env = (false, eval e X.env) :: starEach [] X.env := by rfl)
    (he : backTo pos (starEach [e] X.env) = (false, eval e X.env) :: backTo pos (starEach [] X.env) := by rfl) (hpl : (backTo pos (starEach [e] X.env)).any (·.1) = false := by rfl) :
    PE X (.Call (.Name x p) [e] [⟨some "default", e2, kpos⟩] pos) (tI X.K CA W (mMaxD a b)) := by
  refine (pe_callBK (cr_maxDf hc hu) hg hm hv (pa_cons ha pa_nil hs) (pk_cons hb pk_nil) hn hdb he hpl).weak fun σ H Q ⟨w0, w, s, eH, r, q⟩ => ?_
  refine two (f := fun x y s2 => ofR (maxR s2 x y) s2) eH r q fun rx ry s2 w2 xv yv q2 r2 u2 h1 h2 => ?_
  cases hm : maxR s2 rx ry with
  | none => rw [hm] at q2; exact q2.elim
  | some rz =>
    rw [hm] at q2
    cases ry with
    | d y => cases y with
      | int d =>
        have hm : ((s2.lr rx).bind intDs).map (fun ns => R.d (.int (mxI ns d))) = some rz := hm
        cases q3 : s2.lr rx with
        | none => rw [q3] at hm; cases hm
        | some l =>
          rw [q3] at hm
          have hm : (intDs l).map (fun ns => R.d (.int (mxI ns d))) = some rz := hm
          cases q4 : intDs l with
          | none => rw [q4] at hm; cases hm
          | some ns =>
            rw [q4] at hm
            injection hm with hm
            subst hm
            obtain ⟨a', vs, e1, g1, g2⟩ := r2.lr h1 q3
            cases h2
            exact ⟨a', ns, d, by rw [e1], rfl, by rw [← ints_ok g2 q4]; exact g1, q2 w2 _ r2 u2 (.int _) trivial⟩
      | _ => cases hm
    | _ => cases hm
/-! ### an exception of the text's own -/
structure Xc (P : Program) (w : World) (K : PySem.W.Frag) (mg : Str → Option Value) (base : Heap) (x : Str) (C : Addr) (f : Str) : Prop where
  T : OexC K C
  at_ : mg x = some (.ref C)
  ini : ∃ fI fd ps, PySem.W.findIn K (.ref C) "__init__" = some (some (.ref fI)) ∧ PySem.W.typeIn K (.ref fI) = some (.type "function") ∧ FnOk P w K mg base CX0 1 fI fd ps (spInit1 f C) ∧ Binds K fd ps []
theorem k_exc {x f : Str} {C : Addr} {e : Expr} {es : List Expr} {ta : TA} (c : Xc X.prog X.w X.K X.mg X.base x C f) (hr : Room 2 X.A) (hg : Gl X x) (ha : PA X (e :: es) ta)
    (hdb : (x == ("__debug__" : Str)) = false := by decide) (he : starEach (e :: es) X.env = (false, eval e X.env) :: starEach es X.env := by rfl) (hpl : (backTo pos (starEach es X.env)).any (·.1) = false := by rfl) :
    PMk X (.Call (.Name x p) (e :: es) [] pos) (tMkO C (spInit1 f C) [] ta) := by
  obtain ⟨fI, fd, ps, h1, h2, h3, h4⟩ := c.ini
  exact pmk_oex c.T h1 h2 h3 hr h4 .nil pass0 hg c.at_ ha hdb he hpl
theorem init_ok {K : PySem.W.Frag} {C : Addr} {f : Str} {vs : List V} {H : Hp} {Q : VK} {E : XK} (T : OexC K C) (hno : PySem.W.findIn K (.ref C) f = some none)
    (h : spInit1 f C vs H Q E) (N : List Str) : tOst K f (tVar 0) (tVar 1) { nx := fun _ H' => Q .non H', rt := Q } (L2.start N vs) H := by
  obtain ⟨a, v, rfl, h1, k⟩ := h
  exact ⟨v, rfl, .ref a, rfl, a, C, rfl, T, hno, .inl ⟨h1, fun dx hdx hne => k dx hdx hne⟩⟩
theorem blk_d {P : Program} {w : World} {K : PySem.W.Frag} {mg : PySem.Str → Option Value} {base : Heap} {N : List PySem.Str} {qual : PySem.Str} {sc : Scope} {f : Addr} {cd : Value} {A : Around} {outer : List Env} {s : Shared} {H : Hp} {E : XK} {b : Scope} {own : List (PySem.Str × Nat)}
    (h : blkC N sc b own = true) : BlkOk (cxOf (L2.CX P w) P w K mg base N qual sc f cd A outer s H E).N (cxOf (L2.CX P w) P w K mg base N qual sc f cd A outer s H E).env.scope b own := blkOk_by h
end
end Pm

set_option Elab.async false
set_option linter.all false
set_option maxRecDepth 100000
set_option maxHeartbeats 4000000
/-! PmL: a caught exception of the text's own: isinstance, its fields, the defs that it is handed to, try. -/
namespace Pm
open PySem L2
/-! ### methods that change nothing -/
def mM (f : S → R → R → Option R) (o e : Me) : Me := fun s => (o s).bind fun ro s1 => match s1.lr ro with
  | none => .st
  | some _ => (e s1).bind fun re s2 => ofR (f s2 ro re) s2
def Mop (K : PySem.W.Frag) (r : V → List V → Hp → VK → Prop) (f : S → R → R → Option R) : Prop := ∀ (w0 w : Wd) (s : S) (σ : L2.St) (x y : V) (rx ry rz : R) (Q : VK), Rel K w0 w s σ → RelR K w σ x rx → RelR K w σ y ry → f s rx ry = some rz →
  (∀ w' v, Rel K w0 w' s σ → Up w w' → RelR K w' σ v rz → Frh w v rz → Q v w'.H) → r x [y] w.H Q
section
variable {X : Cx} {CA : Nat → Addr} {W : WX} {pos p : Pos}
theorem d_mM {e : Expr} {o k : Me} {r : V → List V → Hp → VK → Prop} {f : S → R → R → Option R} (h : PE X e (tBM X.K "list" r (tI X.K CA W o) (tA X.K CA W (aCons k aNil)))) (hb : Mop X.K r f) : PE X e (tI X.K CA W (mM f o k)) := by
  refine h.weak fun σ H Q ⟨w0, w, s, eH, rel, q⟩ => ⟨w0, w, s, eH, rel, q.bind.imp (fun ro s1 _ q1 w1 ov r1 u1 h1 f1 => ?_) fun x s1 q1 => q1⟩
  cases hL : s1.lr ro with
  | none => rw [hL] at q1; exact q1.elim
  | some l =>
    rw [hL] at q1
    dsimp only at q1
    obtain ⟨a, vs, ea, g1, g2⟩ := r1.lr h1 hL
    refine ⟨by rw [ea]; exact .inl ⟨rfl, vs, g1⟩, w0, w1, s1, rfl, r1, ?_⟩
    unfold aCons aNil
    have q1 := q1.bind
    cases he : k s1 with
    | st => rw [he] at q1; exact q1.elim
    | ex x s2 => rw [he] at q1; exact fun w' cls d r' u' => q1 w' cls d r' (u1.trans u')
    | ok rr s2 =>
      rw [he] at q1
      intro w2 us r2 u2 h2 f2
      match us, h2, f2 with
      | [v], ⟨h2, _⟩, ⟨f2, _⟩ =>
      have q1 : Wp (ofR (f s2 ro rr) s2) _ _ := q1
      unfold ofR at q1
      cases hf : f s2 ro rr with
      | none => rw [hf] at q1; exact q1.elim
      | some rz =>
        rw [hf] at q1
        exact hb w0 w2 s2 σ ov v ro rr rz Q r2 (h1.up r1 u2) h2 hf fun w3 v3 r3 u3 h3 f3 => q1 w3 v3 r3 ((u1.trans u2).trans u3) h3 (f3.of (u1.trans u2))
/-! ### lists of truth values -/
/-- xs.count(b), a list of truth values -/
def opCnt (s : S) (x y : R) : Option R := match (s.lr x).bind bls, y with
  | some bs, .d (.bl b) => some (.d (.int (bs.count b : Nat)))
  | _, _ => none
/-- xs.index(b), b being there -/
def opIdx (s : S) (x y : R) : Option R := match (s.lr x).bind bls, y with
  | some bs, .d (.bl b) => if b ∈ bs then some (.d (.int (bs.idxOf b : Nat))) else none
  | _, _ => none
def rCntB (K : PySem.W.Frag) : V → List V → Hp → VK → Prop := fun x xs H Q => ∃ (p : Addr) (bs : List Bool) (b : Bool), x = .ref p ∧ xs = [.bl b] ∧ SqL K H p (bs.map V.bl) ∧ Q (.int (bs.count b : Nat)) H
theorem flat_bl : ∀ bs : List Bool, (bs.map V.bl).all flatV = true
  | [] => rfl
  | b :: bs => by rw [List.map_cons, List.all_cons, flat_bl bs]; rfl
theorem cnt_bl {b : Bool} : ∀ {bs : List Bool} {us : List Value}, Vals (bs.map V.bl) us → us.countP (eqU (.bl b)) = bs.count b
  | [], us, h => by cases h; rfl
  | a :: bs, us, h => by
    cases h with
    | cons h1 h2 =>
      rename_i u us
      rw [List.countP_cons, cnt_bl h2, List.count_cons, eqU_of (x := .bl b) h1 rfl]
      congr 1
theorem mt_cntB : MtR X "list.count" (rCntB X.K) := by
  intro pins s σ H x xs v us Q I rx rxs h
  obtain ⟨a, bs, b, rfl, rfl, hs, q⟩ := h
  cases rx
  obtain ⟨u, rfl, ru⟩ := rxs.one
  obtain ⟨its, rv, ⟨⟨cls, dd, data, sl⟩, n, ho, hc, hdn, hd⟩, hlen⟩ := I.list hs
  simp only at hc hd
  subst hc hd
  refine call_meets PySem.F.slot_list_count ⟨_, ho, rfl⟩ PySem.F.entry_list_count (PySem.F.args_list_count_2 _ _)
    (SeqAt.list_countAt a its.toArray n dd sl u (eqU (.bl b))) ⟨ho, fun y hy => mem_eqAt (x := .bl b) ru rfl rv (flat_bl bs) y (by simpa using hy), ?_⟩
  refine ⟨.int (bs.count b : Nat), H, I.tok _, ⟨s.toks, ?_⟩, q⟩
  rw [← cnt_bl (b := b) rv]
theorem mop_cnt {K : PySem.W.Frag} : Mop K (rCntB K) opCnt := by
  intro w0 w s σ x y rx ry rz Q r hx hy e k
  unfold opCnt at e
  cases q : s.lr rx with
  | none => rw [q] at e; cases e
  | some l =>
    rw [q] at e
    cases q2 : bls l with
    | none => rw [Option.bind_some, q2] at e; cases e
    | some bs =>
      rw [Option.bind_some, q2] at e
      cases ry with
      | d z => cases z with
        | bl b =>
          injection e with e
          subst e
          obtain ⟨p, vs, e1, g1, g2⟩ := r.lr hx q
          cases hy
          exact ⟨p, bs, b, e1, rfl, by rw [← bls_ok g2 q2]; exact g1, k w _ r (Up.refl w) (.int _) trivial⟩
        | _ => cases e
      | _ => cases e
theorem mop_idx {K : PySem.W.Frag} : Mop K (rIndex K) opIdx := by
  intro w0 w s σ x y rx ry rz Q r hx hy e k
  unfold opIdx at e
  cases q : s.lr rx with
  | none => rw [q] at e; cases e
  | some l =>
    rw [q] at e
    cases q2 : bls l with
    | none => rw [Option.bind_some, q2] at e; cases e
    | some bs =>
      rw [Option.bind_some, q2] at e
      cases ry with
      | d z => cases z with
        | bl b =>
          dsimp only at e
          by_cases hm : b ∈ bs
          case neg => rw [if_neg hm] at e; cases e
          rw [if_pos hm] at e
          injection e with e
          subst e
          obtain ⟨p, vs, e1, g1, g2⟩ := r.lr hx q
          cases hy
          have hlt : bs.idxOf b < bs.length := List.idxOf_lt_length_of_mem hm
          refine ⟨p, bs.map V.bl, .bl b, bs.idxOf b, .bl b, e1, rfl, by rw [← bls_ok g2 q2]; exact g1, rfl, flat_bl bs, ?_, by cases b <;> rfl, fun m z hm2 hz => ?_, k w _ r (Up.refl w) (.int _) trivial⟩
          · rw [List.getElem?_map, List.getElem?_eq_getElem hlt, List.getElem_idxOf hlt]
            rfl
          · rw [List.getElem?_map] at hz
            cases hb : bs[m]? with
            | none => rw [hb] at hz; cases hz
            | some c =>
              rw [hb] at hz
              injection hz with hz
              subst hz
              have hne : c ≠ b := fun z => by
                have hml : m < bs.length := (List.getElem?_eq_some_iff.mp hb).1
                have := List.not_of_lt_findIdx hm2
                rw [List.getElem?_eq_getElem hml] at hb
                injection hb with hb
                rw [hb, z] at this
                simp at this
              cases c <;> cases b <;> first | rfl | exact absurd rfl hne
        | _ => cases e
      | _ => cases e
/-! ### text.split(sep) -/
def opSplit (_ : S) : R → R → Option R
  | .d (.str a), .d (.str b) => if (b.length == 0) = false ∧ a.length ≤ LIM then some (.fr ((Txt.split a b).map D.str)) else none
  | _, _ => none
def mSplit (m1 m2 : Me) : Me := fun s => (m1 s).bind fun x s1 => match x with
  | .d (.str a) => (m2 s1).bind fun y s2 => ofR (opSplit s2 (.d (.str a)) y) s2
  | _ => .st
theorem reps_str {K : PySem.W.Frag} {w : Wd} : ∀ l : List Str, Reps K w (l.map V.str) (l.map D.str)
  | [] => .nil
  | a :: l => .cons (.str a) (reps_str l)
theorem d_split {o e : Expr} {apos : Pos} {m1 m2 : Me} (h1 : PE X o (tI X.K CA W m1)) (h2 : PE X e (tI X.K CA W m2)) (hs : starEach [e] X.env = [(false, eval e X.env)] := by rfl) (hbase : attributeBase o "split" X.env (eval o X.env) = eval o X.env := by rfl) (hline : (apos.endLine == pos.line) = true := by rfl) :
    PE X (.Call (.Attribute o "split" apos) [e] [] pos) (tI X.K CA W (mSplit m1 m2)) := by
  refine (pe_split h1 h2 hs hbase hline).weak fun σ H Q ⟨w0, w, s, eH, rel, q⟩ => ⟨w0, w, s, eH, rel, q.bind.imp (fun rx s1 _ q1 w1 x r1 u1 g1 f1 => ?_) fun x s1 q1 => q1⟩
  cases rx with
  | d z =>
    cases z with
    | str a =>
      cases g1
      have q1 := q1.bind
      refine ⟨⟨a, rfl⟩, w0, w1, s1, rfl, r1, q1.imp (fun ry s2 _ q2 w2 y r2 u2 g2 f2 => ?_) fun x s2 q2 w' cls d r' u' => q2 w' cls d r' (u1.trans u')⟩
      cases ry with
      | d z =>
        cases z with
        | str b =>
          cases g2
          have q2 : Wp (ofR (if (b.length == 0) = false ∧ a.length ≤ LIM then some (.fr ((Txt.split a b).map D.str)) else none) s2) _ _ := q2
          by_cases hc : (b.length == 0) = false ∧ a.length ≤ LIM
          case neg => rw [if_neg hc] at q2; exact q2.elim
          rw [if_pos hc] at q2
          refine ⟨a, b, rfl, rfl, hc.1, ?_, fun p hp => ?_⟩
          · have := hc.2
            have h3 : LIM + 2 ≤ sizeLine := by rw [sizeLine_eq]; decide
            omega
          · obtain ⟨w3, e3, r3, u3, h3, f3⟩ := r2.newL hp (reps_str (K := X.K) (w := w2) (Txt.split a b))
            rw [← e3]
            exact q2 w3 _ r3 ((u1.trans u2).trans u3) h3 (f3.of (u1.trans u2))
        | _ => exact q2.elim
      | _ => exact q2.elim
    | _ => exact q1.elim
  | _ => exact q1.elim
end
end Pm

set_option Elab.async false
set_option linter.all false
set_option maxRecDepth 100000
set_option maxHeartbeats 4000000
/-! PmM: a caught exception of the text's own: isinstance and its fields. -/
namespace Pm
open PySem L2
/-- isinstance(slot i, ..) of the exception at a -/
def mIsE (a dd : Addr) (i : Nat) (b : Bool) : Me := fun s => match s.env[i]? with
  | some (.exc a' dd' _) => if a' = a ∧ dd' = dd then .ok (.d (.bl b)) s else .st
  | _ => .st
/-- a field of it -/
def mFld (a dd : Addr) (i : Nat) (f : Str) : Me := fun s => match s.env[i]? with
  | some (.exc a' dd' fs) => if a' = a ∧ dd' = dd then (match fs.lookup f with
    | some d => .ok (.d d) s
    | none => .st) else .st
  | _ => .st
/-- the pinned exception: its class by number, its dict -/
structure Pin (X : Cx) (C a dd : Addr) : Prop where
  ex : ∃ oe vs, (a, oe) ∈ X.pn ∧ oe.cls = .ref C ∧ oe.dict = some dd ∧ oe.data = .fields vs
section
variable {X : Cx} {CA : Nat → Addr} {W : WX} {pos p : Pos} {C a dd : Addr}
theorem Pin.inst {pins : List (Addr × Obj)} {σ : L2.St} {H : Hp} {s : Shared} {fv : List (Str × V)} (T : Pin X C a dd) (I : Inv X pins σ H s) (h : H dd = some (.xd fv)) :
    ∃ oe od, PySem.W.InstAt s.heap a oe C (some od) ∧ ∀ n v, fv.lookup n = some v → ∃ u, PySem.W.lookIn n od = some (some u) ∧ RelV v u := by
  obtain ⟨oe, vs, hm, h1, h2, h3⟩ := T.ex
  have hx : ObjOk X.prog X.w H s.heap dd (.xd fv) := I.hok dd _ h
  obtain ⟨mA, hns, hr⟩ := hx
  obtain ⟨od, ho, hl⟩ := lookIn_ns hns
  refine ⟨oe, od, ⟨(I.pin (a, oe) (List.mem_append_left _ hm)).1, h1, ?_, by rw [h2]; exact ho⟩, fun n v hv => ?_⟩
  · unfold PySem.W.notCls
    rw [h3] <;> rfl
  · obtain ⟨u, e, ru⟩ := RelO.some_of (v := v) (o := mA n) (by rw [← hv]; exact hr n)
    exact ⟨u, by rw [hl, e], ru⟩
def rIsX (K : PySem.W.Frag) (C a dd : Addr) : List V → Hp → VK → Prop := fun xs H Q => ∃ (c : V) (cv : Value) (b : Bool) (fv : List (Str × V)), xs = [.ref a, c] ∧ (∀ u, RelV c u → u = cv) ∧ PySem.W.kitOne K (.ref C) cv = some b ∧ H dd = some (.xd fv) ∧ Q (.bl b) H
theorem call_isX (E : ExcC X.K C) (T : Pin X C a dd) : CallR X (.builtin "isinstance") (rIsX X.K C a dd) := by
  intro pins s σ H xs us Q I r h
  obtain ⟨c, cv, b, fv, rfl, hcv, e, hd, q⟩ := h
  cases r with
  | cons r1 r2 =>
    cases r2 with
    | cons r3 r4 =>
    cases r4
    cases r1
    obtain rfl := hcv _ r3
    obtain ⟨oe, od, J, _⟩ := T.inst I hd
    obtain ⟨cd, hcd, _⟩ := PySem.W.any_some E.hd
    exact PySem.W.kia_one (PySem.W.kitx_exc (by rw [hcd]; rfl) E.hg E.hk E.hs E.ha E.hn E.ht E.hm) I.kIn J e (fun z => nomatch z) fun tk => ⟨.bl b, H, I.kept (t' := tk) fun _ _ y => y, rfl, q⟩
theorem d_isX {x y z : Str} {qx qy : Pos} {i : Nat} {c : V} {cv : Value} {b : Bool} (E : ExcC X.K C) (T : Pin X C a dd) (hm : X.mg x = none) (hg : Gl X x) (hv : bootBuiltins x = some (.builtin "isinstance")) (h1 : PE X (.Name y qx) (tVar i)) (h2 : PE X (.Name z qy) (tC c))
    (hcv : ∀ u, RelV c u → u = cv) (hb : PySem.W.kitOne X.K (.ref C) cv = some b)
    (hn : x ≠ "__name__" := by decide) (hdb : (x == ("__debug__" : Str)) = false := by decide) (he : starEach [.Name y qx, .Name z qy] X.env = (false, eval (.Name y qx) X.env) :: starEach [.Name z qy] X.env := by rfl) (hpl : (backTo pos (starEach [.Name z qy] X.env)).any (·.1) = false := by rfl) :
    PE X (.Call (.Name x p) [.Name y qx, .Name z qy] [] pos) (tI X.K CA W (mIsE a dd i b)) := by
  refine (pe_callB (call_isX E T) hg hm hv (pa_cons h1 (pa_cons h2 pa_nil)) hn hdb he hpl).weak fun σ H Q ⟨w0, w, s, eH, rel, q⟩ => ?_
  subst eH
  unfold mIsE at q
  have hs := rel.sl i
  cases he : s.env[i]? with
  | none => rw [he] at q; exact q.elim
  | some sl =>
    rw [he] at q hs
    cases sl with
    | exc a' dd' fs =>
      dsimp only at q
      by_cases ha : a' = a ∧ dd' = dd
      case neg => rw [if_neg ha] at q; exact q.elim
      rw [if_pos ha] at q
      obtain ⟨g1, g2, fv, g3, g4⟩ := hs
      rw [ha.1] at g1
      rw [ha.2] at g3
      exact ⟨_, g1, c, cv, b, fv, rfl, hcv, hb, g3, q w _ rel (Up.refl w) (.bl b) trivial⟩
    | _ => exact q.elim
/-- slot i's field f -/
theorem fld_val {K : PySem.W.Frag} {w : Wd} {f : Str} {d : D} : ∀ {fv : List (Str × V)} {fs : List (Str × D)}, FldR K w fv fs → fs.lookup f = some d → ∃ v, fv.lookup f = some v ∧ Rep K w v d
  | [], [], _, e => by cases e
  | [], _ :: _, h, _ => h.elim
  | _ :: _, [], h, _ => h.elim
  | (n, v) :: fv, (m, e) :: fs, ⟨h1, h2, h3⟩, q => by
    rw [List.lookup_cons] at q ⊢
    subst h1
    cases hc : f == n with
    | true =>
      rw [hc] at q
      injection q with q
      subst q
      exact ⟨v, rfl, h2⟩
    | false =>
      rw [hc] at q
      exact fld_val h3 q
theorem d_fldX {y f : Str} {qy : Pos} {i : Nat} (E : XfC X.K C) (T : Pin X C a dd) (hno : PySem.W.findIn X.K (.ref C) f = some none) (h1 : PE X (.Name y qy) (tVar i)) (hb : attributeBase (.Name y qy) f X.env (eval (.Name y qy) X.env) = eval (.Name y qy) X.env := by rfl) :
    PE X (.Attribute (.Name y qy) f pos) (tI X.K CA W (mFld a dd i f)) := by
  refine ⟨fun pins s σ H Q I ⟨w0, w, st, eH, rel, q⟩ => ?_⟩
  subst eH
  unfold mFld at q
  have hs := rel.sl i
  cases he : st.env[i]? with
  | none => rw [he] at q; exact q.elim
  | some sl =>
    rw [he] at q hs
    cases sl with
    | exc a' dd' fs =>
      dsimp only at q
      by_cases ha : a' = a ∧ dd' = dd
      case neg => rw [if_neg ha] at q; exact q.elim
      rw [if_pos ha] at q
      cases hl : fs.lookup f with
      | none => rw [hl] at q; exact q.elim
      | some d =>
        rw [hl] at q
        obtain ⟨g1, g2, fv, g3, g4⟩ := hs
        rw [ha.1] at g1
        rw [ha.2] at g3
        obtain ⟨v, hv, rv⟩ := fld_val g4 hl
        refine attr_of hb (thn (h1.run pins s σ w.H (fun x H1 => x = .ref a ∧ H1 = w.H) I ⟨_, g1, rfl, rfl⟩) fun u s1 ⟨x, H1, I1, rx, ex, eh⟩ => ?_)
        subst ex
        subst eh
        obtain rfl : u = Value.ref a := rx
        obtain ⟨oe, od, J, hf⟩ := T.inst I1 g3
        obtain ⟨u2, e2, r2⟩ := hf f v hv
        exact HandSPX.exc_get I1.kIn J E.ga E.gg E.exC (PySem.W.findObj_own E.hdC hno rfl e2) (handed_of r2) ⟨v, w.H, I1.tok _, r2, q w v rel (Up.refl w) rv trivial⟩
    | _ => exact q.elim
end
end Pm

set_option Elab.async false
set_option linter.all false
set_option maxRecDepth 100000
set_option maxHeartbeats 4000000
/-! PmN: try; the defs that a caught exception is handed to. -/
namespace Pm
open PySem L2 PyProof.Rows
/-! ### try -/
def exS (ie : Nat) (a dd : Addr) (fs : List (Str × D)) (s : S) : S := { s with env := s.env.set ie (.exc a dd fs) }
def isU (o : Option Sl) : Bool := match o with
  | some .un => true
  | _ => false
/-- every exception is caught; slot ie has none while it does not hold it -/
def sTry (ie : Nat) (h : Xn → Ms) (body : Ms) : Ms := fun s => match body s with
  | .ex x s' => if isU s'.env[ie]? = true then (match h x s' with
    | .ok f s2 => if isU s2.env[ie]? = true then (match f with
      | .rt (.slt _) => .st
      | f => .ok f s2) else .st
    | _ => .st) else .st
  | o => o
section
variable {K : PySem.W.Frag} {CA : Nat → Addr} {w0 w : Wd} {s : S} {σ : L2.St}
theorem un_at {e : List Sl} {i : Nat} (h : isU e[i]? = true) : e[i]? = some .un := by
  cases q : e[i]? with
  | none => rw [q] at h; cases h
  | some b => rw [q] at h; cases b <;> first | rfl | cases h
theorem Rel.setExc {i : Nat} {a dd : Addr} {fs : List (Str × D)} (r : Rel K w0 w s σ) (hu : isU s.env[i]? = true) (h : w.I dd ∧ ∃ fv, w.H dd = some (.xd fv) ∧ FldR K w fv fs) :
    Rel K w0 w (exS i a dd fs s) (σ.set i (some (.ref a))) := by
  have hi := un_at hu
  have hlt : i < s.env.length := (List.getElem?_eq_some_iff.mp hi).1
  have sub : ∀ {j : Nat} {m : List D}, (s.env.set i (.exc a dd fs))[j]? = some (.own m) → i ≠ j ∧ s.env[j]? = some (.own m) := fun {j m} g => by
    by_cases n : i = j
    · subst n
      rw [List.getElem?_set_self hlt] at g
      cases g
    · rw [List.getElem?_set_ne n] at g
      exact ⟨n, g⟩
  refine { up := r.up, o0 := r.o0, len := by show (s.env.set i _).length = _; simp [r.len], sl := fun j => ?_, own := fun b h => ?_, dis := fun j k b l l' h1 h2 h3 h4 => ?_, oI := r.oI, aI := r.aI, iH := r.iH, nd := r.nd, st := r.st }
  · show SlRel K w0 w ((σ.set i (some (.ref a)))[j]?) ((s.env.set i (.exc a dd fs))[j]?)
    by_cases n : i = j
    · subst n
      rw [List.getElem?_set_self hlt, List.getElem?_set_self (by rw [← r.len]; exact hlt)]
      exact ⟨rfl, h⟩
    · rw [List.getElem?_set_ne n, List.getElem?_set_ne n]
      exact r.sl j
  · obtain ⟨j, l, g1, g2⟩ := r.own b h
    have n : i ≠ j := fun z => by rw [← z, hi] at g1; cases g1
    exact ⟨j, l, by show (s.env.set i _)[j]? = _; rw [List.getElem?_set_ne n]; exact g1, by rw [List.getElem?_set_ne n]; exact g2⟩
  · obtain ⟨n1, g1⟩ := sub h1
    obtain ⟨n2, g2⟩ := sub h2
    rw [List.getElem?_set_ne n1] at h3
    rw [List.getElem?_set_ne n2] at h4
    exact r.dis j k b l l' g1 g2 h3 h4
theorem exS_back {ie : Nat} {a dd : Addr} {fs : List (Str × D)} (hu : isU s.env[ie]? = true) : ({ exS ie a dd fs s with env := (exS ie a dd fs s).env.set ie .un } : S) = s := by
  have hi := un_at hu
  have hlt : ie < s.env.length := (List.getElem?_eq_some_iff.mp hi).1
  cases s with
  | mk env mem =>
    show ({ env := (env.set ie (.exc a dd fs)).set ie .un, mem := mem } : S) = _
    congr 1
    rw [List.set_set]
    apply List.ext_getElem?
    intro j
    by_cases n : ie = j
    · subst n
      rw [List.getElem?_set_self hlt]
      exact hi.symm
    · rw [List.getElem?_set_ne n]
end
section
variable {X : Cx} {CA : Nat → Addr} {W : WX} {pos : Pos}
theorem k_try {x n : Str} {c : Value} {i : Nat} {body suite : List Stmt} {b₀ : Stmt} {np pos' : Pos} {b : Ms} {h : Xn → Ms} {su : Addr → Addr → Nat → Ms}
    (hs : X.stack = X.env :: X.outer) (hf : X.env.frame = some X.env.locals) (hN : X.N.Nodup) (hi : X.N[i]? = some n) (hln : X.env.kindOf n = some .local) (hc : Names X x c) (tk : L2.Takes X W)
    (hb : ∀ (W : WX) (pn : List (Addr × Obj)) (xe : Value → Shared → Prop), L2.Takes (X.tr pn xe) W → PassesOwn (model X.prog X.w) X.A X.env xe → PSs (X.tr pn xe) body (tS X.K CA W b))
    (hx : ∀ k : Nat, PySem.W.exmOne X.K (.ref (CA k)) c = some true)
    (hsu : ∀ (a dd : Addr) (k : Nat) (oe : Obj) (pn : List (Addr × Obj)), Pin (X.suite a ((a, oe) :: pn)) (CA k) a dd → PSs (X.suite a ((a, oe) :: pn)) (b₀ :: suite) (tS X.K CA (fun _ _ _ _ => False) (su a dd k)))
    (hE : ∀ (a dd : Addr) (y : Xn) (s : S), (∃ f s2, h y s = .ok f s2) → su a dd y.cls (exS i a dd y.fs s) = (match h y s with
      | .ok f s2 => .ok f (exS i a dd y.fs s2)
      | o => o)) :
    PS X (.Try body [.ExceptHandler (some (.Name x np)) (some n) (b₀ :: suite) pos'] [] [] pos) (tS X.K CA W (sTry i h b)) := by
  refine (L2.ps_try_as (tb := fun W => tS X.K CA W b) (ts := fun a cls d E σ H => ∃ k dd, cls = .ref (CA k) ∧ d = some dd ∧ tS X.K CA (fun _ _ _ _ => False) (su a dd k) E σ H) (Wout := W)
    hs hf hN hi hln hc tk hb (fun a oe cls d pn hz hv => ⟨fun pins s σ H D I ⟨k, dd, e1, e2, q⟩ => ?_⟩)).weak fun D σ H ⟨w0, w, s, eH, r, q⟩ => ⟨w0, w, s, eH, r, ?_⟩
  · obtain ⟨vs, hv⟩ := hv
    exact (hsu a dd k oe pn ⟨oe, vs, List.mem_cons_self, by rw [hz.1, e1], by rw [hz.2, e2], hv⟩).run pins s σ H D I q
  · unfold sTry at q
    cases hbs : b s with
    | st => rw [hbs] at q; exact q.elim
    | ok f s' => rw [hbs] at q; exact q
    | ex y s' =>
      rw [hbs] at q
      dsimp only at q
      by_cases hu : isU s'.env[i]? = true
      case neg => rw [if_neg hu] at q; exact q.elim
      rw [if_pos hu] at q
      cases hh : h y s' with
      | st => rw [hh] at q; exact q.elim
      | ex _ _ => rw [hh] at q; exact q.elim
      | ok f s2 =>
        rw [hh] at q
        dsimp only at q
        by_cases hu2 : isU s2.env[i]? = true
        case neg => rw [if_neg hu2] at q; exact q.elim
        rw [if_pos hu2] at q
        intro w' σ' cls d r' u' ⟨g1, dd, fv, g2, g3, g4⟩
        refine ⟨true, by rw [g1]; exact hx y.cls, fun _ a ha => ⟨y.cls, dd, g1, g2, ?_⟩, fun z => Bool.noConfusion z⟩
        have rel2 := r'.setExc (a := a) (fs := y.fs) hu ⟨g3.1, fv, g3.2, g4⟩
        refine ⟨w0, w', _, rfl, rel2, ?_⟩
        rw [hE a dd y s' ⟨f, s2, hh⟩, hh]
        have bk : ∀ {w3 : Wd} {σ3 : L2.St}, Rel X.K w0 w3 (exS i a dd y.fs s2) σ3 → Up w' w3 → ∃ w4, w4.H = w3.H ∧ Rel X.K w0 w4 s2 (σ3.set i none) ∧ Up w w4 ∧ Ext w3 w4 ∧ Up w3 w4 ∧ ∀ a, w4.O a → w3.O a := fun {w3 σ3} r3 u3 => by
          obtain ⟨w4, e4, r4, u4, x4, o4⟩ := r3.setUn i
          rw [exS_back hu2] at r4
          exact ⟨w4, e4, r4, (u'.trans u3).trans u4, x4, u4, o4⟩
        cases f with
        | nx =>
          intro w3 σ3 r3 u3
          obtain ⟨w4, e4, r4, u4, _⟩ := bk r3 u3
          rw [← e4]
          exact q w4 _ r4 u4
        | bk =>
          intro w3 σ3 r3 u3
          obtain ⟨w4, e4, r4, u4, _⟩ := bk r3 u3
          rw [← e4]
          exact q w4 _ r4 u4
        | ct =>
          intro w3 σ3 r3 u3
          obtain ⟨w4, e4, r4, u4, _⟩ := bk r3 u3
          rw [← e4]
          exact q w4 _ r4 u4
        | rt rr =>
          cases rr with
          | slt j => exact q.elim
          | d z =>
            intro w3 σ3 v r3 u3 g h
            obtain ⟨w4, e4, r4, u4, x4, _, o4⟩ := bk r3 u3
            rw [← e4]
            exact q w4 _ v r4 u4 (Rep.ext x4 g) trivial
          | fr l =>
            intro w3 σ3 v r3 u3 g h
            obtain ⟨w4, e4, r4, u4, x4, u5, o4⟩ := bk r3 u3
            rw [← e4]
            obtain ⟨p, vs, k1, k2, k3, k4, k5, k6⟩ := g
            refine q w4 _ v r4 u4 ⟨p, vs, k1, by rw [e4]; exact k2, Reps.ext x4 k3, fun z => ?_, fun z => ?_, fun z => k6 (o4 p z)⟩ h
            · rcases u5.fz p z with z | z | z
              · exact k4 z
              · rw [z] at k2; cases k2
              · exact k6 z
            · rcases u5.new p z with z | z
              · exact k5 z
              · rw [z] at k2; cases k2
end
end Pm

set_option Elab.async false
set_option linter.all false
set_option maxRecDepth 100000
set_option maxHeartbeats 4000000
/-! PmO: the defs that a caught exception is handed to. -/
namespace Pm
open PySem PySem.Spec L2 PyProof.Rows
/-- what such a def promises; CC: the class's address -/
structure FnE (P : Program) (w : World) (K : PySem.W.Frag) (mg : Str → Option Value) (base : Heap) (CA : Nat → Addr) (k : Nat) (f : Addr) (fd : FuncData) (ps : List Str) (sp : Addr → Addr → Nat → Sp) : Prop where
  len : ∀ a dd c vs H Q E, sp a dd c vs H Q E → vs.length = ps.length
  run : ∀ (A : Around) (outer : List Env) (s : Shared) (H : Hp) (args : Args) (us : List Value) (vs : List V) (Q : VK) (E : XK) (a dd : Addr) (c : Nat) (oe : Obj) (ws : Array Value), L2H.RoomH k A → L2H.PinOk outer H s (a, oe) → oe.cls = .ref (CA c) → oe.dict = some dd → oe.data = .fields ws →
    Env0 P w K mg base A outer s H → BindsTo s fd args (ps.zip us) → Vals vs us → sp a dd c vs H Q E → codeAny (model P w) A (.call (.ref f) args) (CR CX0 outer P w H s Q E) s
section
variable {P : Program} {w : World} {K : PySem.W.Frag} {mg : Str → Option Value} {base : Heap} {CA : Nat → Addr} {x qual : Str} {params : Arguments} {body : List Stmt} {scope : Scope} {f : Addr} {fd : FuncData} {N ps : List Str} {k : Nat} {sp : Addr → Addr → Nat → Sp}
theorem fn_okE (F : FunD K x qual params body scope [] [] f fd) (S : FnScope N ps scope) (len : ∀ a dd c vs H Q E, sp a dd c vs H Q E → vs.length = ps.length)
    (hbody : ∀ (cdv : Value) (A : Around) (outer : List Env) (s : Shared) (H : Hp) (vs : List V) (Q : VK) (E : XK) (a dd : Addr) (c : Nat) (oe : Obj), Pin (L2H.cxH CX0 P w K mg base N qual scope f cdv A outer s H E (a, oe)) (CA c) a dd →
      L2H.RoomH k (A.deeper (envOfC qual scope s.heap.objs.size f cdv)) → sp a dd c vs H Q E → ∃ t, PSs (L2H.cxH CX0 P w K mg base N qual scope f cdv A outer s H E (a, oe)) body t ∧ t { nx := fun _ H' => Q .non H', rt := Q } (L2.start N vs) H) :
    FnE P w K mg base CA (k + 1) f fd ps sp := by
  obtain ⟨oc, od, dV, kV, doc, pm, an, cdv, ct, osl, rfl, lk, hcd, _, _⟩ := F.ex
  refine ⟨len, fun A outer s H args us vs Q E a dd c oe ws room pin e1 e2 e3 env bt vals spec => ?_⟩
  have nl : s.heap.NoLimit := env.mod.nolimit.keeps fun b o q => (env.bs b o q).1
  have kin : K.In s.heap := env.mod.kin.keeps fun b o q => (env.bs b o q).1
  have kinds : ∀ y ∈ ps.zip us, scope.names.lookup y.1 = some .local ∨ (scope.names.lookup y.1 = some .cell ∧ ((cellsFrom (s.heap.objs.size + 1) scope.names []).lookup y.1).isSome = true) := by
    rintro ⟨y1, y2⟩ hy
    cases S.par y1 (List.of_mem_zip hy).1 with
    | inl q => exact Or.inl q
    | inr q => exact Or.inr ⟨q, PySem.W.cellsFrom_some _ _ _ (Or.inl q)⟩
  refine codeAny_call_function room.depth (kin _ _ lk) rfl S.co S.gen rfl (PySem.W.codeRec_of kin hcd) (bt _ _ _ _ (wpAny_newFunctionEnv_cells S.kind kinds fun env' he s1 st => ?_))
  subst he
  refine And.intro (nl.keeps st.toInCall.keep) (codeAny_func ?_)
  obtain ⟨t, ht, tq⟩ := hbody cdv A outer s H vs Q E a dd c oe ⟨oe, ws, List.mem_cons_self, e1, e2, e3⟩ (room.deeper _) spec
  have J := L2H.inv_startH (CX := CX0) (E := E) S pin env (len _ _ _ _ _ _ _ spec) vals st
  refine wpAny_mono (ht.run [] s1 (L2.start N vs) H _ J tq) ?_ (fun _ _ z => z)
  intro fl s2 hfl
  match fl, hfl with
  | .ret u, ⟨v, σ2, H2, J2, rv, q⟩ => exact ⟨v, H2, J2.os, J2.bare, J2.base, J2.hok, rv, q⟩
  | .next, ⟨σ2, H2, J2, q⟩ => exact ⟨V.non, H2, J2.os, J2.bare, J2.base, J2.hok, rfl, q⟩
  | .brk, ⟨_, _, _, q⟩ => exact q.elim
  | .cont, ⟨_, _, _, q⟩ => exact q.elim
end
section
variable {X : Cx} {CA : Nat → Addr} {W : WX} {pos p : Pos} {k : Nat} {f : Addr} {fd : FuncData} {ps : List Str} {sp : Addr → Addr → Nat → Sp}
theorem run_fnE {pins : List (Addr × Obj)} {σ : L2.St} {H : Hp} {s : Shared} {Q : VK} {E : XK} {us : List Value} {vs : List V} {a dd : Addr} {c : Nat} (F : FnE X.prog X.w X.K X.mg X.base CA k f fd ps sp) (hr : L2H.RoomH k X.A) (T : Pin X (CA c) a dd) (hb : Binds X.K fd ps [])
    (I : Inv X pins σ H s) (r : Vals vs us) (h : sp a dd c vs H Q E) : wpAny (model X.prog X.w) X.A (call (.ref f) us) (EP X pins σ Q) X.xe s := by
  obtain ⟨oe, ws, hm, h1, h2, h3⟩ := T.ex
  have ul : us.length = ps.length := r.length.symm.trans (F.len _ _ _ _ _ _ _ h)
  have bt := hb s us I.kIn (by rw [List.append_nil]; exact ul)
  rw [List.append_nil] at bt
  obtain ⟨g1, g2, g3, g4, g5⟩ := I.pin (a, oe) (List.mem_append_left _ hm)
  have pin : L2H.PinOk X.stack H s (a, oe) := ⟨g1, g2, fun z => by
    rcases List.mem_cons.mp (I.stkSub a z) with y | y
    · exact g3 y
    · exact g4 y, g5⟩
  refine wpAny_call (codeAny_mono (F.run X.A X.stack s H ⟨us, []⟩ us vs Q E a dd c oe ws hr pin h1 h2 h3 I.env0 bt r h) ?_)
  intro rr s2 hq
  match rr, hq with
  | .ok (.ret u), hq => exact I.after hq
  | .ok .next, hq => exact hq.elim
  | .ok .brk, hq => exact hq.elim
  | .ok .cont, hq => exact hq.elim
  | .error e, hq => exact hq.elim
/-- such a def as a suite knows it: g is what it computes -/
structure ClE (P : Program) (w : World) (K : PySem.W.Frag) (mg : Str → Option Value) (base : Heap) (CA : Nat → Addr) (x : Str) (np : Nat) (g : Addr → Addr → Nat → List Arg → List (List D) → Fo) : Prop where
  ex : ∃ f fd ps, FnE P w K mg base CA 1 f fd ps (fun a dd c => spF K CA (fun _ => g a dd c) 0 np) ∧ mg x = some (.ref f) ∧ PySem.W.keepIn K (.ref f) = true ∧ Binds K fd ps []
  ar : ∀ a dd c as m, as.length ≠ np → g a dd c as m = .st
theorem k_callE {x : Str} {e : Expr} {es : List Expr} {ms : Ma} {np c : Nat} {a dd : Addr} {g : Addr → Addr → Nat → List Arg → List (List D) → Fo} (cl : ClE X.prog X.w X.K X.mg X.base CA x np g) (T : Pin X (CA c) a dd) (hr : L2H.RoomH 1 X.A) (hg : Gl X x) (ha : PA X (e :: es) (tA X.K CA W ms))
    (hdb : (x == ("__debug__" : Str)) = false := by decide) (he : starEach (e :: es) X.env = (false, eval e X.env) :: starEach es X.env := by rfl) (hpl : (backTo pos (starEach es X.env)).any (·.1) = false := by rfl) :
    PE X (.Call (.Name x p) (e :: es) [] pos) (tI X.K CA W (mCall (fun _ => g a dd c) 0 ms)) := by
  obtain ⟨f, fd, ps, F, c2, c3, c4⟩ := cl.ex
  refine d_call (np := np) ⟨fun pins s σ H Q I h => ?_⟩ (fun as m => cl.ar a dd c as m)
  refine wpAny_Call_Name_kw (ld_glob I hg c2 (PySem.W.callWith_K (h₀ := X.base) I.ok.mod.kin c3 (thn (ha.run pos pins s σ H _ I h) fun us s1 y => ?_) he hpl) hdb)
  obtain ⟨vs, H1, I1, r, q⟩ := y
  exact ⟨I1.kIn, run_fnE F hr T c4 I1 r q⟩
end
end Pm

set_option Elab.async false
set_option linter.all false
set_option maxRecDepth 100000
set_option maxHeartbeats 4000000
/-! PmP: the suite that tells an exception's name and attributes. -/
namespace Pm
open PySem L2
theorem _root_.L2H.RoomH.units {k : Nat} {A : Around} (r : L2H.RoomH k A) : A.units + 64 < cLine := by
  have := r.un
  omega
theorem roomH_mark {k : Nat} {A : Around} {v : Option Value} (r : Room k A) : L2H.RoomH k (A.mark v) := ⟨r.dp, r.un⟩
abbrev HotG := Addr → Addr → Nat → List Arg → List (List D) → Fo
/-- name = _law_named(e); return ["raised", name, _law_attributes(e, name)] -/
def suT (gN gA : HotG) (ie ina : Nat) (a dd : Addr) (c : Nat) : Ms :=
  sSeq (sSet ina (mCall (fun _ => gN a dd c) 0 (aCons (mVar ie) aNil))) (sRet (mLst (aCons (mC (.str "raised")) (aCons (mVar ina) (aCons (mCall (fun _ => gA a dd c) 0 (aCons (mVar ie) (aCons (mVar ina) aNil))) aNil)))))
def hT (nm : Nat → Option Str) (fld : Nat → List Str) (ie ina : Nat) (y : Xn) : Ms := fun s => match nm y.cls with
  | some n => if y.fs.map (·.1) = fld y.cls ∧ ina < s.env.length ∧ isU s.env[ie]? = true then .ok (.rt (.fr [.str "raised", .str n, .tup (y.fs.map (·.2))])) { s with env := s.env.set ina (.val (.str n)) } else .st
  | none => .st
theorem ev_e {s : S} {ie : Nat} {a dd : Addr} {fs : List (Str × D)} (h : s.env[ie]? = some (.exc a dd fs)) : mVar ie s = .ok (.slt ie) s ∧ R.arg s (.slt ie) = some (.exc a dd fs) := by
  constructor
  · unfold mVar
    rw [h]
  · show (match s.env[ie]? with
      | some (.own l) => some (Arg.bor l)
      | some (.bor l) => some (Arg.bor l)
      | some (.ro l) => some (Arg.ro l)
      | some (.exc a dd fs) => some (Arg.exc a dd fs)
      | _ => none) = _
    rw [h]
theorem ev_v {s : S} {i : Nat} {d : D} (h : s.env[i]? = some (.val d)) : mVar i s = .ok (.d d) s := by
  unfold mVar
  rw [h]
theorem ev_call1 {s : S} {ie : Nat} {a dd : Addr} {fs : List (Str × D)} {g : List Arg → List (List D) → Fo} {z : D} (h : s.env[ie]? = some (.exc a dd fs)) (hg : g [.exc a dd fs] s.mem = .ok (.d z) s.mem) :
    mCall (fun _ => g) 0 (aCons (mVar ie) aNil) s = .ok (.d z) s := by
  obtain ⟨h1, h2⟩ := ev_e h
  have e1 : aCons (mVar ie) aNil s = .ok [.slt ie] s := by
    show (mVar ie s).bind _ = _
    rw [h1]
    rfl
  show (aCons (mVar ie) aNil s).bind _ = _
  rw [e1]
  show (match (match R.arg s (.slt ie), toArgs s [] with
    | some x, some xs => some (x :: xs)
    | _, _ => none) with
    | some as => fromFo (g as s.mem) s
    | none => .st) = _
  rw [h2]
  show fromFo (g [.exc a dd fs] s.mem) s = _
  rw [hg]
  rfl
theorem ev_call2 {s : S} {ie i : Nat} {a dd : Addr} {d : D} {fs : List (Str × D)} {g : List Arg → List (List D) → Fo} {z : D} (h : s.env[ie]? = some (.exc a dd fs)) (h' : s.env[i]? = some (.val d)) (hg : g [.exc a dd fs, .val d] s.mem = .ok (.d z) s.mem) :
    mCall (fun _ => g) 0 (aCons (mVar ie) (aCons (mVar i) aNil)) s = .ok (.d z) s := by
  obtain ⟨h1, h2⟩ := ev_e h
  have h3 := ev_v h'
  have e1 : aCons (mVar ie) (aCons (mVar i) aNil) s = .ok [.slt ie, .d d] s := by
    show (mVar ie s).bind _ = _
    rw [h1]
    show ((mVar i s).bind _).bind _ = _
    rw [h3]
    rfl
  show (aCons (mVar ie) (aCons (mVar i) aNil) s).bind _ = _
  rw [e1]
  show (match (match R.arg s (.slt ie), toArgs s [.d d] with
    | some x, some xs => some (x :: xs)
    | _, _ => none) with
    | some as => fromFo (g as s.mem) s
    | none => .st) = _
  rw [h2]
  show fromFo (g [.exc a dd fs, .val d] s.mem) s = _
  rw [hg]
  rfl
theorem suT_eq {gN gA : HotG} {nm : Nat → Option Str} {fld : Nat → List Str} {ie ina : Nat} (hne : ie ≠ ina)
    (eN : ∀ a dd c n fs m, nm c = some n → fs.map (·.1) = fld c → gN a dd c [.exc a dd fs] m = .ok (.d (.str n)) m)
    (eA : ∀ a dd c n fs m, nm c = some n → fs.map (·.1) = fld c → gA a dd c [.exc a dd fs, .val (.str n)] m = .ok (.d (.tup (fs.map (·.2)))) m)
    (a dd : Addr) (y : Xn) (s : S) (h : ∃ f s2, hT nm fld ie ina y s = .ok f s2) : suT gN gA ie ina a dd y.cls (exS ie a dd y.fs s) = (match hT nm fld ie ina y s with
      | .ok f s2 => .ok f (exS ie a dd y.fs s2)
      | o => o) := by
  unfold hT at h ⊢
  cases hn : nm y.cls with
  | none => rw [hn] at h; obtain ⟨_, _, h⟩ := h; cases h
  | some n =>
    rw [hn] at h
    dsimp only at h ⊢
    by_cases hc : y.fs.map (·.1) = fld y.cls ∧ ina < s.env.length ∧ isU s.env[ie]? = true
    case neg => rw [if_neg hc] at h; obtain ⟨_, _, h⟩ := h; cases h
    rw [if_pos hc]
    dsimp only
    obtain ⟨h1, h2, h3⟩ := hc
    have hlt : ie < s.env.length := (List.getElem?_eq_some_iff.mp (un_at h3)).1
    have g1 : (exS ie a dd y.fs s).env[ie]? = some (.exc a dd y.fs) := by
      show (s.env.set ie _)[ie]? = _
      rw [List.getElem?_set_self hlt]
    have s1 := ev_call1 g1 (eN a dd y.cls n y.fs s.mem hn h1)
    have g2 : (setVal (exS ie a dd y.fs s) ina (.val (.str n))).env[ie]? = some (.exc a dd y.fs) := by
      show ((s.env.set ie _).set ina _)[ie]? = _
      rw [List.getElem?_set_ne (Ne.symm hne), List.getElem?_set_self hlt]
    have g3 : (setVal (exS ie a dd y.fs s) ina (.val (.str n))).env[ina]? = some (.val (.str n)) := by
      show ((s.env.set ie _).set ina _)[ina]? = _
      rw [List.getElem?_set_self (by simp; exact h2)]
    have s2 := ev_call2 g2 g3 (eA a dd y.cls n y.fs s.mem hn h1)
    have v3 := ev_v g3
    show ((mCall (fun _ => gN a dd y.cls) 0 (aCons (mVar ie) aNil) (exS ie a dd y.fs s)).bind _).bind _ = _
    rw [s1]
    show ((((Ou.ok (R.d (.str "raised")) (setVal (exS ie a dd y.fs s) ina (.val (.str n)))).bind fun x s1 => (aCons (mVar ina) (aCons (mCall (fun _ => gA a dd y.cls) 0 (aCons (mVar ie) (aCons (mVar ina) aNil))) aNil) s1).bind fun xs s2 => .ok (x :: xs) s2)).bind _).bind _ = _
    have e3 : aCons (mVar ina) (aCons (mCall (fun _ => gA a dd y.cls) 0 (aCons (mVar ie) (aCons (mVar ina) aNil))) aNil) (setVal (exS ie a dd y.fs s) ina (.val (.str n))) = .ok [.d (.str n), .d (.tup (y.fs.map (·.2)))] (setVal (exS ie a dd y.fs s) ina (.val (.str n))) := by
      show (mVar ina _).bind _ = _
      rw [v3]
      show (((mCall (fun _ => gA a dd y.cls) 0 (aCons (mVar ie) (aCons (mVar ina) aNil)) _).bind _).bind _) = _
      rw [s2]
      rfl
    show ((((aCons (mVar ina) (aCons (mCall (fun _ => gA a dd y.cls) 0 (aCons (mVar ie) (aCons (mVar ina) aNil))) aNil) (setVal (exS ie a dd y.fs s) ina (.val (.str n)))).bind fun xs s2 => .ok (R.d (.str "raised") :: xs) s2)).bind _).bind _ = _
    rw [e3]
    show Ou.ok (Fl.rt (R.fr [D.str "raised", .str n, .tup (y.fs.map (·.2))])) (setVal (exS ie a dd y.fs s) ina (.val (.str n))) = Ou.ok _ (exS ie a dd y.fs { s with env := s.env.set ina (.val (.str n)) })
    congr 1
    unfold setVal exS
    rw [List.set_comm _ _ hne]
end Pm

set_option Elab.async false
set_option linter.all false
set_option maxRecDepth 100000
set_option maxHeartbeats 4000000
/-! PmQ: what the program's start gives, by tests that the kernel runs. -/
namespace Pm
open PySem PySem.Spec PyProof.Rows L2
/-! ### a class of exceptions of the text's own -/
def fdB (K : PySem.W.Frag) (C : Addr) (f : Str) (v : Option Value) : Bool := decide (PySem.W.findIn K (.ref C) f = some v)
def isVE (s : String) : Bool := s == "ValueError.__new__"
def oexB (K : PySem.W.Frag) (C : Addr) : Bool := (match K.lookup C with
  | some ⟨.type t, _, .cls cd, sl⟩ => (match cd.mro, sl.toList with
    | .ref C' :: bm, [_, _, _, _, some (.builtin n), _] => decide (t = "type") && (decide (C' = C) && (decide (n = "ValueError.__new__") && (!cd.hasDel && (cd.hasDict && PySem.HandSPX.refsVE bm))))
    | _, _ => false)
  | _ => false) && (fdB K C "__setattr__" (some (.builtin "object.__setattr__")) && (decide (PySem.W.subIn K (.ref C) (.type "BaseException") = some true) && (decide (PySem.W.typeIn K (.ref C) = some (.type "type")) && PySem.W.keepIn K (.ref C))))
theorem oexB_ok {K : PySem.W.Frag} {C : Addr} (h : oexB K C = true) : OexC K C := by
  unfold oexB at h
  simp only [Bool.and_eq_true, decide_eq_true_eq] at h
  obtain ⟨h0, h1, h2, h3, h4⟩ := h
  refine ⟨?_, of_decide_eq_true h1, h2, h3, h4⟩
  split at h0
  · rename_i t dd cd sl hk
    split at h0
    · rename_i C' bm k0 k1 k2 k3 n k5 hm hs
      simp only [Bool.and_eq_true, decide_eq_true_eq, Bool.not_eq_true'] at h0
      obtain ⟨rfl, rfl, rfl, g1, g2, g3⟩ := h0
      obtain ⟨nm, bs, mro, ns, qn, hd, sn, sub, ab, col, del⟩ := cd
      dsimp only at hm g1 g2
      subst hm g1 g2
      have es : sl = #[k0, k1, k2, k3, some (.builtin "ValueError.__new__"), k5] := by
        obtain ⟨l⟩ := sl
        simp only at hs
        rw [hs]
      subst es
      exact ⟨_, _, _, _, _, _, _, _, _, _, _, _, _, _, _, hk, g3⟩
    · cases h0
  · cases h0
def excB (K : PySem.W.Frag) (D : Addr) : Bool := fdB K D "__getattribute__" (some (.builtin "BaseException.__getattribute__")) && (fdB K D "__getattr__" none && (decide (PySem.W.subIn K (.ref D) (.type "BaseException") = some true) && (PySem.W.hasDictIn K D && (fdB K D "__class__" (some (.builtin "object.__class__")) &&
  (decide (PySem.W.specialIn K (.builtin "object.__class__") "__get__" = some (some (.builtin "getset_descriptor.__get__"))) && (decide (PySem.W.takesIn K (.builtin "object.__class__") = some true) && decide (PySem.W.mroIn K D (.type "object") = some true)))))))
theorem excB_ok {K : PySem.W.Frag} {D : Addr} (h : excB K D = true) : ExcC K D ∧ XfC K D := by
  unfold excB fdB at h
  simp only [Bool.and_eq_true, decide_eq_true_eq] at h
  obtain ⟨h1, h2, h3, h4, h5, h6, h7, h8⟩ := h
  exact ⟨⟨h1, h2, h3, h4, h5, h6, h7, h8⟩, ⟨h1, h2, h3, h4⟩⟩
/-- its __init__ that stores one argument -/
def iniB (K : PySem.W.Frag) (x f : Str) : Bool := decide (PySem.W.findIn K (.ref (He.ga K x)) "__init__" = some (some (.ref (He.ma K (He.ga K x) "__init__")))) && (decide (PySem.W.typeIn K (.ref (He.ma K (He.ga K x) "__init__")) = some (.type "function")) && fdB K (He.ga K x) f none)
section
variable {K : PySem.W.Frag} {mg : Str → Option Value}
theorem xc_ok {x f fn : Str} {qual : Str} {params : Arguments} {body : List Stmt} {scope : Scope} {fd : FuncData} {p1 p2 p3 pos : Pos} (ho : oexB K (He.ga K x) = true) (hi : iniB K x f = true) (hm : mg x = some (.ref (He.ga K x)))
    (F : FunD K "__init__" qual params body scope [] [] (He.ma K (He.ga K x) "__init__") fd) (S : FnScope ["self", fn] ["self", fn] scope) (hb : body = [.Assign [.Attribute (.Name "self" p1) f p2] (.Name fn p3) pos])
    (hdb : (fn == ("__debug__" : Str)) = false) (hcd : (fn == ("__classdict__" : Str)) = false) (h0 : scope.names.lookup ("self" : Str) = some .local) (h1 : scope.names.lookup fn = some .local)
    (bind : ∀ (kV doc pm : Value) (an : Option Addr) (cdv ct : Value) (us : List Value), us.length = 2 → bindArgs (PySem.W.fnOf "__init__" qual params body scope .none kV doc pm an cdv ct) ⟨us, []⟩ = pure ((["self", fn] : List Str).zip us)) :
    ∀ P w base, Xc P w K mg base x (He.ga K x) f := by
  intro P w base
  unfold iniB fdB at hi
  simp only [Bool.and_eq_true, decide_eq_true_eq] at hi
  obtain ⟨i1, i2, i3⟩ := hi
  have T := oexB_ok ho
  refine ⟨T, hm, _, fd, ["self", fn], i1, i2, ?_, F.bindsN (ps := ["self", fn]) bind⟩
  refine F.ok S (fun vs H Q E h => ?_) (fun cdv A outer s H vs Q E hr h => ⟨_, ?_, init_ok T i3 h ["self", fn]⟩)
  · obtain ⟨a, v, rfl, _⟩ := h
    rfl
  · rw [hb]
    exact pss_one (ps_ost (pe_var rfl (Or.inl h0)) (pe_var rfl (Or.inl h1) hdb hcd))
end
end Pm

set_option Elab.async false
set_option linter.all false
set_option maxRecDepth 100000
set_option maxHeartbeats 4000000
/-! PmR: the Hook with tests of one's own; the levels. -/
namespace Pm
open PySem PySem.Spec PyProof.Rows L2
abbrev AlQ : Type := Bool × He.AlD
def obsQ (n : Nat) (B : PySem.W.Frag → Bool) (fa : List He.Fa) (fn : List He.DefD) (g : Addr → Option Obj) : AlQ := (B (He.frG g (He.asD g n)), He.obsD fa fn (He.frG g (He.asD g n)))
def SaysQ (B : PySem.W.Frag → Bool) (fa : List He.Fa) (fn : List He.DefD) (K : PySem.W.Frag) : Prop := B K = true ∧ He.SaysD fa fn K
def hookQ (n : Nat) (B : PySem.W.Frag → Bool) (fa : List He.Fa) (fn : List He.DefD) : PySem.W.Hook where
  α := AlQ
  obs := fun s => obsQ n B fa fn s.heap.get?
  val := fun _ => (true, He.valD fn)
  says := fun _ h => ∃ K : PySem.W.Frag, K.In h ∧ SaysQ B fa fn K
  of := fun w s e => ⟨He.frG s.heap.get? (He.asD s.heap.get? n), He.frG_in, congrArg Prod.fst e, congrArg Prod.snd e⟩
  keeps := fun _ _ _ ⟨K, hK, c⟩ k => ⟨K, PySem.W.Frag.In.keeps hK k, c⟩
theorem obsQ_eq {n : Nat} {B : PySem.W.Frag → Bool} {fa : List He.Fa} {fn : List He.DefD} {g : Addr → Option Obj} {s : Shared} (h : ∀ a, g a = s.heap.get? a) : obsQ n B fa fn g = (hookQ n B fa fn).obs s := by
  rw [show g = s.heap.get? from funext h]
  rfl
theorem calm_ok {P : Program} {w : World} {K : PySem.W.Frag} {mg : Str → Option Value} {base : Heap} {k : Nat} {f : Addr} {fd : FuncData} {ps : List Str} {sp : Sp} (F : FnOk P w K mg base (L2.CX P w) k f fd ps sp) :
    FnOk P w K mg base CX0 k f fd ps (fun vs H Q _ => sp vs H Q fun _ _ _ => False) :=
  ⟨fun vs H Q _ h => F.len vs H Q _ h, fun A outer s H args us vs Q _ hr e0 hb r h => codeAny_mono (F.run A outer s H args us vs Q _ hr e0 hb r h) fun rr s' q => by
    match rr, q with
    | .ok (.ret u), q => exact q
    | .ok .next, q => exact q
    | .ok .brk, q => exact q
    | .ok .cont, q => exact q
    | .error e, q =>
      obtain ⟨_, _, _, _, _, _, _, _, _, _, _, _, z⟩ := q
      exact z.elim⟩
/-- at depth 0 nothing is promised -/
theorem fn_zero {P : Program} {w : World} {K : PySem.W.Frag} {mg : Str → Option Value} {base : Heap} {CA : Nat → Addr} {tab : Nat → Option Fn} {k j np : Nat} {f : Addr} {fd : FuncData} {ps : List Str} : FnOk P w K mg base (L2.CX P w) k f fd ps (spF K CA (FF tab 0) j np) :=
  ⟨fun vs H Q E ⟨_, _, _, _, _, _, _, h⟩ => h.elim, fun _ _ _ _ _ _ _ _ _ _ _ _ _ ⟨_, _, _, _, _, _, _, h⟩ => h.elim⟩
/-- a def of the text as the head tells it -/
structure Df (K : PySem.W.Frag) (mg : Str → Option Value) (x : Str) (st : Stmt) (ps : List Str) : Prop where
  ex : ∃ f fd, FunD K x x (defArgs st) (defBody st) (defScope st) [] [] f fd ∧ mg x = some (.ref f) ∧ Binds K fd ps []
theorem ar_ok {tab : Nat → Option Fn} {j : Nat} {fn : Fn} (h : tab j = some fn) : ∀ n as m, as.length ≠ fn.pars → FF tab n j as m = .st
  | 0, _, _, _ => rfl
  | n + 1, as, m, hn => by
    show (match tab j with
      | some fn => runFn fn (FF tab n) as m
      | none => .st) = _
    rw [h]
    exact if_neg fun z => hn z.1
theorem cl_zero {P : Program} {w : World} {K : PySem.W.Frag} {mg : Str → Option Value} {base : Heap} {CA : Nat → Addr} {tab : Nat → Option Fn} {k j : Nat} {x : Str} {st : Stmt} {ps : List Str} {fn : Fn} (h : tab j = some fn) (d : Df K mg x st ps) : Cl P w K mg base CA (FF tab 0) k x fn.pars j := by
  obtain ⟨f, fd, h1, h2, h3⟩ := d.ex
  exact ⟨⟨f, fd, ps, fn_zero, h2, h1.kp, h3⟩, ar_ok h 0⟩
theorem cl_succ {P : Program} {w : World} {K : PySem.W.Frag} {mg : Str → Option Value} {base : Heap} {CA : Nat → Addr} {tab : Nat → Option Fn} {k j n : Nat} {x : Str} {st : Stmt} {ps : List Str} {fn : Fn} (h : tab j = some fn) (d : Df K mg x st ps)
    (ok : ∀ f fd, FunD K x x (defArgs st) (defBody st) (defScope st) [] [] f fd → FnOk P w K mg base (L2.CX P w) (k + 1) f fd ps (spF K CA (FF tab (n + 1)) j fn.pars)) : Cl P w K mg base CA (FF tab (n + 1)) (k + 1) x fn.pars j := by
  obtain ⟨f, fd, h1, h2, h3⟩ := d.ex
  exact ⟨⟨f, fd, ps, ok f fd h1, h2, h1.kp, h3⟩, ar_ok h (n + 1)⟩
theorem hot_ok {P : Program} {w : World} {K : PySem.W.Frag} {mg : Str → Option Value} {base : Heap} {CA : Nat → Addr} {x : Str} {st : Stmt} {ps : List Str} {np : Nat} {g : HotG} (d : Df K mg x st ps)
    (ok : ∀ f fd, FunD K x x (defArgs st) (defBody st) (defScope st) [] [] f fd → FnE P w K mg base CA 1 f fd ps (fun a dd c => spF K CA (fun _ => g a dd c) 0 np)) (ar : ∀ a dd c as m, as.length ≠ np → g a dd c as m = .st) : ClE P w K mg base CA x np g := by
  obtain ⟨f, fd, h1, h2, h3⟩ := d.ex
  exact ⟨⟨f, fd, ps, ok f fd h1, h2, h1.kp, h3⟩, ar⟩
/-- the law's list of numbers -/
def intsD (ns : List Int) : List D := ns.map D.int
theorem reps_ints {K : PySem.W.Frag} {w : Wd} : ∀ ns : List Int, Reps K w (ns.map V.int) (intsD ns)
  | [] => .nil
  | n :: ns => .cons (.int n) (reps_ints ns)
/-- from the table's run to the law's promise -/
theorem law_sp {K : PySem.W.Frag} {CA : Nat → Addr} {F : Fns} {f : Nat} {H : Hp} {a : Addr} {ns : List Int} (hs : SqL K H a (ns.map V.int)) (h : ∃ m', F f [.ro (intsD ns)] [] = .ok (.d (.bl true)) m') :
    spF K CA F f 1 [.ref a] H (fun v _ => v = .bl true) fun _ _ _ => False := by
  obtain ⟨m', h⟩ := h
  refine ⟨rfl, ⟨[], fun _ => False, fun _ => False, H⟩, [.ro (intsD ns)], [], rfl, ⟨fun _ z => z, fun _ z _ => (List.not_mem_nil z).elim, fun _ z => z.elim, List.nodup_nil, rfl, fun i a l z => by cases z⟩, ⟨⟨a, ns.map V.int, rfl, ?_, reps_ints ns⟩, trivial⟩, ?_⟩
  · rcases hs with h | h
    · exact .inl ⟨h, (show H a ≠ none by rcases h with h | ⟨o, h⟩ <;> rw [h] <;> exact fun z => nomatch z), List.not_mem_nil⟩
    · exact .inr h
  · rw [h]
    intro w' v c u r
    cases r
    rfl
end Pm

set_option Elab.async false
set_option linter.all false
set_option maxRecDepth 100000
set_option maxHeartbeats 4000000
/-! printed by wip/gen.py: the bodies of the defs of law_k78_whole_least_lengths -/
namespace K78
open Pm
def FUEL : Nat := 1000000000
/-- the classes' names, by number -/
def clsName : Nat → Option PySem.Str
  | 1 => some "BadText"
  | 2 => some "BadScope"
  | 3 => some "BadTree"
  | 4 => some "BadGraph"
  | 5 => some "BadPaper"
  | 6 => some "BadPiece"
  | 7 => some "BadWords"
  | 8 => some "BadInput"
  | 9 => some "BadEdit"
  | 10 => some "BadValue"
  | 11 => some "NotTyped"
  | 12 => some "NotCompiled"
  | 13 => some "TooMany"
  | 14 => some "NothingToUndo"
  | 15 => some "NothingToRedo"
  | _ => none
def clsFld : Nat → List PySem.Str
  | 1 => ["line", "column"]
  | 2 => ["word", "line", "column"]
  | 3 => ["node"]
  | 4 => ["function", "point"]
  | 5 => ["word"]
  | 6 => ["row"]
  | 7 => ["address"]
  | 8 => ["index"]
  | 9 => ["word"]
  | 10 => ["name"]
  | 11 => []
  | 12 => []
  | 13 => ["word"]
  | 14 => []
  | 15 => []
  | _ => []
def LAST : Nat := 15
/-- whether the class of number c is, or stands below, the one of number n -/
def clsIs (c n : Nat) : Bool := n == 0 || (if c < LAST then c else LAST) == n
def N_is_int : List PySem.Str := ["value"]
def b_is_int (F : Fns) : Ms :=
  sRet (mAnd (mB bIsi (aCons (mVar 0) (aCons (mC (.ty "int")) (aNil)))) (mNot (mB bIsi (aCons (mVar 0) (aCons (mC (.ty "bool")) (aNil))))))
def fn_is_int : Fn := ⟨1, 1, b_is_int⟩
def N_is_between : List PySem.Str := ["value", "low", "high"]
def b_is_between (F : Fns) : Ms :=
  sRet (mAnd (mCall F 0 (aCons (mVar 0) (aNil))) (mAnd (mBin opLe (mVar 1) (mVar 0)) (mBin opLe (mVar 0) (mVar 2))))
def fn_is_between : Fn := ⟨3, 3, b_is_between⟩
def N_is_list_of : List PySem.Str := ["value", "many"]
def b_is_list_of (F : Fns) : Ms :=
  sRet (mAnd (mB bIsi (aCons (mVar 0) (aCons (mC (.ty "list")) (aNil)))) (mOr (mBin opIs (mVar 1) (mC .non)) (mBin opEq (mB bLen (aCons (mVar 0) (aNil))) (mVar 1))))
def fn_is_list_of : Fn := ⟨2, 2, b_is_list_of⟩
def N_is_tuple_of : List PySem.Str := ["value", "many"]
def b_is_tuple_of (F : Fns) : Ms :=
  sRet (mAnd (mB bIsi (aCons (mVar 0) (aCons (mC (.ty "tuple")) (aNil)))) (mOr (mBin opIs (mVar 1) (mC .non)) (mBin opEq (mB bLen (aCons (mVar 0) (aNil))) (mVar 1))))
def fn_is_tuple_of : Fn := ⟨2, 2, b_is_tuple_of⟩
def N_is_word : List PySem.Str := ["value", "words"]
def b_is_word (F : Fns) : Ms :=
  sRet (mAnd (mB bIsi (aCons (mVar 0) (aCons (mC (.ty "str")) (aNil)))) (mBin opIn (mVar 0) (mVar 1)))
def fn_is_word : Fn := ⟨2, 2, b_is_word⟩
def N_is_length_row : List PySem.Str := ["value", "many"]
def b_is_length_row (F : Fns) : Ms :=
  sSeq (sIf (Pm.tOr (Pm.tNot (tV (mB bIsi (aCons (mVar 0) (aCons (mC (.ty "tuple")) (aNil)))))) (Pm.tOr (tV (mBin opEq (mB bLen (aCons (mVar 0) (aNil))) (mC (.int 0)))) (Pm.tNot (tV (mCall F 4 (aCons (mBin opIx (mVar 0) (mC (.int 0))) (aCons (mTup (aCons (mC (.str "size")) (aCons (mC (.str "jump")) (aNil)))) (aNil)))))))) (sRet (mC (.bl false))) (sNx)) (sSeq (sIf (tV (mBin opEq (mBin opIx (mVar 0) (mC (.int 0))) (mC (.str "size")))) (sRet (mAnd (mBin opEq (mB bLen (aCons (mVar 0) (aNil))) (mC (.int 2))) (mCall F 1 (aCons (mBin opIx (mVar 0) (mC (.int 1))) (aCons (mC (.int 0)) (aCons (mC (.int (1000))) (aNil))))))) (sNx)) (sSeq (sIf (Pm.tOr (tV (mBin opNe (mB bLen (aCons (mVar 0) (aNil))) (mC (.int 5)))) (Pm.tOr (Pm.tNot (tV (mCall F 1 (aCons (mBin opIx (mVar 0) (mC (.int 1))) (aCons (mC (.int 0)) (aCons (mBin opSub (mVar 1) (mC (.int 1))) (aNil))))))) (Pm.tNot (tV (mCall F 1 (aCons (mBin opIx (mVar 0) (mC (.int 4))) (aCons (mC (.int 2)) (aCons (mC (.int (8))) (aNil))))))))) (sRet (mC (.bl false))) (sNx)) (sRet (mAnd (mCall F 1 (aCons (mBin opIx (mVar 0) (mC (.int 2))) (aCons (mC (.int 0)) (aCons (mC (.int (100000))) (aNil))))) (mCall F 1 (aCons (mBin opIx (mVar 0) (mC (.int 3))) (aCons (mC (.int 0)) (aCons (mC (.int (100000))) (aNil)))))))))
def fn_is_length_row : Fn := ⟨2, 2, b_is_length_row⟩
def N_check_rows : List PySem.Str := ["rows", "row"]
def b_check_rows (F : Fns) : Ms :=
  sIf (Pm.tOr (Pm.tNot (tV (mCall F 2 (aCons (mVar 0) (aCons (mC .non) (aNil)))))) (Pm.tNot (tV (mB bAll (aCons (mComp [1] (.name 1) (iLst (mVar 0)) (Pm.tYes) (mCall F 5 (aCons (mVar 1) (aCons (mB bLen (aCons (mVar 0) (aNil))) (aNil))))) (aNil)))))) (sRaise 10 "name" (mC (.str "rows"))) (sNx)
def fn_check_rows : Fn := ⟨1, 2, b_check_rows⟩
def N_near_lengths : List PySem.Str := ["rows", "row"]
def b_near_lengths (F : Fns) : Ms :=
  sRet (mComp [1] (.name 1) (iLst (mVar 0)) (Pm.tYes) (mIf (tV (mBin opEq (mBin opIx (mVar 1) (mC (.int 0))) (mC (.str "size")))) (mBin opIx (mVar 1) (mC (.int 1))) (mC (.int 1))))
def fn_near_lengths : Fn := ⟨1, 2, b_near_lengths⟩
def N_row_starts : List PySem.Str := ["lengths", "found", "length"]
def b_row_starts (F : Fns) : Ms :=
  sSeq (sOwn 1 (mLst (aCons (mC (.int 0)) (aNil)))) (sSeq (sFor (.name 2) (iLst (mVar 0)) (sApp (mVar 1) (mBin opAdd (mBin opIx (mVar 1) (mUn opNeg (mC (.int 1)))) (mVar 2)))) (sRet (mVar 1)))
def fn_row_starts : Fn := ⟨1, 3, b_row_starts⟩
def N_jump_reaches : List PySem.Str := ["row", "at", "starts", "distance"]
def b_jump_reaches (F : Fns) : Ms :=
  sSeq (sSet 3 (mBin opSub (mBin opIx (mVar 2) (mBin opIx (mVar 0) (mC (.int 1)))) (mBin opIx (mVar 2) (mVar 1)))) (sRet (mAnd (mBin opLe (mUn opNeg (mBin opIx (mVar 0) (mC (.int 2)))) (mVar 3)) (mBin opLe (mVar 3) (mBin opIx (mVar 0) (mC (.int 3))))))
def fn_jump_reaches : Fn := ⟨3, 4, b_jump_reaches⟩
def N_jump_distances : List PySem.Str := ["rows", "lengths", "starts", "at", "row"]
def b_jump_distances (F : Fns) : Ms :=
  sSeq (sSet 2 (mCall F 8 (aCons (mVar 1) (aNil)))) (sRet (mComp [3, 4] (.tup [3, 4]) (Pm.iEnum (mVar 0)) (Pm.tYes) (mIf (tV (mBin opEq (mBin opIx (mVar 4) (mC (.int 0))) (mC (.str "size")))) (mC (.int 0)) (mB bAbs (aCons (mBin opSub (mBin opIx (mVar 2) (mBin opIx (mVar 4) (mC (.int 1)))) (mBin opIx (mVar 2) (mVar 3))) (aNil))))))
def fn_jump_distances : Fn := ⟨2, 5, b_jump_distances⟩
def N_jump_reach : List PySem.Str := ["row", "at"]
def b_jump_reach (F : Fns) : Ms :=
  sRet (mIf (tV (mBin opGe (mBin opIx (mVar 0) (mC (.int 1))) (mVar 1))) (mBin opIx (mVar 0) (mC (.int 3))) (mBin opIx (mVar 0) (mC (.int 2))))
def fn_jump_reach : Fn := ⟨2, 2, b_jump_reach⟩
def N_jump_spans : List PySem.Str := ["row", "at", "other"]
def b_jump_spans (F : Fns) : Ms :=
  sRet (mOr (mAnd (mBin opLe (mVar 1) (mVar 2)) (mBin opLt (mVar 2) (mBin opIx (mVar 0) (mC (.int 1))))) (mAnd (mBin opLe (mBin opIx (mVar 0) (mC (.int 1))) (mVar 2)) (mBin opLt (mVar 2) (mVar 1))))
def fn_jump_spans : Fn := ⟨3, 3, b_jump_spans⟩
def N_least_of : List PySem.Str := ["rows", "lengths", "left", "jumps", "waiting", "window", "sequence", "far", "at", "row"]
def b_least_of (F : Fns) : Ms :=
  sSeq (sOwn 1 (mCall F 7 (aCons (mVar 0) (aNil)))) (sSeq (sOwn 2 (mCall F 10 (aCons (mVar 0) (aCons (mVar 1) (aNil))))) (sSeq (sOwn 3 (mComp [8, 9] (.tup [8, 9]) (Pm.iEnum (mVar 0)) (Pm.tYes) (mAnd (mBin opEq (mBin opIx (mVar 9) (mC (.int 0))) (mC (.str "jump"))) (mBin opLe (mBin opIx (mVar 2) (mVar 8)) (mCall F 11 (aCons (mVar 9) (aCons (mVar 8) (aNil)))))))) (sSeq (sOwn 4 (mComp [8, 9] (.tup [8, 9]) (Pm.iEnum (mVar 0)) (Pm.tAnd (tV (mBin opEq (mBin opIx (mVar 9) (mC (.int 0))) (mC (.str "jump")))) (Pm.tNot (tV (mBin opIx (mVar 3) (mVar 8))))) (mVar 8))) (sSeq (sSet 5 (mMaxD (mComp [8, 9] (.tup [8, 9]) (Pm.iEnum (mVar 0)) (tV (mBin opIx (mVar 3) (mVar 8))) (mB bAbs (aCons (mBin opSub (mBin opIx (mVar 9) (mC (.int 1))) (mVar 8)) (aNil)))) (mC (.int 0)))) (sSeq (sOwn 6 (mLst (aNil))) (sSeq (sWhile FUEL (tV (mBin opLt (mB bLen (aCons (mVar 6) (aNil))) (mB bLen (aCons (mVar 4) (aNil))))) (sSeq (sSet 7 (mBin opIx (mVar 4) (mB bLen (aCons (mVar 6) (aNil))))) (sSeq (sApp (mVar 6) (mVar 7)) (sSeq (sSetIx (mVar 1) (mVar 7) (mBin opIx (mBin opIx (mVar 0) (mVar 7)) (mC (.int 4)))) (sFor (.name 8) (iR2 (mB bMax2 (aCons (mC (.int 0)) (aCons (mBin opSub (mVar 7) (mVar 5)) (aNil)))) (mB bMin2 (aCons (mB bLen (aCons (mVar 0) (aNil))) (aCons (mBin opAdd (mBin opAdd (mVar 7) (mVar 5)) (mC (.int 1))) (aNil))))) (sIf (Pm.tAnd (tV (mBin opIx (mVar 3) (mVar 8))) (tV (mCall F 12 (aCons (mBin opIx (mVar 0) (mVar 8)) (aCons (mVar 8) (aCons (mVar 7) (aNil))))))) (sSeq (sAugIx opAddI (mVar 2) (mVar 8) (mBin opSub (mBin opIx (mBin opIx (mVar 0) (mVar 7)) (mC (.int 4))) (mC (.int 1)))) (sIf (tV (mBin opGt (mBin opIx (mVar 2) (mVar 8)) (mCall F 11 (aCons (mBin opIx (mVar 0) (mVar 8)) (aCons (mVar 8) (aNil)))))) (sSeq (sSetIx (mVar 3) (mVar 8) (mC (.bl false))) (sApp (mVar 4) (mVar 8))) (sNx))) (sNx))))))) (sFrz [1, 6] (sRet (mTup (aCons (mVar 1) (aCons (mVar 6) (aNil))))))))))))
def fn_least_of : Fn := ⟨1, 10, b_least_of⟩
def N_least_lengths : List PySem.Str := ["rows"]
def b_least_lengths (F : Fns) : Ms :=
  sSeq (sDrop (mCall F 6 (aCons (mVar 0) (aNil)))) (sSeq (sIf (tV (mBin opGt (mB bLen (aCons (mVar 0) (aNil))) (mC (.int (2000))))) (sRaise 13 "word" (mC (.str "rows"))) (sNx)) (sRet (mCall F 13 (aCons (mVar 0) (aNil)))))
def fn_least_lengths : Fn := ⟨1, 1, b_least_lengths⟩
def N_lengths_have_form : List PySem.Str := ["rows", "lengths", "at", "row"]
def b_lengths_have_form (F : Fns) : Ms :=
  sSeq (sIf (Pm.tNot (tV (mCall F 2 (aCons (mVar 1) (aCons (mB bLen (aCons (mVar 0) (aNil))) (aNil)))))) (sRet (mC (.bl false))) (sNx)) (sSeq (sFor (.tup [2, 3]) (Pm.iEnum (mVar 0)) (sSeq (sIf (Pm.tAnd (tV (mBin opEq (mBin opIx (mVar 3) (mC (.int 0))) (mC (.str "size")))) (Pm.tNot (tV (mCall F 1 (aCons (mBin opIx (mVar 1) (mVar 2)) (aCons (mBin opIx (mVar 3) (mC (.int 1))) (aCons (mBin opIx (mVar 3) (mC (.int 1))) (aNil)))))))) (sRet (mC (.bl false))) (sNx)) (sIf (Pm.tAnd (tV (mBin opEq (mBin opIx (mVar 3) (mC (.int 0))) (mC (.str "jump")))) (Pm.tAnd (Pm.tNot (tV (mCall F 1 (aCons (mBin opIx (mVar 1) (mVar 2)) (aCons (mC (.int 1)) (aCons (mC (.int 1)) (aNil))))))) (Pm.tNot (tV (mCall F 1 (aCons (mBin opIx (mVar 1) (mVar 2)) (aCons (mBin opIx (mVar 3) (mC (.int 4))) (aCons (mBin opIx (mVar 3) (mC (.int 4))) (aNil))))))))) (sRet (mC (.bl false))) (sNx)))) (sRet (mC (.bl true))))
def fn_lengths_have_form : Fn := ⟨2, 4, b_lengths_have_form⟩
def N_sequence_fits : List PySem.Str := ["rows", "lengths", "sequence", "many", "now", "at", "row"]
def b_sequence_fits (F : Fns) : Ms :=
  sSeq (sSet 3 (mB bLen (aCons (mComp [5, 6] (.tup [5, 6]) (Pm.iEnum (mVar 0)) (Pm.tAnd (tV (mBin opEq (mBin opIx (mVar 6) (mC (.int 0))) (mC (.str "jump")))) (tV (mBin opGt (mBin opIx (mVar 1) (mVar 5)) (mC (.int 1))))) (mVar 5)) (aNil)))) (sSeq (sIf (Pm.tNot (tV (mCall F 2 (aCons (mVar 2) (aCons (mVar 3) (aNil)))))) (sRet (mC (.bl false))) (sNx)) (sSeq (sOwn 4 (mCall F 7 (aCons (mVar 0) (aNil)))) (sSeq (sFor (.name 5) (iLst (mVar 2)) (sSeq (sIf (Pm.tOr (Pm.tNot (tV (mCall F 1 (aCons (mVar 5) (aCons (mC (.int 0)) (aCons (mBin opSub (mB bLen (aCons (mVar 0) (aNil))) (mC (.int 1))) (aNil))))))) (Pm.tOr (tV (mBin opEq (mBin opIx (mBin opIx (mVar 0) (mVar 5)) (mC (.int 0))) (mC (.str "size")))) (tV (mBin opGt (mBin opIx (mVar 4) (mVar 5)) (mC (.int 1)))))) (sRet (mC (.bl false))) (sNx)) (sSeq (sIf (tV (mCall F 9 (aCons (mBin opIx (mVar 0) (mVar 5)) (aCons (mVar 5) (aCons (mCall F 8 (aCons (mVar 4) (aNil))) (aNil)))))) (sRet (mC (.bl false))) (sNx)) (sSetIx (mVar 4) (mVar 5) (mBin opIx (mBin opIx (mVar 0) (mVar 5)) (mC (.int 4))))))) (sRet (mBin opEq (mVar 4) (mVar 1))))))
def fn_sequence_fits : Fn := ⟨3, 7, b_sequence_fits⟩
def N_is_least : List PySem.Str := ["rows", "value", "starts", "lengths", "sequence", "at", "row"]
def b_is_least (F : Fns) : Ms :=
  sSeq (sDrop (mCall F 6 (aCons (mVar 0) (aNil)))) (sSeq (sIf (Pm.tOr (Pm.tNot (tV (mCall F 3 (aCons (mVar 1) (aCons (mC (.int 2)) (aNil)))))) (Pm.tNot (tV (mCall F 15 (aCons (mVar 0) (aCons (mBin opIx (mVar 1) (mC (.int 0))) (aNil))))))) (sRet (mC (.bl false))) (sNx)) (sSeq (sUnp [3, 4] (mVar 1)) (sSeq (sSet 2 (mCall F 8 (aCons (mVar 3) (aNil)))) (sSeq (sFor (.tup [5, 6]) (Pm.iEnum (mVar 0)) (sIf (Pm.tAnd (tV (mBin opEq (mBin opIx (mVar 6) (mC (.int 0))) (mC (.str "jump")))) (Pm.tAnd (tV (mBin opEq (mBin opIx (mVar 3) (mVar 5)) (mC (.int 1)))) (Pm.tNot (tV (mCall F 9 (aCons (mVar 6) (aCons (mVar 5) (aCons (mVar 2) (aNil))))))))) (sRet (mC (.bl false))) (sNx))) (sRet (mCall F 16 (aCons (mVar 0) (aCons (mVar 3) (aCons (mVar 4) (aNil))))))))))
def fn_is_least : Fn := ⟨2, 7, b_is_least⟩
def N__law_stream : List PySem.Str := ["script"]
def b__law_stream (F : Fns) : Ms :=
  sRet (mNew (aCons (mB bList (aCons (mVar 0) (aNil))) (aCons (mC (.int 0)) (aCons (mC (.int 0)) (aNil)))))
def fn__law_stream : Fn := ⟨1, 1, b__law_stream⟩
def N__law_next : List PySem.Str := ["stream", "many", "digit", "k", "cell"]
def b__law_next (F : Fns) : Ms :=
  sSeq (sIf (tV (mBin opEq (mBin opIx (mVar 0) (mC (.int 1))) (mC (.int 0)))) (sSeq (sSet 3 (mBin opIx (mVar 0) (mC (.int 2)))) (sSeq (sSet 4 (mBin opAdd (mC (.int 7)) (mVar 3))) (sSeq (sIf (tV (mBin opLt (mVar 3) (mB bLen (aCons (mBin opIx (mVar 0) (mC (.int 0))) (aNil))))) (sSet 4 (mBin opMod (mB bInt (aCons (mB bAbs (aCons (mBin opIx (mBin opIx (mVar 0) (mC (.int 0))) (mVar 3)) (aNil))) (aNil))) (mBin opMul (mBin opMul (mBin opPow (mC (.int 10)) (mC (.int 64))) (mBin opPow (mC (.int 10)) (mC (.int 64)))) (mBin opPow (mC (.int 10)) (mC (.int 64)))))) (sNx)) (sSeq (sIf (tV (mBin opLt (mVar 4) (mBin opPow (mC (.int 10)) (mC (.int 18))))) (sSeq (sSet 4 (mBin opMod (mB bInt (aCons (mBin opAdd (mBin opAdd (mBin opMul (mVar 4) (mC (.int 48271))) (mBin opMul (mVar 3) (mC (.int 69621)))) (mC (.int 11))) (aNil))) (mC (.int 2147483647)))) (sSet 4 (mBin opAdd (mBin opMul (mBin opMod (mB bInt (aCons (mBin opAdd (mBin opMul (mVar 4) (mC (.int 16807))) (mC (.int 13))) (aNil))) (mC (.int 2147483647))) (mC (.int 65537))) (mVar 4)))) (sNx)) (sSeq (sSetIx (mVar 0) (mC (.int 1)) (mVar 4)) (sSetIx (mVar 0) (mC (.int 2)) (mBin opAdd (mVar 3) (mC (.int 1))))))))) (sNx)) (sSeq (sSet 2 (mBin opMod (mB bInt (aCons (mBin opIx (mVar 0) (mC (.int 1))) (aNil))) (mVar 1))) (sSeq (sSetIx (mVar 0) (mC (.int 1)) (mBin opFdiv (mBin opIx (mVar 0) (mC (.int 1))) (mVar 1))) (sRet (mVar 2))))
def fn__law_next : Fn := ⟨2, 5, b__law_next⟩
def N__law_pick : List PySem.Str := ["stream", "rows"]
def b__law_pick (F : Fns) : Ms :=
  sRet (mBin opIx (mVar 1) (mCall F 19 (aCons (mVar 0) (aCons (mB bLen (aCons (mVar 1) (aNil))) (aNil)))))
def fn__law_pick : Fn := ⟨2, 2, b__law_pick⟩
def N__law_from : List PySem.Str := ["stream", "low", "high"]
def b__law_from (F : Fns) : Ms :=
  sRet (mBin opAdd (mVar 1) (mCall F 19 (aCons (mVar 0) (aCons (mBin opAdd (mBin opSub (mVar 2) (mVar 1)) (mC (.int 1))) (aNil)))))
def fn__law_from : Fn := ⟨3, 3, b__law_from⟩
def N__law_shuffled : List PySem.Str := ["stream", "rows", "left", "found", "turn"]
def b__law_shuffled (F : Fns) : Ms :=
  sSeq (sOwn 2 (mB bList (aCons (mVar 1) (aNil)))) (sSeq (sOwn 3 (mLst (aNil))) (sSeq (sFor (.name 4) (iR1 (mB bLen (aCons (mVar 1) (aNil)))) (sApp (mVar 3) (mPopAt (mVar 2) (mCall F 19 (aCons (mVar 0) (aCons (mB bLen (aCons (mVar 2) (aNil))) (aNil))))))) (sRet (mVar 3))))
def fn__law_shuffled : Fn := ⟨2, 5, b__law_shuffled⟩
def N__law_number : List PySem.Str := ["value", "low", "high"]
def b__law_number (F : Fns) : Ms :=
  sSeq (sIf (Pm.tOr (Pm.tNot (tV (mB bIsi (aCons (mVar 0) (aCons (mC (.ty "int")) (aNil)))))) (tV (mB bIsi (aCons (mVar 0) (aCons (mC (.ty "bool")) (aNil)))))) (sRet (mC (.bl false))) (sNx)) (sRet (mAnd (mBin opLe (mVar 1) (mVar 0)) (mBin opLe (mVar 0) (mVar 2))))
def fn__law_number : Fn := ⟨3, 3, b__law_number⟩
def N__law_is_row : List PySem.Str := ["value", "kind", "many"]
def b__law_is_row (F : Fns) : Ms :=
  sSeq (sIf (Pm.tAnd (tV (mBin opEq (mVar 1) (mC (.str "L")))) (Pm.tNot (tV (mB bIsi (aCons (mVar 0) (aCons (mC (.ty "list")) (aNil))))))) (sRet (mC (.bl false))) (sNx)) (sSeq (sIf (Pm.tAnd (tV (mBin opEq (mVar 1) (mC (.str "T")))) (Pm.tNot (tV (mB bIsi (aCons (mVar 0) (aCons (mC (.ty "tuple")) (aNil))))))) (sRet (mC (.bl false))) (sNx)) (sRet (mOr (mBin opIs (mVar 2) (mC .non)) (mBin opEq (mB bLen (aCons (mVar 0) (aNil))) (mVar 2)))))
def fn__law_is_row : Fn := ⟨3, 3, b__law_is_row⟩
def N__law_same : List PySem.Str := ["actual", "due", "left", "turn", "one", "other", "at", "key"]
def b__law_same (F : Fns) : Ms :=
  sSeq (sOwn 2 (mLst (aCons (mTup (aCons (mVar 0) (aCons (mVar 1) (aNil)))) (aNil)))) (sSeq (sFor (.name 3) (iR1 (mC (.int 2000000))) (sSeq (sIf (tV (mBin opEq (mB bLen (aCons (mVar 2) (aNil))) (mC (.int 0)))) (sRet (mC (.bl true))) (sNx)) (sSeq (sUnp [4, 5] (mPop (mVar 2))) (sIf (Pm.tOr (tV (mB bIsi (aCons (mVar 5) (aCons (mC (.ty "tuple")) (aNil))))) (tV (mB bIsi (aCons (mVar 5) (aCons (mC (.ty "list")) (aNil)))))) (sSeq (sIf (Pm.tOr (tV (mBin opNe (mB bIsi (aCons (mVar 5) (aCons (mC (.ty "tuple")) (aNil)))) (mB bIsi (aCons (mVar 4) (aCons (mC (.ty "tuple")) (aNil)))))) (Pm.tOr (tV (mBin opNe (mB bIsi (aCons (mVar 5) (aCons (mC (.ty "list")) (aNil)))) (mB bIsi (aCons (mVar 4) (aCons (mC (.ty "list")) (aNil)))))) (tV (mBin opNe (mB bLen (aCons (mVar 4) (aNil))) (mB bLen (aCons (mVar 5) (aNil))))))) (sRet (mC (.bl false))) (sNx)) (sExt (mVar 2) (mComp [6] (.name 6) (iR1 (mB bLen (aCons (mVar 5) (aNil)))) (Pm.tYes) (mTup (aCons (mBin opIx (mVar 4) (mVar 6)) (aCons (mBin opIx (mVar 5) (mVar 6)) (aNil))))))) (sIf (tV (mB bIsi (aCons (mVar 5) (aCons (mC (.ty "dict")) (aNil))))) (sNev) (sIf (Pm.tOr (tV (mB bIsi (aCons (mVar 5) (aCons (mC (.ty "bool")) (aNil))))) (tV (mB bIsi (aCons (mVar 5) (aCons (mC (.ty "str")) (aNil)))))) (sIf (Pm.tOr (tV (mBin opNe (mB bIsi (aCons (mVar 4) (aCons (mC (.ty "bool")) (aNil)))) (mB bIsi (aCons (mVar 5) (aCons (mC (.ty "bool")) (aNil)))))) (Pm.tOr (tV (mBin opNe (mB bIsi (aCons (mVar 4) (aCons (mC (.ty "str")) (aNil)))) (mB bIsi (aCons (mVar 5) (aCons (mC (.ty "str")) (aNil)))))) (tV (mBin opNe (mVar 4) (mVar 5))))) (sRet (mC (.bl false))) (sNx)) (sIf (tV (mB bIsi (aCons (mVar 5) (aCons (mC (.ty "int")) (aNil))))) (sIf (Pm.tOr (Pm.tNot (tV (mB bIsi (aCons (mVar 4) (aCons (mC (.ty "int")) (aNil)))))) (Pm.tOr (tV (mB bIsi (aCons (mVar 4) (aCons (mC (.ty "bool")) (aNil))))) (tV (mBin opNe (mVar 4) (mVar 5))))) (sRet (mC (.bl false))) (sNx)) (sIf (tV (mBin opIsnt (mVar 4) (mC .non))) (sRet (mC (.bl false))) (sNx))))))))) (sRet (mC (.bl false))))
def fn__law_same : Fn := ⟨2, 8, b__law_same⟩
def N__law_copy : List PySem.Str := ["value", "found", "key", "item"]
def b__law_copy (F : Fns) : Ms :=
  sSeq (sIf (tV (mB bIsi (aCons (mVar 0) (aCons (mC (.ty "dict")) (aNil))))) (sNev) (sNx)) (sSeq (sIf (tV (mB bIsi (aCons (mVar 0) (aCons (mC (.ty "list")) (aNil))))) (sRet (mComp [3] (.name 3) (iLst (mVar 0)) (Pm.tYes) (mCall F 26 (aCons (mVar 3) (aNil))))) (sNx)) (sSeq (sIf (tV (mB bIsi (aCons (mVar 0) (aCons (mC (.ty "tuple")) (aNil))))) (sRet (mB bTuple (aCons (mComp [3] (.name 3) (Pm.iTup (mVar 0)) (Pm.tYes) (mCall F 26 (aCons (mVar 3) (aNil)))) (aNil)))) (sNx)) (sRet (mVar 0))))
def fn__law_copy : Fn := ⟨1, 4, b__law_copy⟩
def N__law_named : List PySem.Str := ["error", "names", "fits"]
def b__law_named (a dd : PySem.Addr) (c : Nat) (F : Fns) : Ms :=
  sSeq (sSet 1 (mC (.str "BadText BadScope BadTree BadGraph BadPaper BadPiece BadWords BadInput BadEdit BadValue NotTyped NotCompiled TooMany NothingToUndo NothingToRedo"))) (sSeq (sSet 2 (mLst (aCons (mIsE a dd 0 (clsIs c 1)) (aCons (mIsE a dd 0 (clsIs c 2)) (aCons (mIsE a dd 0 (clsIs c 3)) (aCons (mIsE a dd 0 (clsIs c 4)) (aCons (mIsE a dd 0 (clsIs c 5)) (aNil)))))))) (sSeq (sSet 2 (mBin opAdd (mVar 2) (mLst (aCons (mIsE a dd 0 (clsIs c 6)) (aCons (mIsE a dd 0 (clsIs c 7)) (aCons (mIsE a dd 0 (clsIs c 8)) (aCons (mIsE a dd 0 (clsIs c 9)) (aNil)))))))) (sSeq (sSet 2 (mBin opAdd (mVar 2) (mLst (aCons (mIsE a dd 0 (clsIs c 10)) (aCons (mIsE a dd 0 (clsIs c 11)) (aCons (mIsE a dd 0 (clsIs c 12)) (aCons (mIsE a dd 0 (clsIs c 13)) (aNil)))))))) (sSeq (sSet 2 (mBin opAdd (mVar 2) (mLst (aCons (mIsE a dd 0 (clsIs c 14)) (aCons (mIsE a dd 0 (clsIs c 15)) (aNil)))))) (sSeq (sIf (Pm.tOr (tV (mBin opNe (mM opCnt (mVar 2) (mC (.bl true))) (mC (.int 1)))) (Pm.tOr (Pm.tNot (tV (mIsE a dd 0 (clsIs c 0)))) (Pm.tNot (tV (mIsE a dd 0 true))))) (sRet (mC (.str "other"))) (sNx)) (sRet (mBin opIx (mSplit (mVar 1) (mC (.str " "))) (mM opIdx (mVar 2) (mC (.bl true))))))))))
def fn__law_named (a dd : PySem.Addr) (c : Nat) : Fn := ⟨1, 3, b__law_named a dd c⟩
def g__law_named : HotG := fun a dd c => runFn (fn__law_named a dd c) (fun _ _ _ => .st)
def N__law_attributes : List PySem.Str := ["e", "name"]
def b__law_attributes (a dd : PySem.Addr) (c : Nat) (F : Fns) : Ms :=
  sSeq (sIf (tV (mBin opEq (mVar 1) (mC (.str "BadText")))) (sRet (mTup (aCons (mFld a dd 0 "line") (aCons (mFld a dd 0 "column") (aNil))))) (sNx)) (sSeq (sIf (tV (mBin opEq (mVar 1) (mC (.str "BadScope")))) (sRet (mTup (aCons (mFld a dd 0 "word") (aCons (mFld a dd 0 "line") (aCons (mFld a dd 0 "column") (aNil)))))) (sNx)) (sSeq (sIf (tV (mBin opEq (mVar 1) (mC (.str "BadTree")))) (sRet (mTup (aCons (mFld a dd 0 "node") (aNil)))) (sNx)) (sSeq (sIf (tV (mBin opEq (mVar 1) (mC (.str "BadGraph")))) (sRet (mTup (aCons (mFld a dd 0 "function") (aCons (mFld a dd 0 "point") (aNil))))) (sNx)) (sSeq (sIf (tV (mBin opIn (mVar 1) (mTup (aCons (mC (.str "BadPaper")) (aCons (mC (.str "BadEdit")) (aCons (mC (.str "TooMany")) (aNil))))))) (sRet (mTup (aCons (mFld a dd 0 "word") (aNil)))) (sNx)) (sSeq (sIf (tV (mBin opEq (mVar 1) (mC (.str "BadPiece")))) (sRet (mTup (aCons (mFld a dd 0 "row") (aNil)))) (sNx)) (sSeq (sIf (tV (mBin opEq (mVar 1) (mC (.str "BadWords")))) (sRet (mTup (aCons (mFld a dd 0 "address") (aNil)))) (sNx)) (sSeq (sIf (tV (mBin opEq (mVar 1) (mC (.str "BadInput")))) (sRet (mTup (aCons (mFld a dd 0 "index") (aNil)))) (sNx)) (sRet (mIf (tV (mBin opEq (mVar 1) (mC (.str "BadValue")))) (mTup (aCons (mFld a dd 0 "name") (aNil))) (mTup (aNil)))))))))))
def fn__law_attributes (a dd : PySem.Addr) (c : Nat) : Fn := ⟨2, 2, b__law_attributes a dd c⟩
def g__law_attributes : HotG := fun a dd c => runFn (fn__law_attributes a dd c) (fun _ _ _ => .st)
def N__law_spoilt : List PySem.Str := ["stream", "value", "at", "rows"]
def b__law_spoilt (F : Fns) : Ms :=
  sSeq (sIf (Pm.tAnd (Pm.tOr (tV (mB bIsi (aCons (mVar 1) (aCons (mC (.ty "list")) (aNil))))) (tV (mB bIsi (aCons (mVar 1) (aCons (mC (.ty "tuple")) (aNil)))))) (Pm.tAnd (tV (mBin opGt (mB bLen (aCons (mVar 1) (aNil))) (mC (.int 0)))) (tV (mBin opGt (mCall F 19 (aCons (mVar 0) (aCons (mC (.int 6)) (aNil)))) (mC (.int 0)))))) (sSeq (sSet 2 (mCall F 19 (aCons (mVar 0) (aCons (mB bLen (aCons (mVar 1) (aNil))) (aNil))))) (sSeq (sOwn 3 (mB bList (aCons (mVar 1) (aNil)))) (sSeq (sSetIx (mVar 3) (mVar 2) (mCall F 29 (aCons (mVar 0) (aCons (mBin opIx (mVar 1) (mVar 2)) (aNil))))) (sFrz [3] (sRet (mIf (tV (mB bIsi (aCons (mVar 1) (aCons (mC (.ty "list")) (aNil))))) (mVar 3) (mB bTuple (aCons (mVar 3) (aNil))))))))) (sNx)) (sSeq (sIf (Pm.tAnd (tV (mB bIsi (aCons (mVar 1) (aCons (mC (.ty "int")) (aNil))))) (Pm.tNot (tV (mB bIsi (aCons (mVar 1) (aCons (mC (.ty "bool")) (aNil))))))) (sRet (mCall F 20 (aCons (mVar 0) (aCons (mLst (aCons (mBin opAdd (mVar 1) (mC (.int 1))) (aCons (mBin opSub (mVar 1) (mC (.int 1))) (aCons (mBin opAdd (mVar 1) (mC (.int 7))) (aCons (mC .non) (aCons (mBin opEq (mVar 1) (mC (.int 1))) (aCons (mB bStr (aCons (mBin opMod (mB bInt (aCons (mVar 1) (aNil))) (mC (.int 1000))) (aNil))) (aCons (mTup (aCons (mVar 1) (aCons (mC (.int 1)) (aNil)))) (aNil))))))))) (aNil))))) (sNx)) (sSeq (sIf (tV (mB bIsi (aCons (mVar 1) (aCons (mC (.ty "list")) (aNil))))) (sRet (mCall F 20 (aCons (mVar 0) (aCons (mLst (aCons (mB bTuple (aCons (mVar 1) (aNil))) (aCons (mBin opAdd (mVar 1) (mLst (aCons (mC (.int 0)) (aNil)))) (aCons (mBin opAdd (mSl (mVar 1) (oSome (mC (.int 1))) (oNone)) (mLst (aCons (mC .non) (aNil)))) (aCons (mSl (mVar 1) (oSome (mC (.int 1))) (oNone)) (aCons (mC .non) (aCons (mC (.str "list")) (aNil)))))))) (aNil))))) (sNx)) (sSeq (sIf (tV (mB bIsi (aCons (mVar 1) (aCons (mC (.ty "tuple")) (aNil))))) (sRet (mCall F 20 (aCons (mVar 0) (aCons (mLst (aCons (mB bList (aCons (mVar 1) (aNil))) (aCons (mBin opAdd (mVar 1) (mTup (aCons (mC (.int 0)) (aNil)))) (aCons (mSl (mVar 1) (oSome (mC (.int 1))) (oNone)) (aCons (mC .non) (aCons (mC (.int 3)) (aNil))))))) (aNil))))) (sNx)) (sSeq (sIf (tV (mB bIsi (aCons (mVar 1) (aCons (mC (.ty "str")) (aNil))))) (sRet (mCall F 20 (aCons (mVar 0) (aCons (mLst (aCons (mBin opAdd (mVar 1) (mC (.str "x"))) (aCons (mC (.str "")) (aCons (mSl (mVar 1) (oSome (mC (.int 1))) (oNone)) (aCons (mC (.int 0)) (aCons (mC .non) (aCons (mLst (aCons (mVar 1) (aNil))) (aNil)))))))) (aNil))))) (sNx)) (sRet (mCall F 20 (aCons (mVar 0) (aCons (mLst (aCons (mC (.int 0)) (aCons (mC (.int 1)) (aCons (mC (.str "")) (aCons (mLst (aNil)) (aCons (mTup (aCons (mC (.int 0)) (aCons (mC (.int 1)) (aNil)))) (aCons (mC (.bl true)) (aNil)))))))) (aNil)))))))))
def fn__law_spoilt : Fn := ⟨2, 4, b__law_spoilt⟩
def N__law_row_starts : List PySem.Str := ["lengths", "found", "length"]
def b__law_row_starts (F : Fns) : Ms :=
  sSeq (sOwn 1 (mLst (aCons (mC (.int 0)) (aNil)))) (sSeq (sFor (.name 2) (iLst (mVar 0)) (sApp (mVar 1) (mBin opAdd (mBin opIx (mVar 1) (mBin opSub (mB bLen (aCons (mVar 1) (aNil))) (mC (.int 1)))) (mVar 2)))) (sRet (mVar 1)))
def fn__law_row_starts : Fn := ⟨1, 3, b__law_row_starts⟩
def N__law_reach_ok : List PySem.Str := ["rows", "at", "starts", "way"]
def b__law_reach_ok (F : Fns) : Ms :=
  sSeq (sSet 3 (mBin opSub (mBin opIx (mVar 2) (mBin opIx (mBin opIx (mVar 0) (mVar 1)) (mC (.int 1)))) (mBin opIx (mVar 2) (mVar 1)))) (sRet (mAnd (mBin opLe (mBin opSub (mC (.int 0)) (mBin opIx (mBin opIx (mVar 0) (mVar 1)) (mC (.int 2)))) (mVar 3)) (mBin opLe (mVar 3) (mBin opIx (mBin opIx (mVar 0) (mVar 1)) (mC (.int 3))))))
def fn__law_reach_ok : Fn := ⟨3, 4, b__law_reach_ok⟩
def N__law_sweep : List PySem.Str := ["rows", "forced", "lengths", "at", "turn", "starts", "bad", "row"]
def b__law_sweep (F : Fns) : Ms :=
  sSeq (sOwn 2 (mComp [7] (.name 7) (iLst (mVar 0)) (Pm.tYes) (mIf (tV (mBin opEq (mBin opIx (mVar 7) (mC (.int 0))) (mC (.str "size")))) (mBin opIx (mVar 7) (mC (.int 1))) (mC (.int 1))))) (sSeq (sFor (.name 3) (iLst (mVar 1)) (sSetIx (mVar 2) (mVar 3) (mBin opIx (mBin opIx (mVar 0) (mVar 3)) (mC (.int 4))))) (sSeq (sFor (.name 4) (iR1 (mBin opAdd (mB bLen (aCons (mVar 0) (aNil))) (mC (.int 1)))) (sSeq (sSet 5 (mCall F 30 (aCons (mVar 2) (aNil)))) (sSeq (sSet 6 (mComp [3] (.name 3) (iR1 (mB bLen (aCons (mVar 0) (aNil)))) (Pm.tAnd (tV (mBin opEq (mBin opIx (mBin opIx (mVar 0) (mVar 3)) (mC (.int 0))) (mC (.str "jump")))) (Pm.tAnd (tV (mBin opEq (mBin opIx (mVar 2) (mVar 3)) (mC (.int 1)))) (Pm.tNot (tV (mCall F 31 (aCons (mVar 0) (aCons (mVar 3) (aCons (mVar 5) (aNil))))))))) (mVar 3))) (sSeq (sIf (tV (mBin opEq (mB bLen (aCons (mVar 6) (aNil))) (mC (.int 0)))) (sBk) (sNx)) (sFor (.name 3) (iLst (mVar 6)) (sSetIx (mVar 2) (mVar 3) (mBin opIx (mBin opIx (mVar 0) (mVar 3)) (mC (.int 4))))))))) (sRet (mVar 2))))
def fn__law_sweep : Fn := ⟨2, 8, b__law_sweep⟩
def N__law_some_rows : List PySem.Str := ["stream", "many", "rows", "at", "starts", "found", "row", "goal", "way", "more", "other", "back", "ahead"]
def b__law_some_rows (F : Fns) : Ms :=
  sSeq (sSet 1 (mCall F 20 (aCons (mVar 0) (aCons (mLst (aCons (mC (.int 0)) (aCons (mC (.int 1)) (aCons (mC (.int 2)) (aCons (mC (.int 3)) (aCons (mC (.int 5)) (aCons (mC (.int 8)) (aCons (mC (.int 13)) (aCons (mC (.int 20)) (aCons (mC (.int 30)) (aCons (mC (.int 40)) (aNil)))))))))))) (aNil))))) (sSeq (sOwn 2 (mLst (aNil))) (sSeq (sFor (.name 3) (iR1 (mVar 1)) (sIf (tV (mBin opLt (mCall F 19 (aCons (mVar 0) (aCons (mC (.int 5)) (aNil)))) (mC (.int 2)))) (sApp (mVar 2) (mTup (aCons (mC (.str "size")) (aCons (mCall F 20 (aCons (mVar 0) (aCons (mLst (aCons (mC (.int 0)) (aCons (mC (.int 1)) (aCons (mC (.int 1)) (aCons (mC (.int 2)) (aCons (mC (.int 3)) (aCons (mIf (tV (mBin opLt (mVar 1) (mC (.int 9)))) (mC (.int 1000)) (mC (.int 7))) (aNil)))))))) (aNil)))) (aNil))))) (sSeq (sSet 7 (mIf (tV (mBin opEq (mCall F 19 (aCons (mVar 0) (aCons (mC (.int 3)) (aNil)))) (mC (.int 0)))) (mCall F 19 (aCons (mVar 0) (aCons (mVar 1) (aNil)))) (mBin opMod (mB bInt (aCons (mBin opAdd (mVar 3) (mCall F 21 (aCons (mVar 0) (aCons (mUn opNeg (mC (.int 4))) (aCons (mC (.int 4)) (aNil)))))) (aNil))) (mVar 1)))) (sApp (mVar 2) (mTup (aCons (mC (.str "jump")) (aCons (mVar 7) (aCons (mC (.int 0)) (aCons (mC (.int 0)) (aCons (mCall F 20 (aCons (mVar 0) (aCons (mLst (aCons (mC (.int 2)) (aCons (mC (.int 2)) (aCons (mC (.int 3)) (aCons (mC (.int 3)) (aCons (mC (.int 8)) (aNil))))))) (aNil)))) (aNil))))))))))) (sFrz [2] (sSeq (sSet 4 (mCall F 30 (aCons (mComp [6] (.name 6) (iLst (mVar 2)) (Pm.tYes) (mIf (tV (mBin opEq (mBin opIx (mVar 6) (mC (.int 0))) (mC (.str "size")))) (mBin opIx (mVar 6) (mC (.int 1))) (mC (.int 1)))) (aNil)))) (sSeq (sOwn 5 (mLst (aNil))) (sSeq (sFor (.name 3) (iR1 (mVar 1)) (sSeq (sSet 6 (mBin opIx (mVar 2) (mVar 3))) (sSeq (sIf (tV (mBin opEq (mBin opIx (mVar 6) (mC (.int 0))) (mC (.str "jump")))) (sSeq (sSet 8 (mBin opSub (mBin opIx (mVar 4) (mBin opIx (mVar 6) (mC (.int 1)))) (mBin opIx (mVar 4) (mVar 3)))) (sSeq (sSet 9 (mCall F 20 (aCons (mVar 0) (aCons (mLst (aCons (mUn opNeg (mC (.int 1))) (aCons (mC (.int 0)) (aCons (mC (.int 0)) (aCons (mC (.int 1)) (aCons (mC (.int 1)) (aCons (mC (.int 2)) (aCons (mC (.int 2)) (aCons (mC (.int 3)) (aCons (mC (.int 4)) (aCons (mC (.int 6)) (aCons (mC (.int 9)) (aCons (mC (.int 100000)) (aNil)))))))))))))) (aNil))))) (sSeq (sSet 10 (mCall F 19 (aCons (mVar 0) (aCons (mC (.int 5)) (aNil))))) (sSeq (sUnp [11, 12] (mIf (tV (mBin opGe (mVar 8) (mC (.int 0)))) (mTup (aCons (mVar 10) (aCons (mB bMax2 (aCons (mC (.int 0)) (aCons (mB bMin2 (aCons (mC (.int 100000)) (aCons (mBin opAdd (mVar 8) (mVar 9)) (aNil)))) (aNil)))) (aNil)))) (mTup (aCons (mB bMax2 (aCons (mC (.int 0)) (aCons (mB bMin2 (aCons (mC (.int 100000)) (aCons (mBin opSub (mVar 9) (mVar 8)) (aNil)))) (aNil)))) (aCons (mVar 10) (aNil)))))) (sSet 6 (mTup (aCons (mC (.str "jump")) (aCons (mBin opIx (mVar 6) (mC (.int 1))) (aCons (mVar 11) (aCons (mVar 12) (aCons (mBin opIx (mVar 6) (mC (.int 4))) (aNil)))))))))))) (sNx)) (sApp (mVar 5) (mVar 6))))) (sRet (mVar 5))))))))
def fn__law_some_rows : Fn := ⟨1, 13, b__law_some_rows⟩
def N__law_facing : List PySem.Str := ["stream", "gap", "far", "rows"]
def b__law_facing (F : Fns) : Ms :=
  sSeq (sSet 1 (mCall F 19 (aCons (mVar 0) (aCons (mC (.int 4)) (aNil))))) (sSeq (sSet 2 (mBin opAdd (mC (.int 2)) (mCall F 19 (aCons (mVar 0) (aCons (mC (.int 7)) (aNil)))))) (sSeq (sOwn 3 (mLst (aCons (mTup (aCons (mC (.str "size")) (aCons (mCall F 19 (aCons (mVar 0) (aCons (mC (.int 3)) (aNil)))) (aNil)))) (aCons (mTup (aCons (mC (.str "jump")) (aCons (mC (.int 3)) (aCons (mC (.int 0)) (aCons (mBin opAdd (mC (.int 2)) (mVar 1)) (aCons (mVar 2) (aNil))))))) (aCons (mTup (aCons (mC (.str "size")) (aCons (mVar 1) (aNil)))) (aCons (mTup (aCons (mC (.str "jump")) (aCons (mC (.int 1)) (aCons (mBin opAdd (mC (.int 1)) (mVar 1)) (aCons (mC (.int 0)) (aCons (mVar 2) (aNil))))))) (aCons (mTup (aCons (mC (.str "size")) (aCons (mC (.int 1)) (aNil)))) (aNil)))))))) (sSeq (sSetIx (mVar 3) (mC (.int 1)) (mTup (aCons (mC (.str "jump")) (aCons (mC (.int 4)) (aCons (mC (.int 0)) (aCons (mBin opAdd (mC (.int 2)) (mVar 1)) (aCons (mVar 2) (aNil)))))))) (sRet (mVar 3)))))
def fn__law_facing : Fn := ⟨1, 4, b__law_facing⟩
def N__law_falling : List PySem.Str := ["stream", "many", "far", "rows", "at"]
def b__law_falling (F : Fns) : Ms :=
  sSeq (sSet 1 (mBin opAdd (mC (.int 2)) (mCall F 19 (aCons (mVar 0) (aCons (mC (.int 9)) (aNil)))))) (sSeq (sSet 2 (mBin opAdd (mC (.int 2)) (mCall F 19 (aCons (mVar 0) (aCons (mC (.int 3)) (aNil)))))) (sSeq (sSet 3 (mComp [4] (.name 4) (iR1 (mVar 1)) (Pm.tYes) (mTup (aCons (mC (.str "jump")) (aCons (mBin opAdd (mVar 4) (mC (.int 2))) (aCons (mC (.int 0)) (aCons (mC (.int 2)) (aCons (mVar 2) (aNil))))))))) (sRet (mIf (tV (mBin opGt (mCall F 19 (aCons (mVar 0) (aCons (mC (.int 4)) (aNil)))) (mC (.int 0)))) (mBin opAdd (mVar 3) (mLst (aCons (mTup (aCons (mC (.str "size")) (aCons (mBin opAdd (mC (.int 1)) (mCall F 19 (aCons (mVar 0) (aCons (mC (.int 2)) (aNil))))) (aNil)))) (aCons (mTup (aCons (mC (.str "size")) (aCons (mC (.int 1)) (aNil)))) (aCons (mTup (aCons (mC (.str "size")) (aCons (mC (.int 0)) (aNil)))) (aNil)))))) (mBin opAdd (mVar 3) (mLst (aCons (mTup (aCons (mC (.str "size")) (aCons (mC (.int 1)) (aNil)))) (aCons (mTup (aCons (mC (.str "size")) (aCons (mC (.int 1)) (aNil)))) (aNil)))))))))
def fn__law_falling : Fn := ⟨1, 5, b__law_falling⟩
def N__law_out_of_reach : List PySem.Str := ["rows", "lengths", "starts", "at"]
def b__law_out_of_reach (F : Fns) : Ms :=
  sSeq (sSet 2 (mCall F 30 (aCons (mVar 1) (aNil)))) (sRet (mComp [3] (.name 3) (iR1 (mB bLen (aCons (mVar 0) (aNil)))) (Pm.tAnd (tV (mBin opEq (mBin opIx (mBin opIx (mVar 0) (mVar 3)) (mC (.int 0))) (mC (.str "jump")))) (Pm.tAnd (tV (mBin opEq (mBin opIx (mVar 1) (mVar 3)) (mC (.int 1)))) (Pm.tNot (tV (mCall F 31 (aCons (mVar 0) (aCons (mVar 3) (aCons (mVar 2) (aNil))))))))) (mVar 3)))
def fn__law_out_of_reach : Fn := ⟨2, 4, b__law_out_of_reach⟩
def N__law_least_ok : List PySem.Str := ["rows", "value", "at", "now", "lengths", "sequence", "row"]
def b__law_least_ok (F : Fns) : Ms :=
  sSeq (sIf (Pm.tOr (Pm.tNot (tV (mCall F 24 (aCons (mVar 1) (aCons (mC (.str "T")) (aCons (mC (.int 2)) (aNil))))))) (Pm.tOr (Pm.tNot (tV (mCall F 24 (aCons (mBin opIx (mVar 1) (mC (.int 0))) (aCons (mC (.str "L")) (aCons (mB bLen (aCons (mVar 0) (aNil))) (aNil))))))) (Pm.tNot (tV (mCall F 24 (aCons (mBin opIx (mVar 1) (mC (.int 1))) (aCons (mC (.str "L")) (aCons (mC .non) (aNil))))))))) (sRet (mC (.bl false))) (sNx)) (sSeq (sUnp [4, 5] (mVar 1)) (sSeq (sFor (.name 2) (iR1 (mB bLen (aCons (mVar 0) (aNil)))) (sSeq (sIf (Pm.tAnd (tV (mBin opEq (mBin opIx (mBin opIx (mVar 0) (mVar 2)) (mC (.int 0))) (mC (.str "size")))) (Pm.tNot (tV (mCall F 23 (aCons (mBin opIx (mVar 4) (mVar 2)) (aCons (mBin opIx (mBin opIx (mVar 0) (mVar 2)) (mC (.int 1))) (aCons (mBin opIx (mBin opIx (mVar 0) (mVar 2)) (mC (.int 1))) (aNil)))))))) (sRet (mC (.bl false))) (sNx)) (sIf (Pm.tAnd (tV (mBin opEq (mBin opIx (mBin opIx (mVar 0) (mVar 2)) (mC (.int 0))) (mC (.str "jump")))) (Pm.tAnd (Pm.tNot (tV (mCall F 23 (aCons (mBin opIx (mVar 4) (mVar 2)) (aCons (mC (.int 1)) (aCons (mC (.int 1)) (aNil))))))) (Pm.tNot (tV (mCall F 23 (aCons (mBin opIx (mVar 4) (mVar 2)) (aCons (mBin opIx (mBin opIx (mVar 0) (mVar 2)) (mC (.int 4))) (aCons (mBin opIx (mBin opIx (mVar 0) (mVar 2)) (mC (.int 4))) (aNil))))))))) (sRet (mC (.bl false))) (sNx)))) (sSeq (sIf (tV (mBin opGt (mB bLen (aCons (mCall F 36 (aCons (mVar 0) (aCons (mVar 4) (aNil)))) (aNil))) (mC (.int 0)))) (sRet (mC (.bl false))) (sNx)) (sSeq (sOwn 3 (mComp [6] (.name 6) (iLst (mVar 0)) (Pm.tYes) (mIf (tV (mBin opEq (mBin opIx (mVar 6) (mC (.int 0))) (mC (.str "size")))) (mBin opIx (mVar 6) (mC (.int 1))) (mC (.int 1))))) (sSeq (sFor (.name 2) (iLst (mVar 5)) (sSeq (sIf (Pm.tOr (Pm.tNot (tV (mCall F 23 (aCons (mVar 2) (aCons (mC (.int 0)) (aCons (mBin opSub (mB bLen (aCons (mVar 0) (aNil))) (mC (.int 1))) (aNil))))))) (tV (mBin opNin (mVar 2) (mCall F 36 (aCons (mVar 0) (aCons (mVar 3) (aNil))))))) (sRet (mC (.bl false))) (sNx)) (sSetIx (mVar 3) (mVar 2) (mBin opIx (mBin opIx (mVar 0) (mVar 2)) (mC (.int 4)))))) (sRet (mBin opEq (mVar 3) (mVar 4))))))))
def fn__law_least_ok : Fn := ⟨2, 7, b__law_least_ok⟩
def N__law_other_sequence : List PySem.Str := ["stream", "rows", "lengths", "sequence", "turn", "bad", "row", "at"]
def b__law_other_sequence (F : Fns) : Ms :=
  sSeq (sOwn 2 (mComp [6] (.name 6) (iLst (mVar 1)) (Pm.tYes) (mIf (tV (mBin opEq (mBin opIx (mVar 6) (mC (.int 0))) (mC (.str "size")))) (mBin opIx (mVar 6) (mC (.int 1))) (mC (.int 1))))) (sSeq (sOwn 3 (mLst (aNil))) (sSeq (sFor (.name 4) (iR1 (mB bLen (aCons (mVar 1) (aNil)))) (sSeq (sSet 5 (mCall F 36 (aCons (mVar 1) (aCons (mVar 2) (aNil))))) (sIf (tV (mBin opGt (mB bLen (aCons (mVar 5) (aNil))) (mC (.int 0)))) (sSeq (sSet 7 (mCall F 20 (aCons (mVar 0) (aCons (mVar 5) (aNil))))) (sSeq (sApp (mVar 3) (mVar 7)) (sSetIx (mVar 2) (mVar 7) (mBin opIx (mBin opIx (mVar 1) (mVar 7)) (mC (.int 4)))))) (sNx)))) (sFrz [2, 3] (sRet (mTup (aCons (mVar 2) (aCons (mVar 3) (aNil))))))))
def fn__law_other_sequence : Fn := ⟨2, 8, b__law_other_sequence⟩
def N__law_other_fit : List PySem.Str := ["stream", "rows", "lengths", "at"]
def b__law_other_fit (F : Fns) : Ms :=
  sRet (mCall F 32 (aCons (mVar 1) (aCons (mComp [3] (.name 3) (iR1 (mB bLen (aCons (mVar 1) (aNil)))) (Pm.tAnd (tV (mBin opEq (mBin opIx (mBin opIx (mVar 1) (mVar 3)) (mC (.int 0))) (mC (.str "jump")))) (Pm.tOr (tV (mBin opGt (mBin opIx (mVar 2) (mVar 3)) (mC (.int 1)))) (tV (mBin opEq (mCall F 19 (aCons (mVar 0) (aCons (mC (.int 4)) (aNil)))) (mC (.int 0)))))) (mVar 3)) (aNil))))
def fn__law_other_fit : Fn := ⟨3, 4, b__law_other_fit⟩
def N__law_row_ok : List PySem.Str := ["row", "many"]
def b__law_row_ok (F : Fns) : Ms :=
  sSeq (sIf (Pm.tOr (Pm.tNot (tV (mB bIsi (aCons (mVar 0) (aCons (mC (.ty "tuple")) (aNil)))))) (Pm.tOr (tV (mBin opNin (mB bLen (aCons (mVar 0) (aNil))) (mTup (aCons (mC (.int 2)) (aCons (mC (.int 5)) (aNil)))))) (Pm.tNot (tV (mB bIsi (aCons (mBin opIx (mVar 0) (mC (.int 0))) (aCons (mC (.ty "str")) (aNil)))))))) (sRet (mC (.bl false))) (sNx)) (sSeq (sIf (tV (mBin opEq (mBin opIx (mVar 0) (mC (.int 0))) (mC (.str "size")))) (sRet (mAnd (mBin opEq (mB bLen (aCons (mVar 0) (aNil))) (mC (.int 2))) (mCall F 23 (aCons (mBin opIx (mVar 0) (mC (.int 1))) (aCons (mC (.int 0)) (aCons (mC (.int 1000)) (aNil))))))) (sNx)) (sSeq (sIf (Pm.tOr (tV (mBin opNe (mBin opIx (mVar 0) (mC (.int 0))) (mC (.str "jump")))) (Pm.tOr (tV (mBin opNe (mB bLen (aCons (mVar 0) (aNil))) (mC (.int 5)))) (Pm.tOr (Pm.tNot (tV (mCall F 23 (aCons (mBin opIx (mVar 0) (mC (.int 1))) (aCons (mC (.int 0)) (aCons (mBin opSub (mVar 1) (mC (.int 1))) (aNil))))))) (Pm.tNot (tV (mCall F 23 (aCons (mBin opIx (mVar 0) (mC (.int 4))) (aCons (mC (.int 2)) (aCons (mC (.int 8)) (aNil)))))))))) (sRet (mC (.bl false))) (sNx)) (sRet (mAnd (mCall F 23 (aCons (mBin opIx (mVar 0) (mC (.int 2))) (aCons (mC (.int 0)) (aCons (mC (.int 100000)) (aNil))))) (mCall F 23 (aCons (mBin opIx (mVar 0) (mC (.int 3))) (aCons (mC (.int 0)) (aCons (mC (.int 100000)) (aNil)))))))))
def fn__law_row_ok : Fn := ⟨2, 2, b__law_row_ok⟩
def N__law_rows_ok : List PySem.Str := ["value", "row"]
def b__law_rows_ok (F : Fns) : Ms :=
  sRet (mAnd (mB bIsi (aCons (mVar 0) (aCons (mC (.ty "list")) (aNil)))) (mBin opEq (mB bLen (aCons (mComp [1] (.name 1) (iLst (mVar 0)) (Pm.tNot (tV (mCall F 40 (aCons (mVar 1) (aCons (mB bLen (aCons (mVar 0) (aNil))) (aNil)))))) (mVar 1)) (aNil))) (mC (.int 0))))
def fn__law_rows_ok : Fn := ⟨1, 2, b__law_rows_ok⟩
def N__law_told : List PySem.Str := ["rows", "handed", "e", "answer", "name"]
def b__law_told (F : Fns) : Ms :=
  sSeq (sSet 1 (mCall F 26 (aCons (mVar 0) (aNil)))) (sSeq (sTry 2 (hT clsName clsFld 2 4) (sSet 3 (mCall F 14 (aCons (mVar 1) (aNil))))) (sRet (mIf (tV (mCall F 25 (aCons (mVar 1) (aCons (mVar 0) (aNil))))) (mLst (aCons (mC (.str "told")) (aCons (mVar 3) (aNil)))) (mLst (aCons (mC (.str "changed")) (aNil))))))
def fn__law_told : Fn := ⟨1, 5, b__law_told⟩
def N__law_judged : List PySem.Str := ["rows", "value", "handed", "asked", "e", "answer", "name"]
def b__law_judged (F : Fns) : Ms :=
  sSeq (sSet 2 (mCall F 26 (aCons (mVar 1) (aNil)))) (sSeq (sSet 3 (mCall F 26 (aCons (mVar 0) (aNil)))) (sSeq (sTry 4 (hT clsName clsFld 4 6) (sSet 5 (mCall F 17 (aCons (mVar 3) (aCons (mVar 2) (aNil)))))) (sRet (mIf (Pm.tAnd (tV (mCall F 25 (aCons (mVar 2) (aCons (mVar 1) (aNil))))) (tV (mCall F 25 (aCons (mVar 3) (aCons (mVar 0) (aNil)))))) (mLst (aCons (mC (.str "told")) (aCons (mVar 5) (aNil)))) (mLst (aCons (mC (.str "changed")) (aNil)))))))
def fn__law_judged : Fn := ⟨2, 7, b__law_judged⟩
def N__law_answers : List PySem.Str := ["stream", "rows", "told", "lengths", "own", "jumps", "wider", "values", "all_far", "all_near", "value", "at", "row"]
def b__law_answers (F : Fns) : Ms :=
  sSeq (sSet 2 (mCall F 42 (aCons (mVar 1) (aNil)))) (sSeq (sSet 3 (mCall F 32 (aCons (mVar 1) (aCons (mLst (aNil)) (aNil))))) (sSeq (sIf (Pm.tOr (tV (mBin opNe (mBin opIx (mVar 2) (mC (.int 0))) (mC (.str "told")))) (Pm.tOr (Pm.tNot (tV (mCall F 37 (aCons (mVar 1) (aCons (mBin opIx (mVar 2) (mC (.int 1))) (aNil)))))) (Pm.tNot (tV (mCall F 25 (aCons (mBin opIx (mBin opIx (mVar 2) (mC (.int 1))) (mC (.int 0))) (aCons (mVar 3) (aNil)))))))) (sRet (mC (.bl false))) (sNx)) (sSeq (sSet 4 (mCall F 38 (aCons (mVar 0) (aCons (mVar 1) (aNil))))) (sSeq (sSet 5 (mComp [11] (.name 11) (iR1 (mB bLen (aCons (mVar 1) (aNil)))) (tV (mBin opEq (mBin opIx (mBin opIx (mVar 1) (mVar 11)) (mC (.int 0))) (mC (.str "jump")))) (mVar 11))) (sSeq (sSet 6 (mCall F 39 (aCons (mVar 0) (aCons (mVar 1) (aCons (mVar 3) (aNil)))))) (sSeq (sSet 7 (mLst (aCons (mBin opIx (mVar 2) (mC (.int 1))) (aCons (mVar 4) (aCons (mTup (aCons (mBin opIx (mVar 4) (mC (.int 0))) (aCons (mCall F 22 (aCons (mVar 0) (aCons (mBin opIx (mVar 4) (mC (.int 1))) (aNil)))) (aNil)))) (aCons (mTup (aCons (mVar 3) (aCons (mSl (mBin opIx (mVar 4) (mC (.int 1))) (oNone) (oSome (mUn opNeg (mC (.int 1))))) (aNil)))) (aCons (mTup (aCons (mBin opIx (mVar 4) (mC (.int 0))) (aCons (mBin opAdd (mBin opIx (mVar 4) (mC (.int 1))) (mSl (mBin opIx (mVar 4) (mC (.int 1))) (oNone) (oSome (mC (.int 1))))) (aNil)))) (aNil)))))))) (sSeq (sSet 8 (mComp [12] (.name 12) (iLst (mVar 1)) (Pm.tYes) (mIf (tV (mBin opEq (mBin opIx (mVar 12) (mC (.int 0))) (mC (.str "size")))) (mBin opIx (mVar 12) (mC (.int 1))) (mBin opIx (mVar 12) (mC (.int 4)))))) (sSeq (sSet 9 (mComp [12] (.name 12) (iLst (mVar 1)) (Pm.tYes) (mIf (tV (mBin opEq (mBin opIx (mVar 12) (mC (.int 0))) (mC (.str "size")))) (mBin opIx (mVar 12) (mC (.int 1))) (mC (.int 1))))) (sSeq (sSet 7 (mBin opAdd (mVar 7) (mLst (aCons (mTup (aCons (mVar 6) (aCons (mComp [11] (.name 11) (iLst (mVar 5)) (tV (mBin opGt (mBin opIx (mVar 6) (mVar 11)) (mC (.int 1)))) (mVar 11)) (aNil)))) (aCons (mTup (aCons (mVar 6) (aCons (mBin opIx (mVar 4) (mC (.int 1))) (aNil)))) (aCons (mTup (aCons (mVar 8) (aCons (mVar 5) (aNil)))) (aCons (mTup (aCons (mVar 9) (aCons (mLst (aNil)) (aNil)))) (aNil)))))))) (sSeq (sSet 7 (mBin opAdd (mVar 7) (mLst (aCons (mCall F 29 (aCons (mVar 0) (aCons (mVar 4) (aNil)))) (aCons (mCall F 29 (aCons (mVar 0) (aCons (mBin opIx (mVar 2) (mC (.int 1))) (aNil)))) (aCons (mLst (aCons (mBin opIx (mVar 4) (mC (.int 0))) (aCons (mBin opIx (mVar 4) (mC (.int 1))) (aNil)))) (aNil))))))) (sSeq (sFor (.name 10) (iLst (mBin opAdd (mLst (aCons (mBin opIx (mVar 2) (mC (.int 1))) (aCons (mVar 4) (aNil)))) (mSl (mCall F 22 (aCons (mVar 0) (aCons (mVar 7) (aNil)))) (oNone) (oSome (mC (.int 6)))))) (sIf (Pm.tNot (tV (mCall F 25 (aCons (mCall F 43 (aCons (mVar 1) (aCons (mVar 10) (aNil)))) (aCons (mLst (aCons (mC (.str "told")) (aCons (mCall F 37 (aCons (mVar 1) (aCons (mVar 10) (aNil)))) (aNil)))) (aNil)))))) (sRet (mC (.bl false))) (sNx))) (sRet (mBin opEq (mB bLen (aCons (mComp [11] (.name 11) (iR1 (mB bLen (aCons (mVar 1) (aNil)))) (tV (mBin opLt (mBin opIx (mVar 6) (mVar 11)) (mBin opIx (mBin opIx (mBin opIx (mVar 2) (mC (.int 1))) (mC (.int 0))) (mVar 11)))) (mVar 11)) (aNil))) (mC (.int 0)))))))))))))))
def fn__law_answers : Fn := ⟨2, 13, b__law_answers⟩
def N__law_great : List PySem.Str := ["stream", "many", "rows", "told", "due", "sequence", "short", "longer", "value", "at", "k", "row"]
def b__law_great (F : Fns) : Ms :=
  sSeq (sSet 1 (mBin opAdd (mC (.int 1700)) (mCall F 19 (aCons (mVar 0) (aCons (mC (.int 200)) (aNil)))))) (sSeq (sSet 2 (mBin opAdd (mComp [9] (.name 9) (iR1 (mVar 1)) (Pm.tYes) (mTup (aCons (mC (.str "jump")) (aCons (mBin opAdd (mVar 9) (mC (.int 2))) (aCons (mC (.int 0)) (aCons (mC (.int 2)) (aCons (mC (.int 2)) (aNil)))))))) (mLst (aCons (mTup (aCons (mC (.str "size")) (aCons (mBin opAdd (mC (.int 1)) (mCall F 19 (aCons (mVar 0) (aCons (mC (.int 2)) (aNil))))) (aNil)))) (aCons (mTup (aCons (mC (.str "size")) (aCons (mC (.int 1)) (aNil)))) (aNil)))))) (sSeq (sSet 2 (mBin opAdd (mVar 2) (mBin opMul (mLst (aCons (mTup (aCons (mC (.str "size")) (aCons (mC (.int 1)) (aNil)))) (aNil))) (mBin opSub (mC (.int 2000)) (mB bLen (aCons (mVar 2) (aNil))))))) (sSeq (sSet 3 (mCall F 42 (aCons (mVar 2) (aNil)))) (sSeq (sSet 4 (mIf (tV (mBin opEq (mBin opIx (mBin opIx (mVar 2) (mVar 1)) (mC (.int 1))) (mC (.int 2)))) (mC (.int 2)) (mC (.int 1)))) (sSeq (sSet 5 (mIf (tV (mBin opEq (mVar 4) (mC (.int 2)))) (mComp [10] (.name 10) (iR1 (mVar 1)) (Pm.tYes) (mBin opSub (mBin opSub (mVar 1) (mC (.int 1))) (mVar 10))) (mLst (aNil)))) (sSeq (sIf (Pm.tOr (tV (mBin opNe (mBin opIx (mVar 3) (mC (.int 0))) (mC (.str "told")))) (Pm.tNot (tV (mCall F 25 (aCons (mBin opIx (mVar 3) (mC (.int 1))) (aCons (mTup (aCons (mBin opAdd (mBin opMul (mLst (aCons (mVar 4) (aNil))) (mVar 1)) (mComp [11] (.name 11) (iLst (mSl (mVar 2) (oSome (mVar 1)) (oNone))) (Pm.tYes) (mBin opIx (mVar 11) (mC (.int 1))))) (aCons (mVar 5) (aNil)))) (aNil))))))) (sRet (mC (.bl false))) (sNx)) (sSeq (sIf (Pm.tNot (tV (mCall F 25 (aCons (mCall F 42 (aCons (mBin opAdd (mVar 2) (mLst (aCons (mTup (aCons (mC (.str "size")) (aCons (mC (.int 0)) (aNil)))) (aNil)))) (aNil))) (aCons (mLst (aCons (mC (.str "raised")) (aCons (mC (.str "TooMany")) (aCons (mTup (aCons (mC (.str "rows")) (aNil))) (aNil))))) (aNil)))))) (sRet (mC (.bl false))) (sNx)) (sSeq (sSet 6 (mBin opAdd (mComp [9] (.name 9) (iR1 (mC (.int 40))) (Pm.tYes) (mTup (aCons (mC (.str "jump")) (aCons (mBin opAdd (mVar 9) (mC (.int 2))) (aCons (mC (.int 0)) (aCons (mC (.int 2)) (aCons (mC (.int 2)) (aNil)))))))) (mLst (aCons (mTup (aCons (mC (.str "size")) (aCons (mC (.int 2)) (aNil)))) (aCons (mTup (aCons (mC (.str "size")) (aCons (mC (.int 1)) (aNil)))) (aNil)))))) (sSeq (sSet 7 (mBin opAdd (mVar 6) (mBin opMul (mLst (aCons (mTup (aCons (mC (.str "size")) (aCons (mC (.int 1)) (aNil)))) (aNil))) (mC (.int 1990))))) (sSeq (sSet 8 (mTup (aCons (mBin opAdd (mBin opAdd (mBin opMul (mLst (aCons (mC (.int 2)) (aNil))) (mC (.int 40))) (mLst (aCons (mC (.int 2)) (aCons (mC (.int 1)) (aNil))))) (mBin opMul (mLst (aCons (mC (.int 1)) (aNil))) (mC (.int 1990)))) (aCons (mComp [10] (.name 10) (iR1 (mC (.int 40))) (Pm.tYes) (mBin opSub (mC (.int 39)) (mVar 10))) (aNil))))) (sRet (mAnd (mCall F 25 (aCons (mCall F 43 (aCons (mVar 7) (aCons (mVar 8) (aNil)))) (aCons (mLst (aCons (mC (.str "told")) (aCons (mC (.bl true)) (aNil)))) (aNil)))) (mCall F 25 (aCons (mCall F 43 (aCons (mVar 7) (aCons (mTup (aCons (mBin opIx (mVar 8) (mC (.int 0))) (aCons (mUn opRev (mBin opIx (mVar 8) (mC (.int 1)))) (aNil)))) (aNil)))) (aCons (mLst (aCons (mC (.str "told")) (aCons (mC (.bl false)) (aNil)))) (aNil))))))))))))))))
def fn__law_great : Fn := ⟨1, 12, b__law_great⟩
def N_law : List PySem.Str := ["script", "stream", "turn", "odd", "due", "rows", "row"]
def b_law (F : Fns) : Ms :=
  sSeq (sSet 1 (mCall F 18 (aCons (mVar 0) (aNil)))) (sSeq (sIf (tV (mBin opEq (mCall F 19 (aCons (mVar 1) (aCons (mC (.int 30)) (aNil)))) (mC (.int 7)))) (sRet (mCall F 45 (aCons (mVar 1) (aNil)))) (sNx)) (sSeq (sFor (.name 2) (iR1 (mC (.int 2))) (sSeq (sSet 5 (mCall F 20 (aCons (mVar 1) (aCons (mLst (aCons (mCall F 33 (aCons (mVar 1) (aNil))) (aCons (mCall F 33 (aCons (mVar 1) (aNil))) (aCons (mCall F 34 (aCons (mVar 1) (aNil))) (aCons (mCall F 35 (aCons (mVar 1) (aNil))) (aNil)))))) (aNil))))) (sIf (Pm.tNot (tV (mCall F 44 (aCons (mVar 1) (aCons (mVar 5) (aNil)))))) (sRet (mC (.bl false))) (sNx)))) (sSeq (sSet 3 (mCall F 29 (aCons (mVar 1) (aCons (mVar 5) (aNil))))) (sSeq (sIf (tV (mBin opEq (mCall F 19 (aCons (mVar 1) (aCons (mC (.int 4)) (aNil)))) (mC (.int 0)))) (sSeq (sSet 6 (mCall F 20 (aCons (mVar 1) (aCons (mLst (aCons (mTup (aCons (mC (.str "jump")) (aCons (mBin opAdd (mB bLen (aCons (mVar 5) (aNil))) (mC (.int 1))) (aCons (mC (.int 0)) (aCons (mC (.int 0)) (aCons (mC (.int 2)) (aNil))))))) (aCons (mTup (aCons (mC (.str "jump")) (aCons (mB bLen (aCons (mVar 5) (aNil))) (aCons (mC (.int 0)) (aCons (mC (.int 0)) (aCons (mC (.int 2)) (aNil))))))) (aCons (mTup (aCons (mC (.str "size")) (aCons (mC (.int 1001)) (aNil)))) (aCons (mTup (aCons (mC (.str "jump")) (aCons (mC (.int 0)) (aCons (mC (.int 100001)) (aCons (mC (.int 0)) (aCons (mC (.int 8)) (aNil))))))) (aCons (mTup (aCons (mC (.str "jump")) (aCons (mC (.int 0)) (aCons (mC (.int 0)) (aCons (mC (.int 0)) (aCons (mC (.int 9)) (aNil))))))) (aNil))))))) (aNil))))) (sSet 3 (mBin opAdd (mVar 5) (mLst (aCons (mCall F 20 (aCons (mVar 1) (aCons (mLst (aCons (mVar 6) (aCons (mVar 6) (aCons (mTup (aCons (mC (.str "size")) (aCons (mUn opNeg (mC (.int 1))) (aNil)))) (aCons (mTup (aCons (mC (.str "jump")) (aCons (mC (.int 0)) (aCons (mC (.int 1)) (aCons (mC (.int 1)) (aCons (mC (.int 1)) (aNil))))))) (aCons (mLst (aCons (mC (.str "size")) (aCons (mC (.int 1)) (aNil)))) (aCons (mTup (aCons (mC (.str "jump")) (aCons (mUn opNeg (mC (.int 1))) (aCons (mC (.int 9)) (aCons (mC (.int 9)) (aCons (mC (.int 2)) (aNil))))))) (aNil)))))))) (aNil)))) (aNil)))))) (sNx)) (sSeq (sIf (tV (mCall F 41 (aCons (mVar 3) (aNil)))) (sRet (mCall F 44 (aCons (mVar 1) (aCons (mVar 3) (aNil))))) (sNx)) (sSeq (sSet 4 (mLst (aCons (mC (.str "raised")) (aCons (mC (.str "BadValue")) (aCons (mTup (aCons (mC (.str "rows")) (aNil))) (aNil)))))) (sRet (mAnd (mCall F 25 (aCons (mCall F 42 (aCons (mVar 3) (aNil))) (aCons (mVar 4) (aNil)))) (mCall F 25 (aCons (mCall F 43 (aCons (mVar 3) (aCons (mTup (aCons (mLst (aNil)) (aCons (mLst (aNil)) (aNil)))) (aNil)))) (aCons (mVar 4) (aNil))))))))))))
def fn_law : Fn := ⟨1, 7, b_law⟩
def tab : Nat → Option Fn
  | 0 => some fn_is_int
  | 1 => some fn_is_between
  | 2 => some fn_is_list_of
  | 3 => some fn_is_tuple_of
  | 4 => some fn_is_word
  | 5 => some fn_is_length_row
  | 6 => some fn_check_rows
  | 7 => some fn_near_lengths
  | 8 => some fn_row_starts
  | 9 => some fn_jump_reaches
  | 10 => some fn_jump_distances
  | 11 => some fn_jump_reach
  | 12 => some fn_jump_spans
  | 13 => some fn_least_of
  | 14 => some fn_least_lengths
  | 15 => some fn_lengths_have_form
  | 16 => some fn_sequence_fits
  | 17 => some fn_is_least
  | 18 => some fn__law_stream
  | 19 => some fn__law_next
  | 20 => some fn__law_pick
  | 21 => some fn__law_from
  | 22 => some fn__law_shuffled
  | 23 => some fn__law_number
  | 24 => some fn__law_is_row
  | 25 => some fn__law_same
  | 26 => some fn__law_copy
  | 29 => some fn__law_spoilt
  | 30 => some fn__law_row_starts
  | 31 => some fn__law_reach_ok
  | 32 => some fn__law_sweep
  | 33 => some fn__law_some_rows
  | 34 => some fn__law_facing
  | 35 => some fn__law_falling
  | 36 => some fn__law_out_of_reach
  | 37 => some fn__law_least_ok
  | 38 => some fn__law_other_sequence
  | 39 => some fn__law_other_fit
  | 40 => some fn__law_row_ok
  | 41 => some fn__law_rows_ok
  | 42 => some fn__law_told
  | 43 => some fn__law_judged
  | 44 => some fn__law_answers
  | 45 => some fn__law_great
  | 46 => some fn_law
  | _ => none
end K78

set_option Elab.async false
set_option linter.all false
set_option maxRecDepth 100000
set_option maxHeartbeats 4000000
namespace K78
open PySem L2 Pm
theorem isE_at {s : S} {a dd : Addr} {fs : List (Str × D)} {i : Nat} {b : Bool} (h : s.env[i]? = some (.exc a dd fs)) : mIsE a dd i b s = .ok (.d (.bl b)) s := by
  unfold mIsE
  rw [h]
  simp
theorem fld_at {s : S} {a dd : Addr} {fs : List (Str × D)} {i : Nat} {f : Str} {d : D} (h : s.env[i]? = some (.exc a dd fs)) (hl : fs.lookup f = some d) : mFld a dd i f s = .ok (.d d) s := by
  unfold mFld
  rw [h]
  simp [hl]
theorem len_le {l : List D} {k : Nat} (h : l.length = k) (hk : k ≤ LIM) : l.length ≤ LIM := by
  rw [h]
  exact hk
theorem seq_ok {a b : Ms} {s s1 : S} (h : a s = .ok .nx s1) : sSeq a b s = b s1 := by
  show (a s).bind _ = _
  rw [h]
  rfl
theorem set_ok {i : Nat} {m : Me} {s s1 : S} {r : R} {d : D} (h : m s = .ok r s1) (hd : r.toD = some d) : sSet i m s = .ok .nx (setVal s1 i (.val d)) := by
  show (m s).bind _ = _
  rw [h]
  show (match r.toD with
    | some d => Ou.ok Fl.nx (setVal s1 i (.val d))
    | none => .st) = _
  rw [hd]
theorem cons_ok {a : Me} {b : Ma} {s : S} {r : R} {rs : List R} (h : a s = .ok r s) (h2 : b s = .ok rs s) : aCons a b s = .ok (r :: rs) s := by
  show (a s).bind _ = _
  rw [h]
  show (b s).bind _ = _
  rw [h2]
  rfl
theorem lst_ok {m : Ma} {s : S} {rs : List R} {ds : List D} (h : m s = .ok rs s) (hd : toDs rs = some ds) (hl : ds.length ≤ LIM) : mLst m s = .ok (.fr ds) s := by
  show (m s).bind _ = _
  rw [h]
  show (match toDs rs with
    | some ds => if ds.length ≤ LIM then Ou.ok (R.fr ds) s else Ou.st
    | none => Ou.st) = _
  rw [hd]
  dsimp only
  rw [if_pos hl]
theorem tup_ok {m : Ma} {s : S} {rs : List R} {ds : List D} (h : m s = .ok rs s) (hd : toDs rs = some ds) (hl : ds.length ≤ LIM) : mTup m s = .ok (.d (.tup ds)) s := by
  show (m s).bind _ = _
  rw [h]
  show (match toDs rs with
    | some ds => if ds.length ≤ LIM then Ou.ok (R.d (D.tup ds)) s else Ou.st
    | none => Ou.st) = _
  rw [hd]
  dsimp only
  rw [if_pos hl]
theorem bin_ok {f : S → R → R → Option R} {a b : Me} {s : S} {x y z : R} (h : a s = .ok x s) (h2 : b s = .ok y s) (hf : f s x y = some z) : mBin f a b s = .ok z s := by
  show (a s).bind _ = _
  rw [h]
  show (b s).bind _ = _
  rw [h2]
  show ofR (f s x y) s = _
  rw [hf]
  rfl
theorem or_ok {a b : Mt} {s : S} {x y : Bool} (h : a s = .ok x s) (h2 : b s = .ok y s) : Pm.tOr a b s = .ok (x || y) s := by
  show (a s).bind _ = _
  rw [h]
  cases x
  · exact h2
  · rfl
theorem not_ok {a : Mt} {s : S} {x : Bool} (h : a s = .ok x s) : Pm.tNot a s = .ok (!x) s := by
  show (a s).bind _ = _
  rw [h]
  rfl
theorem tV_ok {a : Me} {s : S} {x : Bool} (h : a s = .ok (.d (.bl x)) s) : tV a s = .ok x s := by
  show asB (a s) = _
  rw [h]
  rfl
theorem if_no {c : Mt} {a b : Ms} {s : S} (h : c s = .ok false s) : sIf c a b s = b s := by
  show (c s).bind _ = _
  rw [h]
  rfl
theorem if_yes {c : Mt} {a b : Ms} {s : S} (h : c s = .ok true s) : sIf c a b s = a s := by
  show (c s).bind _ = _
  rw [h]
  rfl
theorem mM_ok {f : S → R → R → Option R} {o e : Me} {s : S} {ro re z : R} {l : List D} (h : o s = .ok ro s) (hl : s.lr ro = some l) (h2 : e s = .ok re s) (hf : f s ro re = some z) : mM f o e s = .ok z s := by
  show (o s).bind _ = _
  rw [h]
  show (match s.lr ro with
    | none => Ou.st
    | some _ => (e s).bind fun re s2 => ofR (f s2 ro re) s2) = _
  rw [hl]
  show (e s).bind _ = _
  rw [h2]
  show ofR (f s ro re) s = _
  rw [hf]
  rfl
/-- the truth values that _law_named lists -/
def fitsOf (c : Nat) : List Bool := [clsIs c 1, clsIs c 2, clsIs c 3, clsIs c 4, clsIs c 5, clsIs c 6, clsIs c 7, clsIs c 8, clsIs c 9, clsIs c 10, clsIs c 11, clsIs c 12, clsIs c 13, clsIs c 14, clsIs c 15]
def NAMES : Str := "BadText BadScope BadTree BadGraph BadPaper BadPiece BadWords BadInput BadEdit BadValue NotTyped NotCompiled TooMany NothingToUndo NothingToRedo"
theorem named_run (a dd : Addr) (c : Nat) (fs : List (Str × D)) (m : List (List D)) (j : Nat) (n : Str) (h1 : (fitsOf c).count true = 1) (h2 : true ∈ fitsOf c) (h3 : (fitsOf c).idxOf true = j) (h4 : (Txt.split NAMES " ")[j]? = some n) :
    g__law_named a dd c [.exc a dd fs] m = .ok (.d (.str n)) m := by
  have g0 : ∀ (x y : Sl), ({ env := [.exc a dd fs, x, y], mem := m } : S).env[0]? = some (.exc a dd fs) := fun _ _ => rfl
  have I := fun (x y : Sl) (b : Bool) => isE_at (b := b) (g0 x y)
  have run : b__law_named a dd c (fun _ _ _ => .st) { env := [.exc a dd fs, .un, .un], mem := m } = .ok (.rt (.d (.str n))) { env := [.exc a dd fs, .val (.str NAMES), .val (.lst ((fitsOf c).map D.bl))], mem := m } := by
    unfold b__law_named
    refine (seq_ok (s1 := { env := [.exc a dd fs, .val (.str NAMES), .un], mem := m }) (set_ok (r := .d (.str NAMES)) (d := .str NAMES) (s1 := { env := [.exc a dd fs, .un, .un], mem := m }) rfl rfl)).trans ?_
    refine (seq_ok (s1 := { env := [.exc a dd fs, .val (.str NAMES), .val (.lst [.bl (clsIs c 1), .bl (clsIs c 2), .bl (clsIs c 3), .bl (clsIs c 4), .bl (clsIs c 5)])], mem := m }) (set_ok (s1 := { env := [.exc a dd fs, .val (.str NAMES), .un], mem := m }) (lst_ok (cons_ok (I _ _ _) (cons_ok (I _ _ _) (cons_ok (I _ _ _) (cons_ok (I _ _ _) (cons_ok (I _ _ _) rfl))))) rfl (len_le (k := 5) rfl (by decide))) rfl)).trans ?_
    refine (seq_ok (s1 := { env := [.exc a dd fs, .val (.str NAMES), .val (.lst [.bl (clsIs c 1), .bl (clsIs c 2), .bl (clsIs c 3), .bl (clsIs c 4), .bl (clsIs c 5), .bl (clsIs c 6), .bl (clsIs c 7), .bl (clsIs c 8), .bl (clsIs c 9)])], mem := m }) (set_ok (s1 := { env := [.exc a dd fs, .val (.str NAMES), .val (.lst [.bl (clsIs c 1), .bl (clsIs c 2), .bl (clsIs c 3), .bl (clsIs c 4), .bl (clsIs c 5)])], mem := m }) (bin_ok (f := opAdd) (x := .d (.lst [.bl (clsIs c 1), .bl (clsIs c 2), .bl (clsIs c 3), .bl (clsIs c 4), .bl (clsIs c 5)])) rfl (lst_ok (cons_ok (I _ _ _) (cons_ok (I _ _ _) (cons_ok (I _ _ _) (cons_ok (I _ _ _) rfl)))) rfl (len_le (k := 4) rfl (by decide))) rfl) rfl)).trans ?_
    refine (seq_ok (s1 := { env := [.exc a dd fs, .val (.str NAMES), .val (.lst [.bl (clsIs c 1), .bl (clsIs c 2), .bl (clsIs c 3), .bl (clsIs c 4), .bl (clsIs c 5), .bl (clsIs c 6), .bl (clsIs c 7), .bl (clsIs c 8), .bl (clsIs c 9), .bl (clsIs c 10), .bl (clsIs c 11), .bl (clsIs c 12), .bl (clsIs c 13)])], mem := m }) (set_ok (s1 := { env := [.exc a dd fs, .val (.str NAMES), .val (.lst [.bl (clsIs c 1), .bl (clsIs c 2), .bl (clsIs c 3), .bl (clsIs c 4), .bl (clsIs c 5), .bl (clsIs c 6), .bl (clsIs c 7), .bl (clsIs c 8), .bl (clsIs c 9)])], mem := m }) (bin_ok (f := opAdd) (x := .d (.lst [.bl (clsIs c 1), .bl (clsIs c 2), .bl (clsIs c 3), .bl (clsIs c 4), .bl (clsIs c 5), .bl (clsIs c 6), .bl (clsIs c 7), .bl (clsIs c 8), .bl (clsIs c 9)])) rfl (lst_ok (cons_ok (I _ _ _) (cons_ok (I _ _ _) (cons_ok (I _ _ _) (cons_ok (I _ _ _) rfl)))) rfl (len_le (k := 4) rfl (by decide))) rfl) rfl)).trans ?_
    refine (seq_ok (s1 := { env := [.exc a dd fs, .val (.str NAMES), .val (.lst [.bl (clsIs c 1), .bl (clsIs c 2), .bl (clsIs c 3), .bl (clsIs c 4), .bl (clsIs c 5), .bl (clsIs c 6), .bl (clsIs c 7), .bl (clsIs c 8), .bl (clsIs c 9), .bl (clsIs c 10), .bl (clsIs c 11), .bl (clsIs c 12), .bl (clsIs c 13), .bl (clsIs c 14), .bl (clsIs c 15)])], mem := m }) (set_ok (s1 := { env := [.exc a dd fs, .val (.str NAMES), .val (.lst [.bl (clsIs c 1), .bl (clsIs c 2), .bl (clsIs c 3), .bl (clsIs c 4), .bl (clsIs c 5), .bl (clsIs c 6), .bl (clsIs c 7), .bl (clsIs c 8), .bl (clsIs c 9), .bl (clsIs c 10), .bl (clsIs c 11), .bl (clsIs c 12), .bl (clsIs c 13)])], mem := m }) (bin_ok (f := opAdd) (x := .d (.lst [.bl (clsIs c 1), .bl (clsIs c 2), .bl (clsIs c 3), .bl (clsIs c 4), .bl (clsIs c 5), .bl (clsIs c 6), .bl (clsIs c 7), .bl (clsIs c 8), .bl (clsIs c 9), .bl (clsIs c 10), .bl (clsIs c 11), .bl (clsIs c 12), .bl (clsIs c 13)])) rfl (lst_ok (cons_ok (I _ _ _) (cons_ok (I _ _ _) rfl)) rfl (len_le (k := 2) rfl (by decide))) rfl) rfl)).trans ?_
    have e3 : ({ env := [.exc a dd fs, .val (.str NAMES), .val (.lst ((fitsOf c).map D.bl))], mem := m } : S) = { env := [.exc a dd fs, .val (.str NAMES), .val (.lst [.bl (clsIs c 1), .bl (clsIs c 2), .bl (clsIs c 3), .bl (clsIs c 4), .bl (clsIs c 5), .bl (clsIs c 6), .bl (clsIs c 7), .bl (clsIs c 8), .bl (clsIs c 9), .bl (clsIs c 10), .bl (clsIs c 11), .bl (clsIs c 12), .bl (clsIs c 13), .bl (clsIs c 14), .bl (clsIs c 15)])], mem := m } := rfl
    rw [← e3]
    have hb : bls ((fitsOf c).map D.bl) = some (fitsOf c) := rfl
    have cnt : opCnt { env := [.exc a dd fs, .val (.str NAMES), .val (.lst ((fitsOf c).map D.bl))], mem := m } (.d (.lst ((fitsOf c).map D.bl))) (.d (.bl true)) = some (.d (.int 1)) := by
      show (match (some ((fitsOf c).map D.bl)).bind bls, R.d (.bl true) with
        | some bs, .d (.bl b) => some (R.d (.int (bs.count b : Nat)))
        | _, _ => none) = _
      rw [Option.bind_some, hb]
      show some (R.d (.int ((fitsOf c).count true : Nat))) = _
      rw [h1]
      rfl
    have idx : opIdx { env := [.exc a dd fs, .val (.str NAMES), .val (.lst ((fitsOf c).map D.bl))], mem := m } (.d (.lst ((fitsOf c).map D.bl))) (.d (.bl true)) = some (.d (.int (j : Nat))) := by
      show (match (some ((fitsOf c).map D.bl)).bind bls, R.d (.bl true) with
        | some bs, .d (.bl b) => if b ∈ bs then some (R.d (.int (bs.idxOf b : Nat))) else none
        | _, _ => none) = _
      rw [Option.bind_some, hb]
      show (if true ∈ fitsOf c then some (R.d (.int ((fitsOf c).idxOf true : Nat))) else none) = _
      rw [if_pos h2, h3]
    have vf : mVar 2 { env := [.exc a dd fs, .val (.str NAMES), .val (.lst ((fitsOf c).map D.bl))], mem := m } = .ok (.d (.lst ((fitsOf c).map D.bl))) { env := [.exc a dd fs, .val (.str NAMES), .val (.lst ((fitsOf c).map D.bl))], mem := m } := rfl
    refine (seq_ok (s1 := { env := [.exc a dd fs, .val (.str NAMES), .val (.lst ((fitsOf c).map D.bl))], mem := m }) ((if_no (or_ok (x := false) (y := false) (tV_ok (bin_ok (f := opNe) (mM_ok (f := opCnt) (l := (fitsOf c).map D.bl) vf rfl (re := .d (.bl true)) rfl cnt) (y := .d (.int 1)) rfl rfl)) (or_ok (x := false) (y := false) (not_ok (x := true) (tV_ok (I _ _ _))) (not_ok (x := true) (tV_ok (I _ _ _)))))).trans rfl)).trans ?_
    have spl : mSplit (mVar 1) (mC (.str " ")) { env := [.exc a dd fs, .val (.str NAMES), .val (.lst ((fitsOf c).map D.bl))], mem := m } = .ok (.fr ((Txt.split NAMES " ").map D.str)) { env := [.exc a dd fs, .val (.str NAMES), .val (.lst ((fitsOf c).map D.bl))], mem := m } := by
      show ofR (if ((" " : Str).length == 0) = false ∧ NAMES.length ≤ LIM then some (.fr ((Txt.split NAMES " ").map D.str)) else none) _ = _
      rw [if_pos (by decide +kernel)]
      rfl
    have ix : opIx { env := [.exc a dd fs, .val (.str NAMES), .val (.lst ((fitsOf c).map D.bl))], mem := m } (.fr ((Txt.split NAMES " ").map D.str)) (.d (.int (j : Nat))) = some (.d (.str n)) := by
      show (atD ((Txt.split NAMES " ").map D.str) (j : Nat)).map R.d = _
      have e6 : atD ((Txt.split NAMES " ").map D.str) ((j : Nat) : Int) = some (.str n) := by
        have hj := (List.getElem?_eq_some_iff.mp h4).1
        unfold atD Pm.ixN
        rw [if_pos (Int.natCast_nonneg j), if_pos (by rw [List.length_map]; exact Int.ofNat_lt.mpr hj)]
        show ((Txt.split NAMES " ").map D.str)[(j : Int).toNat]? = _
        rw [Int.toNat_natCast, List.getElem?_map, h4]
        rfl
      rw [e6]
      rfl
    have e5 := bin_ok spl (mM_ok (e := mC (.bl true)) (f := opIdx) (l := (fitsOf c).map D.bl) vf rfl (re := .d (.bl true)) rfl idx) ix
    show (mBin opIx _ _ _).bind _ = _
    rw [e5]
    rfl
  show retOf (b__law_named a dd c (fun _ _ _ => .st) { env := [.exc a dd fs, .un, .un], mem := m }) = _
  rw [run]
  rfl
theorem e_named (a dd : Addr) (c : Nat) (n : Str) (fs : List (Str × D)) (m : List (List D)) (h : clsName c = some n) (hf : fs.map (·.1) = clsFld c) : g__law_named a dd c [.exc a dd fs] m = .ok (.d (.str n)) m := by
  unfold clsName at h
  split at h
  case h_16 => cases h
  all_goals
    injection h with h
    subst h
    exact named_run a dd _ fs m _ _ (by decide) (by decide) rfl (by decide +kernel)
theorem step_no {c : Mt} {a b : Ms} {s : S} (h : c s = .ok false s) : sSeq (sIf c a sNx) b s = b s := seq_ok ((if_no h).trans rfl)
theorem step_yes {c : Mt} {a b : Ms} {s : S} {r : R} (h : c s = .ok true s) (h2 : a s = .ok (.rt r) s) : sSeq (sIf c a sNx) b s = .ok (.rt r) s := by
  show (sIf c a sNx s).bind _ = _
  rw [if_yes h, h2]
  rfl
theorem ret_ok {m : Me} {s : S} {r : R} (h : m s = .ok r s) : sRet m s = .ok (.rt r) s := by
  show (m s).bind _ = _
  rw [h]
  rfl
theorem ifE_yes {c : Mt} {a b : Me} {s : S} (h : c s = .ok true s) : mIf c a b s = a s := by
  show (c s).bind _ = _
  rw [h]
  rfl
theorem ifE_no {c : Mt} {a b : Me} {s : S} (h : c s = .ok false s) : mIf c a b s = b s := by
  show (c s).bind _ = _
  rw [h]
  rfl
theorem fld1 {fs : List (Str × D)} {x : Str} (h : fs.map (·.1) = [x]) : ∃ d, fs = [(x, d)] := by
  match fs, h with
  | [(y, d)], h => injection h with h; subst h; exact ⟨d, rfl⟩
theorem fld2 {fs : List (Str × D)} {x y : Str} (h : fs.map (·.1) = [x, y]) : ∃ d e, fs = [(x, d), (y, e)] := by
  match fs, h with
  | [(x', d), (y', e)], h =>
    injection h with h h2
    injection h2 with h2
    subst h h2
    exact ⟨d, e, rfl⟩
theorem fld3 {fs : List (Str × D)} {x y z : Str} (h : fs.map (·.1) = [x, y, z]) : ∃ d e g, fs = [(x, d), (y, e), (z, g)] := by
  match fs, h with
  | [(x', d), (y', e), (z', g)], h =>
    injection h with h h2
    injection h2 with h2 h3
    injection h3 with h3
    subst h h2 h3
    exact ⟨d, e, g, rfl⟩
theorem attrs_run {a dd : Addr} {c : Nat} {fs : List (Str × D)} {m : List (List D)} {n : Str} {l : List D} (h : b__law_attributes a dd c (fun _ _ _ => .st) { env := [.exc a dd fs, .val (.str n)], mem := m } = .ok (.rt (.d (.tup l))) { env := [.exc a dd fs, .val (.str n)], mem := m }) :
    g__law_attributes a dd c [.exc a dd fs, .val (.str n)] m = .ok (.d (.tup l)) m := by
  show retOf (b__law_attributes a dd c (fun _ _ _ => .st) { env := [.exc a dd fs, .val (.str n)], mem := m }) = _
  rw [h]
  rfl
theorem e_attrs (a dd : Addr) (c : Nat) (n : Str) (fs : List (Str × D)) (m : List (List D)) (h : clsName c = some n) (hf : fs.map (·.1) = clsFld c) : g__law_attributes a dd c [.exc a dd fs, .val (.str n)] m = .ok (.d (.tup (fs.map (·.2)))) m := by
  have F := fun (fs : List (Str × D)) (n f : Str) (d : D) (hl : fs.lookup f = some d) => fld_at (s := { env := [.exc a dd fs, .val (.str n)], mem := m }) (a := a) (dd := dd) (i := 0) rfl hl
  unfold clsName at h
  split at h
  case h_16 => cases h
  all_goals
    injection h with h
    subst h
  all_goals
    first
    | obtain ⟨d, rfl⟩ := fld1 hf
    | obtain ⟨d, e, rfl⟩ := fld2 hf
    | obtain ⟨d, e, g, rfl⟩ := fld3 hf
    | obtain rfl : fs = [] := List.map_eq_nil_iff.mp hf
    refine attrs_run ?_
    unfold b__law_attributes
    repeat refine (step_no rfl).trans ?_
    first
    | exact step_yes rfl (ret_ok (tup_ok (cons_ok (F _ _ _ _ rfl) rfl) rfl (len_le (k := 1) rfl (by decide))))
    | exact step_yes rfl (ret_ok (tup_ok (cons_ok (F _ _ _ _ rfl) (cons_ok (F _ _ _ _ rfl) rfl)) rfl (len_le (k := 2) rfl (by decide))))
    | exact step_yes rfl (ret_ok (tup_ok (cons_ok (F _ _ _ _ rfl) (cons_ok (F _ _ _ _ rfl) (cons_ok (F _ _ _ _ rfl) rfl))) rfl (len_le (k := 3) rfl (by decide))))
    | exact ret_ok ((ifE_yes rfl).trans (tup_ok (cons_ok (F _ _ _ _ rfl) rfl) rfl (len_le (k := 1) rfl (by decide))))
    | exact ret_ok ((ifE_no rfl).trans (tup_ok rfl rfl (len_le (k := 0) rfl (by decide))))
end K78

set_option Elab.async false
set_option linter.all false
set_option maxRecDepth 100000
set_option maxHeartbeats 4000000
/-! printed by wip/gen.py: the derivations of law_k78_whole_least_lengths -/
namespace K78
open PySem L2 Pm PyProof.Rows
def topS (i : Nat) : Stmt := PySem.Challenge.pw_wellrun_k78_whole_least_lengths.main.body.getD i (.Pass ⟨0, 0, 0, 0⟩)
abbrev FnP (K : PySem.W.Frag) (x : PySem.Str) (st : Stmt) (f : Addr) (fd : FuncData) : Prop := FunD K x x (defArgs st) (defBody st) (defScope st) [] [] f fd
/-- where the classes stand -/
def CAof (K : PySem.W.Frag) : Nat → Addr
  | 0 => He.ga K "WellError"
  | 1 => He.ga K "BadText"
  | 2 => He.ga K "BadScope"
  | 3 => He.ga K "BadTree"
  | 4 => He.ga K "BadGraph"
  | 5 => He.ga K "BadPaper"
  | 6 => He.ga K "BadPiece"
  | 7 => He.ga K "BadWords"
  | 8 => He.ga K "BadInput"
  | 9 => He.ga K "BadEdit"
  | 10 => He.ga K "BadValue"
  | 11 => He.ga K "NotTyped"
  | 12 => He.ga K "NotCompiled"
  | 13 => He.ga K "TooMany"
  | 14 => He.ga K "NothingToUndo"
  | _ => He.ga K "NothingToRedo"
structure Tx (K : PySem.W.Frag) (mg : PySem.Str → Option Value) : Prop where
  f_ValueError : mg "ValueError" = none
  f_abs : mg "abs" = none
  f_all : mg "all" = none
  f_bool : mg "bool" = none
  f_dict : mg "dict" = none
  f_enumerate : mg "enumerate" = none
  f_int : mg "int" = none
  f_isinstance : mg "isinstance" = none
  f_len : mg "len" = none
  f_list : mg "list" = none
  f_max : mg "max" = none
  f_min : mg "min" = none
  f_range : mg "range" = none
  f_str : mg "str" = none
  f_tuple : mg "tuple" = none
  c_MOST_FAR : ∃ t, mg "MOST_FAR" = some (.int (8) t)
  c_MOST_REACH : ∃ t, mg "MOST_REACH" = some (.int (100000) t)
  c_MOST_ROWS : ∃ t, mg "MOST_ROWS" = some (.int (2000) t)
  c_MOST_SIZE : ∃ t, mg "MOST_SIZE" = some (.int (1000) t)
  x_BadValue : ∀ P w base, Xc P w K mg base "BadValue" (CAof K 10) "name"
  x_TooMany : ∀ P w base, Xc P w K mg base "TooMany" (CAof K 13) "word"
structure Cs (P : Program) (w : World) (K : PySem.W.Frag) (mg : PySem.Str → Option Value) (base : Heap) (CA : Nat → Addr) (F : Fns) (k : Nat) : Prop where
  c_is_int : Cl P w K mg base CA F k "is_int" 1 0
  c_is_between : Cl P w K mg base CA F k "is_between" 3 1
  c_is_list_of : Cl P w K mg base CA F k "is_list_of" 2 2
  c_is_tuple_of : Cl P w K mg base CA F k "is_tuple_of" 2 3
  c_is_word : Cl P w K mg base CA F k "is_word" 2 4
  c_is_length_row : Cl P w K mg base CA F k "is_length_row" 2 5
  c_check_rows : Cl P w K mg base CA F k "check_rows" 1 6
  c_near_lengths : Cl P w K mg base CA F k "near_lengths" 1 7
  c_row_starts : Cl P w K mg base CA F k "row_starts" 1 8
  c_jump_reaches : Cl P w K mg base CA F k "jump_reaches" 3 9
  c_jump_distances : Cl P w K mg base CA F k "jump_distances" 2 10
  c_jump_reach : Cl P w K mg base CA F k "jump_reach" 2 11
  c_jump_spans : Cl P w K mg base CA F k "jump_spans" 3 12
  c_least_of : Cl P w K mg base CA F k "least_of" 1 13
  c_least_lengths : Cl P w K mg base CA F k "least_lengths" 1 14
  c_lengths_have_form : Cl P w K mg base CA F k "lengths_have_form" 2 15
  c_sequence_fits : Cl P w K mg base CA F k "sequence_fits" 3 16
  c_is_least : Cl P w K mg base CA F k "is_least" 2 17
  c__law_stream : Cl P w K mg base CA F k "_law_stream" 1 18
  c__law_next : Cl P w K mg base CA F k "_law_next" 2 19
  c__law_pick : Cl P w K mg base CA F k "_law_pick" 2 20
  c__law_from : Cl P w K mg base CA F k "_law_from" 3 21
  c__law_shuffled : Cl P w K mg base CA F k "_law_shuffled" 2 22
  c__law_number : Cl P w K mg base CA F k "_law_number" 3 23
  c__law_is_row : Cl P w K mg base CA F k "_law_is_row" 3 24
  c__law_same : Cl P w K mg base CA F k "_law_same" 2 25
  c__law_copy : Cl P w K mg base CA F k "_law_copy" 1 26
  c__law_spoilt : Cl P w K mg base CA F k "_law_spoilt" 2 29
  c__law_row_starts : Cl P w K mg base CA F k "_law_row_starts" 1 30
  c__law_reach_ok : Cl P w K mg base CA F k "_law_reach_ok" 3 31
  c__law_sweep : Cl P w K mg base CA F k "_law_sweep" 2 32
  c__law_some_rows : Cl P w K mg base CA F k "_law_some_rows" 1 33
  c__law_facing : Cl P w K mg base CA F k "_law_facing" 1 34
  c__law_falling : Cl P w K mg base CA F k "_law_falling" 1 35
  c__law_out_of_reach : Cl P w K mg base CA F k "_law_out_of_reach" 2 36
  c__law_least_ok : Cl P w K mg base CA F k "_law_least_ok" 2 37
  c__law_other_sequence : Cl P w K mg base CA F k "_law_other_sequence" 2 38
  c__law_other_fit : Cl P w K mg base CA F k "_law_other_fit" 3 39
  c__law_row_ok : Cl P w K mg base CA F k "_law_row_ok" 2 40
  c__law_rows_ok : Cl P w K mg base CA F k "_law_rows_ok" 1 41
  c__law_told : Cl P w K mg base CA F k "_law_told" 1 42
  c__law_judged : Cl P w K mg base CA F k "_law_judged" 2 43
  c__law_answers : Cl P w K mg base CA F k "_law_answers" 2 44
  c__law_great : Cl P w K mg base CA F k "_law_great" 1 45
  c_law : Cl P w K mg base CA F k "law" 1 46
structure HotK (K : PySem.W.Frag) (mg : PySem.Str → Option Value) : Prop where
  ex : ∀ c, ExcC K (CAof K c)
  xf : ∀ c, XfC K (CAof K c)
  nof_address : ∀ c, PySem.W.findIn K (.ref (CAof K c)) "address" = some none
  nof_column : ∀ c, PySem.W.findIn K (.ref (CAof K c)) "column" = some none
  nof_function : ∀ c, PySem.W.findIn K (.ref (CAof K c)) "function" = some none
  nof_index : ∀ c, PySem.W.findIn K (.ref (CAof K c)) "index" = some none
  nof_line : ∀ c, PySem.W.findIn K (.ref (CAof K c)) "line" = some none
  nof_name : ∀ c, PySem.W.findIn K (.ref (CAof K c)) "name" = some none
  nof_node : ∀ c, PySem.W.findIn K (.ref (CAof K c)) "node" = some none
  nof_point : ∀ c, PySem.W.findIn K (.ref (CAof K c)) "point" = some none
  nof_row : ∀ c, PySem.W.findIn K (.ref (CAof K c)) "row" = some none
  nof_word : ∀ c, PySem.W.findIn K (.ref (CAof K c)) "word" = some none
  kit_BadEdit : ∀ c, PySem.W.kitOne K (.ref (CAof K c)) (.ref (CAof K 9)) = some (clsIs c 9)
  a_BadEdit : mg "BadEdit" = some (.ref (CAof K 9))
  kit_BadGraph : ∀ c, PySem.W.kitOne K (.ref (CAof K c)) (.ref (CAof K 4)) = some (clsIs c 4)
  a_BadGraph : mg "BadGraph" = some (.ref (CAof K 4))
  kit_BadInput : ∀ c, PySem.W.kitOne K (.ref (CAof K c)) (.ref (CAof K 8)) = some (clsIs c 8)
  a_BadInput : mg "BadInput" = some (.ref (CAof K 8))
  kit_BadPaper : ∀ c, PySem.W.kitOne K (.ref (CAof K c)) (.ref (CAof K 5)) = some (clsIs c 5)
  a_BadPaper : mg "BadPaper" = some (.ref (CAof K 5))
  kit_BadPiece : ∀ c, PySem.W.kitOne K (.ref (CAof K c)) (.ref (CAof K 6)) = some (clsIs c 6)
  a_BadPiece : mg "BadPiece" = some (.ref (CAof K 6))
  kit_BadScope : ∀ c, PySem.W.kitOne K (.ref (CAof K c)) (.ref (CAof K 2)) = some (clsIs c 2)
  a_BadScope : mg "BadScope" = some (.ref (CAof K 2))
  kit_BadText : ∀ c, PySem.W.kitOne K (.ref (CAof K c)) (.ref (CAof K 1)) = some (clsIs c 1)
  a_BadText : mg "BadText" = some (.ref (CAof K 1))
  kit_BadTree : ∀ c, PySem.W.kitOne K (.ref (CAof K c)) (.ref (CAof K 3)) = some (clsIs c 3)
  a_BadTree : mg "BadTree" = some (.ref (CAof K 3))
  kit_BadValue : ∀ c, PySem.W.kitOne K (.ref (CAof K c)) (.ref (CAof K 10)) = some (clsIs c 10)
  a_BadValue : mg "BadValue" = some (.ref (CAof K 10))
  kit_BadWords : ∀ c, PySem.W.kitOne K (.ref (CAof K c)) (.ref (CAof K 7)) = some (clsIs c 7)
  a_BadWords : mg "BadWords" = some (.ref (CAof K 7))
  kit_NotCompiled : ∀ c, PySem.W.kitOne K (.ref (CAof K c)) (.ref (CAof K 12)) = some (clsIs c 12)
  a_NotCompiled : mg "NotCompiled" = some (.ref (CAof K 12))
  kit_NotTyped : ∀ c, PySem.W.kitOne K (.ref (CAof K c)) (.ref (CAof K 11)) = some (clsIs c 11)
  a_NotTyped : mg "NotTyped" = some (.ref (CAof K 11))
  kit_NothingToRedo : ∀ c, PySem.W.kitOne K (.ref (CAof K c)) (.ref (CAof K 15)) = some (clsIs c 15)
  a_NothingToRedo : mg "NothingToRedo" = some (.ref (CAof K 15))
  kit_NothingToUndo : ∀ c, PySem.W.kitOne K (.ref (CAof K c)) (.ref (CAof K 14)) = some (clsIs c 14)
  a_NothingToUndo : mg "NothingToUndo" = some (.ref (CAof K 14))
  kit_TooMany : ∀ c, PySem.W.kitOne K (.ref (CAof K c)) (.ref (CAof K 13)) = some (clsIs c 13)
  a_TooMany : mg "TooMany" = some (.ref (CAof K 13))
  kit_WellError : ∀ c, PySem.W.kitOne K (.ref (CAof K c)) (.ref (CAof K 0)) = some (clsIs c 0)
  a_WellError : mg "WellError" = some (.ref (CAof K 0))
  kit_ValueError : ∀ c, PySem.W.kitOne K (.ref (CAof K c)) (.type "ValueError") = some true
structure HotC (P : Program) (w : World) (K : PySem.W.Frag) (mg : PySem.Str → Option Value) (base : Heap) : Prop where
  exm : ∀ c, PySem.W.exmOne K (.ref (CAof K c)) (.ref (CAof K 0)) = some true
  a_WellError : mg "WellError" = some (.ref (CAof K 0))
  named : ClE P w K mg base (CAof K) "_law_named" 1 g__law_named
  attrs : ClE P w K mg base (CAof K) "_law_attributes" 2 g__law_attributes
section
variable {P : Program} {w : World} {K : PySem.W.Frag} {mg : PySem.Str → Option Value} {base : Heap}
theorem okE__law_named {f : Addr} {fd : FuncData} {k : Nat} (T : Tx K mg) (Y : HotK K mg) (D : FnP K "_law_named" (topS 51) f fd) :
    FnE P w K mg base (CAof K) (k + 1) f fd ["error"] (fun a dd c => spF K (CAof K) (fun _ => g__law_named a dd c) 0 1) := by
  have S : FnScope N__law_named ["error"] (defScope (topS 51)) := ⟨rfl, rfl, rfl, by decide +kernel, rfl, by decide +kernel, by decide +kernel⟩
  refine fn_okE D S (fun a dd c vs H Q E h => h.1) (fun cdv A outer s H vs Q E a dd c oe T2 hr h => ⟨_, ?_, body_reads (fn := fn__law_named a dd c) (N := N__law_named) (fun as m => rfl) rfl h⟩)
  have nd := S.nd
  delta fn__law_named; dsimp only; delta b__law_named
  exact d_seq (d_set (ps_set (i := 1) nd rfl (Or.inl rfl) (d_str))) (d_seq (d_set (ps_set (i := 2) nd rfl (Or.inl rfl) (d_lst (d_cons (d_isX (c := .ref (CAof K 1)) (Y.ex c) T2 T.f_isinstance rfl boot_isinstance (pv 0) (pe_glob rfl Y.a_BadText rfl) (fun _ h => h) (Y.kit_BadText c)) (d_cons (d_isX (c := .ref (CAof K 2)) (Y.ex c) T2 T.f_isinstance rfl boot_isinstance (pv 0) (pe_glob rfl Y.a_BadScope rfl) (fun _ h => h) (Y.kit_BadScope c)) (d_cons (d_isX (c := .ref (CAof K 3)) (Y.ex c) T2 T.f_isinstance rfl boot_isinstance (pv 0) (pe_glob rfl Y.a_BadTree rfl) (fun _ h => h) (Y.kit_BadTree c)) (d_cons (d_isX (c := .ref (CAof K 4)) (Y.ex c) T2 T.f_isinstance rfl boot_isinstance (pv 0) (pe_glob rfl Y.a_BadGraph rfl) (fun _ h => h) (Y.kit_BadGraph c)) (d_cons (d_isX (c := .ref (CAof K 5)) (Y.ex c) T2 T.f_isinstance rfl boot_isinstance (pv 0) (pe_glob rfl Y.a_BadPaper rfl) (fun _ h => h) (Y.kit_BadPaper c)) (d_nil))))))))) (d_seq (d_set (ps_set (i := 2) nd rfl (Or.inl rfl) (d_bin op_addX bop_add (d_var 2 (pv 2)) (d_lst (d_cons (d_isX (c := .ref (CAof K 6)) (Y.ex c) T2 T.f_isinstance rfl boot_isinstance (pv 0) (pe_glob rfl Y.a_BadPiece rfl) (fun _ h => h) (Y.kit_BadPiece c)) (d_cons (d_isX (c := .ref (CAof K 7)) (Y.ex c) T2 T.f_isinstance rfl boot_isinstance (pv 0) (pe_glob rfl Y.a_BadWords rfl) (fun _ h => h) (Y.kit_BadWords c)) (d_cons (d_isX (c := .ref (CAof K 8)) (Y.ex c) T2 T.f_isinstance rfl boot_isinstance (pv 0) (pe_glob rfl Y.a_BadInput rfl) (fun _ h => h) (Y.kit_BadInput c)) (d_cons (d_isX (c := .ref (CAof K 9)) (Y.ex c) T2 T.f_isinstance rfl boot_isinstance (pv 0) (pe_glob rfl Y.a_BadEdit rfl) (fun _ h => h) (Y.kit_BadEdit c)) (d_nil))))))))) (d_seq (d_set (ps_set (i := 2) nd rfl (Or.inl rfl) (d_bin op_addX bop_add (d_var 2 (pv 2)) (d_lst (d_cons (d_isX (c := .ref (CAof K 10)) (Y.ex c) T2 T.f_isinstance rfl boot_isinstance (pv 0) (pe_glob rfl Y.a_BadValue rfl) (fun _ h => h) (Y.kit_BadValue c)) (d_cons (d_isX (c := .ref (CAof K 11)) (Y.ex c) T2 T.f_isinstance rfl boot_isinstance (pv 0) (pe_glob rfl Y.a_NotTyped rfl) (fun _ h => h) (Y.kit_NotTyped c)) (d_cons (d_isX (c := .ref (CAof K 12)) (Y.ex c) T2 T.f_isinstance rfl boot_isinstance (pv 0) (pe_glob rfl Y.a_NotCompiled rfl) (fun _ h => h) (Y.kit_NotCompiled c)) (d_cons (d_isX (c := .ref (CAof K 13)) (Y.ex c) T2 T.f_isinstance rfl boot_isinstance (pv 0) (pe_glob rfl Y.a_TooMany rfl) (fun _ h => h) (Y.kit_TooMany c)) (d_nil))))))))) (d_seq (d_set (ps_set (i := 2) nd rfl (Or.inl rfl) (d_bin op_addX bop_add (d_var 2 (pv 2)) (d_lst (d_cons (d_isX (c := .ref (CAof K 14)) (Y.ex c) T2 T.f_isinstance rfl boot_isinstance (pv 0) (pe_glob rfl Y.a_NothingToUndo rfl) (fun _ h => h) (Y.kit_NothingToUndo c)) (d_cons (d_isX (c := .ref (CAof K 15)) (Y.ex c) T2 T.f_isinstance rfl boot_isinstance (pv 0) (pe_glob rfl Y.a_NothingToRedo rfl) (fun _ h => h) (Y.kit_NothingToRedo c)) (d_nil))))))) (d_seq (d_if (k_pwt (d_wor (d_tcmp (op_neX hr.units) bop_ne (d_mM (pe_bm PySem.F.plainAttrs_list PySem.F.slot_list_count PySem.F.type_list_count mt_cntB (d_var 2 (pv 2)) (d_cons (d_bl) d_nil)) mop_cnt) (d_int) (nomark _)) (d_wor (d_tnot (d_tV (d_isX (c := .ref (CAof K 0)) (Y.ex c) T2 T.f_isinstance rfl boot_isinstance (pv 0) (pe_glob rfl Y.a_WellError rfl) (fun _ h => h) (Y.kit_WellError c)))) (d_wor1 (d_tnot (d_tV (d_isX (c := .ty "ValueError") (Y.ex c) T2 T.f_isinstance rfl boot_isinstance (pv 0) (pe_bltn rfl T.f_ValueError rfl rfl) (fun _ h => h) (Y.kit_ValueError c)))))))) (d_oneS (d_ret (d_str))) (d_nilS)) (d_oneS (d_ret (k_ix (d_split (d_var 1 (pv 1)) (d_str)) (d_mM (pe_bm PySem.F.plainAttrs_list PySem.F.slot_list_index PySem.F.type_list_index mt_index (d_var 2 (pv 2)) (d_cons (d_bl) d_nil)) mop_idx)))))))))
theorem okE__law_attributes {f : Addr} {fd : FuncData} {k : Nat} (T : Tx K mg) (Y : HotK K mg) (D : FnP K "_law_attributes" (topS 52) f fd) :
    FnE P w K mg base (CAof K) (k + 1) f fd ["e", "name"] (fun a dd c => spF K (CAof K) (fun _ => g__law_attributes a dd c) 0 2) := by
  have S : FnScope N__law_attributes ["e", "name"] (defScope (topS 52)) := ⟨rfl, rfl, rfl, by decide +kernel, rfl, by decide +kernel, by decide +kernel⟩
  refine fn_okE D S (fun a dd c vs H Q E h => h.1) (fun cdv A outer s H vs Q E a dd c oe T2 hr h => ⟨_, ?_, body_reads (fn := fn__law_attributes a dd c) (N := N__law_attributes) (fun as m => rfl) rfl h⟩)
  have nd := S.nd
  delta fn__law_attributes; dsimp only; delta b__law_attributes
  exact d_seq (d_if (d_tcmp (op_eqX hr.units) bop_eq (d_var 1 (pv 1)) (d_str) (nomark _)) (d_oneS (d_ret (d_tup (d_cons (d_fldX (Y.xf c) T2 (Y.nof_line c) (pv 0)) (d_cons (d_fldX (Y.xf c) T2 (Y.nof_column c) (pv 0)) (d_nil)))))) (d_nilS)) (d_seq (d_if (d_tcmp (op_eqX hr.units) bop_eq (d_var 1 (pv 1)) (d_str) (nomark _)) (d_oneS (d_ret (d_tup (d_cons (d_fldX (Y.xf c) T2 (Y.nof_word c) (pv 0)) (d_cons (d_fldX (Y.xf c) T2 (Y.nof_line c) (pv 0)) (d_cons (d_fldX (Y.xf c) T2 (Y.nof_column c) (pv 0)) (d_nil))))))) (d_nilS)) (d_seq (d_if (d_tcmp (op_eqX hr.units) bop_eq (d_var 1 (pv 1)) (d_str) (nomark _)) (d_oneS (d_ret (d_tup (d_cons (d_fldX (Y.xf c) T2 (Y.nof_node c) (pv 0)) (d_nil))))) (d_nilS)) (d_seq (d_if (d_tcmp (op_eqX hr.units) bop_eq (d_var 1 (pv 1)) (d_str) (nomark _)) (d_oneS (d_ret (d_tup (d_cons (d_fldX (Y.xf c) T2 (Y.nof_function c) (pv 0)) (d_cons (d_fldX (Y.xf c) T2 (Y.nof_point c) (pv 0)) (d_nil)))))) (d_nilS)) (d_seq (d_if (d_tcmp op_in_seq bop_in (d_var 1 (pv 1)) (d_tup (d_cons (d_str) (d_cons (d_str) (d_cons (d_str) (d_nil))))) rfl) (d_oneS (d_ret (d_tup (d_cons (d_fldX (Y.xf c) T2 (Y.nof_word c) (pv 0)) (d_nil))))) (d_nilS)) (d_seq (d_if (d_tcmp (op_eqX hr.units) bop_eq (d_var 1 (pv 1)) (d_str) (nomark _)) (d_oneS (d_ret (d_tup (d_cons (d_fldX (Y.xf c) T2 (Y.nof_row c) (pv 0)) (d_nil))))) (d_nilS)) (d_seq (d_if (d_tcmp (op_eqX hr.units) bop_eq (d_var 1 (pv 1)) (d_str) (nomark _)) (d_oneS (d_ret (d_tup (d_cons (d_fldX (Y.xf c) T2 (Y.nof_address c) (pv 0)) (d_nil))))) (d_nilS)) (d_seq (d_if (d_tcmp (op_eqX hr.units) bop_eq (d_var 1 (pv 1)) (d_str) (nomark _)) (d_oneS (d_ret (d_tup (d_cons (d_fldX (Y.xf c) T2 (Y.nof_index c) (pv 0)) (d_nil))))) (d_nilS)) (d_oneS (d_ret (d_ifE (d_tcmp (op_eqX hr.units) bop_eq (d_var 1 (pv 1)) (d_str) (nomark _)) (d_tup (d_cons (d_fldX (Y.xf c) T2 (Y.nof_name c) (pv 0)) (d_nil))) (d_tup (d_nil))))))))))))
end
section
variable {P : Program} {w : World} {K : PySem.W.Frag} {mg : PySem.Str → Option Value} {base : Heap} {k : Nat}
theorem ok_is_int {f : Addr} {fd : FuncData} {F F1 : Fns} (T : Tx K mg) (C : Cs P w K mg base (CAof K) F k) (hk : 2 ≤ k) (D : FnP K "is_int" (topS 18) f fd) (hF : ∀ as m, F1 0 as m = runFn fn_is_int F as m) :
    FnOk P w K mg base (L2.CX P w) (k + 1) f fd ["value"] (spF K (CAof K) F1 0 1) := by
  have S : FnScope N_is_int ["value"] (defScope (topS 18)) := ⟨rfl, rfl, rfl, by decide +kernel, rfl, by decide +kernel, by decide +kernel⟩
  refine FunD.ok D S (fun vs H Q E h => h.1) (fun cdv A outer s H vs Q E hr h => ⟨_, ?_, body_reads (fn := fn_is_int) (N := N_is_int) hF rfl h⟩)
  have nd := S.nd
  have tk := takes_of (X := cxOf (L2.CX P w) P w K mg base N_is_int "is_int" (defScope (topS 18)) f cdv A outer s H E) rfl rfl rfl rfl
  have po := passes_of (X := cxOf (L2.CX P w) P w K mg base N_is_int "is_int" (defScope (topS 18)) f cdv A outer s H E) rfl
  delta fn_is_int; dsimp only; delta b_is_int
  exact d_oneS (d_ret (d_and (k_blt call_isi cop_isi boot_isinstance T.f_isinstance rfl (d_cons (d_var 0 (pv 0)) (d_cons (k_ty boot_int T.f_int rfl) (d_nil)))) (d_and1 (d_not (k_blt call_isi cop_isi boot_isinstance T.f_isinstance rfl (d_cons (d_var 0 (pv 0)) (d_cons (k_ty boot_bool T.f_bool rfl) (d_nil))))))))
theorem ok_is_between {f : Addr} {fd : FuncData} {F F1 : Fns} (T : Tx K mg) (C : Cs P w K mg base (CAof K) F k) (hk : 2 ≤ k) (D : FnP K "is_between" (topS 19) f fd) (hF : ∀ as m, F1 1 as m = runFn fn_is_between F as m) :
    FnOk P w K mg base (L2.CX P w) (k + 1) f fd ["value", "low", "high"] (spF K (CAof K) F1 1 3) := by
  have S : FnScope N_is_between ["value", "low", "high"] (defScope (topS 19)) := ⟨rfl, rfl, rfl, by decide +kernel, rfl, by decide +kernel, by decide +kernel⟩
  refine FunD.ok D S (fun vs H Q E h => h.1) (fun cdv A outer s H vs Q E hr h => ⟨_, ?_, body_reads (fn := fn_is_between) (N := N_is_between) hF rfl h⟩)
  have nd := S.nd
  have tk := takes_of (X := cxOf (L2.CX P w) P w K mg base N_is_between "is_between" (defScope (topS 19)) f cdv A outer s H E) rfl rfl rfl rfl
  have po := passes_of (X := cxOf (L2.CX P w) P w K mg base N_is_between "is_between" (defScope (topS 19)) f cdv A outer s H E) rfl
  delta fn_is_between; dsimp only; delta b_is_between
  exact d_oneS (d_ret (d_and (k_call C.c_is_int tk hr rfl (d_cons (d_var 0 (pv 0)) (d_nil))) (d_and (d_cmp op_le bop_le (d_var 1 (pv 1)) (d_var 0 (pv 0)) (nomark _)) (d_and1 (d_cmp op_le bop_le (d_var 0 (pv 0)) (d_var 2 (pv 2)) (nomark _))))))
theorem ok_is_list_of {f : Addr} {fd : FuncData} {F F1 : Fns} (T : Tx K mg) (C : Cs P w K mg base (CAof K) F k) (hk : 2 ≤ k) (D : FnP K "is_list_of" (topS 20) f fd) (hF : ∀ as m, F1 2 as m = runFn fn_is_list_of F as m) :
    FnOk P w K mg base (L2.CX P w) (k + 1) f fd ["value", "many"] (spF K (CAof K) F1 2 2) := by
  have S : FnScope N_is_list_of ["value", "many"] (defScope (topS 20)) := ⟨rfl, rfl, rfl, by decide +kernel, rfl, by decide +kernel, by decide +kernel⟩
  refine FunD.ok D S (fun vs H Q E h => h.1) (fun cdv A outer s H vs Q E hr h => ⟨_, ?_, body_reads (fn := fn_is_list_of) (N := N_is_list_of) hF rfl h⟩)
  have nd := S.nd
  have tk := takes_of (X := cxOf (L2.CX P w) P w K mg base N_is_list_of "is_list_of" (defScope (topS 20)) f cdv A outer s H E) rfl rfl rfl rfl
  have po := passes_of (X := cxOf (L2.CX P w) P w K mg base N_is_list_of "is_list_of" (defScope (topS 20)) f cdv A outer s H E) rfl
  delta fn_is_list_of; dsimp only; delta b_is_list_of
  exact d_oneS (d_ret (d_and (k_blt call_isi cop_isi boot_isinstance T.f_isinstance rfl (d_cons (d_var 0 (pv 0)) (d_cons (k_ty boot_list T.f_list rfl) (d_nil)))) (d_and1 (d_or (d_cmp op_isN bop_is (d_var 1 (pv 1)) (d_non) (nomark _)) (d_and1 (d_cmp (op_eqX hr.units) bop_eq (k_blt call_len cop_len boot_len T.f_len rfl (d_cons (d_var 0 (pv 0)) (d_nil))) (d_var 1 (pv 1)) (nomark _)))))))
theorem ok_is_tuple_of {f : Addr} {fd : FuncData} {F F1 : Fns} (T : Tx K mg) (C : Cs P w K mg base (CAof K) F k) (hk : 2 ≤ k) (D : FnP K "is_tuple_of" (topS 21) f fd) (hF : ∀ as m, F1 3 as m = runFn fn_is_tuple_of F as m) :
    FnOk P w K mg base (L2.CX P w) (k + 1) f fd ["value", "many"] (spF K (CAof K) F1 3 2) := by
  have S : FnScope N_is_tuple_of ["value", "many"] (defScope (topS 21)) := ⟨rfl, rfl, rfl, by decide +kernel, rfl, by decide +kernel, by decide +kernel⟩
  refine FunD.ok D S (fun vs H Q E h => h.1) (fun cdv A outer s H vs Q E hr h => ⟨_, ?_, body_reads (fn := fn_is_tuple_of) (N := N_is_tuple_of) hF rfl h⟩)
  have nd := S.nd
  have tk := takes_of (X := cxOf (L2.CX P w) P w K mg base N_is_tuple_of "is_tuple_of" (defScope (topS 21)) f cdv A outer s H E) rfl rfl rfl rfl
  have po := passes_of (X := cxOf (L2.CX P w) P w K mg base N_is_tuple_of "is_tuple_of" (defScope (topS 21)) f cdv A outer s H E) rfl
  delta fn_is_tuple_of; dsimp only; delta b_is_tuple_of
  exact d_oneS (d_ret (d_and (k_blt call_isi cop_isi boot_isinstance T.f_isinstance rfl (d_cons (d_var 0 (pv 0)) (d_cons (k_ty boot_tuple T.f_tuple rfl) (d_nil)))) (d_and1 (d_or (d_cmp op_isN bop_is (d_var 1 (pv 1)) (d_non) (nomark _)) (d_and1 (d_cmp (op_eqX hr.units) bop_eq (k_blt call_len cop_len boot_len T.f_len rfl (d_cons (d_var 0 (pv 0)) (d_nil))) (d_var 1 (pv 1)) (nomark _)))))))
theorem ok_is_word {f : Addr} {fd : FuncData} {F F1 : Fns} (T : Tx K mg) (C : Cs P w K mg base (CAof K) F k) (hk : 2 ≤ k) (D : FnP K "is_word" (topS 22) f fd) (hF : ∀ as m, F1 4 as m = runFn fn_is_word F as m) :
    FnOk P w K mg base (L2.CX P w) (k + 1) f fd ["value", "words"] (spF K (CAof K) F1 4 2) := by
  have S : FnScope N_is_word ["value", "words"] (defScope (topS 22)) := ⟨rfl, rfl, rfl, by decide +kernel, rfl, by decide +kernel, by decide +kernel⟩
  refine FunD.ok D S (fun vs H Q E h => h.1) (fun cdv A outer s H vs Q E hr h => ⟨_, ?_, body_reads (fn := fn_is_word) (N := N_is_word) hF rfl h⟩)
  have nd := S.nd
  have tk := takes_of (X := cxOf (L2.CX P w) P w K mg base N_is_word "is_word" (defScope (topS 22)) f cdv A outer s H E) rfl rfl rfl rfl
  have po := passes_of (X := cxOf (L2.CX P w) P w K mg base N_is_word "is_word" (defScope (topS 22)) f cdv A outer s H E) rfl
  delta fn_is_word; dsimp only; delta b_is_word
  exact d_oneS (d_ret (d_and (k_blt call_isi cop_isi boot_isinstance T.f_isinstance rfl (d_cons (d_var 0 (pv 0)) (d_cons (k_ty boot_str T.f_str rfl) (d_nil)))) (d_and1 (d_cmp op_in_seq bop_in (d_var 0 (pv 0)) (d_var 1 (pv 1)) rfl))))
theorem ok_is_length_row {f : Addr} {fd : FuncData} {F F1 : Fns} (T : Tx K mg) (C : Cs P w K mg base (CAof K) F k) (hk : 2 ≤ k) (D : FnP K "is_length_row" (topS 28) f fd) (hF : ∀ as m, F1 5 as m = runFn fn_is_length_row F as m) :
    FnOk P w K mg base (L2.CX P w) (k + 1) f fd ["value", "many"] (spF K (CAof K) F1 5 2) := by
  have S : FnScope N_is_length_row ["value", "many"] (defScope (topS 28)) := ⟨rfl, rfl, rfl, by decide +kernel, rfl, by decide +kernel, by decide +kernel⟩
  refine FunD.ok D S (fun vs H Q E h => h.1) (fun cdv A outer s H vs Q E hr h => ⟨_, ?_, body_reads (fn := fn_is_length_row) (N := N_is_length_row) hF rfl h⟩)
  have nd := S.nd
  have tk := takes_of (X := cxOf (L2.CX P w) P w K mg base N_is_length_row "is_length_row" (defScope (topS 28)) f cdv A outer s H E) rfl rfl rfl rfl
  have po := passes_of (X := cxOf (L2.CX P w) P w K mg base N_is_length_row "is_length_row" (defScope (topS 28)) f cdv A outer s H E) rfl
  delta fn_is_length_row; dsimp only; delta b_is_length_row
  exact d_seq (d_if (k_pwt (d_wor (d_tnot (d_tV (k_blt call_isi cop_isi boot_isinstance T.f_isinstance rfl (d_cons (d_var 0 (pv 0)) (d_cons (k_ty boot_tuple T.f_tuple rfl) (d_nil)))))) (d_wor (d_tcmp (op_eqX hr.units) bop_eq (k_blt call_len cop_len boot_len T.f_len rfl (d_cons (d_var 0 (pv 0)) (d_nil))) (d_int) (nomark _)) (d_wor1 (d_tnot (d_tV (k_call C.c_is_word tk hr rfl (d_cons (k_ix (d_var 0 (pv 0)) (d_int)) (d_cons (d_tup (d_cons (d_str) (d_cons (d_str) (d_nil)))) (d_nil)))))))))) (d_oneS (d_ret (d_bl))) (d_nilS)) (d_seq (d_if (d_tcmp (op_eqX hr.units) bop_eq (k_ix (d_var 0 (pv 0)) (d_int)) (d_str) (nomark _)) (d_oneS (d_ret (d_and (d_cmp (op_eqX hr.units) bop_eq (k_blt call_len cop_len boot_len T.f_len rfl (d_cons (d_var 0 (pv 0)) (d_nil))) (d_int) (nomark _)) (d_and1 (k_call C.c_is_between tk hr rfl (d_cons (k_ix (d_var 0 (pv 0)) (d_int)) (d_cons (d_int) (d_cons (k_gi T.c_MOST_SIZE rfl) (d_nil))))))))) (d_nilS)) (d_seq (d_if (k_pwt (d_wor (d_tcmp (op_neX hr.units) bop_ne (k_blt call_len cop_len boot_len T.f_len rfl (d_cons (d_var 0 (pv 0)) (d_nil))) (d_int) (nomark _)) (d_wor (d_tnot (d_tV (k_call C.c_is_between tk hr rfl (d_cons (k_ix (d_var 0 (pv 0)) (d_int)) (d_cons (d_int) (d_cons (d_bin op_sub bop_sub (d_var 1 (pv 1)) (d_int)) (d_nil))))))) (d_wor1 (d_tnot (d_tV (k_call C.c_is_between tk hr rfl (d_cons (k_ix (d_var 0 (pv 0)) (d_int)) (d_cons (d_int) (d_cons (k_gi T.c_MOST_FAR rfl) (d_nil))))))))))) (d_oneS (d_ret (d_bl))) (d_nilS)) (d_oneS (d_ret (d_and (k_call C.c_is_between tk hr rfl (d_cons (k_ix (d_var 0 (pv 0)) (d_int)) (d_cons (d_int) (d_cons (k_gi T.c_MOST_REACH rfl) (d_nil))))) (d_and1 (k_call C.c_is_between tk hr rfl (d_cons (k_ix (d_var 0 (pv 0)) (d_int)) (d_cons (d_int) (d_cons (k_gi T.c_MOST_REACH rfl) (d_nil)))))))))))
theorem ok_check_rows {f : Addr} {fd : FuncData} {F F1 : Fns} (T : Tx K mg) (C : Cs P w K mg base (CAof K) F k) (hk : 2 ≤ k) (D : FnP K "check_rows" (topS 29) f fd) (hF : ∀ as m, F1 6 as m = runFn fn_check_rows F as m) :
    FnOk P w K mg base (L2.CX P w) (k + 1) f fd ["rows"] (spF K (CAof K) F1 6 1) := by
  have S : FnScope N_check_rows ["rows"] (defScope (topS 29)) := ⟨rfl, rfl, rfl, by decide +kernel, rfl, by decide +kernel, by decide +kernel⟩
  refine FunD.ok D S (fun vs H Q E h => h.1) (fun cdv A outer s H vs Q E hr h => ⟨_, ?_, body_reads (fn := fn_check_rows) (N := N_check_rows) hF rfl h⟩)
  have nd := S.nd
  have tk := takes_of (X := cxOf (L2.CX P w) P w K mg base N_check_rows "check_rows" (defScope (topS 29)) f cdv A outer s H E) rfl rfl rfl rfl
  have po := passes_of (X := cxOf (L2.CX P w) P w K mg base N_check_rows "check_rows" (defScope (topS 29)) f cdv A outer s H E) rfl
  delta fn_check_rows; dsimp only; delta b_check_rows
  exact d_oneS (d_if (k_pwt (d_wor (d_tnot (d_tV (k_call C.c_is_list_of tk hr rfl (d_cons (d_var 0 (pv 0)) (d_cons (d_non) (d_nil)))))) (d_wor1 (d_tnot (d_tV (k_blt (cr_all rfl) cop_all boot_all T.f_all rfl (d_cons (k_lc (own := [("row", 1)]) rfl nd (d_iLst (d_var 0 (pv 0))) (blk_d (by decide +kernel)) tg_name (fun _ _ _ q => k_yes q) (fun _ _ _ _ _ => (pg_name (i := 1) nd rfl (Or.inl rfl))) (fun _ _ _ _ _ => pts_nil) (fun _ _ _ _ _ => k_call C.c_is_length_row takes0 hr rfl (d_cons (d_var 1 (pv 1)) (d_cons (k_blt call_len cop_len boot_len T.f_len rfl (d_cons (d_var 0 (pv 0)) (d_nil))) (d_nil))))) (d_nil)))))))) (d_oneS (d_raise (ps_raise rfl tk (k_exc (T.x_BadValue P w base) (hr.mono hk) rfl (d_cons (d_str) d_nil))))) (d_nilS))
theorem ok_near_lengths {f : Addr} {fd : FuncData} {F F1 : Fns} (T : Tx K mg) (C : Cs P w K mg base (CAof K) F k) (hk : 2 ≤ k) (D : FnP K "near_lengths" (topS 30) f fd) (hF : ∀ as m, F1 7 as m = runFn fn_near_lengths F as m) :
    FnOk P w K mg base (L2.CX P w) (k + 1) f fd ["rows"] (spF K (CAof K) F1 7 1) := by
  have S : FnScope N_near_lengths ["rows"] (defScope (topS 30)) := ⟨rfl, rfl, rfl, by decide +kernel, rfl, by decide +kernel, by decide +kernel⟩
  refine FunD.ok D S (fun vs H Q E h => h.1) (fun cdv A outer s H vs Q E hr h => ⟨_, ?_, body_reads (fn := fn_near_lengths) (N := N_near_lengths) hF rfl h⟩)
  have nd := S.nd
  have tk := takes_of (X := cxOf (L2.CX P w) P w K mg base N_near_lengths "near_lengths" (defScope (topS 30)) f cdv A outer s H E) rfl rfl rfl rfl
  have po := passes_of (X := cxOf (L2.CX P w) P w K mg base N_near_lengths "near_lengths" (defScope (topS 30)) f cdv A outer s H E) rfl
  delta fn_near_lengths; dsimp only; delta b_near_lengths
  exact d_oneS (d_ret (k_lc (own := [("row", 1)]) rfl nd (d_iLst (d_var 0 (pv 0))) (blk_d (by decide +kernel)) tg_name (fun _ _ _ q => k_yes q) (fun _ _ _ _ _ => (pg_name (i := 1) nd rfl (Or.inl rfl))) (fun _ _ _ _ _ => pts_nil) (fun _ _ _ _ _ => d_ifE (d_tcmp (op_eqX hr.units) bop_eq (k_ix (d_var 1 (pv 1)) (d_int)) (d_str) (nomark _)) (k_ix (d_var 1 (pv 1)) (d_int)) (d_int))))
theorem ok_row_starts {f : Addr} {fd : FuncData} {F F1 : Fns} (T : Tx K mg) (C : Cs P w K mg base (CAof K) F k) (hk : 2 ≤ k) (D : FnP K "row_starts" (topS 31) f fd) (hF : ∀ as m, F1 8 as m = runFn fn_row_starts F as m) :
    FnOk P w K mg base (L2.CX P w) (k + 1) f fd ["lengths"] (spF K (CAof K) F1 8 1) := by
  have S : FnScope N_row_starts ["lengths"] (defScope (topS 31)) := ⟨rfl, rfl, rfl, by decide +kernel, rfl, by decide +kernel, by decide +kernel⟩
  refine FunD.ok D S (fun vs H Q E h => h.1) (fun cdv A outer s H vs Q E hr h => ⟨_, ?_, body_reads (fn := fn_row_starts) (N := N_row_starts) hF rfl h⟩)
  have nd := S.nd
  have tk := takes_of (X := cxOf (L2.CX P w) P w K mg base N_row_starts "row_starts" (defScope (topS 31)) f cdv A outer s H E) rfl rfl rfl rfl
  have po := passes_of (X := cxOf (L2.CX P w) P w K mg base N_row_starts "row_starts" (defScope (topS 31)) f cdv A outer s H E) rfl
  delta fn_row_starts; dsimp only; delta b_row_starts
  exact d_seq (d_own (ps_set (i := 1) nd rfl (Or.inl rfl) (d_lst (d_cons (d_int) (d_nil))))) (d_seq (d_for (ps_for po rfl (d_iLst (d_var 0 (pv 0))) (pg_name (i := 2) nd rfl (Or.inl rfl)) (d_oneS (d_app (ps_expr (pe_bm PySem.F.plainAttrs_list PySem.F.slot_list_append PySem.F.type_list_append mt_append (d_var 1 (pv 1)) (d_cons (d_bin op_addX bop_add (k_ix (d_var 1 (pv 1)) (d_un un_neg uop_neg (d_int))) (d_var 2 (pv 2))) d_nil)))))) tg_name) (d_oneS (d_ret (d_var 1 (pv 1)))))
theorem ok_jump_reaches {f : Addr} {fd : FuncData} {F F1 : Fns} (T : Tx K mg) (C : Cs P w K mg base (CAof K) F k) (hk : 2 ≤ k) (D : FnP K "jump_reaches" (topS 32) f fd) (hF : ∀ as m, F1 9 as m = runFn fn_jump_reaches F as m) :
    FnOk P w K mg base (L2.CX P w) (k + 1) f fd ["row", "at", "starts"] (spF K (CAof K) F1 9 3) := by
  have S : FnScope N_jump_reaches ["row", "at", "starts"] (defScope (topS 32)) := ⟨rfl, rfl, rfl, by decide +kernel, rfl, by decide +kernel, by decide +kernel⟩
  refine FunD.ok D S (fun vs H Q E h => h.1) (fun cdv A outer s H vs Q E hr h => ⟨_, ?_, body_reads (fn := fn_jump_reaches) (N := N_jump_reaches) hF rfl h⟩)
  have nd := S.nd
  have tk := takes_of (X := cxOf (L2.CX P w) P w K mg base N_jump_reaches "jump_reaches" (defScope (topS 32)) f cdv A outer s H E) rfl rfl rfl rfl
  have po := passes_of (X := cxOf (L2.CX P w) P w K mg base N_jump_reaches "jump_reaches" (defScope (topS 32)) f cdv A outer s H E) rfl
  delta fn_jump_reaches; dsimp only; delta b_jump_reaches
  exact d_seq (d_set (ps_set (i := 3) nd rfl (Or.inl rfl) (d_bin op_sub bop_sub (k_ix (d_var 2 (pv 2)) (k_ix (d_var 0 (pv 0)) (d_int))) (k_ix (d_var 2 (pv 2)) (d_var 1 (pv 1)))))) (d_oneS (d_ret (d_and (d_cmp op_le bop_le (d_un un_neg uop_neg (k_ix (d_var 0 (pv 0)) (d_int))) (d_var 3 (pv 3)) (nomark _)) (d_and1 (d_cmp op_le bop_le (d_var 3 (pv 3)) (k_ix (d_var 0 (pv 0)) (d_int)) (nomark _))))))
theorem ok_jump_distances {f : Addr} {fd : FuncData} {F F1 : Fns} (T : Tx K mg) (C : Cs P w K mg base (CAof K) F k) (hk : 2 ≤ k) (D : FnP K "jump_distances" (topS 33) f fd) (hF : ∀ as m, F1 10 as m = runFn fn_jump_distances F as m) :
    FnOk P w K mg base (L2.CX P w) (k + 1) f fd ["rows", "lengths"] (spF K (CAof K) F1 10 2) := by
  have S : FnScope N_jump_distances ["rows", "lengths"] (defScope (topS 33)) := ⟨rfl, rfl, rfl, by decide +kernel, rfl, by decide +kernel, by decide +kernel⟩
  refine FunD.ok D S (fun vs H Q E h => h.1) (fun cdv A outer s H vs Q E hr h => ⟨_, ?_, body_reads (fn := fn_jump_distances) (N := N_jump_distances) hF rfl h⟩)
  have nd := S.nd
  have tk := takes_of (X := cxOf (L2.CX P w) P w K mg base N_jump_distances "jump_distances" (defScope (topS 33)) f cdv A outer s H E) rfl rfl rfl rfl
  have po := passes_of (X := cxOf (L2.CX P w) P w K mg base N_jump_distances "jump_distances" (defScope (topS 33)) f cdv A outer s H E) rfl
  delta fn_jump_distances; dsimp only; delta b_jump_distances
  exact d_seq (d_set (ps_set (i := 2) nd rfl (Or.inr rfl) (k_call C.c_row_starts tk hr rfl (d_cons (d_var 1 (pv 1)) (d_nil))))) (d_oneS (d_ret (k_lc (own := [("at", 3), ("row", 4)]) rfl nd (d_iEnum (pi_enum rfl T.f_enumerate (d_cons (d_var 0 (pv 0)) d_nil))) (blk_d (by decide +kernel)) (tg_tup rfl) (fun _ _ _ q => k_yes q) (fun _ _ _ _ _ => (pg_tup rfl (pgs_cons (pg_name (i := 3) nd rfl (Or.inl rfl)) (pgs_cons (pg_name (i := 4) nd rfl (Or.inl rfl)) pgs_nil)))) (fun _ _ _ _ _ => pts_nil) (fun _ _ _ _ _ => d_ifE (d_tcmp (op_eqX hr.units) bop_eq (k_ix (d_var 4 (pv 4)) (d_int)) (d_str) (nomark _)) (d_int) (k_blt call_abs cop_abs boot_abs T.f_abs rfl (d_cons (d_bin op_sub bop_sub (k_ix (d_var 2 (pv 2)) (k_ix (d_var 4 (pv 4)) (d_int))) (k_ix (d_var 2 (pv 2)) (d_var 3 (pv 3)))) (d_nil)))))))
theorem ok_jump_reach {f : Addr} {fd : FuncData} {F F1 : Fns} (T : Tx K mg) (C : Cs P w K mg base (CAof K) F k) (hk : 2 ≤ k) (D : FnP K "jump_reach" (topS 34) f fd) (hF : ∀ as m, F1 11 as m = runFn fn_jump_reach F as m) :
    FnOk P w K mg base (L2.CX P w) (k + 1) f fd ["row", "at"] (spF K (CAof K) F1 11 2) := by
  have S : FnScope N_jump_reach ["row", "at"] (defScope (topS 34)) := ⟨rfl, rfl, rfl, by decide +kernel, rfl, by decide +kernel, by decide +kernel⟩
  refine FunD.ok D S (fun vs H Q E h => h.1) (fun cdv A outer s H vs Q E hr h => ⟨_, ?_, body_reads (fn := fn_jump_reach) (N := N_jump_reach) hF rfl h⟩)
  have nd := S.nd
  have tk := takes_of (X := cxOf (L2.CX P w) P w K mg base N_jump_reach "jump_reach" (defScope (topS 34)) f cdv A outer s H E) rfl rfl rfl rfl
  have po := passes_of (X := cxOf (L2.CX P w) P w K mg base N_jump_reach "jump_reach" (defScope (topS 34)) f cdv A outer s H E) rfl
  delta fn_jump_reach; dsimp only; delta b_jump_reach
  exact d_oneS (d_ret (d_ifE (d_tcmp op_ge bop_ge (k_ix (d_var 0 (pv 0)) (d_int)) (d_var 1 (pv 1)) (nomark _)) (k_ix (d_var 0 (pv 0)) (d_int)) (k_ix (d_var 0 (pv 0)) (d_int))))
theorem ok_jump_spans {f : Addr} {fd : FuncData} {F F1 : Fns} (T : Tx K mg) (C : Cs P w K mg base (CAof K) F k) (hk : 2 ≤ k) (D : FnP K "jump_spans" (topS 35) f fd) (hF : ∀ as m, F1 12 as m = runFn fn_jump_spans F as m) :
    FnOk P w K mg base (L2.CX P w) (k + 1) f fd ["row", "at", "other"] (spF K (CAof K) F1 12 3) := by
  have S : FnScope N_jump_spans ["row", "at", "other"] (defScope (topS 35)) := ⟨rfl, rfl, rfl, by decide +kernel, rfl, by decide +kernel, by decide +kernel⟩
  refine FunD.ok D S (fun vs H Q E h => h.1) (fun cdv A outer s H vs Q E hr h => ⟨_, ?_, body_reads (fn := fn_jump_spans) (N := N_jump_spans) hF rfl h⟩)
  have nd := S.nd
  have tk := takes_of (X := cxOf (L2.CX P w) P w K mg base N_jump_spans "jump_spans" (defScope (topS 35)) f cdv A outer s H E) rfl rfl rfl rfl
  have po := passes_of (X := cxOf (L2.CX P w) P w K mg base N_jump_spans "jump_spans" (defScope (topS 35)) f cdv A outer s H E) rfl
  delta fn_jump_spans; dsimp only; delta b_jump_spans
  exact d_oneS (d_ret (d_or (d_and (d_cmp op_le bop_le (d_var 1 (pv 1)) (d_var 2 (pv 2)) (nomark _)) (d_and1 (d_cmp op_lt bop_lt (d_var 2 (pv 2)) (k_ix (d_var 0 (pv 0)) (d_int)) (nomark _)))) (d_and1 (d_and (d_cmp op_le bop_le (k_ix (d_var 0 (pv 0)) (d_int)) (d_var 2 (pv 2)) (nomark _)) (d_and1 (d_cmp op_lt bop_lt (d_var 2 (pv 2)) (d_var 1 (pv 1)) (nomark _)))))))
theorem ok_least_of {f : Addr} {fd : FuncData} {F F1 : Fns} (T : Tx K mg) (C : Cs P w K mg base (CAof K) F k) (hk : 2 ≤ k) (D : FnP K "least_of" (topS 36) f fd) (hF : ∀ as m, F1 13 as m = runFn fn_least_of F as m) :
    FnOk P w K mg base (L2.CX P w) (k + 1) f fd ["rows"] (spF K (CAof K) F1 13 1) := by
  have S : FnScope N_least_of ["rows"] (defScope (topS 36)) := ⟨rfl, rfl, rfl, by decide +kernel, rfl, by decide +kernel, by decide +kernel⟩
  refine FunD.ok D S (fun vs H Q E h => h.1) (fun cdv A outer s H vs Q E hr h => ⟨_, ?_, body_reads (fn := fn_least_of) (N := N_least_of) hF rfl h⟩)
  have nd := S.nd
  have tk := takes_of (X := cxOf (L2.CX P w) P w K mg base N_least_of "least_of" (defScope (topS 36)) f cdv A outer s H E) rfl rfl rfl rfl
  have po := passes_of (X := cxOf (L2.CX P w) P w K mg base N_least_of "least_of" (defScope (topS 36)) f cdv A outer s H E) rfl
  delta fn_least_of; dsimp only; delta b_least_of
  exact d_seq (d_own (ps_set (i := 1) nd rfl (Or.inl rfl) (k_call C.c_near_lengths tk hr rfl (d_cons (d_var 0 (pv 0)) (d_nil))))) (d_seq (d_own (ps_set (i := 2) nd rfl (Or.inr rfl) (k_call C.c_jump_distances tk hr rfl (d_cons (d_var 0 (pv 0)) (d_cons (d_var 1 (pv 1)) (d_nil)))))) (d_seq (d_own (ps_set (i := 3) nd rfl (Or.inr rfl) (k_lc (own := [("at", 8), ("row", 9)]) rfl nd (d_iEnum (pi_enum rfl T.f_enumerate (d_cons (d_var 0 (pv 0)) d_nil))) (blk_d (by decide +kernel)) (tg_tup rfl) (fun _ _ _ q => k_yes q) (fun _ _ _ _ _ => (pg_tup rfl (pgs_cons (pg_name (i := 8) nd rfl (Or.inl rfl)) (pgs_cons (pg_name (i := 9) nd rfl (Or.inl rfl)) pgs_nil)))) (fun _ _ _ _ _ => pts_nil) (fun _ _ _ _ _ => d_and (d_cmp (op_eqX hr.units) bop_eq (k_ix (d_var 9 (pv 9)) (d_int)) (d_str) (nomark _)) (d_and1 (d_cmp op_le bop_le (k_ix (d_var 2 (pv 2)) (d_var 8 (pv 8))) (k_call C.c_jump_reach takes0 hr rfl (d_cons (d_var 9 (pv 9)) (d_cons (d_var 8 (pv 8)) (d_nil)))) (nomark _))))))) (d_seq (d_own (k_setLc rfl rfl (sw_true rfl rfl rfl (by decide +kernel)) (own := [("at", 8), ("row", 9)]) rfl nd (d_iEnum (pi_enum rfl T.f_enumerate (d_cons (d_var 0 (pv 0)) d_nil))) (blk_d (by decide +kernel)) (tg_tup rfl) (fun _ _ _ q => q) (fun _ _ _ _ _ => (pg_tup rfl (pgs_cons (pg_name (i := 8) nd rfl (Or.inl rfl)) (pgs_cons (pg_name (i := 9) nd rfl (Or.inl rfl)) pgs_nil)))) (fun _ _ _ _ _ => (pts_one (k_pwt (d_wand (d_tcmp (op_eqX hr.units) bop_eq (k_ix (d_var 9 (pv 9)) (d_int)) (d_str) (nomark _)) (d_wand1 (d_tnot (d_tV (k_ix (d_var 3 (pv 3)) (d_var 8 (pv 8)))))))))) (fun _ _ _ _ _ => d_var 8 (pv 8)))) (d_seq (d_set (ps_set (i := 5) nd rfl (Or.inl rfl) (k_maxd T.f_max rfl hr.units boot_max rfl (k_lc (own := [("at", 8), ("row", 9)]) rfl nd (d_iEnum (pi_enum rfl T.f_enumerate (d_cons (d_var 0 (pv 0)) d_nil))) (blk_d (by decide +kernel)) (tg_tup rfl) (fun _ _ _ q => q) (fun _ _ _ _ _ => (pg_tup rfl (pgs_cons (pg_name (i := 8) nd rfl (Or.inl rfl)) (pgs_cons (pg_name (i := 9) nd rfl (Or.inl rfl)) pgs_nil)))) (fun _ _ _ _ _ => (pts_one (d_tV (k_ix (d_var 3 (pv 3)) (d_var 8 (pv 8)))))) (fun _ _ _ _ _ => k_blt call_abs cop_abs boot_abs T.f_abs rfl (d_cons (d_bin op_sub bop_sub (k_ix (d_var 9 (pv 9)) (d_int)) (d_var 8 (pv 8))) (d_nil)))) (d_int)))) (d_seq (d_own (ps_set (i := 6) nd rfl (Or.inl rfl) (d_lst (d_nil)))) (d_seq (d_while (ps_while po (d_tcmp op_lt bop_lt (k_blt call_len cop_len boot_len T.f_len rfl (d_cons (d_var 6 (pv 6)) (d_nil))) (k_blt call_len cop_len boot_len T.f_len rfl (d_cons (d_var 4 (pv 4)) (d_nil))) (nomark _)) (d_seq (d_set (ps_set (i := 7) nd rfl (Or.inl rfl) (k_ix (d_var 4 (pv 4)) (k_blt call_len cop_len boot_len T.f_len rfl (d_cons (d_var 6 (pv 6)) (d_nil)))))) (d_seq (d_app (ps_expr (pe_bm PySem.F.plainAttrs_list PySem.F.slot_list_append PySem.F.type_list_append mt_append (d_var 6 (pv 6)) (d_cons (d_var 7 (pv 7)) d_nil)))) (d_seq (d_setIx (ps_asg (k_ix (k_ix (d_var 0 (pv 0)) (d_var 7 (pv 7))) (d_int)) (pg_sub (d_var 1 (pv 1)) (d_var 7 (pv 7)) set_list))) (d_oneS (d_for (ps_for po rfl (d_iR2 (pi_range2 rfl T.f_range (d_cons (k_blt (call_max2 rfl) cop_max2 boot_max T.f_max rfl (d_cons (d_int) (d_cons (d_bin op_sub bop_sub (d_var 7 (pv 7)) (d_var 5 (pv 5))) (d_nil)))) (d_cons (k_blt (call_min2 rfl) cop_min2 boot_min T.f_min rfl (d_cons (k_blt call_len cop_len boot_len T.f_len rfl (d_cons (d_var 0 (pv 0)) (d_nil))) (d_cons (d_bin op_addX bop_add (d_bin op_addX bop_add (d_var 7 (pv 7)) (d_var 5 (pv 5))) (d_int)) (d_nil)))) d_nil)))) (pg_name (i := 8) nd rfl (Or.inl rfl)) (d_oneS (d_if (k_pwt (d_wand (d_tV (k_ix (d_var 3 (pv 3)) (d_var 8 (pv 8)))) (d_wand1 (d_tV (k_call C.c_jump_spans tk hr rfl (d_cons (k_ix (d_var 0 (pv 0)) (d_var 8 (pv 8))) (d_cons (d_var 8 (pv 8)) (d_cons (d_var 7 (pv 7)) (d_nil))))))))) (d_seq (d_augIx bop_addI (ps_augS (d_var 2 (pv 2)) (d_var 8 (pv 8)) get_list (d_bin op_sub bop_sub (k_ix (k_ix (d_var 0 (pv 0)) (d_var 7 (pv 7))) (d_int)) (d_int)) (pip_of iop_add) set_list)) (d_oneS (d_if (d_tcmp op_gt bop_gt (k_ix (d_var 2 (pv 2)) (d_var 8 (pv 8))) (k_call C.c_jump_reach tk hr rfl (d_cons (k_ix (d_var 0 (pv 0)) (d_var 8 (pv 8))) (d_cons (d_var 8 (pv 8)) (d_nil)))) (nomark _)) (d_seq (d_setIx (ps_asg (d_bl) (pg_sub (d_var 3 (pv 3)) (d_var 8 (pv 8)) set_list))) (d_oneS (d_app (ps_expr (pe_bm PySem.F.plainAttrs_list PySem.F.slot_list_append PySem.F.type_list_append mt_append (d_var 4 (pv 4)) (d_cons (d_var 8 (pv 8)) d_nil)))))) (d_nilS)))) (d_nilS)))) tg_name))))))) (d_frz (is := [1, 6]) (d_oneS (d_ret (d_tup (d_cons (d_var 1 (pv 1)) (d_cons (d_var 6 (pv 6)) (d_nil)))))))))))))
theorem ok_least_lengths {f : Addr} {fd : FuncData} {F F1 : Fns} (T : Tx K mg) (C : Cs P w K mg base (CAof K) F k) (hk : 2 ≤ k) (D : FnP K "least_lengths" (topS 37) f fd) (hF : ∀ as m, F1 14 as m = runFn fn_least_lengths F as m) :
    FnOk P w K mg base (L2.CX P w) (k + 1) f fd ["rows"] (spF K (CAof K) F1 14 1) := by
  have S : FnScope N_least_lengths ["rows"] (defScope (topS 37)) := ⟨rfl, rfl, rfl, by decide +kernel, rfl, by decide +kernel, by decide +kernel⟩
  refine FunD.ok D S (fun vs H Q E h => h.1) (fun cdv A outer s H vs Q E hr h => ⟨_, ?_, body_reads (fn := fn_least_lengths) (N := N_least_lengths) hF rfl h⟩)
  have nd := S.nd
  have tk := takes_of (X := cxOf (L2.CX P w) P w K mg base N_least_lengths "least_lengths" (defScope (topS 37)) f cdv A outer s H E) rfl rfl rfl rfl
  have po := passes_of (X := cxOf (L2.CX P w) P w K mg base N_least_lengths "least_lengths" (defScope (topS 37)) f cdv A outer s H E) rfl
  delta fn_least_lengths; dsimp only; delta b_least_lengths
  exact d_seq (d_drop (ps_expr (k_call C.c_check_rows tk hr rfl (d_cons (d_var 0 (pv 0)) (d_nil))))) (d_seq (d_if (d_tcmp op_gt bop_gt (k_blt call_len cop_len boot_len T.f_len rfl (d_cons (d_var 0 (pv 0)) (d_nil))) (k_gi T.c_MOST_ROWS rfl) (nomark _)) (d_oneS (d_raise (ps_raise rfl tk (k_exc (T.x_TooMany P w base) (hr.mono hk) rfl (d_cons (d_str) d_nil))))) (d_nilS)) (d_oneS (d_ret (k_call C.c_least_of tk hr rfl (d_cons (d_var 0 (pv 0)) (d_nil))))))
theorem ok_lengths_have_form {f : Addr} {fd : FuncData} {F F1 : Fns} (T : Tx K mg) (C : Cs P w K mg base (CAof K) F k) (hk : 2 ≤ k) (D : FnP K "lengths_have_form" (topS 38) f fd) (hF : ∀ as m, F1 15 as m = runFn fn_lengths_have_form F as m) :
    FnOk P w K mg base (L2.CX P w) (k + 1) f fd ["rows", "lengths"] (spF K (CAof K) F1 15 2) := by
  have S : FnScope N_lengths_have_form ["rows", "lengths"] (defScope (topS 38)) := ⟨rfl, rfl, rfl, by decide +kernel, rfl, by decide +kernel, by decide +kernel⟩
  refine FunD.ok D S (fun vs H Q E h => h.1) (fun cdv A outer s H vs Q E hr h => ⟨_, ?_, body_reads (fn := fn_lengths_have_form) (N := N_lengths_have_form) hF rfl h⟩)
  have nd := S.nd
  have tk := takes_of (X := cxOf (L2.CX P w) P w K mg base N_lengths_have_form "lengths_have_form" (defScope (topS 38)) f cdv A outer s H E) rfl rfl rfl rfl
  have po := passes_of (X := cxOf (L2.CX P w) P w K mg base N_lengths_have_form "lengths_have_form" (defScope (topS 38)) f cdv A outer s H E) rfl
  delta fn_lengths_have_form; dsimp only; delta b_lengths_have_form
  exact d_seq (d_if (d_tnot (d_tV (k_call C.c_is_list_of tk hr rfl (d_cons (d_var 1 (pv 1)) (d_cons (k_blt call_len cop_len boot_len T.f_len rfl (d_cons (d_var 0 (pv 0)) (d_nil))) (d_nil)))))) (d_oneS (d_ret (d_bl))) (d_nilS)) (d_seq (d_for (ps_for po rfl (d_iEnum (pi_enum rfl T.f_enumerate (d_cons (d_var 0 (pv 0)) d_nil))) (pg_tup rfl (pgs_cons (pg_name (i := 2) nd rfl (Or.inl rfl)) (pgs_cons (pg_name (i := 3) nd rfl (Or.inl rfl)) pgs_nil))) (d_seq (d_if (k_pwt (d_wand (d_tcmp (op_eqX hr.units) bop_eq (k_ix (d_var 3 (pv 3)) (d_int)) (d_str) (nomark _)) (d_wand1 (d_tnot (d_tV (k_call C.c_is_between tk hr rfl (d_cons (k_ix (d_var 1 (pv 1)) (d_var 2 (pv 2))) (d_cons (k_ix (d_var 3 (pv 3)) (d_int)) (d_cons (k_ix (d_var 3 (pv 3)) (d_int)) (d_nil)))))))))) (d_oneS (d_ret (d_bl))) (d_nilS)) (d_oneS (d_if (k_pwt (d_wand (d_tcmp (op_eqX hr.units) bop_eq (k_ix (d_var 3 (pv 3)) (d_int)) (d_str) (nomark _)) (d_wand (d_tnot (d_tV (k_call C.c_is_between tk hr rfl (d_cons (k_ix (d_var 1 (pv 1)) (d_var 2 (pv 2))) (d_cons (d_int) (d_cons (d_int) (d_nil))))))) (d_wand1 (d_tnot (d_tV (k_call C.c_is_between tk hr rfl (d_cons (k_ix (d_var 1 (pv 1)) (d_var 2 (pv 2))) (d_cons (k_ix (d_var 3 (pv 3)) (d_int)) (d_cons (k_ix (d_var 3 (pv 3)) (d_int)) (d_nil))))))))))) (d_oneS (d_ret (d_bl))) (d_nilS))))) (tg_tup rfl)) (d_oneS (d_ret (d_bl))))
theorem ok_sequence_fits {f : Addr} {fd : FuncData} {F F1 : Fns} (T : Tx K mg) (C : Cs P w K mg base (CAof K) F k) (hk : 2 ≤ k) (D : FnP K "sequence_fits" (topS 39) f fd) (hF : ∀ as m, F1 16 as m = runFn fn_sequence_fits F as m) :
    FnOk P w K mg base (L2.CX P w) (k + 1) f fd ["rows", "lengths", "sequence"] (spF K (CAof K) F1 16 3) := by
  have S : FnScope N_sequence_fits ["rows", "lengths", "sequence"] (defScope (topS 39)) := ⟨rfl, rfl, rfl, by decide +kernel, rfl, by decide +kernel, by decide +kernel⟩
  refine FunD.ok D S (fun vs H Q E h => h.1) (fun cdv A outer s H vs Q E hr h => ⟨_, ?_, body_reads (fn := fn_sequence_fits) (N := N_sequence_fits) hF rfl h⟩)
  have nd := S.nd
  have tk := takes_of (X := cxOf (L2.CX P w) P w K mg base N_sequence_fits "sequence_fits" (defScope (topS 39)) f cdv A outer s H E) rfl rfl rfl rfl
  have po := passes_of (X := cxOf (L2.CX P w) P w K mg base N_sequence_fits "sequence_fits" (defScope (topS 39)) f cdv A outer s H E) rfl
  delta fn_sequence_fits; dsimp only; delta b_sequence_fits
  exact d_seq (d_set (ps_set (i := 3) nd rfl (Or.inl rfl) (k_blt call_len cop_len boot_len T.f_len rfl (d_cons (k_lc (own := [("at", 5), ("row", 6)]) rfl nd (d_iEnum (pi_enum rfl T.f_enumerate (d_cons (d_var 0 (pv 0)) d_nil))) (blk_d (by decide +kernel)) (tg_tup rfl) (fun _ _ _ q => q) (fun _ _ _ _ _ => (pg_tup rfl (pgs_cons (pg_name (i := 5) nd rfl (Or.inl rfl)) (pgs_cons (pg_name (i := 6) nd rfl (Or.inl rfl)) pgs_nil)))) (fun _ _ _ _ _ => (pts_one (k_pwt (d_wand (d_tcmp (op_eqX hr.units) bop_eq (k_ix (d_var 6 (pv 6)) (d_int)) (d_str) (nomark _)) (d_wand1 (d_tcmp op_gt bop_gt (k_ix (d_var 1 (pv 1)) (d_var 5 (pv 5))) (d_int) (nomark _))))))) (fun _ _ _ _ _ => d_var 5 (pv 5))) (d_nil))))) (d_seq (d_if (d_tnot (d_tV (k_call C.c_is_list_of tk hr rfl (d_cons (d_var 2 (pv 2)) (d_cons (d_var 3 (pv 3)) (d_nil)))))) (d_oneS (d_ret (d_bl))) (d_nilS)) (d_seq (d_own (ps_set (i := 4) nd rfl (Or.inl rfl) (k_call C.c_near_lengths tk hr rfl (d_cons (d_var 0 (pv 0)) (d_nil))))) (d_seq (d_for (ps_for po rfl (d_iLst (d_var 2 (pv 2))) (pg_name (i := 5) nd rfl (Or.inl rfl)) (d_seq (d_if (k_pwt (d_wor (d_tnot (d_tV (k_call C.c_is_between tk hr rfl (d_cons (d_var 5 (pv 5)) (d_cons (d_int) (d_cons (d_bin op_sub bop_sub (k_blt call_len cop_len boot_len T.f_len rfl (d_cons (d_var 0 (pv 0)) (d_nil))) (d_int)) (d_nil))))))) (d_wor (d_tcmp (op_eqX hr.units) bop_eq (k_ix (k_ix (d_var 0 (pv 0)) (d_var 5 (pv 5))) (d_int)) (d_str) (nomark _)) (d_wor1 (d_tcmp op_gt bop_gt (k_ix (d_var 4 (pv 4)) (d_var 5 (pv 5))) (d_int) (nomark _)))))) (d_oneS (d_ret (d_bl))) (d_nilS)) (d_seq (d_if (d_tV (k_call C.c_jump_reaches tk hr rfl (d_cons (k_ix (d_var 0 (pv 0)) (d_var 5 (pv 5))) (d_cons (d_var 5 (pv 5)) (d_cons (k_call C.c_row_starts tk hr rfl (d_cons (d_var 4 (pv 4)) (d_nil))) (d_nil)))))) (d_oneS (d_ret (d_bl))) (d_nilS)) (d_oneS (d_setIx (ps_asg (k_ix (k_ix (d_var 0 (pv 0)) (d_var 5 (pv 5))) (d_int)) (pg_sub (d_var 4 (pv 4)) (d_var 5 (pv 5)) set_list))))))) tg_name) (d_oneS (d_ret (d_cmp (op_eqX hr.units) bop_eq (d_var 4 (pv 4)) (d_var 1 (pv 1)) (nomark _)))))))
theorem ok_is_least {f : Addr} {fd : FuncData} {F F1 : Fns} (T : Tx K mg) (C : Cs P w K mg base (CAof K) F k) (hk : 2 ≤ k) (D : FnP K "is_least" (topS 40) f fd) (hF : ∀ as m, F1 17 as m = runFn fn_is_least F as m) :
    FnOk P w K mg base (L2.CX P w) (k + 1) f fd ["rows", "value"] (spF K (CAof K) F1 17 2) := by
  have S : FnScope N_is_least ["rows", "value"] (defScope (topS 40)) := ⟨rfl, rfl, rfl, by decide +kernel, rfl, by decide +kernel, by decide +kernel⟩
  refine FunD.ok D S (fun vs H Q E h => h.1) (fun cdv A outer s H vs Q E hr h => ⟨_, ?_, body_reads (fn := fn_is_least) (N := N_is_least) hF rfl h⟩)
  have nd := S.nd
  have tk := takes_of (X := cxOf (L2.CX P w) P w K mg base N_is_least "is_least" (defScope (topS 40)) f cdv A outer s H E) rfl rfl rfl rfl
  have po := passes_of (X := cxOf (L2.CX P w) P w K mg base N_is_least "is_least" (defScope (topS 40)) f cdv A outer s H E) rfl
  delta fn_is_least; dsimp only; delta b_is_least
  exact d_seq (d_drop (ps_expr (k_call C.c_check_rows tk hr rfl (d_cons (d_var 0 (pv 0)) (d_nil))))) (d_seq (d_if (k_pwt (d_wor (d_tnot (d_tV (k_call C.c_is_tuple_of tk hr rfl (d_cons (d_var 1 (pv 1)) (d_cons (d_int) (d_nil)))))) (d_wor1 (d_tnot (d_tV (k_call C.c_lengths_have_form tk hr rfl (d_cons (d_var 0 (pv 0)) (d_cons (k_ix (d_var 1 (pv 1)) (d_int)) (d_nil))))))))) (d_oneS (d_ret (d_bl))) (d_nilS)) (d_seq (d_unp rfl (ps_asg (d_var 1 (pv 1)) (pg_tup rfl (pgs_cons (pg_name (i := 3) nd rfl (Or.inl rfl)) (pgs_cons (pg_name (i := 4) nd rfl (Or.inl rfl)) pgs_nil))))) (d_seq (d_set (ps_set (i := 2) nd rfl (Or.inl rfl) (k_call C.c_row_starts tk hr rfl (d_cons (d_var 3 (pv 3)) (d_nil))))) (d_seq (d_for (ps_for po rfl (d_iEnum (pi_enum rfl T.f_enumerate (d_cons (d_var 0 (pv 0)) d_nil))) (pg_tup rfl (pgs_cons (pg_name (i := 5) nd rfl (Or.inl rfl)) (pgs_cons (pg_name (i := 6) nd rfl (Or.inl rfl)) pgs_nil))) (d_oneS (d_if (k_pwt (d_wand (d_tcmp (op_eqX hr.units) bop_eq (k_ix (d_var 6 (pv 6)) (d_int)) (d_str) (nomark _)) (d_wand (d_tcmp (op_eqX hr.units) bop_eq (k_ix (d_var 3 (pv 3)) (d_var 5 (pv 5))) (d_int) (nomark _)) (d_wand1 (d_tnot (d_tV (k_call C.c_jump_reaches tk hr rfl (d_cons (d_var 6 (pv 6)) (d_cons (d_var 5 (pv 5)) (d_cons (d_var 2 (pv 2)) (d_nil))))))))))) (d_oneS (d_ret (d_bl))) (d_nilS)))) (tg_tup rfl)) (d_oneS (d_ret (k_call C.c_sequence_fits tk hr rfl (d_cons (d_var 0 (pv 0)) (d_cons (d_var 3 (pv 3)) (d_cons (d_var 4 (pv 4)) (d_nil)))))))))))
theorem ok__law_stream {f : Addr} {fd : FuncData} {F F1 : Fns} (T : Tx K mg) (C : Cs P w K mg base (CAof K) F k) (hk : 2 ≤ k) (D : FnP K "_law_stream" (topS 42) f fd) (hF : ∀ as m, F1 18 as m = runFn fn__law_stream F as m) :
    FnOk P w K mg base (L2.CX P w) (k + 1) f fd ["script"] (spF K (CAof K) F1 18 1) := by
  have S : FnScope N__law_stream ["script"] (defScope (topS 42)) := ⟨rfl, rfl, rfl, by decide +kernel, rfl, by decide +kernel, by decide +kernel⟩
  refine FunD.ok D S (fun vs H Q E h => h.1) (fun cdv A outer s H vs Q E hr h => ⟨_, ?_, body_reads (fn := fn__law_stream) (N := N__law_stream) hF rfl h⟩)
  have nd := S.nd
  have tk := takes_of (X := cxOf (L2.CX P w) P w K mg base N__law_stream "_law_stream" (defScope (topS 42)) f cdv A outer s H E) rfl rfl rfl rfl
  have po := passes_of (X := cxOf (L2.CX P w) P w K mg base N__law_stream "_law_stream" (defScope (topS 42)) f cdv A outer s H E) rfl
  delta fn__law_stream; dsimp only; delta b__law_stream
  exact d_oneS (d_ret (d_new (d_cons (k_bty call_list_of cop_list boot_list T.f_list rfl (d_cons (d_var 0 (pv 0)) (d_nil))) (d_cons (d_int) (d_cons (d_int) (d_nil))))))
theorem ok__law_next {f : Addr} {fd : FuncData} {F F1 : Fns} (T : Tx K mg) (C : Cs P w K mg base (CAof K) F k) (hk : 2 ≤ k) (D : FnP K "_law_next" (topS 43) f fd) (hF : ∀ as m, F1 19 as m = runFn fn__law_next F as m) :
    FnOk P w K mg base (L2.CX P w) (k + 1) f fd ["stream", "many"] (spF K (CAof K) F1 19 2) := by
  have S : FnScope N__law_next ["stream", "many"] (defScope (topS 43)) := ⟨rfl, rfl, rfl, by decide +kernel, rfl, by decide +kernel, by decide +kernel⟩
  refine FunD.ok D S (fun vs H Q E h => h.1) (fun cdv A outer s H vs Q E hr h => ⟨_, ?_, body_reads (fn := fn__law_next) (N := N__law_next) hF rfl h⟩)
  have nd := S.nd
  have tk := takes_of (X := cxOf (L2.CX P w) P w K mg base N__law_next "_law_next" (defScope (topS 43)) f cdv A outer s H E) rfl rfl rfl rfl
  have po := passes_of (X := cxOf (L2.CX P w) P w K mg base N__law_next "_law_next" (defScope (topS 43)) f cdv A outer s H E) rfl
  delta fn__law_next; dsimp only; delta b__law_next
  exact d_seq (d_if (d_tcmp (op_eqX hr.units) bop_eq (k_ix (d_var 0 (pv 0)) (d_int)) (d_int) (nomark _)) (d_seq (d_set (ps_set (i := 3) nd rfl (Or.inl rfl) (k_ix (d_var 0 (pv 0)) (d_int)))) (d_seq (d_set (ps_set (i := 4) nd rfl (Or.inl rfl) (d_bin op_addX bop_add (d_int) (d_var 3 (pv 3))))) (d_seq (d_if (d_tcmp op_lt bop_lt (d_var 3 (pv 3)) (k_blt call_len cop_len boot_len T.f_len rfl (d_cons (k_ix (d_var 0 (pv 0)) (d_int)) (d_nil))) (nomark _)) (d_oneS (d_set (ps_set (i := 4) nd rfl (Or.inl rfl) (d_bin op_mod bop_mod (k_bty call_int1 cop_int boot_int T.f_int rfl (d_cons (k_blt call_abs cop_abs boot_abs T.f_abs rfl (d_cons (k_ix (k_ix (d_var 0 (pv 0)) (d_int)) (d_var 3 (pv 3))) (d_nil))) (d_nil))) (d_bin op_mulX bop_mul (d_bin op_mulX bop_mul (d_bin op_pow bop_pow (d_int) (d_int)) (d_bin op_pow bop_pow (d_int) (d_int))) (d_bin op_pow bop_pow (d_int) (d_int))))))) (d_nilS)) (d_seq (d_if (d_tcmp op_lt bop_lt (d_var 4 (pv 4)) (d_bin op_pow bop_pow (d_int) (d_int)) (nomark _)) (d_seq (d_set (ps_set (i := 4) nd rfl (Or.inl rfl) (d_bin op_mod bop_mod (k_bty call_int1 cop_int boot_int T.f_int rfl (d_cons (d_bin op_addX bop_add (d_bin op_addX bop_add (d_bin op_mulX bop_mul (d_var 4 (pv 4)) (d_int)) (d_bin op_mulX bop_mul (d_var 3 (pv 3)) (d_int))) (d_int)) (d_nil))) (d_int)))) (d_oneS (d_set (ps_set (i := 4) nd rfl (Or.inl rfl) (d_bin op_addX bop_add (d_bin op_mulX bop_mul (d_bin op_mod bop_mod (k_bty call_int1 cop_int boot_int T.f_int rfl (d_cons (d_bin op_addX bop_add (d_bin op_mulX bop_mul (d_var 4 (pv 4)) (d_int)) (d_int)) (d_nil))) (d_int)) (d_int)) (d_var 4 (pv 4))))))) (d_nilS)) (d_seq (d_setIx (ps_asg (d_var 4 (pv 4)) (pg_sub (d_var 0 (pv 0)) (d_int) set_list))) (d_oneS (d_setIx (ps_asg (d_bin op_addX bop_add (d_var 3 (pv 3)) (d_int)) (pg_sub (d_var 0 (pv 0)) (d_int) set_list))))))))) (d_nilS)) (d_seq (d_set (ps_set (i := 2) nd rfl (Or.inl rfl) (d_bin op_mod bop_mod (k_bty call_int1 cop_int boot_int T.f_int rfl (d_cons (k_ix (d_var 0 (pv 0)) (d_int)) (d_nil))) (d_var 1 (pv 1))))) (d_seq (d_setIx (ps_asg (d_bin op_fdiv bop_fdiv (k_ix (d_var 0 (pv 0)) (d_int)) (d_var 1 (pv 1))) (pg_sub (d_var 0 (pv 0)) (d_int) set_list))) (d_oneS (d_ret (d_var 2 (pv 2))))))
theorem ok__law_pick {f : Addr} {fd : FuncData} {F F1 : Fns} (T : Tx K mg) (C : Cs P w K mg base (CAof K) F k) (hk : 2 ≤ k) (D : FnP K "_law_pick" (topS 44) f fd) (hF : ∀ as m, F1 20 as m = runFn fn__law_pick F as m) :
    FnOk P w K mg base (L2.CX P w) (k + 1) f fd ["stream", "rows"] (spF K (CAof K) F1 20 2) := by
  have S : FnScope N__law_pick ["stream", "rows"] (defScope (topS 44)) := ⟨rfl, rfl, rfl, by decide +kernel, rfl, by decide +kernel, by decide +kernel⟩
  refine FunD.ok D S (fun vs H Q E h => h.1) (fun cdv A outer s H vs Q E hr h => ⟨_, ?_, body_reads (fn := fn__law_pick) (N := N__law_pick) hF rfl h⟩)
  have nd := S.nd
  have tk := takes_of (X := cxOf (L2.CX P w) P w K mg base N__law_pick "_law_pick" (defScope (topS 44)) f cdv A outer s H E) rfl rfl rfl rfl
  have po := passes_of (X := cxOf (L2.CX P w) P w K mg base N__law_pick "_law_pick" (defScope (topS 44)) f cdv A outer s H E) rfl
  delta fn__law_pick; dsimp only; delta b__law_pick
  exact d_oneS (d_ret (k_ix (d_var 1 (pv 1)) (k_call C.c__law_next tk hr rfl (d_cons (d_var 0 (pv 0)) (d_cons (k_blt call_len cop_len boot_len T.f_len rfl (d_cons (d_var 1 (pv 1)) (d_nil))) (d_nil))))))
theorem ok__law_from {f : Addr} {fd : FuncData} {F F1 : Fns} (T : Tx K mg) (C : Cs P w K mg base (CAof K) F k) (hk : 2 ≤ k) (D : FnP K "_law_from" (topS 45) f fd) (hF : ∀ as m, F1 21 as m = runFn fn__law_from F as m) :
    FnOk P w K mg base (L2.CX P w) (k + 1) f fd ["stream", "low", "high"] (spF K (CAof K) F1 21 3) := by
  have S : FnScope N__law_from ["stream", "low", "high"] (defScope (topS 45)) := ⟨rfl, rfl, rfl, by decide +kernel, rfl, by decide +kernel, by decide +kernel⟩
  refine FunD.ok D S (fun vs H Q E h => h.1) (fun cdv A outer s H vs Q E hr h => ⟨_, ?_, body_reads (fn := fn__law_from) (N := N__law_from) hF rfl h⟩)
  have nd := S.nd
  have tk := takes_of (X := cxOf (L2.CX P w) P w K mg base N__law_from "_law_from" (defScope (topS 45)) f cdv A outer s H E) rfl rfl rfl rfl
  have po := passes_of (X := cxOf (L2.CX P w) P w K mg base N__law_from "_law_from" (defScope (topS 45)) f cdv A outer s H E) rfl
  delta fn__law_from; dsimp only; delta b__law_from
  exact d_oneS (d_ret (d_bin op_addX bop_add (d_var 1 (pv 1)) (k_call C.c__law_next tk hr rfl (d_cons (d_var 0 (pv 0)) (d_cons (d_bin op_addX bop_add (d_bin op_sub bop_sub (d_var 2 (pv 2)) (d_var 1 (pv 1))) (d_int)) (d_nil))))))
theorem ok__law_shuffled {f : Addr} {fd : FuncData} {F F1 : Fns} (T : Tx K mg) (C : Cs P w K mg base (CAof K) F k) (hk : 2 ≤ k) (D : FnP K "_law_shuffled" (topS 46) f fd) (hF : ∀ as m, F1 22 as m = runFn fn__law_shuffled F as m) :
    FnOk P w K mg base (L2.CX P w) (k + 1) f fd ["stream", "rows"] (spF K (CAof K) F1 22 2) := by
  have S : FnScope N__law_shuffled ["stream", "rows"] (defScope (topS 46)) := ⟨rfl, rfl, rfl, by decide +kernel, rfl, by decide +kernel, by decide +kernel⟩
  refine FunD.ok D S (fun vs H Q E h => h.1) (fun cdv A outer s H vs Q E hr h => ⟨_, ?_, body_reads (fn := fn__law_shuffled) (N := N__law_shuffled) hF rfl h⟩)
  have nd := S.nd
  have tk := takes_of (X := cxOf (L2.CX P w) P w K mg base N__law_shuffled "_law_shuffled" (defScope (topS 46)) f cdv A outer s H E) rfl rfl rfl rfl
  have po := passes_of (X := cxOf (L2.CX P w) P w K mg base N__law_shuffled "_law_shuffled" (defScope (topS 46)) f cdv A outer s H E) rfl
  delta fn__law_shuffled; dsimp only; delta b__law_shuffled
  exact d_seq (d_own (ps_set (i := 2) nd rfl (Or.inl rfl) (k_bty call_list_of cop_list boot_list T.f_list rfl (d_cons (d_var 1 (pv 1)) (d_nil))))) (d_seq (d_own (ps_set (i := 3) nd rfl (Or.inl rfl) (d_lst (d_nil)))) (d_seq (d_for (ps_for po rfl (d_iR1 (pi_range1 rfl T.f_range (d_cons (k_blt call_len cop_len boot_len T.f_len rfl (d_cons (d_var 1 (pv 1)) (d_nil))) d_nil))) (pg_name (i := 4) nd rfl (Or.inl rfl)) (d_oneS (d_app (ps_expr (pe_bm PySem.F.plainAttrs_list PySem.F.slot_list_append PySem.F.type_list_append mt_append (d_var 3 (pv 3)) (d_cons (d_popAt (pe_bm PySem.F.plainAttrs_list PySem.F.slot_list_pop PySem.F.type_list_pop mt_popAt (d_var 2 (pv 2)) (d_cons (k_call C.c__law_next tk hr rfl (d_cons (d_var 0 (pv 0)) (d_cons (k_blt call_len cop_len boot_len T.f_len rfl (d_cons (d_var 2 (pv 2)) (d_nil))) (d_nil)))) d_nil))) d_nil)))))) tg_name) (d_oneS (d_ret (d_var 3 (pv 3))))))
theorem ok__law_number {f : Addr} {fd : FuncData} {F F1 : Fns} (T : Tx K mg) (C : Cs P w K mg base (CAof K) F k) (hk : 2 ≤ k) (D : FnP K "_law_number" (topS 47) f fd) (hF : ∀ as m, F1 23 as m = runFn fn__law_number F as m) :
    FnOk P w K mg base (L2.CX P w) (k + 1) f fd ["value", "low", "high"] (spF K (CAof K) F1 23 3) := by
  have S : FnScope N__law_number ["value", "low", "high"] (defScope (topS 47)) := ⟨rfl, rfl, rfl, by decide +kernel, rfl, by decide +kernel, by decide +kernel⟩
  refine FunD.ok D S (fun vs H Q E h => h.1) (fun cdv A outer s H vs Q E hr h => ⟨_, ?_, body_reads (fn := fn__law_number) (N := N__law_number) hF rfl h⟩)
  have nd := S.nd
  have tk := takes_of (X := cxOf (L2.CX P w) P w K mg base N__law_number "_law_number" (defScope (topS 47)) f cdv A outer s H E) rfl rfl rfl rfl
  have po := passes_of (X := cxOf (L2.CX P w) P w K mg base N__law_number "_law_number" (defScope (topS 47)) f cdv A outer s H E) rfl
  delta fn__law_number; dsimp only; delta b__law_number
  exact d_seq (d_if (k_pwt (d_wor (d_tnot (d_tV (k_blt call_isi cop_isi boot_isinstance T.f_isinstance rfl (d_cons (d_var 0 (pv 0)) (d_cons (k_ty boot_int T.f_int rfl) (d_nil)))))) (d_wor1 (d_tV (k_blt call_isi cop_isi boot_isinstance T.f_isinstance rfl (d_cons (d_var 0 (pv 0)) (d_cons (k_ty boot_bool T.f_bool rfl) (d_nil)))))))) (d_oneS (d_ret (d_bl))) (d_nilS)) (d_oneS (d_ret (d_and (d_cmp op_le bop_le (d_var 1 (pv 1)) (d_var 0 (pv 0)) (nomark _)) (d_and1 (d_cmp op_le bop_le (d_var 0 (pv 0)) (d_var 2 (pv 2)) (nomark _))))))
theorem ok__law_is_row {f : Addr} {fd : FuncData} {F F1 : Fns} (T : Tx K mg) (C : Cs P w K mg base (CAof K) F k) (hk : 2 ≤ k) (D : FnP K "_law_is_row" (topS 48) f fd) (hF : ∀ as m, F1 24 as m = runFn fn__law_is_row F as m) :
    FnOk P w K mg base (L2.CX P w) (k + 1) f fd ["value", "kind", "many"] (spF K (CAof K) F1 24 3) := by
  have S : FnScope N__law_is_row ["value", "kind", "many"] (defScope (topS 48)) := ⟨rfl, rfl, rfl, by decide +kernel, rfl, by decide +kernel, by decide +kernel⟩
  refine FunD.ok D S (fun vs H Q E h => h.1) (fun cdv A outer s H vs Q E hr h => ⟨_, ?_, body_reads (fn := fn__law_is_row) (N := N__law_is_row) hF rfl h⟩)
  have nd := S.nd
  have tk := takes_of (X := cxOf (L2.CX P w) P w K mg base N__law_is_row "_law_is_row" (defScope (topS 48)) f cdv A outer s H E) rfl rfl rfl rfl
  have po := passes_of (X := cxOf (L2.CX P w) P w K mg base N__law_is_row "_law_is_row" (defScope (topS 48)) f cdv A outer s H E) rfl
  delta fn__law_is_row; dsimp only; delta b__law_is_row
  exact d_seq (d_if (k_pwt (d_wand (d_tcmp (op_eqX hr.units) bop_eq (d_var 1 (pv 1)) (d_str) (nomark _)) (d_wand1 (d_tnot (d_tV (k_blt call_isi cop_isi boot_isinstance T.f_isinstance rfl (d_cons (d_var 0 (pv 0)) (d_cons (k_ty boot_list T.f_list rfl) (d_nil))))))))) (d_oneS (d_ret (d_bl))) (d_nilS)) (d_seq (d_if (k_pwt (d_wand (d_tcmp (op_eqX hr.units) bop_eq (d_var 1 (pv 1)) (d_str) (nomark _)) (d_wand1 (d_tnot (d_tV (k_blt call_isi cop_isi boot_isinstance T.f_isinstance rfl (d_cons (d_var 0 (pv 0)) (d_cons (k_ty boot_tuple T.f_tuple rfl) (d_nil))))))))) (d_oneS (d_ret (d_bl))) (d_nilS)) (d_oneS (d_ret (d_or (d_cmp op_isN bop_is (d_var 2 (pv 2)) (d_non) (nomark _)) (d_and1 (d_cmp (op_eqX hr.units) bop_eq (k_blt call_len cop_len boot_len T.f_len rfl (d_cons (d_var 0 (pv 0)) (d_nil))) (d_var 2 (pv 2)) (nomark _)))))))
theorem ok__law_same {f : Addr} {fd : FuncData} {F F1 : Fns} (T : Tx K mg) (C : Cs P w K mg base (CAof K) F k) (hk : 2 ≤ k) (D : FnP K "_law_same" (topS 49) f fd) (hF : ∀ as m, F1 25 as m = runFn fn__law_same F as m) :
    FnOk P w K mg base (L2.CX P w) (k + 1) f fd ["actual", "due"] (spF K (CAof K) F1 25 2) := by
  have S : FnScope N__law_same ["actual", "due"] (defScope (topS 49)) := ⟨rfl, rfl, rfl, by decide +kernel, rfl, by decide +kernel, by decide +kernel⟩
  refine FunD.ok D S (fun vs H Q E h => h.1) (fun cdv A outer s H vs Q E hr h => ⟨_, ?_, body_reads (fn := fn__law_same) (N := N__law_same) hF rfl h⟩)
  have nd := S.nd
  have tk := takes_of (X := cxOf (L2.CX P w) P w K mg base N__law_same "_law_same" (defScope (topS 49)) f cdv A outer s H E) rfl rfl rfl rfl
  have po := passes_of (X := cxOf (L2.CX P w) P w K mg base N__law_same "_law_same" (defScope (topS 49)) f cdv A outer s H E) rfl
  delta fn__law_same; dsimp only; delta b__law_same
  exact d_seq (d_own (ps_set (i := 2) nd rfl (Or.inl rfl) (d_lst (d_cons (d_tup (d_cons (d_var 0 (pv 0)) (d_cons (d_var 1 (pv 1)) (d_nil)))) (d_nil))))) (d_seq (d_for (ps_for po rfl (d_iR1 (pi_range1 rfl T.f_range (d_cons (d_int) d_nil))) (pg_name (i := 3) nd rfl (Or.inl rfl)) (d_seq (d_if (d_tcmp (op_eqX hr.units) bop_eq (k_blt call_len cop_len boot_len T.f_len rfl (d_cons (d_var 2 (pv 2)) (d_nil))) (d_int) (nomark _)) (d_oneS (d_ret (d_bl))) (d_nilS)) (d_seq (d_unp rfl (ps_asg (d_pop (pe_bm0 PySem.F.plainAttrs_list PySem.F.slot_list_pop PySem.F.type_list_pop mt_pop (d_var 2 (pv 2)))) (pg_tup rfl (pgs_cons (pg_name (i := 4) nd rfl (Or.inr rfl)) (pgs_cons (pg_name (i := 5) nd rfl (Or.inr rfl)) pgs_nil))))) (d_oneS (d_if (k_pwt (d_wor (d_tV (k_blt call_isi cop_isi boot_isinstance T.f_isinstance rfl (d_cons (d_var 5 (pv 5)) (d_cons (k_ty boot_tuple T.f_tuple rfl) (d_nil))))) (d_wor1 (d_tV (k_blt call_isi cop_isi boot_isinstance T.f_isinstance rfl (d_cons (d_var 5 (pv 5)) (d_cons (k_ty boot_list T.f_list rfl) (d_nil)))))))) (d_seq (d_if (k_pwt (d_wor (d_tcmp (op_neX hr.units) bop_ne (k_blt call_isi cop_isi boot_isinstance T.f_isinstance rfl (d_cons (d_var 5 (pv 5)) (d_cons (k_ty boot_tuple T.f_tuple rfl) (d_nil)))) (k_blt call_isi cop_isi boot_isinstance T.f_isinstance rfl (d_cons (d_var 4 (pv 4)) (d_cons (k_ty boot_tuple T.f_tuple rfl) (d_nil)))) (nomark _)) (d_wor (d_tcmp (op_neX hr.units) bop_ne (k_blt call_isi cop_isi boot_isinstance T.f_isinstance rfl (d_cons (d_var 5 (pv 5)) (d_cons (k_ty boot_list T.f_list rfl) (d_nil)))) (k_blt call_isi cop_isi boot_isinstance T.f_isinstance rfl (d_cons (d_var 4 (pv 4)) (d_cons (k_ty boot_list T.f_list rfl) (d_nil)))) (nomark _)) (d_wor1 (d_tcmp (op_neX hr.units) bop_ne (k_blt call_len cop_len boot_len T.f_len rfl (d_cons (d_var 4 (pv 4)) (d_nil))) (k_blt call_len cop_len boot_len T.f_len rfl (d_cons (d_var 5 (pv 5)) (d_nil))) (nomark _)))))) (d_oneS (d_ret (d_bl))) (d_nilS)) (d_oneS (d_ext (ps_expr (pe_bm PySem.F.plainAttrs_list PySem.F.slot_list_extend PySem.F.type_list_extend mt_extend (d_var 2 (pv 2)) (d_cons (k_lc (own := [("at", 6)]) rfl nd (d_iR1 (pi_range1 rfl T.f_range (d_cons (k_blt call_len cop_len boot_len T.f_len rfl (d_cons (d_var 5 (pv 5)) (d_nil))) d_nil))) (blk_d (by decide +kernel)) tg_name (fun _ _ _ q => k_yes q) (fun _ _ _ _ _ => (pg_name (i := 6) nd rfl (Or.inl rfl))) (fun _ _ _ _ _ => pts_nil) (fun _ _ _ _ _ => d_tup (d_cons (k_ix (d_var 4 (pv 4)) (d_var 6 (pv 6))) (d_cons (k_ix (d_var 5 (pv 5)) (d_var 6 (pv 6))) (d_nil))))) d_nil)))))) (d_oneS (d_if (d_tV (k_blt call_isi cop_isi boot_isinstance T.f_isinstance rfl (d_cons (d_var 5 (pv 5)) (d_cons (k_ty boot_dict T.f_dict rfl) (d_nil))))) (d_nevSs) (d_oneS (d_if (k_pwt (d_wor (d_tV (k_blt call_isi cop_isi boot_isinstance T.f_isinstance rfl (d_cons (d_var 5 (pv 5)) (d_cons (k_ty boot_bool T.f_bool rfl) (d_nil))))) (d_wor1 (d_tV (k_blt call_isi cop_isi boot_isinstance T.f_isinstance rfl (d_cons (d_var 5 (pv 5)) (d_cons (k_ty boot_str T.f_str rfl) (d_nil)))))))) (d_oneS (d_if (k_pwt (d_wor (d_tcmp (op_neX hr.units) bop_ne (k_blt call_isi cop_isi boot_isinstance T.f_isinstance rfl (d_cons (d_var 4 (pv 4)) (d_cons (k_ty boot_bool T.f_bool rfl) (d_nil)))) (k_blt call_isi cop_isi boot_isinstance T.f_isinstance rfl (d_cons (d_var 5 (pv 5)) (d_cons (k_ty boot_bool T.f_bool rfl) (d_nil)))) (nomark _)) (d_wor (d_tcmp (op_neX hr.units) bop_ne (k_blt call_isi cop_isi boot_isinstance T.f_isinstance rfl (d_cons (d_var 4 (pv 4)) (d_cons (k_ty boot_str T.f_str rfl) (d_nil)))) (k_blt call_isi cop_isi boot_isinstance T.f_isinstance rfl (d_cons (d_var 5 (pv 5)) (d_cons (k_ty boot_str T.f_str rfl) (d_nil)))) (nomark _)) (d_wor1 (d_tcmp (op_neX hr.units) bop_ne (d_var 4 (pv 4)) (d_var 5 (pv 5)) (nomark _)))))) (d_oneS (d_ret (d_bl))) (d_nilS))) (d_oneS (d_if (d_tV (k_blt call_isi cop_isi boot_isinstance T.f_isinstance rfl (d_cons (d_var 5 (pv 5)) (d_cons (k_ty boot_int T.f_int rfl) (d_nil))))) (d_oneS (d_if (k_pwt (d_wor (d_tnot (d_tV (k_blt call_isi cop_isi boot_isinstance T.f_isinstance rfl (d_cons (d_var 4 (pv 4)) (d_cons (k_ty boot_int T.f_int rfl) (d_nil)))))) (d_wor (d_tV (k_blt call_isi cop_isi boot_isinstance T.f_isinstance rfl (d_cons (d_var 4 (pv 4)) (d_cons (k_ty boot_bool T.f_bool rfl) (d_nil))))) (d_wor1 (d_tcmp (op_neX hr.units) bop_ne (d_var 4 (pv 4)) (d_var 5 (pv 5)) (nomark _)))))) (d_oneS (d_ret (d_bl))) (d_nilS))) (d_oneS (d_if (d_tcmp op_notN bop_isnt (d_var 4 (pv 4)) (d_non) (nomark _)) (d_oneS (d_ret (d_bl))) (d_nilS)))))))))))))) tg_name) (d_oneS (d_ret (d_bl))))
theorem ok__law_copy {f : Addr} {fd : FuncData} {F F1 : Fns} (T : Tx K mg) (C : Cs P w K mg base (CAof K) F k) (hk : 2 ≤ k) (D : FnP K "_law_copy" (topS 50) f fd) (hF : ∀ as m, F1 26 as m = runFn fn__law_copy F as m) :
    FnOk P w K mg base (L2.CX P w) (k + 1) f fd ["value"] (spF K (CAof K) F1 26 1) := by
  have S : FnScope N__law_copy ["value"] (defScope (topS 50)) := ⟨rfl, rfl, rfl, by decide +kernel, rfl, by decide +kernel, by decide +kernel⟩
  refine FunD.ok D S (fun vs H Q E h => h.1) (fun cdv A outer s H vs Q E hr h => ⟨_, ?_, body_reads (fn := fn__law_copy) (N := N__law_copy) hF rfl h⟩)
  have nd := S.nd
  have tk := takes_of (X := cxOf (L2.CX P w) P w K mg base N__law_copy "_law_copy" (defScope (topS 50)) f cdv A outer s H E) rfl rfl rfl rfl
  have po := passes_of (X := cxOf (L2.CX P w) P w K mg base N__law_copy "_law_copy" (defScope (topS 50)) f cdv A outer s H E) rfl
  delta fn__law_copy; dsimp only; delta b__law_copy
  exact d_seq (d_if (d_tV (k_blt call_isi cop_isi boot_isinstance T.f_isinstance rfl (d_cons (d_var 0 (pv 0)) (d_cons (k_ty boot_dict T.f_dict rfl) (d_nil))))) (d_nevSs) (d_nilS)) (d_seq (d_if (d_tV (k_blt call_isi cop_isi boot_isinstance T.f_isinstance rfl (d_cons (d_var 0 (pv 0)) (d_cons (k_ty boot_list T.f_list rfl) (d_nil))))) (d_oneS (d_ret (k_lc (own := [("item", 3)]) rfl nd (d_iLst (d_var 0 (pv 0))) (blk_d (by decide +kernel)) tg_name (fun _ _ _ q => k_yes q) (fun _ _ _ _ _ => (pg_name (i := 3) nd rfl (Or.inl rfl))) (fun _ _ _ _ _ => pts_nil) (fun _ _ _ _ _ => k_call C.c__law_copy takes0 hr rfl (d_cons (d_var 3 (pv 3)) (d_nil)))))) (d_nilS)) (d_seq (d_if (d_tV (k_blt call_isi cop_isi boot_isinstance T.f_isinstance rfl (d_cons (d_var 0 (pv 0)) (d_cons (k_ty boot_tuple T.f_tuple rfl) (d_nil))))) (d_oneS (d_ret (k_bty call_tuple_of cop_tuple boot_tuple T.f_tuple rfl (d_cons (k_lc (own := [("item", 3)]) rfl nd (d_iTup (d_var 0 (pv 0))) (blk_d (by decide +kernel)) tg_name (fun _ _ _ q => k_yes q) (fun _ _ _ _ _ => (pg_name (i := 3) nd rfl (Or.inl rfl))) (fun _ _ _ _ _ => pts_nil) (fun _ _ _ _ _ => k_call C.c__law_copy takes0 hr rfl (d_cons (d_var 3 (pv 3)) (d_nil)))) (d_nil))))) (d_nilS)) (d_oneS (d_ret (d_var 0 (pv 0))))))
theorem ok__law_spoilt {f : Addr} {fd : FuncData} {F F1 : Fns} (T : Tx K mg) (C : Cs P w K mg base (CAof K) F k) (hk : 2 ≤ k) (D : FnP K "_law_spoilt" (topS 53) f fd) (hF : ∀ as m, F1 29 as m = runFn fn__law_spoilt F as m) :
    FnOk P w K mg base (L2.CX P w) (k + 1) f fd ["stream", "value"] (spF K (CAof K) F1 29 2) := by
  have S : FnScope N__law_spoilt ["stream", "value"] (defScope (topS 53)) := ⟨rfl, rfl, rfl, by decide +kernel, rfl, by decide +kernel, by decide +kernel⟩
  refine FunD.ok D S (fun vs H Q E h => h.1) (fun cdv A outer s H vs Q E hr h => ⟨_, ?_, body_reads (fn := fn__law_spoilt) (N := N__law_spoilt) hF rfl h⟩)
  have nd := S.nd
  have tk := takes_of (X := cxOf (L2.CX P w) P w K mg base N__law_spoilt "_law_spoilt" (defScope (topS 53)) f cdv A outer s H E) rfl rfl rfl rfl
  have po := passes_of (X := cxOf (L2.CX P w) P w K mg base N__law_spoilt "_law_spoilt" (defScope (topS 53)) f cdv A outer s H E) rfl
  delta fn__law_spoilt; dsimp only; delta b__law_spoilt
  exact d_seq (d_if (k_pwt (d_wand (k_pwt (d_wor (d_tV (k_blt call_isi cop_isi boot_isinstance T.f_isinstance rfl (d_cons (d_var 1 (pv 1)) (d_cons (k_ty boot_list T.f_list rfl) (d_nil))))) (d_wor1 (d_tV (k_blt call_isi cop_isi boot_isinstance T.f_isinstance rfl (d_cons (d_var 1 (pv 1)) (d_cons (k_ty boot_tuple T.f_tuple rfl) (d_nil)))))))) (d_wand (d_tcmp op_gt bop_gt (k_blt call_len cop_len boot_len T.f_len rfl (d_cons (d_var 1 (pv 1)) (d_nil))) (d_int) (nomark _)) (d_wand1 (d_tcmp op_gt bop_gt (k_call C.c__law_next tk hr rfl (d_cons (d_var 0 (pv 0)) (d_cons (d_int) (d_nil)))) (d_int) (nomark _)))))) (d_seq (d_set (ps_set (i := 2) nd rfl (Or.inl rfl) (k_call C.c__law_next tk hr rfl (d_cons (d_var 0 (pv 0)) (d_cons (k_blt call_len cop_len boot_len T.f_len rfl (d_cons (d_var 1 (pv 1)) (d_nil))) (d_nil)))))) (d_seq (d_own (ps_set (i := 3) nd rfl (Or.inl rfl) (k_bty call_list_of cop_list boot_list T.f_list rfl (d_cons (d_var 1 (pv 1)) (d_nil))))) (d_seq (d_setIx (ps_asg (k_call C.c__law_spoilt tk hr rfl (d_cons (d_var 0 (pv 0)) (d_cons (k_ix (d_var 1 (pv 1)) (d_var 2 (pv 2))) (d_nil)))) (pg_sub (d_var 3 (pv 3)) (d_var 2 (pv 2)) set_list))) (d_frz (is := [3]) (d_oneS (d_ret (d_ifE (d_tV (k_blt call_isi cop_isi boot_isinstance T.f_isinstance rfl (d_cons (d_var 1 (pv 1)) (d_cons (k_ty boot_list T.f_list rfl) (d_nil))))) (d_var 3 (pv 3)) (k_bty call_tuple_of cop_tuple boot_tuple T.f_tuple rfl (d_cons (d_var 3 (pv 3)) (d_nil)))))))))) (d_nilS)) (d_seq (d_if (k_pwt (d_wand (d_tV (k_blt call_isi cop_isi boot_isinstance T.f_isinstance rfl (d_cons (d_var 1 (pv 1)) (d_cons (k_ty boot_int T.f_int rfl) (d_nil))))) (d_wand1 (d_tnot (d_tV (k_blt call_isi cop_isi boot_isinstance T.f_isinstance rfl (d_cons (d_var 1 (pv 1)) (d_cons (k_ty boot_bool T.f_bool rfl) (d_nil))))))))) (d_oneS (d_ret (k_call C.c__law_pick tk hr rfl (d_cons (d_var 0 (pv 0)) (d_cons (d_lst (d_cons (d_bin op_addX bop_add (d_var 1 (pv 1)) (d_int)) (d_cons (d_bin op_sub bop_sub (d_var 1 (pv 1)) (d_int)) (d_cons (d_bin op_addX bop_add (d_var 1 (pv 1)) (d_int)) (d_cons (d_non) (d_cons (d_cmp (op_eqX hr.units) bop_eq (d_var 1 (pv 1)) (d_int) (nomark _)) (d_cons (k_bty call_str_int cop_str boot_str T.f_str rfl (d_cons (d_bin op_mod bop_mod (k_bty call_int1 cop_int boot_int T.f_int rfl (d_cons (d_var 1 (pv 1)) (d_nil))) (d_int)) (d_nil))) (d_cons (d_tup (d_cons (d_var 1 (pv 1)) (d_cons (d_int) (d_nil)))) (d_nil))))))))) (d_nil)))))) (d_nilS)) (d_seq (d_if (d_tV (k_blt call_isi cop_isi boot_isinstance T.f_isinstance rfl (d_cons (d_var 1 (pv 1)) (d_cons (k_ty boot_list T.f_list rfl) (d_nil))))) (d_oneS (d_ret (k_call C.c__law_pick tk hr rfl (d_cons (d_var 0 (pv 0)) (d_cons (d_lst (d_cons (k_bty call_tuple_of cop_tuple boot_tuple T.f_tuple rfl (d_cons (d_var 1 (pv 1)) (d_nil))) (d_cons (d_bin op_addX bop_add (d_var 1 (pv 1)) (d_lst (d_cons (d_int) (d_nil)))) (d_cons (d_bin op_addX bop_add (d_slice (d_var 1 (pv 1)) (d_oSome (d_int)) (d_oNone)) (d_lst (d_cons (d_non) (d_nil)))) (d_cons (d_slice (d_var 1 (pv 1)) (d_oSome (d_int)) (d_oNone)) (d_cons (d_non) (d_cons (d_str) (d_nil)))))))) (d_nil)))))) (d_nilS)) (d_seq (d_if (d_tV (k_blt call_isi cop_isi boot_isinstance T.f_isinstance rfl (d_cons (d_var 1 (pv 1)) (d_cons (k_ty boot_tuple T.f_tuple rfl) (d_nil))))) (d_oneS (d_ret (k_call C.c__law_pick tk hr rfl (d_cons (d_var 0 (pv 0)) (d_cons (d_lst (d_cons (k_bty call_list_of cop_list boot_list T.f_list rfl (d_cons (d_var 1 (pv 1)) (d_nil))) (d_cons (d_bin op_addX bop_add (d_var 1 (pv 1)) (d_tup (d_cons (d_int) (d_nil)))) (d_cons (d_slice (d_var 1 (pv 1)) (d_oSome (d_int)) (d_oNone)) (d_cons (d_non) (d_cons (d_int) (d_nil))))))) (d_nil)))))) (d_nilS)) (d_seq (d_if (d_tV (k_blt call_isi cop_isi boot_isinstance T.f_isinstance rfl (d_cons (d_var 1 (pv 1)) (d_cons (k_ty boot_str T.f_str rfl) (d_nil))))) (d_oneS (d_ret (k_call C.c__law_pick tk hr rfl (d_cons (d_var 0 (pv 0)) (d_cons (d_lst (d_cons (d_bin op_addX bop_add (d_var 1 (pv 1)) (d_str)) (d_cons (d_str) (d_cons (d_slice (d_var 1 (pv 1)) (d_oSome (d_int)) (d_oNone)) (d_cons (d_int) (d_cons (d_non) (d_cons (d_lst (d_cons (d_var 1 (pv 1)) (d_nil))) (d_nil)))))))) (d_nil)))))) (d_nilS)) (d_oneS (d_ret (k_call C.c__law_pick tk hr rfl (d_cons (d_var 0 (pv 0)) (d_cons (d_lst (d_cons (d_int) (d_cons (d_int) (d_cons (d_str) (d_cons (d_lst (d_nil)) (d_cons (d_tup (d_cons (d_int) (d_cons (d_int) (d_nil)))) (d_cons (d_bl) (d_nil)))))))) (d_nil))))))))))
theorem ok__law_row_starts {f : Addr} {fd : FuncData} {F F1 : Fns} (T : Tx K mg) (C : Cs P w K mg base (CAof K) F k) (hk : 2 ≤ k) (D : FnP K "_law_row_starts" (topS 54) f fd) (hF : ∀ as m, F1 30 as m = runFn fn__law_row_starts F as m) :
    FnOk P w K mg base (L2.CX P w) (k + 1) f fd ["lengths"] (spF K (CAof K) F1 30 1) := by
  have S : FnScope N__law_row_starts ["lengths"] (defScope (topS 54)) := ⟨rfl, rfl, rfl, by decide +kernel, rfl, by decide +kernel, by decide +kernel⟩
  refine FunD.ok D S (fun vs H Q E h => h.1) (fun cdv A outer s H vs Q E hr h => ⟨_, ?_, body_reads (fn := fn__law_row_starts) (N := N__law_row_starts) hF rfl h⟩)
  have nd := S.nd
  have tk := takes_of (X := cxOf (L2.CX P w) P w K mg base N__law_row_starts "_law_row_starts" (defScope (topS 54)) f cdv A outer s H E) rfl rfl rfl rfl
  have po := passes_of (X := cxOf (L2.CX P w) P w K mg base N__law_row_starts "_law_row_starts" (defScope (topS 54)) f cdv A outer s H E) rfl
  delta fn__law_row_starts; dsimp only; delta b__law_row_starts
  exact d_seq (d_own (ps_set (i := 1) nd rfl (Or.inl rfl) (d_lst (d_cons (d_int) (d_nil))))) (d_seq (d_for (ps_for po rfl (d_iLst (d_var 0 (pv 0))) (pg_name (i := 2) nd rfl (Or.inl rfl)) (d_oneS (d_app (ps_expr (pe_bm PySem.F.plainAttrs_list PySem.F.slot_list_append PySem.F.type_list_append mt_append (d_var 1 (pv 1)) (d_cons (d_bin op_addX bop_add (k_ix (d_var 1 (pv 1)) (d_bin op_sub bop_sub (k_blt call_len cop_len boot_len T.f_len rfl (d_cons (d_var 1 (pv 1)) (d_nil))) (d_int))) (d_var 2 (pv 2))) d_nil)))))) tg_name) (d_oneS (d_ret (d_var 1 (pv 1)))))
theorem ok__law_reach_ok {f : Addr} {fd : FuncData} {F F1 : Fns} (T : Tx K mg) (C : Cs P w K mg base (CAof K) F k) (hk : 2 ≤ k) (D : FnP K "_law_reach_ok" (topS 55) f fd) (hF : ∀ as m, F1 31 as m = runFn fn__law_reach_ok F as m) :
    FnOk P w K mg base (L2.CX P w) (k + 1) f fd ["rows", "at", "starts"] (spF K (CAof K) F1 31 3) := by
  have S : FnScope N__law_reach_ok ["rows", "at", "starts"] (defScope (topS 55)) := ⟨rfl, rfl, rfl, by decide +kernel, rfl, by decide +kernel, by decide +kernel⟩
  refine FunD.ok D S (fun vs H Q E h => h.1) (fun cdv A outer s H vs Q E hr h => ⟨_, ?_, body_reads (fn := fn__law_reach_ok) (N := N__law_reach_ok) hF rfl h⟩)
  have nd := S.nd
  have tk := takes_of (X := cxOf (L2.CX P w) P w K mg base N__law_reach_ok "_law_reach_ok" (defScope (topS 55)) f cdv A outer s H E) rfl rfl rfl rfl
  have po := passes_of (X := cxOf (L2.CX P w) P w K mg base N__law_reach_ok "_law_reach_ok" (defScope (topS 55)) f cdv A outer s H E) rfl
  delta fn__law_reach_ok; dsimp only; delta b__law_reach_ok
  exact d_seq (d_set (ps_set (i := 3) nd rfl (Or.inl rfl) (d_bin op_sub bop_sub (k_ix (d_var 2 (pv 2)) (k_ix (k_ix (d_var 0 (pv 0)) (d_var 1 (pv 1))) (d_int))) (k_ix (d_var 2 (pv 2)) (d_var 1 (pv 1)))))) (d_oneS (d_ret (d_and (d_cmp op_le bop_le (d_bin op_sub bop_sub (d_int) (k_ix (k_ix (d_var 0 (pv 0)) (d_var 1 (pv 1))) (d_int))) (d_var 3 (pv 3)) (nomark _)) (d_and1 (d_cmp op_le bop_le (d_var 3 (pv 3)) (k_ix (k_ix (d_var 0 (pv 0)) (d_var 1 (pv 1))) (d_int)) (nomark _))))))
theorem ok__law_sweep {f : Addr} {fd : FuncData} {F F1 : Fns} (T : Tx K mg) (C : Cs P w K mg base (CAof K) F k) (hk : 2 ≤ k) (D : FnP K "_law_sweep" (topS 56) f fd) (hF : ∀ as m, F1 32 as m = runFn fn__law_sweep F as m) :
    FnOk P w K mg base (L2.CX P w) (k + 1) f fd ["rows", "forced"] (spF K (CAof K) F1 32 2) := by
  have S : FnScope N__law_sweep ["rows", "forced"] (defScope (topS 56)) := ⟨rfl, rfl, rfl, by decide +kernel, rfl, by decide +kernel, by decide +kernel⟩
  refine FunD.ok D S (fun vs H Q E h => h.1) (fun cdv A outer s H vs Q E hr h => ⟨_, ?_, body_reads (fn := fn__law_sweep) (N := N__law_sweep) hF rfl h⟩)
  have nd := S.nd
  have tk := takes_of (X := cxOf (L2.CX P w) P w K mg base N__law_sweep "_law_sweep" (defScope (topS 56)) f cdv A outer s H E) rfl rfl rfl rfl
  have po := passes_of (X := cxOf (L2.CX P w) P w K mg base N__law_sweep "_law_sweep" (defScope (topS 56)) f cdv A outer s H E) rfl
  delta fn__law_sweep; dsimp only; delta b__law_sweep
  exact d_seq (d_own (ps_set (i := 2) nd rfl (Or.inr rfl) (k_lc (own := [("row", 7)]) rfl nd (d_iLst (d_var 0 (pv 0))) (blk_d (by decide +kernel)) tg_name (fun _ _ _ q => k_yes q) (fun _ _ _ _ _ => (pg_name (i := 7) nd rfl (Or.inl rfl))) (fun _ _ _ _ _ => pts_nil) (fun _ _ _ _ _ => d_ifE (d_tcmp (op_eqX hr.units) bop_eq (k_ix (d_var 7 (pv 7)) (d_int)) (d_str) (nomark _)) (k_ix (d_var 7 (pv 7)) (d_int)) (d_int))))) (d_seq (d_for (ps_for po rfl (d_iLst (d_var 1 (pv 1))) (pg_name (i := 3) nd rfl (Or.inl rfl)) (d_oneS (d_setIx (ps_asg (k_ix (k_ix (d_var 0 (pv 0)) (d_var 3 (pv 3))) (d_int)) (pg_sub (d_var 2 (pv 2)) (d_var 3 (pv 3)) set_list))))) tg_name) (d_seq (d_for (ps_for po rfl (d_iR1 (pi_range1 rfl T.f_range (d_cons (d_bin op_addX bop_add (k_blt call_len cop_len boot_len T.f_len rfl (d_cons (d_var 0 (pv 0)) (d_nil))) (d_int)) d_nil))) (pg_name (i := 4) nd rfl (Or.inl rfl)) (d_seq (d_set (ps_set (i := 5) nd rfl (Or.inr rfl) (k_call C.c__law_row_starts tk hr rfl (d_cons (d_var 2 (pv 2)) (d_nil))))) (d_seq (d_set (k_setLc rfl rfl (sw_true rfl rfl rfl (by decide +kernel)) (own := [("at", 3)]) rfl nd (d_iR1 (pi_range1 rfl T.f_range (d_cons (k_blt call_len cop_len boot_len T.f_len rfl (d_cons (d_var 0 (pv 0)) (d_nil))) d_nil))) (blk_d (by decide +kernel)) tg_name (fun _ _ _ q => q) (fun _ _ _ _ _ => (pg_name (i := 3) nd rfl (Or.inl rfl))) (fun _ _ _ _ _ => (pts_one (k_pwt (d_wand (d_tcmp (op_eqX hr.units) bop_eq (k_ix (k_ix (d_var 0 (pv 0)) (d_var 3 (pv 3))) (d_int)) (d_str) (nomark _)) (d_wand (d_tcmp (op_eqX hr.units) bop_eq (k_ix (d_var 2 (pv 2)) (d_var 3 (pv 3))) (d_int) (nomark _)) (d_wand1 (d_tnot (d_tV (k_call C.c__law_reach_ok takes0 hr rfl (d_cons (d_var 0 (pv 0)) (d_cons (d_var 3 (pv 3)) (d_cons (d_var 5 (pv 5)) (d_nil))))))))))))) (fun _ _ _ _ _ => d_var 3 (pv 3)))) (d_seq (d_if (d_tcmp (op_eqX hr.units) bop_eq (k_blt call_len cop_len boot_len T.f_len rfl (d_cons (d_var 6 (pv 6)) (d_nil))) (d_int) (nomark _)) (d_oneS (d_bk)) (d_nilS)) (d_oneS (d_for (ps_for po rfl (d_iLst (d_var 6 (pv 6))) (pg_name (i := 3) nd rfl (Or.inl rfl)) (d_oneS (d_setIx (ps_asg (k_ix (k_ix (d_var 0 (pv 0)) (d_var 3 (pv 3))) (d_int)) (pg_sub (d_var 2 (pv 2)) (d_var 3 (pv 3)) set_list))))) tg_name)))))) tg_name) (d_oneS (d_ret (d_var 2 (pv 2))))))
theorem ok__law_some_rows {f : Addr} {fd : FuncData} {F F1 : Fns} (T : Tx K mg) (C : Cs P w K mg base (CAof K) F k) (hk : 2 ≤ k) (D : FnP K "_law_some_rows" (topS 57) f fd) (hF : ∀ as m, F1 33 as m = runFn fn__law_some_rows F as m) :
    FnOk P w K mg base (L2.CX P w) (k + 1) f fd ["stream"] (spF K (CAof K) F1 33 1) := by
  have S : FnScope N__law_some_rows ["stream"] (defScope (topS 57)) := ⟨rfl, rfl, rfl, by decide +kernel, rfl, by decide +kernel, by decide +kernel⟩
  refine FunD.ok D S (fun vs H Q E h => h.1) (fun cdv A outer s H vs Q E hr h => ⟨_, ?_, body_reads (fn := fn__law_some_rows) (N := N__law_some_rows) hF rfl h⟩)
  have nd := S.nd
  have tk := takes_of (X := cxOf (L2.CX P w) P w K mg base N__law_some_rows "_law_some_rows" (defScope (topS 57)) f cdv A outer s H E) rfl rfl rfl rfl
  have po := passes_of (X := cxOf (L2.CX P w) P w K mg base N__law_some_rows "_law_some_rows" (defScope (topS 57)) f cdv A outer s H E) rfl
  delta fn__law_some_rows; dsimp only; delta b__law_some_rows
  exact d_seq (d_set (ps_set (i := 1) nd rfl (Or.inl rfl) (k_call C.c__law_pick tk hr rfl (d_cons (d_var 0 (pv 0)) (d_cons (d_lst (d_cons (d_int) (d_cons (d_int) (d_cons (d_int) (d_cons (d_int) (d_cons (d_int) (d_cons (d_int) (d_cons (d_int) (d_cons (d_int) (d_cons (d_int) (d_cons (d_int) (d_nil)))))))))))) (d_nil)))))) (d_seq (d_own (ps_set (i := 2) nd rfl (Or.inl rfl) (d_lst (d_nil)))) (d_seq (d_for (ps_for po rfl (d_iR1 (pi_range1 rfl T.f_range (d_cons (d_var 1 (pv 1)) d_nil))) (pg_name (i := 3) nd rfl (Or.inl rfl)) (d_oneS (d_if (d_tcmp op_lt bop_lt (k_call C.c__law_next tk hr rfl (d_cons (d_var 0 (pv 0)) (d_cons (d_int) (d_nil)))) (d_int) (nomark _)) (d_oneS (d_app (ps_expr (pe_bm PySem.F.plainAttrs_list PySem.F.slot_list_append PySem.F.type_list_append mt_append (d_var 2 (pv 2)) (d_cons (d_tup (d_cons (d_str) (d_cons (k_call C.c__law_pick tk hr rfl (d_cons (d_var 0 (pv 0)) (d_cons (d_lst (d_cons (d_int) (d_cons (d_int) (d_cons (d_int) (d_cons (d_int) (d_cons (d_int) (d_cons (d_ifE (d_tcmp op_lt bop_lt (d_var 1 (pv 1)) (d_int) (nomark _)) (d_int) (d_int)) (d_nil)))))))) (d_nil)))) (d_nil)))) d_nil))))) (d_seq (d_set (ps_set (i := 7) nd rfl (Or.inl rfl) (d_ifE (d_tcmp (op_eqX hr.units) bop_eq (k_call C.c__law_next tk hr rfl (d_cons (d_var 0 (pv 0)) (d_cons (d_int) (d_nil)))) (d_int) (nomark _)) (k_call C.c__law_next tk hr rfl (d_cons (d_var 0 (pv 0)) (d_cons (d_var 1 (pv 1)) (d_nil)))) (d_bin op_mod bop_mod (k_bty call_int1 cop_int boot_int T.f_int rfl (d_cons (d_bin op_addX bop_add (d_var 3 (pv 3)) (k_call C.c__law_from tk hr rfl (d_cons (d_var 0 (pv 0)) (d_cons (d_un un_neg uop_neg (d_int)) (d_cons (d_int) (d_nil)))))) (d_nil))) (d_var 1 (pv 1)))))) (d_oneS (d_app (ps_expr (pe_bm PySem.F.plainAttrs_list PySem.F.slot_list_append PySem.F.type_list_append mt_append (d_var 2 (pv 2)) (d_cons (d_tup (d_cons (d_str) (d_cons (d_var 7 (pv 7)) (d_cons (d_int) (d_cons (d_int) (d_cons (k_call C.c__law_pick tk hr rfl (d_cons (d_var 0 (pv 0)) (d_cons (d_lst (d_cons (d_int) (d_cons (d_int) (d_cons (d_int) (d_cons (d_int) (d_cons (d_int) (d_nil))))))) (d_nil)))) (d_nil))))))) d_nil))))))))) tg_name) (d_frz (is := [2]) (d_seq (d_set (ps_set (i := 4) nd rfl (Or.inl rfl) (k_call C.c__law_row_starts tk hr rfl (d_cons (k_lc (own := [("row", 6)]) rfl nd (d_iLst (d_var 2 (pv 2))) (blk_d (by decide +kernel)) tg_name (fun _ _ _ q => k_yes q) (fun _ _ _ _ _ => (pg_name (i := 6) nd rfl (Or.inl rfl))) (fun _ _ _ _ _ => pts_nil) (fun _ _ _ _ _ => d_ifE (d_tcmp (op_eqX hr.units) bop_eq (k_ix (d_var 6 (pv 6)) (d_int)) (d_str) (nomark _)) (k_ix (d_var 6 (pv 6)) (d_int)) (d_int))) (d_nil))))) (d_seq (d_own (ps_set (i := 5) nd rfl (Or.inl rfl) (d_lst (d_nil)))) (d_seq (d_for (ps_for po rfl (d_iR1 (pi_range1 rfl T.f_range (d_cons (d_var 1 (pv 1)) d_nil))) (pg_name (i := 3) nd rfl (Or.inl rfl)) (d_seq (d_set (ps_set (i := 6) nd rfl (Or.inl rfl) (k_ix (d_var 2 (pv 2)) (d_var 3 (pv 3))))) (d_seq (d_if (d_tcmp (op_eqX hr.units) bop_eq (k_ix (d_var 6 (pv 6)) (d_int)) (d_str) (nomark _)) (d_seq (d_set (ps_set (i := 8) nd rfl (Or.inl rfl) (d_bin op_sub bop_sub (k_ix (d_var 4 (pv 4)) (k_ix (d_var 6 (pv 6)) (d_int))) (k_ix (d_var 4 (pv 4)) (d_var 3 (pv 3)))))) (d_seq (d_set (ps_set (i := 9) nd rfl (Or.inl rfl) (k_call C.c__law_pick tk hr rfl (d_cons (d_var 0 (pv 0)) (d_cons (d_lst (d_cons (d_un un_neg uop_neg (d_int)) (d_cons (d_int) (d_cons (d_int) (d_cons (d_int) (d_cons (d_int) (d_cons (d_int) (d_cons (d_int) (d_cons (d_int) (d_cons (d_int) (d_cons (d_int) (d_cons (d_int) (d_cons (d_int) (d_nil)))))))))))))) (d_nil)))))) (d_seq (d_set (ps_set (i := 10) nd rfl (Or.inl rfl) (k_call C.c__law_next tk hr rfl (d_cons (d_var 0 (pv 0)) (d_cons (d_int) (d_nil)))))) (d_seq (d_unp rfl (ps_asg (d_ifE (d_tcmp op_ge bop_ge (d_var 8 (pv 8)) (d_int) (nomark _)) (d_tup (d_cons (d_var 10 (pv 10)) (d_cons (k_blt (call_max2 rfl) cop_max2 boot_max T.f_max rfl (d_cons (d_int) (d_cons (k_blt (call_min2 rfl) cop_min2 boot_min T.f_min rfl (d_cons (d_int) (d_cons (d_bin op_addX bop_add (d_var 8 (pv 8)) (d_var 9 (pv 9))) (d_nil)))) (d_nil)))) (d_nil)))) (d_tup (d_cons (k_blt (call_max2 rfl) cop_max2 boot_max T.f_max rfl (d_cons (d_int) (d_cons (k_blt (call_min2 rfl) cop_min2 boot_min T.f_min rfl (d_cons (d_int) (d_cons (d_bin op_sub bop_sub (d_var 9 (pv 9)) (d_var 8 (pv 8))) (d_nil)))) (d_nil)))) (d_cons (d_var 10 (pv 10)) (d_nil))))) (pg_tup rfl (pgs_cons (pg_name (i := 11) nd rfl (Or.inl rfl)) (pgs_cons (pg_name (i := 12) nd rfl (Or.inl rfl)) pgs_nil))))) (d_oneS (d_set (ps_set (i := 6) nd rfl (Or.inl rfl) (d_tup (d_cons (d_str) (d_cons (k_ix (d_var 6 (pv 6)) (d_int)) (d_cons (d_var 11 (pv 11)) (d_cons (d_var 12 (pv 12)) (d_cons (k_ix (d_var 6 (pv 6)) (d_int)) (d_nil)))))))))))))) (d_nilS)) (d_oneS (d_app (ps_expr (pe_bm PySem.F.plainAttrs_list PySem.F.slot_list_append PySem.F.type_list_append mt_append (d_var 5 (pv 5)) (d_cons (d_var 6 (pv 6)) d_nil)))))))) tg_name) (d_oneS (d_ret (d_var 5 (pv 5))))))))))
theorem ok__law_facing {f : Addr} {fd : FuncData} {F F1 : Fns} (T : Tx K mg) (C : Cs P w K mg base (CAof K) F k) (hk : 2 ≤ k) (D : FnP K "_law_facing" (topS 58) f fd) (hF : ∀ as m, F1 34 as m = runFn fn__law_facing F as m) :
    FnOk P w K mg base (L2.CX P w) (k + 1) f fd ["stream"] (spF K (CAof K) F1 34 1) := by
  have S : FnScope N__law_facing ["stream"] (defScope (topS 58)) := ⟨rfl, rfl, rfl, by decide +kernel, rfl, by decide +kernel, by decide +kernel⟩
  refine FunD.ok D S (fun vs H Q E h => h.1) (fun cdv A outer s H vs Q E hr h => ⟨_, ?_, body_reads (fn := fn__law_facing) (N := N__law_facing) hF rfl h⟩)
  have nd := S.nd
  have tk := takes_of (X := cxOf (L2.CX P w) P w K mg base N__law_facing "_law_facing" (defScope (topS 58)) f cdv A outer s H E) rfl rfl rfl rfl
  have po := passes_of (X := cxOf (L2.CX P w) P w K mg base N__law_facing "_law_facing" (defScope (topS 58)) f cdv A outer s H E) rfl
  delta fn__law_facing; dsimp only; delta b__law_facing
  exact d_seq (d_set (ps_set (i := 1) nd rfl (Or.inl rfl) (k_call C.c__law_next tk hr rfl (d_cons (d_var 0 (pv 0)) (d_cons (d_int) (d_nil)))))) (d_seq (d_set (ps_set (i := 2) nd rfl (Or.inl rfl) (d_bin op_addX bop_add (d_int) (k_call C.c__law_next tk hr rfl (d_cons (d_var 0 (pv 0)) (d_cons (d_int) (d_nil))))))) (d_seq (d_own (ps_set (i := 3) nd rfl (Or.inl rfl) (d_lst (d_cons (d_tup (d_cons (d_str) (d_cons (k_call C.c__law_next tk hr rfl (d_cons (d_var 0 (pv 0)) (d_cons (d_int) (d_nil)))) (d_nil)))) (d_cons (d_tup (d_cons (d_str) (d_cons (d_int) (d_cons (d_int) (d_cons (d_bin op_addX bop_add (d_int) (d_var 1 (pv 1))) (d_cons (d_var 2 (pv 2)) (d_nil))))))) (d_cons (d_tup (d_cons (d_str) (d_cons (d_var 1 (pv 1)) (d_nil)))) (d_cons (d_tup (d_cons (d_str) (d_cons (d_int) (d_cons (d_bin op_addX bop_add (d_int) (d_var 1 (pv 1))) (d_cons (d_int) (d_cons (d_var 2 (pv 2)) (d_nil))))))) (d_cons (d_tup (d_cons (d_str) (d_cons (d_int) (d_nil)))) (d_nil))))))))) (d_seq (d_setIx (ps_asg (d_tup (d_cons (d_str) (d_cons (d_int) (d_cons (d_int) (d_cons (d_bin op_addX bop_add (d_int) (d_var 1 (pv 1))) (d_cons (d_var 2 (pv 2)) (d_nil))))))) (pg_sub (d_var 3 (pv 3)) (d_int) set_list))) (d_oneS (d_ret (d_var 3 (pv 3)))))))
theorem ok__law_falling {f : Addr} {fd : FuncData} {F F1 : Fns} (T : Tx K mg) (C : Cs P w K mg base (CAof K) F k) (hk : 2 ≤ k) (D : FnP K "_law_falling" (topS 59) f fd) (hF : ∀ as m, F1 35 as m = runFn fn__law_falling F as m) :
    FnOk P w K mg base (L2.CX P w) (k + 1) f fd ["stream"] (spF K (CAof K) F1 35 1) := by
  have S : FnScope N__law_falling ["stream"] (defScope (topS 59)) := ⟨rfl, rfl, rfl, by decide +kernel, rfl, by decide +kernel, by decide +kernel⟩
  refine FunD.ok D S (fun vs H Q E h => h.1) (fun cdv A outer s H vs Q E hr h => ⟨_, ?_, body_reads (fn := fn__law_falling) (N := N__law_falling) hF rfl h⟩)
  have nd := S.nd
  have tk := takes_of (X := cxOf (L2.CX P w) P w K mg base N__law_falling "_law_falling" (defScope (topS 59)) f cdv A outer s H E) rfl rfl rfl rfl
  have po := passes_of (X := cxOf (L2.CX P w) P w K mg base N__law_falling "_law_falling" (defScope (topS 59)) f cdv A outer s H E) rfl
  delta fn__law_falling; dsimp only; delta b__law_falling
  exact d_seq (d_set (ps_set (i := 1) nd rfl (Or.inl rfl) (d_bin op_addX bop_add (d_int) (k_call C.c__law_next tk hr rfl (d_cons (d_var 0 (pv 0)) (d_cons (d_int) (d_nil))))))) (d_seq (d_set (ps_set (i := 2) nd rfl (Or.inr rfl) (d_bin op_addX bop_add (d_int) (k_call C.c__law_next tk hr rfl (d_cons (d_var 0 (pv 0)) (d_cons (d_int) (d_nil))))))) (d_seq (d_set (k_setLc rfl rfl (sw_true rfl rfl rfl (by decide +kernel)) (own := [("at", 4)]) rfl nd (d_iR1 (pi_range1 rfl T.f_range (d_cons (d_var 1 (pv 1)) d_nil))) (blk_d (by decide +kernel)) tg_name (fun _ _ _ q => k_yes q) (fun _ _ _ _ _ => (pg_name (i := 4) nd rfl (Or.inl rfl))) (fun _ _ _ _ _ => pts_nil) (fun _ _ _ _ _ => d_tup (d_cons (d_str) (d_cons (d_bin op_addX bop_add (d_var 4 (pv 4)) (d_int)) (d_cons (d_int) (d_cons (d_int) (d_cons (d_var 2 (pv 2)) (d_nil))))))))) (d_oneS (d_ret (d_ifE (d_tcmp op_gt bop_gt (k_call C.c__law_next tk hr rfl (d_cons (d_var 0 (pv 0)) (d_cons (d_int) (d_nil)))) (d_int) (nomark _)) (d_bin op_addX bop_add (d_var 3 (pv 3)) (d_lst (d_cons (d_tup (d_cons (d_str) (d_cons (d_bin op_addX bop_add (d_int) (k_call C.c__law_next tk hr rfl (d_cons (d_var 0 (pv 0)) (d_cons (d_int) (d_nil))))) (d_nil)))) (d_cons (d_tup (d_cons (d_str) (d_cons (d_int) (d_nil)))) (d_cons (d_tup (d_cons (d_str) (d_cons (d_int) (d_nil)))) (d_nil)))))) (d_bin op_addX bop_add (d_var 3 (pv 3)) (d_lst (d_cons (d_tup (d_cons (d_str) (d_cons (d_int) (d_nil)))) (d_cons (d_tup (d_cons (d_str) (d_cons (d_int) (d_nil)))) (d_nil))))))))))
theorem ok__law_out_of_reach {f : Addr} {fd : FuncData} {F F1 : Fns} (T : Tx K mg) (C : Cs P w K mg base (CAof K) F k) (hk : 2 ≤ k) (D : FnP K "_law_out_of_reach" (topS 60) f fd) (hF : ∀ as m, F1 36 as m = runFn fn__law_out_of_reach F as m) :
    FnOk P w K mg base (L2.CX P w) (k + 1) f fd ["rows", "lengths"] (spF K (CAof K) F1 36 2) := by
  have S : FnScope N__law_out_of_reach ["rows", "lengths"] (defScope (topS 60)) := ⟨rfl, rfl, rfl, by decide +kernel, rfl, by decide +kernel, by decide +kernel⟩
  refine FunD.ok D S (fun vs H Q E h => h.1) (fun cdv A outer s H vs Q E hr h => ⟨_, ?_, body_reads (fn := fn__law_out_of_reach) (N := N__law_out_of_reach) hF rfl h⟩)
  have nd := S.nd
  have tk := takes_of (X := cxOf (L2.CX P w) P w K mg base N__law_out_of_reach "_law_out_of_reach" (defScope (topS 60)) f cdv A outer s H E) rfl rfl rfl rfl
  have po := passes_of (X := cxOf (L2.CX P w) P w K mg base N__law_out_of_reach "_law_out_of_reach" (defScope (topS 60)) f cdv A outer s H E) rfl
  delta fn__law_out_of_reach; dsimp only; delta b__law_out_of_reach
  exact d_seq (d_set (ps_set (i := 2) nd rfl (Or.inr rfl) (k_call C.c__law_row_starts tk hr rfl (d_cons (d_var 1 (pv 1)) (d_nil))))) (d_oneS (d_ret (k_lc (own := [("at", 3)]) rfl nd (d_iR1 (pi_range1 rfl T.f_range (d_cons (k_blt call_len cop_len boot_len T.f_len rfl (d_cons (d_var 0 (pv 0)) (d_nil))) d_nil))) (blk_d (by decide +kernel)) tg_name (fun _ _ _ q => q) (fun _ _ _ _ _ => (pg_name (i := 3) nd rfl (Or.inl rfl))) (fun _ _ _ _ _ => (pts_one (k_pwt (d_wand (d_tcmp (op_eqX hr.units) bop_eq (k_ix (k_ix (d_var 0 (pv 0)) (d_var 3 (pv 3))) (d_int)) (d_str) (nomark _)) (d_wand (d_tcmp (op_eqX hr.units) bop_eq (k_ix (d_var 1 (pv 1)) (d_var 3 (pv 3))) (d_int) (nomark _)) (d_wand1 (d_tnot (d_tV (k_call C.c__law_reach_ok takes0 hr rfl (d_cons (d_var 0 (pv 0)) (d_cons (d_var 3 (pv 3)) (d_cons (d_var 2 (pv 2)) (d_nil))))))))))))) (fun _ _ _ _ _ => d_var 3 (pv 3)))))
theorem ok__law_least_ok {f : Addr} {fd : FuncData} {F F1 : Fns} (T : Tx K mg) (C : Cs P w K mg base (CAof K) F k) (hk : 2 ≤ k) (D : FnP K "_law_least_ok" (topS 61) f fd) (hF : ∀ as m, F1 37 as m = runFn fn__law_least_ok F as m) :
    FnOk P w K mg base (L2.CX P w) (k + 1) f fd ["rows", "value"] (spF K (CAof K) F1 37 2) := by
  have S : FnScope N__law_least_ok ["rows", "value"] (defScope (topS 61)) := ⟨rfl, rfl, rfl, by decide +kernel, rfl, by decide +kernel, by decide +kernel⟩
  refine FunD.ok D S (fun vs H Q E h => h.1) (fun cdv A outer s H vs Q E hr h => ⟨_, ?_, body_reads (fn := fn__law_least_ok) (N := N__law_least_ok) hF rfl h⟩)
  have nd := S.nd
  have tk := takes_of (X := cxOf (L2.CX P w) P w K mg base N__law_least_ok "_law_least_ok" (defScope (topS 61)) f cdv A outer s H E) rfl rfl rfl rfl
  have po := passes_of (X := cxOf (L2.CX P w) P w K mg base N__law_least_ok "_law_least_ok" (defScope (topS 61)) f cdv A outer s H E) rfl
  delta fn__law_least_ok; dsimp only; delta b__law_least_ok
  exact d_seq (d_if (k_pwt (d_wor (d_tnot (d_tV (k_call C.c__law_is_row tk hr rfl (d_cons (d_var 1 (pv 1)) (d_cons (d_str) (d_cons (d_int) (d_nil))))))) (d_wor (d_tnot (d_tV (k_call C.c__law_is_row tk hr rfl (d_cons (k_ix (d_var 1 (pv 1)) (d_int)) (d_cons (d_str) (d_cons (k_blt call_len cop_len boot_len T.f_len rfl (d_cons (d_var 0 (pv 0)) (d_nil))) (d_nil))))))) (d_wor1 (d_tnot (d_tV (k_call C.c__law_is_row tk hr rfl (d_cons (k_ix (d_var 1 (pv 1)) (d_int)) (d_cons (d_str) (d_cons (d_non) (d_nil))))))))))) (d_oneS (d_ret (d_bl))) (d_nilS)) (d_seq (d_unp rfl (ps_asg (d_var 1 (pv 1)) (pg_tup rfl (pgs_cons (pg_name (i := 4) nd rfl (Or.inl rfl)) (pgs_cons (pg_name (i := 5) nd rfl (Or.inl rfl)) pgs_nil))))) (d_seq (d_for (ps_for po rfl (d_iR1 (pi_range1 rfl T.f_range (d_cons (k_blt call_len cop_len boot_len T.f_len rfl (d_cons (d_var 0 (pv 0)) (d_nil))) d_nil))) (pg_name (i := 2) nd rfl (Or.inl rfl)) (d_seq (d_if (k_pwt (d_wand (d_tcmp (op_eqX hr.units) bop_eq (k_ix (k_ix (d_var 0 (pv 0)) (d_var 2 (pv 2))) (d_int)) (d_str) (nomark _)) (d_wand1 (d_tnot (d_tV (k_call C.c__law_number tk hr rfl (d_cons (k_ix (d_var 4 (pv 4)) (d_var 2 (pv 2))) (d_cons (k_ix (k_ix (d_var 0 (pv 0)) (d_var 2 (pv 2))) (d_int)) (d_cons (k_ix (k_ix (d_var 0 (pv 0)) (d_var 2 (pv 2))) (d_int)) (d_nil)))))))))) (d_oneS (d_ret (d_bl))) (d_nilS)) (d_oneS (d_if (k_pwt (d_wand (d_tcmp (op_eqX hr.units) bop_eq (k_ix (k_ix (d_var 0 (pv 0)) (d_var 2 (pv 2))) (d_int)) (d_str) (nomark _)) (d_wand (d_tnot (d_tV (k_call C.c__law_number tk hr rfl (d_cons (k_ix (d_var 4 (pv 4)) (d_var 2 (pv 2))) (d_cons (d_int) (d_cons (d_int) (d_nil))))))) (d_wand1 (d_tnot (d_tV (k_call C.c__law_number tk hr rfl (d_cons (k_ix (d_var 4 (pv 4)) (d_var 2 (pv 2))) (d_cons (k_ix (k_ix (d_var 0 (pv 0)) (d_var 2 (pv 2))) (d_int)) (d_cons (k_ix (k_ix (d_var 0 (pv 0)) (d_var 2 (pv 2))) (d_int)) (d_nil))))))))))) (d_oneS (d_ret (d_bl))) (d_nilS))))) tg_name) (d_seq (d_if (d_tcmp op_gt bop_gt (k_blt call_len cop_len boot_len T.f_len rfl (d_cons (k_call C.c__law_out_of_reach tk hr rfl (d_cons (d_var 0 (pv 0)) (d_cons (d_var 4 (pv 4)) (d_nil)))) (d_nil))) (d_int) (nomark _)) (d_oneS (d_ret (d_bl))) (d_nilS)) (d_seq (d_own (k_setLc rfl rfl (sw_true rfl rfl rfl (by decide +kernel)) (own := [("row", 6)]) rfl nd (d_iLst (d_var 0 (pv 0))) (blk_d (by decide +kernel)) tg_name (fun _ _ _ q => k_yes q) (fun _ _ _ _ _ => (pg_name (i := 6) nd rfl (Or.inl rfl))) (fun _ _ _ _ _ => pts_nil) (fun _ _ _ _ _ => d_ifE (d_tcmp (op_eqX hr.units) bop_eq (k_ix (d_var 6 (pv 6)) (d_int)) (d_str) (nomark _)) (k_ix (d_var 6 (pv 6)) (d_int)) (d_int)))) (d_seq (d_for (ps_for po rfl (d_iLst (d_var 5 (pv 5))) (pg_name (i := 2) nd rfl (Or.inl rfl)) (d_seq (d_if (k_pwt (d_wor (d_tnot (d_tV (k_call C.c__law_number tk hr rfl (d_cons (d_var 2 (pv 2)) (d_cons (d_int) (d_cons (d_bin op_sub bop_sub (k_blt call_len cop_len boot_len T.f_len rfl (d_cons (d_var 0 (pv 0)) (d_nil))) (d_int)) (d_nil))))))) (d_wor1 (d_tcmp op_notIn_seq bop_nin (d_var 2 (pv 2)) (k_call C.c__law_out_of_reach tk hr rfl (d_cons (d_var 0 (pv 0)) (d_cons (d_var 3 (pv 3)) (d_nil)))) rfl)))) (d_oneS (d_ret (d_bl))) (d_nilS)) (d_oneS (d_setIx (ps_asg (k_ix (k_ix (d_var 0 (pv 0)) (d_var 2 (pv 2))) (d_int)) (pg_sub (d_var 3 (pv 3)) (d_var 2 (pv 2)) set_list)))))) tg_name) (d_oneS (d_ret (d_cmp (op_eqX hr.units) bop_eq (d_var 3 (pv 3)) (d_var 4 (pv 4)) (nomark _)))))))))
theorem ok__law_other_sequence {f : Addr} {fd : FuncData} {F F1 : Fns} (T : Tx K mg) (C : Cs P w K mg base (CAof K) F k) (hk : 2 ≤ k) (D : FnP K "_law_other_sequence" (topS 62) f fd) (hF : ∀ as m, F1 38 as m = runFn fn__law_other_sequence F as m) :
    FnOk P w K mg base (L2.CX P w) (k + 1) f fd ["stream", "rows"] (spF K (CAof K) F1 38 2) := by
  have S : FnScope N__law_other_sequence ["stream", "rows"] (defScope (topS 62)) := ⟨rfl, rfl, rfl, by decide +kernel, rfl, by decide +kernel, by decide +kernel⟩
  refine FunD.ok D S (fun vs H Q E h => h.1) (fun cdv A outer s H vs Q E hr h => ⟨_, ?_, body_reads (fn := fn__law_other_sequence) (N := N__law_other_sequence) hF rfl h⟩)
  have nd := S.nd
  have tk := takes_of (X := cxOf (L2.CX P w) P w K mg base N__law_other_sequence "_law_other_sequence" (defScope (topS 62)) f cdv A outer s H E) rfl rfl rfl rfl
  have po := passes_of (X := cxOf (L2.CX P w) P w K mg base N__law_other_sequence "_law_other_sequence" (defScope (topS 62)) f cdv A outer s H E) rfl
  delta fn__law_other_sequence; dsimp only; delta b__law_other_sequence
  exact d_seq (d_own (k_setLc rfl rfl (sw_true rfl rfl rfl (by decide +kernel)) (own := [("row", 6)]) rfl nd (d_iLst (d_var 1 (pv 1))) (blk_d (by decide +kernel)) tg_name (fun _ _ _ q => k_yes q) (fun _ _ _ _ _ => (pg_name (i := 6) nd rfl (Or.inl rfl))) (fun _ _ _ _ _ => pts_nil) (fun _ _ _ _ _ => d_ifE (d_tcmp (op_eqX hr.units) bop_eq (k_ix (d_var 6 (pv 6)) (d_int)) (d_str) (nomark _)) (k_ix (d_var 6 (pv 6)) (d_int)) (d_int)))) (d_seq (d_own (ps_set (i := 3) nd rfl (Or.inl rfl) (d_lst (d_nil)))) (d_seq (d_for (ps_for po rfl (d_iR1 (pi_range1 rfl T.f_range (d_cons (k_blt call_len cop_len boot_len T.f_len rfl (d_cons (d_var 1 (pv 1)) (d_nil))) d_nil))) (pg_name (i := 4) nd rfl (Or.inl rfl)) (d_seq (d_set (ps_set (i := 5) nd rfl (Or.inl rfl) (k_call C.c__law_out_of_reach tk hr rfl (d_cons (d_var 1 (pv 1)) (d_cons (d_var 2 (pv 2)) (d_nil)))))) (d_oneS (d_if (d_tcmp op_gt bop_gt (k_blt call_len cop_len boot_len T.f_len rfl (d_cons (d_var 5 (pv 5)) (d_nil))) (d_int) (nomark _)) (d_seq (d_set (ps_set (i := 7) nd rfl (Or.inl rfl) (k_call C.c__law_pick tk hr rfl (d_cons (d_var 0 (pv 0)) (d_cons (d_var 5 (pv 5)) (d_nil)))))) (d_seq (d_app (ps_expr (pe_bm PySem.F.plainAttrs_list PySem.F.slot_list_append PySem.F.type_list_append mt_append (d_var 3 (pv 3)) (d_cons (d_var 7 (pv 7)) d_nil)))) (d_oneS (d_setIx (ps_asg (k_ix (k_ix (d_var 1 (pv 1)) (d_var 7 (pv 7))) (d_int)) (pg_sub (d_var 2 (pv 2)) (d_var 7 (pv 7)) set_list)))))) (d_nilS))))) tg_name) (d_frz (is := [2, 3]) (d_oneS (d_ret (d_tup (d_cons (d_var 2 (pv 2)) (d_cons (d_var 3 (pv 3)) (d_nil)))))))))
theorem ok__law_other_fit {f : Addr} {fd : FuncData} {F F1 : Fns} (T : Tx K mg) (C : Cs P w K mg base (CAof K) F k) (hk : 2 ≤ k) (D : FnP K "_law_other_fit" (topS 63) f fd) (hF : ∀ as m, F1 39 as m = runFn fn__law_other_fit F as m) :
    FnOk P w K mg base (L2.CX P w) (k + 1) f fd ["stream", "rows", "lengths"] (spF K (CAof K) F1 39 3) := by
  have S : FnScope N__law_other_fit ["stream", "rows", "lengths"] (defScope (topS 63)) := ⟨rfl, rfl, rfl, by decide +kernel, rfl, by decide +kernel, by decide +kernel⟩
  refine FunD.ok D S (fun vs H Q E h => h.1) (fun cdv A outer s H vs Q E hr h => ⟨_, ?_, body_reads (fn := fn__law_other_fit) (N := N__law_other_fit) hF rfl h⟩)
  have nd := S.nd
  have tk := takes_of (X := cxOf (L2.CX P w) P w K mg base N__law_other_fit "_law_other_fit" (defScope (topS 63)) f cdv A outer s H E) rfl rfl rfl rfl
  have po := passes_of (X := cxOf (L2.CX P w) P w K mg base N__law_other_fit "_law_other_fit" (defScope (topS 63)) f cdv A outer s H E) rfl
  delta fn__law_other_fit; dsimp only; delta b__law_other_fit
  exact d_oneS (d_ret (k_call C.c__law_sweep tk hr rfl (d_cons (d_var 1 (pv 1)) (d_cons (k_lc (own := [("at", 3)]) rfl nd (d_iR1 (pi_range1 rfl T.f_range (d_cons (k_blt call_len cop_len boot_len T.f_len rfl (d_cons (d_var 1 (pv 1)) (d_nil))) d_nil))) (blk_d (by decide +kernel)) tg_name (fun _ _ _ q => q) (fun _ _ _ _ _ => (pg_name (i := 3) nd rfl (Or.inl rfl))) (fun _ _ _ _ _ => (pts_one (k_pwt (d_wand (d_tcmp (op_eqX hr.units) bop_eq (k_ix (k_ix (d_var 1 (pv 1)) (d_var 3 (pv 3))) (d_int)) (d_str) (nomark _)) (d_wand1 (k_pwt (d_wor (d_tcmp op_gt bop_gt (k_ix (d_var 2 (pv 2)) (d_var 3 (pv 3))) (d_int) (nomark _)) (d_wor1 (d_tcmp (op_eqX hr.units) bop_eq (k_call C.c__law_next takes0 hr rfl (d_cons (d_var 0 (pv 0)) (d_cons (d_int) (d_nil)))) (d_int) (nomark _)))))))))) (fun _ _ _ _ _ => d_var 3 (pv 3))) (d_nil)))))
theorem ok__law_row_ok {f : Addr} {fd : FuncData} {F F1 : Fns} (T : Tx K mg) (C : Cs P w K mg base (CAof K) F k) (hk : 2 ≤ k) (D : FnP K "_law_row_ok" (topS 64) f fd) (hF : ∀ as m, F1 40 as m = runFn fn__law_row_ok F as m) :
    FnOk P w K mg base (L2.CX P w) (k + 1) f fd ["row", "many"] (spF K (CAof K) F1 40 2) := by
  have S : FnScope N__law_row_ok ["row", "many"] (defScope (topS 64)) := ⟨rfl, rfl, rfl, by decide +kernel, rfl, by decide +kernel, by decide +kernel⟩
  refine FunD.ok D S (fun vs H Q E h => h.1) (fun cdv A outer s H vs Q E hr h => ⟨_, ?_, body_reads (fn := fn__law_row_ok) (N := N__law_row_ok) hF rfl h⟩)
  have nd := S.nd
  have tk := takes_of (X := cxOf (L2.CX P w) P w K mg base N__law_row_ok "_law_row_ok" (defScope (topS 64)) f cdv A outer s H E) rfl rfl rfl rfl
  have po := passes_of (X := cxOf (L2.CX P w) P w K mg base N__law_row_ok "_law_row_ok" (defScope (topS 64)) f cdv A outer s H E) rfl
  delta fn__law_row_ok; dsimp only; delta b__law_row_ok
  exact d_seq (d_if (k_pwt (d_wor (d_tnot (d_tV (k_blt call_isi cop_isi boot_isinstance T.f_isinstance rfl (d_cons (d_var 0 (pv 0)) (d_cons (k_ty boot_tuple T.f_tuple rfl) (d_nil)))))) (d_wor (d_tcmp op_notIn_seq bop_nin (k_blt call_len cop_len boot_len T.f_len rfl (d_cons (d_var 0 (pv 0)) (d_nil))) (d_tup (d_cons (d_int) (d_cons (d_int) (d_nil)))) rfl) (d_wor1 (d_tnot (d_tV (k_blt call_isi cop_isi boot_isinstance T.f_isinstance rfl (d_cons (k_ix (d_var 0 (pv 0)) (d_int)) (d_cons (k_ty boot_str T.f_str rfl) (d_nil)))))))))) (d_oneS (d_ret (d_bl))) (d_nilS)) (d_seq (d_if (d_tcmp (op_eqX hr.units) bop_eq (k_ix (d_var 0 (pv 0)) (d_int)) (d_str) (nomark _)) (d_oneS (d_ret (d_and (d_cmp (op_eqX hr.units) bop_eq (k_blt call_len cop_len boot_len T.f_len rfl (d_cons (d_var 0 (pv 0)) (d_nil))) (d_int) (nomark _)) (d_and1 (k_call C.c__law_number tk hr rfl (d_cons (k_ix (d_var 0 (pv 0)) (d_int)) (d_cons (d_int) (d_cons (d_int) (d_nil))))))))) (d_nilS)) (d_seq (d_if (k_pwt (d_wor (d_tcmp (op_neX hr.units) bop_ne (k_ix (d_var 0 (pv 0)) (d_int)) (d_str) (nomark _)) (d_wor (d_tcmp (op_neX hr.units) bop_ne (k_blt call_len cop_len boot_len T.f_len rfl (d_cons (d_var 0 (pv 0)) (d_nil))) (d_int) (nomark _)) (d_wor (d_tnot (d_tV (k_call C.c__law_number tk hr rfl (d_cons (k_ix (d_var 0 (pv 0)) (d_int)) (d_cons (d_int) (d_cons (d_bin op_sub bop_sub (d_var 1 (pv 1)) (d_int)) (d_nil))))))) (d_wor1 (d_tnot (d_tV (k_call C.c__law_number tk hr rfl (d_cons (k_ix (d_var 0 (pv 0)) (d_int)) (d_cons (d_int) (d_cons (d_int) (d_nil)))))))))))) (d_oneS (d_ret (d_bl))) (d_nilS)) (d_oneS (d_ret (d_and (k_call C.c__law_number tk hr rfl (d_cons (k_ix (d_var 0 (pv 0)) (d_int)) (d_cons (d_int) (d_cons (d_int) (d_nil))))) (d_and1 (k_call C.c__law_number tk hr rfl (d_cons (k_ix (d_var 0 (pv 0)) (d_int)) (d_cons (d_int) (d_cons (d_int) (d_nil)))))))))))
theorem ok__law_rows_ok {f : Addr} {fd : FuncData} {F F1 : Fns} (T : Tx K mg) (C : Cs P w K mg base (CAof K) F k) (hk : 2 ≤ k) (D : FnP K "_law_rows_ok" (topS 65) f fd) (hF : ∀ as m, F1 41 as m = runFn fn__law_rows_ok F as m) :
    FnOk P w K mg base (L2.CX P w) (k + 1) f fd ["value"] (spF K (CAof K) F1 41 1) := by
  have S : FnScope N__law_rows_ok ["value"] (defScope (topS 65)) := ⟨rfl, rfl, rfl, by decide +kernel, rfl, by decide +kernel, by decide +kernel⟩
  refine FunD.ok D S (fun vs H Q E h => h.1) (fun cdv A outer s H vs Q E hr h => ⟨_, ?_, body_reads (fn := fn__law_rows_ok) (N := N__law_rows_ok) hF rfl h⟩)
  have nd := S.nd
  have tk := takes_of (X := cxOf (L2.CX P w) P w K mg base N__law_rows_ok "_law_rows_ok" (defScope (topS 65)) f cdv A outer s H E) rfl rfl rfl rfl
  have po := passes_of (X := cxOf (L2.CX P w) P w K mg base N__law_rows_ok "_law_rows_ok" (defScope (topS 65)) f cdv A outer s H E) rfl
  delta fn__law_rows_ok; dsimp only; delta b__law_rows_ok
  exact d_oneS (d_ret (d_and (k_blt call_isi cop_isi boot_isinstance T.f_isinstance rfl (d_cons (d_var 0 (pv 0)) (d_cons (k_ty boot_list T.f_list rfl) (d_nil)))) (d_and1 (d_cmp (op_eqX hr.units) bop_eq (k_blt call_len cop_len boot_len T.f_len rfl (d_cons (k_lc (own := [("row", 1)]) rfl nd (d_iLst (d_var 0 (pv 0))) (blk_d (by decide +kernel)) tg_name (fun _ _ _ q => q) (fun _ _ _ _ _ => (pg_name (i := 1) nd rfl (Or.inl rfl))) (fun _ _ _ _ _ => (pts_one (d_tnot (d_tV (k_call C.c__law_row_ok takes0 hr rfl (d_cons (d_var 1 (pv 1)) (d_cons (k_blt call_len cop_len boot_len T.f_len rfl (d_cons (d_var 0 (pv 0)) (d_nil))) (d_nil)))))))) (fun _ _ _ _ _ => d_var 1 (pv 1))) (d_nil))) (d_int) (nomark _)))))
theorem ok__law_told {f : Addr} {fd : FuncData} {F F1 : Fns} (T : Tx K mg) (Y : HotC P w K mg base) (C : Cs P w K mg base (CAof K) F k) (hk : 2 ≤ k) (D : FnP K "_law_told" (topS 66) f fd) (hF : ∀ as m, F1 42 as m = runFn fn__law_told F as m) :
    FnOk P w K mg base (L2.CX P w) (k + 1) f fd ["rows"] (spF K (CAof K) F1 42 1) := by
  have S : FnScope N__law_told ["rows"] (defScope (topS 66)) := ⟨rfl, rfl, rfl, by decide +kernel, rfl, by decide +kernel, by decide +kernel⟩
  refine FunD.ok D S (fun vs H Q E h => h.1) (fun cdv A outer s H vs Q E hr h => ⟨_, ?_, body_reads (fn := fn__law_told) (N := N__law_told) hF rfl h⟩)
  have nd := S.nd
  have tk := takes_of (X := cxOf (L2.CX P w) P w K mg base N__law_told "_law_told" (defScope (topS 66)) f cdv A outer s H E) rfl rfl rfl rfl
  have po := passes_of (X := cxOf (L2.CX P w) P w K mg base N__law_told "_law_told" (defScope (topS 66)) f cdv A outer s H E) rfl
  delta fn__law_told; dsimp only; delta b__law_told
  exact d_seq (d_set (ps_set (i := 1) nd rfl (Or.inl rfl) (k_call C.c__law_copy tk hr rfl (d_cons (d_var 0 (pv 0)) (d_nil))))) (d_seq (k_try (i := 2) (su := suT g__law_named g__law_attributes 2 4) rfl rfl nd rfl rfl ⟨rfl, by decide, Or.inl Y.a_WellError⟩ tk (fun W pn xe tk po => d_oneS (d_set (ps_set (i := 3) nd rfl (Or.inl rfl) (k_call C.c_least_lengths tk hr rfl (d_cons (d_var 1 (pv 1)) (d_nil)))))) Y.exm (fun a dd c oe pn T2 => d_seq (d_set (ps_set (i := 4) nd rfl (Or.inl rfl) (k_callE Y.named T2 (roomH_mark (hr.mono (Nat.le_trans (by decide) hk))) rfl (d_cons (d_var 2 (pv 2)) d_nil)))) (d_oneS (d_ret (d_lst (d_cons d_str (d_cons (d_var 4 (pv 4)) (d_cons (k_callE Y.attrs T2 (roomH_mark (hr.mono (Nat.le_trans (by decide) hk))) rfl (d_cons (d_var 2 (pv 2)) (d_cons (d_var 4 (pv 4)) d_nil))) d_nil))))))) (suT_eq (by decide) e_named e_attrs)) (d_oneS (d_ret (d_ifE (d_tV (k_call C.c__law_same tk hr rfl (d_cons (d_var 1 (pv 1)) (d_cons (d_var 0 (pv 0)) (d_nil))))) (d_lst (d_cons (d_str) (d_cons (d_var 3 (pv 3)) (d_nil)))) (d_lst (d_cons (d_str) (d_nil)))))))
theorem ok__law_judged {f : Addr} {fd : FuncData} {F F1 : Fns} (T : Tx K mg) (Y : HotC P w K mg base) (C : Cs P w K mg base (CAof K) F k) (hk : 2 ≤ k) (D : FnP K "_law_judged" (topS 67) f fd) (hF : ∀ as m, F1 43 as m = runFn fn__law_judged F as m) :
    FnOk P w K mg base (L2.CX P w) (k + 1) f fd ["rows", "value"] (spF K (CAof K) F1 43 2) := by
  have S : FnScope N__law_judged ["rows", "value"] (defScope (topS 67)) := ⟨rfl, rfl, rfl, by decide +kernel, rfl, by decide +kernel, by decide +kernel⟩
  refine FunD.ok D S (fun vs H Q E h => h.1) (fun cdv A outer s H vs Q E hr h => ⟨_, ?_, body_reads (fn := fn__law_judged) (N := N__law_judged) hF rfl h⟩)
  have nd := S.nd
  have tk := takes_of (X := cxOf (L2.CX P w) P w K mg base N__law_judged "_law_judged" (defScope (topS 67)) f cdv A outer s H E) rfl rfl rfl rfl
  have po := passes_of (X := cxOf (L2.CX P w) P w K mg base N__law_judged "_law_judged" (defScope (topS 67)) f cdv A outer s H E) rfl
  delta fn__law_judged; dsimp only; delta b__law_judged
  exact d_seq (d_set (ps_set (i := 2) nd rfl (Or.inl rfl) (k_call C.c__law_copy tk hr rfl (d_cons (d_var 1 (pv 1)) (d_nil))))) (d_seq (d_set (ps_set (i := 3) nd rfl (Or.inl rfl) (k_call C.c__law_copy tk hr rfl (d_cons (d_var 0 (pv 0)) (d_nil))))) (d_seq (k_try (i := 4) (su := suT g__law_named g__law_attributes 4 6) rfl rfl nd rfl rfl ⟨rfl, by decide, Or.inl Y.a_WellError⟩ tk (fun W pn xe tk po => d_oneS (d_set (ps_set (i := 5) nd rfl (Or.inl rfl) (k_call C.c_is_least tk hr rfl (d_cons (d_var 3 (pv 3)) (d_cons (d_var 2 (pv 2)) (d_nil))))))) Y.exm (fun a dd c oe pn T2 => d_seq (d_set (ps_set (i := 6) nd rfl (Or.inl rfl) (k_callE Y.named T2 (roomH_mark (hr.mono (Nat.le_trans (by decide) hk))) rfl (d_cons (d_var 4 (pv 4)) d_nil)))) (d_oneS (d_ret (d_lst (d_cons d_str (d_cons (d_var 6 (pv 6)) (d_cons (k_callE Y.attrs T2 (roomH_mark (hr.mono (Nat.le_trans (by decide) hk))) rfl (d_cons (d_var 4 (pv 4)) (d_cons (d_var 6 (pv 6)) d_nil))) d_nil))))))) (suT_eq (by decide) e_named e_attrs)) (d_oneS (d_ret (d_ifE (k_pwt (d_wand (d_tV (k_call C.c__law_same tk hr rfl (d_cons (d_var 2 (pv 2)) (d_cons (d_var 1 (pv 1)) (d_nil))))) (d_wand1 (d_tV (k_call C.c__law_same tk hr rfl (d_cons (d_var 3 (pv 3)) (d_cons (d_var 0 (pv 0)) (d_nil)))))))) (d_lst (d_cons (d_str) (d_cons (d_var 5 (pv 5)) (d_nil)))) (d_lst (d_cons (d_str) (d_nil))))))))
theorem ok__law_answers {f : Addr} {fd : FuncData} {F F1 : Fns} (T : Tx K mg) (C : Cs P w K mg base (CAof K) F k) (hk : 2 ≤ k) (D : FnP K "_law_answers" (topS 68) f fd) (hF : ∀ as m, F1 44 as m = runFn fn__law_answers F as m) :
    FnOk P w K mg base (L2.CX P w) (k + 1) f fd ["stream", "rows"] (spF K (CAof K) F1 44 2) := by
  have S : FnScope N__law_answers ["stream", "rows"] (defScope (topS 68)) := ⟨rfl, rfl, rfl, by decide +kernel, rfl, by decide +kernel, by decide +kernel⟩
  refine FunD.ok D S (fun vs H Q E h => h.1) (fun cdv A outer s H vs Q E hr h => ⟨_, ?_, body_reads (fn := fn__law_answers) (N := N__law_answers) hF rfl h⟩)
  have nd := S.nd
  have tk := takes_of (X := cxOf (L2.CX P w) P w K mg base N__law_answers "_law_answers" (defScope (topS 68)) f cdv A outer s H E) rfl rfl rfl rfl
  have po := passes_of (X := cxOf (L2.CX P w) P w K mg base N__law_answers "_law_answers" (defScope (topS 68)) f cdv A outer s H E) rfl
  delta fn__law_answers; dsimp only; delta b__law_answers
  exact d_seq (d_set (ps_set (i := 2) nd rfl (Or.inr rfl) (k_call C.c__law_told tk hr rfl (d_cons (d_var 1 (pv 1)) (d_nil))))) (d_seq (d_set (ps_set (i := 3) nd rfl (Or.inl rfl) (k_call C.c__law_sweep tk hr rfl (d_cons (d_var 1 (pv 1)) (d_cons (d_lst (d_nil)) (d_nil)))))) (d_seq (d_if (k_pwt (d_wor (d_tcmp (op_neX hr.units) bop_ne (k_ix (d_var 2 (pv 2)) (d_int)) (d_str) (nomark _)) (d_wor (d_tnot (d_tV (k_call C.c__law_least_ok tk hr rfl (d_cons (d_var 1 (pv 1)) (d_cons (k_ix (d_var 2 (pv 2)) (d_int)) (d_nil)))))) (d_wor1 (d_tnot (d_tV (k_call C.c__law_same tk hr rfl (d_cons (k_ix (k_ix (d_var 2 (pv 2)) (d_int)) (d_int)) (d_cons (d_var 3 (pv 3)) (d_nil)))))))))) (d_oneS (d_ret (d_bl))) (d_nilS)) (d_seq (d_set (ps_set (i := 4) nd rfl (Or.inl rfl) (k_call C.c__law_other_sequence tk hr rfl (d_cons (d_var 0 (pv 0)) (d_cons (d_var 1 (pv 1)) (d_nil)))))) (d_seq (d_set (k_setLc rfl rfl (sw_true rfl rfl rfl (by decide +kernel)) (own := [("at", 11)]) rfl nd (d_iR1 (pi_range1 rfl T.f_range (d_cons (k_blt call_len cop_len boot_len T.f_len rfl (d_cons (d_var 1 (pv 1)) (d_nil))) d_nil))) (blk_d (by decide +kernel)) tg_name (fun _ _ _ q => q) (fun _ _ _ _ _ => (pg_name (i := 11) nd rfl (Or.inl rfl))) (fun _ _ _ _ _ => (pts_one (d_tcmp (op_eqX hr.units) bop_eq (k_ix (k_ix (d_var 1 (pv 1)) (d_var 11 (pv 11))) (d_int)) (d_str) (nomark _)))) (fun _ _ _ _ _ => d_var 11 (pv 11)))) (d_seq (d_set (ps_set (i := 6) nd rfl (Or.inr rfl) (k_call C.c__law_other_fit tk hr rfl (d_cons (d_var 0 (pv 0)) (d_cons (d_var 1 (pv 1)) (d_cons (d_var 3 (pv 3)) (d_nil))))))) (d_seq (d_set (ps_set (i := 7) nd rfl (Or.inl rfl) (d_lst (d_cons (k_ix (d_var 2 (pv 2)) (d_int)) (d_cons (d_var 4 (pv 4)) (d_cons (d_tup (d_cons (k_ix (d_var 4 (pv 4)) (d_int)) (d_cons (k_call C.c__law_shuffled tk hr rfl (d_cons (d_var 0 (pv 0)) (d_cons (k_ix (d_var 4 (pv 4)) (d_int)) (d_nil)))) (d_nil)))) (d_cons (d_tup (d_cons (d_var 3 (pv 3)) (d_cons (d_slice (k_ix (d_var 4 (pv 4)) (d_int)) (d_oNone) (d_oSome (d_un un_neg uop_neg (d_int)))) (d_nil)))) (d_cons (d_tup (d_cons (k_ix (d_var 4 (pv 4)) (d_int)) (d_cons (d_bin op_addX bop_add (k_ix (d_var 4 (pv 4)) (d_int)) (d_slice (k_ix (d_var 4 (pv 4)) (d_int)) (d_oNone) (d_oSome (d_int)))) (d_nil)))) (d_nil))))))))) (d_seq (d_set (k_setLc rfl rfl (sw_true rfl rfl rfl (by decide +kernel)) (own := [("row", 12)]) rfl nd (d_iLst (d_var 1 (pv 1))) (blk_d (by decide +kernel)) tg_name (fun _ _ _ q => k_yes q) (fun _ _ _ _ _ => (pg_name (i := 12) nd rfl (Or.inl rfl))) (fun _ _ _ _ _ => pts_nil) (fun _ _ _ _ _ => d_ifE (d_tcmp (op_eqX hr.units) bop_eq (k_ix (d_var 12 (pv 12)) (d_int)) (d_str) (nomark _)) (k_ix (d_var 12 (pv 12)) (d_int)) (k_ix (d_var 12 (pv 12)) (d_int))))) (d_seq (d_set (k_setLc rfl rfl (sw_true rfl rfl rfl (by decide +kernel)) (own := [("row", 12)]) rfl nd (d_iLst (d_var 1 (pv 1))) (blk_d (by decide +kernel)) tg_name (fun _ _ _ q => k_yes q) (fun _ _ _ _ _ => (pg_name (i := 12) nd rfl (Or.inl rfl))) (fun _ _ _ _ _ => pts_nil) (fun _ _ _ _ _ => d_ifE (d_tcmp (op_eqX hr.units) bop_eq (k_ix (d_var 12 (pv 12)) (d_int)) (d_str) (nomark _)) (k_ix (d_var 12 (pv 12)) (d_int)) (d_int)))) (d_seq (d_set (ps_set (i := 7) nd rfl (Or.inl rfl) (d_bin op_addX bop_add (d_var 7 (pv 7)) (d_lst (d_cons (d_tup (d_cons (d_var 6 (pv 6)) (d_cons (k_lc (own := [("at", 11)]) rfl nd (d_iLst (d_var 5 (pv 5))) (blk_d (by decide +kernel)) tg_name (fun _ _ _ q => q) (fun _ _ _ _ _ => (pg_name (i := 11) nd rfl (Or.inl rfl))) (fun _ _ _ _ _ => (pts_one (d_tcmp op_gt bop_gt (k_ix (d_var 6 (pv 6)) (d_var 11 (pv 11))) (d_int) (nomark _)))) (fun _ _ _ _ _ => d_var 11 (pv 11))) (d_nil)))) (d_cons (d_tup (d_cons (d_var 6 (pv 6)) (d_cons (k_ix (d_var 4 (pv 4)) (d_int)) (d_nil)))) (d_cons (d_tup (d_cons (d_var 8 (pv 8)) (d_cons (d_var 5 (pv 5)) (d_nil)))) (d_cons (d_tup (d_cons (d_var 9 (pv 9)) (d_cons (d_lst (d_nil)) (d_nil)))) (d_nil))))))))) (d_seq (d_set (ps_set (i := 7) nd rfl (Or.inl rfl) (d_bin op_addX bop_add (d_var 7 (pv 7)) (d_lst (d_cons (k_call C.c__law_spoilt tk hr rfl (d_cons (d_var 0 (pv 0)) (d_cons (d_var 4 (pv 4)) (d_nil)))) (d_cons (k_call C.c__law_spoilt tk hr rfl (d_cons (d_var 0 (pv 0)) (d_cons (k_ix (d_var 2 (pv 2)) (d_int)) (d_nil)))) (d_cons (d_lst (d_cons (k_ix (d_var 4 (pv 4)) (d_int)) (d_cons (k_ix (d_var 4 (pv 4)) (d_int)) (d_nil)))) (d_nil)))))))) (d_seq (d_for (ps_for po rfl (d_iLst (d_bin op_addX bop_add (d_lst (d_cons (k_ix (d_var 2 (pv 2)) (d_int)) (d_cons (d_var 4 (pv 4)) (d_nil)))) (d_slice (k_call C.c__law_shuffled tk hr rfl (d_cons (d_var 0 (pv 0)) (d_cons (d_var 7 (pv 7)) (d_nil)))) (d_oNone) (d_oSome (d_int))))) (pg_name (i := 10) nd rfl (Or.inl rfl)) (d_oneS (d_if (d_tnot (d_tV (k_call C.c__law_same tk hr rfl (d_cons (k_call C.c__law_judged tk hr rfl (d_cons (d_var 1 (pv 1)) (d_cons (d_var 10 (pv 10)) (d_nil)))) (d_cons (d_lst (d_cons (d_str) (d_cons (k_call C.c__law_least_ok tk hr rfl (d_cons (d_var 1 (pv 1)) (d_cons (d_var 10 (pv 10)) (d_nil)))) (d_nil)))) (d_nil)))))) (d_oneS (d_ret (d_bl))) (d_nilS)))) tg_name) (d_oneS (d_ret (d_cmp (op_eqX hr.units) bop_eq (k_blt call_len cop_len boot_len T.f_len rfl (d_cons (k_lc (own := [("at", 11)]) rfl nd (d_iR1 (pi_range1 rfl T.f_range (d_cons (k_blt call_len cop_len boot_len T.f_len rfl (d_cons (d_var 1 (pv 1)) (d_nil))) d_nil))) (blk_d (by decide +kernel)) tg_name (fun _ _ _ q => q) (fun _ _ _ _ _ => (pg_name (i := 11) nd rfl (Or.inl rfl))) (fun _ _ _ _ _ => (pts_one (d_tcmp op_lt bop_lt (k_ix (d_var 6 (pv 6)) (d_var 11 (pv 11))) (k_ix (k_ix (k_ix (d_var 2 (pv 2)) (d_int)) (d_int)) (d_var 11 (pv 11))) (nomark _)))) (fun _ _ _ _ _ => d_var 11 (pv 11))) (d_nil))) (d_int) (nomark _)))))))))))))))
theorem ok__law_great {f : Addr} {fd : FuncData} {F F1 : Fns} (T : Tx K mg) (C : Cs P w K mg base (CAof K) F k) (hk : 2 ≤ k) (D : FnP K "_law_great" (topS 69) f fd) (hF : ∀ as m, F1 45 as m = runFn fn__law_great F as m) :
    FnOk P w K mg base (L2.CX P w) (k + 1) f fd ["stream"] (spF K (CAof K) F1 45 1) := by
  have S : FnScope N__law_great ["stream"] (defScope (topS 69)) := ⟨rfl, rfl, rfl, by decide +kernel, rfl, by decide +kernel, by decide +kernel⟩
  refine FunD.ok D S (fun vs H Q E h => h.1) (fun cdv A outer s H vs Q E hr h => ⟨_, ?_, body_reads (fn := fn__law_great) (N := N__law_great) hF rfl h⟩)
  have nd := S.nd
  have tk := takes_of (X := cxOf (L2.CX P w) P w K mg base N__law_great "_law_great" (defScope (topS 69)) f cdv A outer s H E) rfl rfl rfl rfl
  have po := passes_of (X := cxOf (L2.CX P w) P w K mg base N__law_great "_law_great" (defScope (topS 69)) f cdv A outer s H E) rfl
  delta fn__law_great; dsimp only; delta b__law_great
  exact d_seq (d_set (ps_set (i := 1) nd rfl (Or.inr rfl) (d_bin op_addX bop_add (d_int) (k_call C.c__law_next tk hr rfl (d_cons (d_var 0 (pv 0)) (d_cons (d_int) (d_nil))))))) (d_seq (d_set (ps_set (i := 2) nd rfl (Or.inl rfl) (d_bin op_addX bop_add (k_lc (own := [("at", 9)]) rfl nd (d_iR1 (pi_range1 rfl T.f_range (d_cons (d_var 1 (pv 1)) d_nil))) (blk_d (by decide +kernel)) tg_name (fun _ _ _ q => k_yes q) (fun _ _ _ _ _ => (pg_name (i := 9) nd rfl (Or.inl rfl))) (fun _ _ _ _ _ => pts_nil) (fun _ _ _ _ _ => d_tup (d_cons (d_str) (d_cons (d_bin op_addX bop_add (d_var 9 (pv 9)) (d_int)) (d_cons (d_int) (d_cons (d_int) (d_cons (d_int) (d_nil)))))))) (d_lst (d_cons (d_tup (d_cons (d_str) (d_cons (d_bin op_addX bop_add (d_int) (k_call C.c__law_next tk hr rfl (d_cons (d_var 0 (pv 0)) (d_cons (d_int) (d_nil))))) (d_nil)))) (d_cons (d_tup (d_cons (d_str) (d_cons (d_int) (d_nil)))) (d_nil))))))) (d_seq (d_set (ps_set (i := 2) nd rfl (Or.inl rfl) (d_bin op_addX bop_add (d_var 2 (pv 2)) (d_bin op_mulX bop_mul (d_lst (d_cons (d_tup (d_cons (d_str) (d_cons (d_int) (d_nil)))) (d_nil))) (d_bin op_sub bop_sub (d_int) (k_blt call_len cop_len boot_len T.f_len rfl (d_cons (d_var 2 (pv 2)) (d_nil)))))))) (d_seq (d_set (ps_set (i := 3) nd rfl (Or.inl rfl) (k_call C.c__law_told tk hr rfl (d_cons (d_var 2 (pv 2)) (d_nil))))) (d_seq (d_set (ps_set (i := 4) nd rfl (Or.inl rfl) (d_ifE (d_tcmp (op_eqX hr.units) bop_eq (k_ix (k_ix (d_var 2 (pv 2)) (d_var 1 (pv 1))) (d_int)) (d_int) (nomark _)) (d_int) (d_int)))) (d_seq (d_set (ps_set (i := 5) nd rfl (Or.inl rfl) (d_ifE (d_tcmp (op_eqX hr.units) bop_eq (d_var 4 (pv 4)) (d_int) (nomark _)) (k_lc (own := [("k", 10)]) rfl nd (d_iR1 (pi_range1 rfl T.f_range (d_cons (d_var 1 (pv 1)) d_nil))) (blk_d (by decide +kernel)) tg_name (fun _ _ _ q => k_yes q) (fun _ _ _ _ _ => (pg_name (i := 10) nd rfl (Or.inl rfl))) (fun _ _ _ _ _ => pts_nil) (fun _ _ _ _ _ => d_bin op_sub bop_sub (d_bin op_sub bop_sub (d_var 1 (pv 1)) (d_int)) (d_var 10 (pv 10)))) (d_lst (d_nil))))) (d_seq (d_if (k_pwt (d_wor (d_tcmp (op_neX hr.units) bop_ne (k_ix (d_var 3 (pv 3)) (d_int)) (d_str) (nomark _)) (d_wor1 (d_tnot (d_tV (k_call C.c__law_same tk hr rfl (d_cons (k_ix (d_var 3 (pv 3)) (d_int)) (d_cons (d_tup (d_cons (d_bin op_addX bop_add (d_bin op_mulX bop_mul (d_lst (d_cons (d_var 4 (pv 4)) (d_nil))) (d_var 1 (pv 1))) (k_lc (own := [("row", 11)]) rfl nd (d_iLst (d_slice (d_var 2 (pv 2)) (d_oSome (d_var 1 (pv 1))) (d_oNone))) (blk_d (by decide +kernel)) tg_name (fun _ _ _ q => k_yes q) (fun _ _ _ _ _ => (pg_name (i := 11) nd rfl (Or.inl rfl))) (fun _ _ _ _ _ => pts_nil) (fun _ _ _ _ _ => k_ix (d_var 11 (pv 11)) (d_int)))) (d_cons (d_var 5 (pv 5)) (d_nil)))) (d_nil))))))))) (d_oneS (d_ret (d_bl))) (d_nilS)) (d_seq (d_if (d_tnot (d_tV (k_call C.c__law_same tk hr rfl (d_cons (k_call C.c__law_told tk hr rfl (d_cons (d_bin op_addX bop_add (d_var 2 (pv 2)) (d_lst (d_cons (d_tup (d_cons (d_str) (d_cons (d_int) (d_nil)))) (d_nil)))) (d_nil))) (d_cons (d_lst (d_cons (d_str) (d_cons (d_str) (d_cons (d_tup (d_cons (d_str) (d_nil))) (d_nil))))) (d_nil)))))) (d_oneS (d_ret (d_bl))) (d_nilS)) (d_seq (d_set (ps_set (i := 6) nd rfl (Or.inl rfl) (d_bin op_addX bop_add (k_lc (own := [("at", 9)]) rfl nd (d_iR1 (pi_range1 rfl T.f_range (d_cons (d_int) d_nil))) (blk_d (by decide +kernel)) tg_name (fun _ _ _ q => k_yes q) (fun _ _ _ _ _ => (pg_name (i := 9) nd rfl (Or.inl rfl))) (fun _ _ _ _ _ => pts_nil) (fun _ _ _ _ _ => d_tup (d_cons (d_str) (d_cons (d_bin op_addX bop_add (d_var 9 (pv 9)) (d_int)) (d_cons (d_int) (d_cons (d_int) (d_cons (d_int) (d_nil)))))))) (d_lst (d_cons (d_tup (d_cons (d_str) (d_cons (d_int) (d_nil)))) (d_cons (d_tup (d_cons (d_str) (d_cons (d_int) (d_nil)))) (d_nil))))))) (d_seq (d_set (ps_set (i := 7) nd rfl (Or.inl rfl) (d_bin op_addX bop_add (d_var 6 (pv 6)) (d_bin op_mulX bop_mul (d_lst (d_cons (d_tup (d_cons (d_str) (d_cons (d_int) (d_nil)))) (d_nil))) (d_int))))) (d_seq (d_set (ps_set (i := 8) nd rfl (Or.inl rfl) (d_tup (d_cons (d_bin op_addX bop_add (d_bin op_addX bop_add (d_bin op_mulX bop_mul (d_lst (d_cons (d_int) (d_nil))) (d_int)) (d_lst (d_cons (d_int) (d_cons (d_int) (d_nil))))) (d_bin op_mulX bop_mul (d_lst (d_cons (d_int) (d_nil))) (d_int))) (d_cons (k_lc (own := [("k", 10)]) rfl nd (d_iR1 (pi_range1 rfl T.f_range (d_cons (d_int) d_nil))) (blk_d (by decide +kernel)) tg_name (fun _ _ _ q => k_yes q) (fun _ _ _ _ _ => (pg_name (i := 10) nd rfl (Or.inl rfl))) (fun _ _ _ _ _ => pts_nil) (fun _ _ _ _ _ => d_bin op_sub bop_sub (d_int) (d_var 10 (pv 10)))) (d_nil)))))) (d_oneS (d_ret (d_and (k_call C.c__law_same tk hr rfl (d_cons (k_call C.c__law_judged tk hr rfl (d_cons (d_var 7 (pv 7)) (d_cons (d_var 8 (pv 8)) (d_nil)))) (d_cons (d_lst (d_cons (d_str) (d_cons (d_bl) (d_nil)))) (d_nil)))) (d_and1 (k_call C.c__law_same tk hr rfl (d_cons (k_call C.c__law_judged tk hr rfl (d_cons (d_var 7 (pv 7)) (d_cons (d_tup (d_cons (k_ix (d_var 8 (pv 8)) (d_int)) (d_cons (d_rev (pe_revL (k_ix (d_var 8 (pv 8)) (d_int)))) (d_nil)))) (d_nil)))) (d_cons (d_lst (d_cons (d_str) (d_cons (d_bl) (d_nil)))) (d_nil))))))))))))))))))
theorem ok_law {f : Addr} {fd : FuncData} {F F1 : Fns} (T : Tx K mg) (C : Cs P w K mg base (CAof K) F k) (hk : 2 ≤ k) (D : FnP K "law" (topS 70) f fd) (hF : ∀ as m, F1 46 as m = runFn fn_law F as m) :
    FnOk P w K mg base (L2.CX P w) (k + 1) f fd ["script"] (spF K (CAof K) F1 46 1) := by
  have S : FnScope N_law ["script"] (defScope (topS 70)) := ⟨rfl, rfl, rfl, by decide +kernel, rfl, by decide +kernel, by decide +kernel⟩
  refine FunD.ok D S (fun vs H Q E h => h.1) (fun cdv A outer s H vs Q E hr h => ⟨_, ?_, body_reads (fn := fn_law) (N := N_law) hF rfl h⟩)
  have nd := S.nd
  have tk := takes_of (X := cxOf (L2.CX P w) P w K mg base N_law "law" (defScope (topS 70)) f cdv A outer s H E) rfl rfl rfl rfl
  have po := passes_of (X := cxOf (L2.CX P w) P w K mg base N_law "law" (defScope (topS 70)) f cdv A outer s H E) rfl
  delta fn_law; dsimp only; delta b_law
  exact d_seq (d_set (ps_set (i := 1) nd rfl (Or.inl rfl) (k_call C.c__law_stream tk hr rfl (d_cons (d_var 0 (pv 0)) (d_nil))))) (d_seq (d_if (d_tcmp (op_eqX hr.units) bop_eq (k_call C.c__law_next tk hr rfl (d_cons (d_var 1 (pv 1)) (d_cons (d_int) (d_nil)))) (d_int) (nomark _)) (d_oneS (d_ret (k_call C.c__law_great tk hr rfl (d_cons (d_var 1 (pv 1)) (d_nil))))) (d_nilS)) (d_seq (d_for (ps_for po rfl (d_iR1 (pi_range1 rfl T.f_range (d_cons (d_int) d_nil))) (pg_name (i := 2) nd rfl (Or.inl rfl)) (d_seq (d_set (ps_set (i := 5) nd rfl (Or.inl rfl) (k_call C.c__law_pick tk hr rfl (d_cons (d_var 1 (pv 1)) (d_cons (d_lst (d_cons (k_call C.c__law_some_rows tk hr rfl (d_cons (d_var 1 (pv 1)) (d_nil))) (d_cons (k_call C.c__law_some_rows tk hr rfl (d_cons (d_var 1 (pv 1)) (d_nil))) (d_cons (k_call C.c__law_facing tk hr rfl (d_cons (d_var 1 (pv 1)) (d_nil))) (d_cons (k_call C.c__law_falling tk hr rfl (d_cons (d_var 1 (pv 1)) (d_nil))) (d_nil)))))) (d_nil)))))) (d_oneS (d_if (d_tnot (d_tV (k_call C.c__law_answers tk hr rfl (d_cons (d_var 1 (pv 1)) (d_cons (d_var 5 (pv 5)) (d_nil)))))) (d_oneS (d_ret (d_bl))) (d_nilS))))) tg_name) (d_seq (d_set (ps_set (i := 3) nd rfl (Or.inl rfl) (k_call C.c__law_spoilt tk hr rfl (d_cons (d_var 1 (pv 1)) (d_cons (d_var 5 (pv 5)) (d_nil)))))) (d_seq (d_if (d_tcmp (op_eqX hr.units) bop_eq (k_call C.c__law_next tk hr rfl (d_cons (d_var 1 (pv 1)) (d_cons (d_int) (d_nil)))) (d_int) (nomark _)) (d_seq (d_set (ps_set (i := 6) nd rfl (Or.inl rfl) (k_call C.c__law_pick tk hr rfl (d_cons (d_var 1 (pv 1)) (d_cons (d_lst (d_cons (d_tup (d_cons (d_str) (d_cons (d_bin op_addX bop_add (k_blt call_len cop_len boot_len T.f_len rfl (d_cons (d_var 5 (pv 5)) (d_nil))) (d_int)) (d_cons (d_int) (d_cons (d_int) (d_cons (d_int) (d_nil))))))) (d_cons (d_tup (d_cons (d_str) (d_cons (k_blt call_len cop_len boot_len T.f_len rfl (d_cons (d_var 5 (pv 5)) (d_nil))) (d_cons (d_int) (d_cons (d_int) (d_cons (d_int) (d_nil))))))) (d_cons (d_tup (d_cons (d_str) (d_cons (d_int) (d_nil)))) (d_cons (d_tup (d_cons (d_str) (d_cons (d_int) (d_cons (d_int) (d_cons (d_int) (d_cons (d_int) (d_nil))))))) (d_cons (d_tup (d_cons (d_str) (d_cons (d_int) (d_cons (d_int) (d_cons (d_int) (d_cons (d_int) (d_nil))))))) (d_nil))))))) (d_nil)))))) (d_oneS (d_set (ps_set (i := 3) nd rfl (Or.inl rfl) (d_bin op_addX bop_add (d_var 5 (pv 5)) (d_lst (d_cons (k_call C.c__law_pick tk hr rfl (d_cons (d_var 1 (pv 1)) (d_cons (d_lst (d_cons (d_var 6 (pv 6)) (d_cons (d_var 6 (pv 6)) (d_cons (d_tup (d_cons (d_str) (d_cons (d_un un_neg uop_neg (d_int)) (d_nil)))) (d_cons (d_tup (d_cons (d_str) (d_cons (d_int) (d_cons (d_int) (d_cons (d_int) (d_cons (d_int) (d_nil))))))) (d_cons (d_lst (d_cons (d_str) (d_cons (d_int) (d_nil)))) (d_cons (d_tup (d_cons (d_str) (d_cons (d_un un_neg uop_neg (d_int)) (d_cons (d_int) (d_cons (d_int) (d_cons (d_int) (d_nil))))))) (d_nil)))))))) (d_nil)))) (d_nil)))))))) (d_nilS)) (d_seq (d_if (d_tV (k_call C.c__law_rows_ok tk hr rfl (d_cons (d_var 3 (pv 3)) (d_nil)))) (d_oneS (d_ret (k_call C.c__law_answers tk hr rfl (d_cons (d_var 1 (pv 1)) (d_cons (d_var 3 (pv 3)) (d_nil)))))) (d_nilS)) (d_seq (d_set (ps_set (i := 4) nd rfl (Or.inl rfl) (d_lst (d_cons (d_str) (d_cons (d_str) (d_cons (d_tup (d_cons (d_str) (d_nil))) (d_nil))))))) (d_oneS (d_ret (d_and (k_call C.c__law_same tk hr rfl (d_cons (k_call C.c__law_told tk hr rfl (d_cons (d_var 3 (pv 3)) (d_nil))) (d_cons (d_var 4 (pv 4)) (d_nil)))) (d_and1 (k_call C.c__law_same tk hr rfl (d_cons (k_call C.c__law_judged tk hr rfl (d_cons (d_var 3 (pv 3)) (d_cons (d_tup (d_cons (d_lst (d_nil)) (d_cons (d_lst (d_nil)) (d_nil)))) (d_nil)))) (d_cons (d_var 4 (pv 4)) (d_nil))))))))))))))
end
end K78

set_option Elab.async false
set_option linter.all false
set_option maxRecDepth 100000
set_option maxHeartbeats 0
/-! printed by wip/gen.py: the head of law_k78_whole_least_lengths -/
namespace K78
open PySem PySem.Spec L2 Pm PyProof.Rows
def clB : Stmt → List Stmt
  | .ClassDef (body := b) .. => b
  | _ => []
def inS (i : Nat) : Stmt := (clB (topS i)).getD 0 (.Pass ⟨0, 0, 0, 0⟩)
def d_is_int : He.DefD := ⟨("is_int", none), "is_int", "is_int", defArgs (topS 18), defBody (topS 18), defScope (topS 18), [], []⟩
def d_is_between : He.DefD := ⟨("is_between", none), "is_between", "is_between", defArgs (topS 19), defBody (topS 19), defScope (topS 19), [], []⟩
def d_is_list_of : He.DefD := ⟨("is_list_of", none), "is_list_of", "is_list_of", defArgs (topS 20), defBody (topS 20), defScope (topS 20), [], []⟩
def d_is_tuple_of : He.DefD := ⟨("is_tuple_of", none), "is_tuple_of", "is_tuple_of", defArgs (topS 21), defBody (topS 21), defScope (topS 21), [], []⟩
def d_is_word : He.DefD := ⟨("is_word", none), "is_word", "is_word", defArgs (topS 22), defBody (topS 22), defScope (topS 22), [], []⟩
def d_is_length_row : He.DefD := ⟨("is_length_row", none), "is_length_row", "is_length_row", defArgs (topS 28), defBody (topS 28), defScope (topS 28), [], []⟩
def d_check_rows : He.DefD := ⟨("check_rows", none), "check_rows", "check_rows", defArgs (topS 29), defBody (topS 29), defScope (topS 29), [], []⟩
def d_near_lengths : He.DefD := ⟨("near_lengths", none), "near_lengths", "near_lengths", defArgs (topS 30), defBody (topS 30), defScope (topS 30), [], []⟩
def d_row_starts : He.DefD := ⟨("row_starts", none), "row_starts", "row_starts", defArgs (topS 31), defBody (topS 31), defScope (topS 31), [], []⟩
def d_jump_reaches : He.DefD := ⟨("jump_reaches", none), "jump_reaches", "jump_reaches", defArgs (topS 32), defBody (topS 32), defScope (topS 32), [], []⟩
def d_jump_distances : He.DefD := ⟨("jump_distances", none), "jump_distances", "jump_distances", defArgs (topS 33), defBody (topS 33), defScope (topS 33), [], []⟩
def d_jump_reach : He.DefD := ⟨("jump_reach", none), "jump_reach", "jump_reach", defArgs (topS 34), defBody (topS 34), defScope (topS 34), [], []⟩
def d_jump_spans : He.DefD := ⟨("jump_spans", none), "jump_spans", "jump_spans", defArgs (topS 35), defBody (topS 35), defScope (topS 35), [], []⟩
def d_least_of : He.DefD := ⟨("least_of", none), "least_of", "least_of", defArgs (topS 36), defBody (topS 36), defScope (topS 36), [], []⟩
def d_least_lengths : He.DefD := ⟨("least_lengths", none), "least_lengths", "least_lengths", defArgs (topS 37), defBody (topS 37), defScope (topS 37), [], []⟩
def d_lengths_have_form : He.DefD := ⟨("lengths_have_form", none), "lengths_have_form", "lengths_have_form", defArgs (topS 38), defBody (topS 38), defScope (topS 38), [], []⟩
def d_sequence_fits : He.DefD := ⟨("sequence_fits", none), "sequence_fits", "sequence_fits", defArgs (topS 39), defBody (topS 39), defScope (topS 39), [], []⟩
def d_is_least : He.DefD := ⟨("is_least", none), "is_least", "is_least", defArgs (topS 40), defBody (topS 40), defScope (topS 40), [], []⟩
def d__law_stream : He.DefD := ⟨("_law_stream", none), "_law_stream", "_law_stream", defArgs (topS 42), defBody (topS 42), defScope (topS 42), [], []⟩
def d__law_next : He.DefD := ⟨("_law_next", none), "_law_next", "_law_next", defArgs (topS 43), defBody (topS 43), defScope (topS 43), [], []⟩
def d__law_pick : He.DefD := ⟨("_law_pick", none), "_law_pick", "_law_pick", defArgs (topS 44), defBody (topS 44), defScope (topS 44), [], []⟩
def d__law_from : He.DefD := ⟨("_law_from", none), "_law_from", "_law_from", defArgs (topS 45), defBody (topS 45), defScope (topS 45), [], []⟩
def d__law_shuffled : He.DefD := ⟨("_law_shuffled", none), "_law_shuffled", "_law_shuffled", defArgs (topS 46), defBody (topS 46), defScope (topS 46), [], []⟩
def d__law_number : He.DefD := ⟨("_law_number", none), "_law_number", "_law_number", defArgs (topS 47), defBody (topS 47), defScope (topS 47), [], []⟩
def d__law_is_row : He.DefD := ⟨("_law_is_row", none), "_law_is_row", "_law_is_row", defArgs (topS 48), defBody (topS 48), defScope (topS 48), [], []⟩
def d__law_same : He.DefD := ⟨("_law_same", none), "_law_same", "_law_same", defArgs (topS 49), defBody (topS 49), defScope (topS 49), [], []⟩
def d__law_copy : He.DefD := ⟨("_law_copy", none), "_law_copy", "_law_copy", defArgs (topS 50), defBody (topS 50), defScope (topS 50), [], []⟩
def d__law_named : He.DefD := ⟨("_law_named", none), "_law_named", "_law_named", defArgs (topS 51), defBody (topS 51), defScope (topS 51), [], []⟩
def d__law_attributes : He.DefD := ⟨("_law_attributes", none), "_law_attributes", "_law_attributes", defArgs (topS 52), defBody (topS 52), defScope (topS 52), [], []⟩
def d__law_spoilt : He.DefD := ⟨("_law_spoilt", none), "_law_spoilt", "_law_spoilt", defArgs (topS 53), defBody (topS 53), defScope (topS 53), [], []⟩
def d__law_row_starts : He.DefD := ⟨("_law_row_starts", none), "_law_row_starts", "_law_row_starts", defArgs (topS 54), defBody (topS 54), defScope (topS 54), [], []⟩
def d__law_reach_ok : He.DefD := ⟨("_law_reach_ok", none), "_law_reach_ok", "_law_reach_ok", defArgs (topS 55), defBody (topS 55), defScope (topS 55), [], []⟩
def d__law_sweep : He.DefD := ⟨("_law_sweep", none), "_law_sweep", "_law_sweep", defArgs (topS 56), defBody (topS 56), defScope (topS 56), [], []⟩
def d__law_some_rows : He.DefD := ⟨("_law_some_rows", none), "_law_some_rows", "_law_some_rows", defArgs (topS 57), defBody (topS 57), defScope (topS 57), [], []⟩
def d__law_facing : He.DefD := ⟨("_law_facing", none), "_law_facing", "_law_facing", defArgs (topS 58), defBody (topS 58), defScope (topS 58), [], []⟩
def d__law_falling : He.DefD := ⟨("_law_falling", none), "_law_falling", "_law_falling", defArgs (topS 59), defBody (topS 59), defScope (topS 59), [], []⟩
def d__law_out_of_reach : He.DefD := ⟨("_law_out_of_reach", none), "_law_out_of_reach", "_law_out_of_reach", defArgs (topS 60), defBody (topS 60), defScope (topS 60), [], []⟩
def d__law_least_ok : He.DefD := ⟨("_law_least_ok", none), "_law_least_ok", "_law_least_ok", defArgs (topS 61), defBody (topS 61), defScope (topS 61), [], []⟩
def d__law_other_sequence : He.DefD := ⟨("_law_other_sequence", none), "_law_other_sequence", "_law_other_sequence", defArgs (topS 62), defBody (topS 62), defScope (topS 62), [], []⟩
def d__law_other_fit : He.DefD := ⟨("_law_other_fit", none), "_law_other_fit", "_law_other_fit", defArgs (topS 63), defBody (topS 63), defScope (topS 63), [], []⟩
def d__law_row_ok : He.DefD := ⟨("_law_row_ok", none), "_law_row_ok", "_law_row_ok", defArgs (topS 64), defBody (topS 64), defScope (topS 64), [], []⟩
def d__law_rows_ok : He.DefD := ⟨("_law_rows_ok", none), "_law_rows_ok", "_law_rows_ok", defArgs (topS 65), defBody (topS 65), defScope (topS 65), [], []⟩
def d__law_told : He.DefD := ⟨("_law_told", none), "_law_told", "_law_told", defArgs (topS 66), defBody (topS 66), defScope (topS 66), [], []⟩
def d__law_judged : He.DefD := ⟨("_law_judged", none), "_law_judged", "_law_judged", defArgs (topS 67), defBody (topS 67), defScope (topS 67), [], []⟩
def d__law_answers : He.DefD := ⟨("_law_answers", none), "_law_answers", "_law_answers", defArgs (topS 68), defBody (topS 68), defScope (topS 68), [], []⟩
def d__law_great : He.DefD := ⟨("_law_great", none), "_law_great", "_law_great", defArgs (topS 69), defBody (topS 69), defScope (topS 69), [], []⟩
def d_law : He.DefD := ⟨("law", none), "law", "law", defArgs (topS 70), defBody (topS 70), defScope (topS 70), [], []⟩
def i_BadValue : He.DefD := ⟨("BadValue", some "__init__"), "__init__", "BadValue.__init__", defArgs (inS 11), defBody (inS 11), defScope (inS 11), [], []⟩
def i_TooMany : He.DefD := ⟨("TooMany", some "__init__"), "__init__", "TooMany.__init__", defArgs (inS 14), defBody (inS 14), defScope (inS 14), [], []⟩
def fnL : List He.DefD := [d_is_int, d_is_between, d_is_list_of, d_is_tuple_of, d_is_word, d_is_length_row, d_check_rows, d_near_lengths, d_row_starts, d_jump_reaches, d_jump_distances, d_jump_reach, d_jump_spans, d_least_of, d_least_lengths, d_lengths_have_form, d_sequence_fits, d_is_least, d__law_stream, d__law_next, d__law_pick, d__law_from, d__law_shuffled, d__law_number, d__law_is_row, d__law_same, d__law_copy, d__law_named, d__law_attributes, d__law_spoilt, d__law_row_starts, d__law_reach_ok, d__law_sweep, d__law_some_rows, d__law_facing, d__law_falling, d__law_out_of_reach, d__law_least_ok, d__law_other_sequence, d__law_other_fit, d__law_row_ok, d__law_rows_ok, d__law_told, d__law_judged, d__law_answers, d__law_great, d_law, i_BadValue, i_TooMany]
def faL : List He.Fa := [.glo "is_int", .glo "is_between", .glo "is_list_of", .glo "is_tuple_of", .glo "is_word", .glo "is_length_row", .glo "check_rows", .glo "near_lengths", .glo "row_starts", .glo "jump_reaches", .glo "jump_distances", .glo "jump_reach", .glo "jump_spans", .glo "least_of", .glo "least_lengths", .glo "lengths_have_form", .glo "sequence_fits", .glo "is_least", .glo "_law_stream", .glo "_law_next", .glo "_law_pick", .glo "_law_from", .glo "_law_shuffled", .glo "_law_number", .glo "_law_is_row", .glo "_law_same", .glo "_law_copy", .glo "_law_named", .glo "_law_attributes", .glo "_law_spoilt", .glo "_law_row_starts", .glo "_law_reach_ok", .glo "_law_sweep", .glo "_law_some_rows", .glo "_law_facing", .glo "_law_falling", .glo "_law_out_of_reach", .glo "_law_least_ok", .glo "_law_other_sequence", .glo "_law_other_fit", .glo "_law_row_ok", .glo "_law_rows_ok", .glo "_law_told", .glo "_law_judged", .glo "_law_answers", .glo "_law_great", .glo "law", .glo "WellError", .glo "BadText", .glo "BadScope", .glo "BadTree", .glo "BadGraph", .glo "BadPaper", .glo "BadPiece", .glo "BadWords", .glo "BadInput", .glo "BadEdit", .glo "BadValue", .glo "NotTyped", .glo "NotCompiled", .glo "TooMany", .glo "NothingToUndo", .glo "NothingToRedo", .free "ValueError", .free "abs", .free "all", .free "bool", .free "dict", .free "enumerate", .free "int", .free "isinstance", .free "len", .free "list", .free "max", .free "min", .free "range", .free "str", .free "tuple", .int "MOST_FAR" (8), .int "MOST_REACH" (100000), .int "MOST_ROWS" (2000), .int "MOST_SIZE" (1000)]
def tests (K : PySem.W.Frag) : List Bool := [
  (List.range 16).all (fun c => excB K (CAof K c)),
  (List.range 16).all (fun c => decide (PySem.W.exmOne K (.ref (CAof K c)) (.ref (CAof K 0)) = some true)),
  (List.range 16).all (fun c => fdB K (CAof K c) "address" none),
  (List.range 16).all (fun c => fdB K (CAof K c) "column" none),
  (List.range 16).all (fun c => fdB K (CAof K c) "function" none),
  (List.range 16).all (fun c => fdB K (CAof K c) "index" none),
  (List.range 16).all (fun c => fdB K (CAof K c) "line" none),
  (List.range 16).all (fun c => fdB K (CAof K c) "name" none),
  (List.range 16).all (fun c => fdB K (CAof K c) "node" none),
  (List.range 16).all (fun c => fdB K (CAof K c) "point" none),
  (List.range 16).all (fun c => fdB K (CAof K c) "row" none),
  (List.range 16).all (fun c => fdB K (CAof K c) "word" none),
  (List.range 16).all (fun c => decide (PySem.W.kitOne K (.ref (CAof K c)) (.ref (CAof K 9)) = some (clsIs c 9))),
  (List.range 16).all (fun c => decide (PySem.W.kitOne K (.ref (CAof K c)) (.ref (CAof K 4)) = some (clsIs c 4))),
  (List.range 16).all (fun c => decide (PySem.W.kitOne K (.ref (CAof K c)) (.ref (CAof K 8)) = some (clsIs c 8))),
  (List.range 16).all (fun c => decide (PySem.W.kitOne K (.ref (CAof K c)) (.ref (CAof K 5)) = some (clsIs c 5))),
  (List.range 16).all (fun c => decide (PySem.W.kitOne K (.ref (CAof K c)) (.ref (CAof K 6)) = some (clsIs c 6))),
  (List.range 16).all (fun c => decide (PySem.W.kitOne K (.ref (CAof K c)) (.ref (CAof K 2)) = some (clsIs c 2))),
  (List.range 16).all (fun c => decide (PySem.W.kitOne K (.ref (CAof K c)) (.ref (CAof K 1)) = some (clsIs c 1))),
  (List.range 16).all (fun c => decide (PySem.W.kitOne K (.ref (CAof K c)) (.ref (CAof K 3)) = some (clsIs c 3))),
  (List.range 16).all (fun c => decide (PySem.W.kitOne K (.ref (CAof K c)) (.ref (CAof K 10)) = some (clsIs c 10))),
  (List.range 16).all (fun c => decide (PySem.W.kitOne K (.ref (CAof K c)) (.ref (CAof K 7)) = some (clsIs c 7))),
  (List.range 16).all (fun c => decide (PySem.W.kitOne K (.ref (CAof K c)) (.ref (CAof K 12)) = some (clsIs c 12))),
  (List.range 16).all (fun c => decide (PySem.W.kitOne K (.ref (CAof K c)) (.ref (CAof K 11)) = some (clsIs c 11))),
  (List.range 16).all (fun c => decide (PySem.W.kitOne K (.ref (CAof K c)) (.ref (CAof K 15)) = some (clsIs c 15))),
  (List.range 16).all (fun c => decide (PySem.W.kitOne K (.ref (CAof K c)) (.ref (CAof K 14)) = some (clsIs c 14))),
  (List.range 16).all (fun c => decide (PySem.W.kitOne K (.ref (CAof K c)) (.ref (CAof K 13)) = some (clsIs c 13))),
  (List.range 16).all (fun c => decide (PySem.W.kitOne K (.ref (CAof K c)) (.ref (CAof K 0)) = some (clsIs c 0))),
  (List.range 16).all (fun c => decide (PySem.W.kitOne K (.ref (CAof K c)) (.type "ValueError") = some true)),
  (oexB K (He.ga K "BadValue") && iniB K "BadValue" "name"),
  (oexB K (He.ga K "TooMany") && iniB K "TooMany" "word")]
def testB (K : PySem.W.Frag) : Bool := (tests K).all id
theorem test_at {K : PySem.W.Frag} (h : testB K = true) (i : Nat) {b : Bool} (e : (tests K)[i]? = some b := by rfl) : b = true := List.all_eq_true.mp h b (List.mem_of_getElem? e)
theorem all_at {n : Nat} {p : Nat → Bool} (h : (List.range n).all p = true) {i : Nat} (hi : i < n) : p i = true := List.all_eq_true.mp h i (List.mem_range.mpr hi)
theorem CA_last (K : PySem.W.Frag) : ∀ c, 15 ≤ c → CAof K c = CAof K 15
  | 0, h => absurd h (by decide)
  | 1, h => absurd h (by decide)
  | 2, h => absurd h (by decide)
  | 3, h => absurd h (by decide)
  | 4, h => absurd h (by decide)
  | 5, h => absurd h (by decide)
  | 6, h => absurd h (by decide)
  | 7, h => absurd h (by decide)
  | 8, h => absurd h (by decide)
  | 9, h => absurd h (by decide)
  | 10, h => absurd h (by decide)
  | 11, h => absurd h (by decide)
  | 12, h => absurd h (by decide)
  | 13, h => absurd h (by decide)
  | 14, h => absurd h (by decide)
  | _ + 15, _ => rfl
theorem is_last {c : Nat} (n : Nat) (h : 15 ≤ c) : clsIs c n = clsIs 15 n := by
  unfold clsIs LAST
  rw [if_neg (by omega), if_neg (by omega)]
theorem CA_ind {K : PySem.W.Frag} {Q : Nat → Addr → Prop} (h : ∀ c, c < 16 → Q c (CAof K c)) (h2 : ∀ c, 15 ≤ c → Q 15 (CAof K 15) → Q c (CAof K 15)) : ∀ c, Q c (CAof K c) := fun c => by
  by_cases hc : c < 16
  · exact h c hc
  · have hc : 15 ≤ c := by omega
    rw [CA_last K c hc]
    exact h2 c hc (h 15 (by decide))
section
variable {P : Program} {w : World} {K : PySem.W.Frag} {mg : PySem.Str → Option Value} {base : Heap} {h : Heap}
theorem hotK (X : K.In h) (G : h.Ns mainGlobals mg) (t : testB K = true) (c : He.SaysD faL fnL K) : HotK K mg where
  ex := CA_ind (Q := fun _ a => ExcC K a) (fun c hc => (excB_ok (all_at (p := fun c => excB K (CAof K c)) (test_at t 0) hc)).1) fun _ _ z => z
  xf := CA_ind (Q := fun _ a => XfC K a) (fun c hc => (excB_ok (all_at (p := fun c => excB K (CAof K c)) (test_at t 0) hc)).2) fun _ _ z => z
  nof_address := CA_ind (Q := fun _ a => PySem.W.findIn K (.ref a) "address" = some none) (fun c hc => of_decide_eq_true (all_at (test_at t 2) hc)) fun _ _ z => z
  nof_column := CA_ind (Q := fun _ a => PySem.W.findIn K (.ref a) "column" = some none) (fun c hc => of_decide_eq_true (all_at (test_at t 3) hc)) fun _ _ z => z
  nof_function := CA_ind (Q := fun _ a => PySem.W.findIn K (.ref a) "function" = some none) (fun c hc => of_decide_eq_true (all_at (test_at t 4) hc)) fun _ _ z => z
  nof_index := CA_ind (Q := fun _ a => PySem.W.findIn K (.ref a) "index" = some none) (fun c hc => of_decide_eq_true (all_at (test_at t 5) hc)) fun _ _ z => z
  nof_line := CA_ind (Q := fun _ a => PySem.W.findIn K (.ref a) "line" = some none) (fun c hc => of_decide_eq_true (all_at (test_at t 6) hc)) fun _ _ z => z
  nof_name := CA_ind (Q := fun _ a => PySem.W.findIn K (.ref a) "name" = some none) (fun c hc => of_decide_eq_true (all_at (test_at t 7) hc)) fun _ _ z => z
  nof_node := CA_ind (Q := fun _ a => PySem.W.findIn K (.ref a) "node" = some none) (fun c hc => of_decide_eq_true (all_at (test_at t 8) hc)) fun _ _ z => z
  nof_point := CA_ind (Q := fun _ a => PySem.W.findIn K (.ref a) "point" = some none) (fun c hc => of_decide_eq_true (all_at (test_at t 9) hc)) fun _ _ z => z
  nof_row := CA_ind (Q := fun _ a => PySem.W.findIn K (.ref a) "row" = some none) (fun c hc => of_decide_eq_true (all_at (test_at t 10) hc)) fun _ _ z => z
  nof_word := CA_ind (Q := fun _ a => PySem.W.findIn K (.ref a) "word" = some none) (fun c hc => of_decide_eq_true (all_at (test_at t 11) hc)) fun _ _ z => z
  kit_BadEdit := CA_ind (Q := fun c a => PySem.W.kitOne K (.ref a) (.ref (CAof K 9)) = some (clsIs c 9)) (fun c hc => of_decide_eq_true (all_at (test_at t 12) hc)) fun c hc z => by rw [is_last _ hc]; exact z
  kit_BadGraph := CA_ind (Q := fun c a => PySem.W.kitOne K (.ref a) (.ref (CAof K 4)) = some (clsIs c 4)) (fun c hc => of_decide_eq_true (all_at (test_at t 13) hc)) fun c hc z => by rw [is_last _ hc]; exact z
  kit_BadInput := CA_ind (Q := fun c a => PySem.W.kitOne K (.ref a) (.ref (CAof K 8)) = some (clsIs c 8)) (fun c hc => of_decide_eq_true (all_at (test_at t 14) hc)) fun c hc z => by rw [is_last _ hc]; exact z
  kit_BadPaper := CA_ind (Q := fun c a => PySem.W.kitOne K (.ref a) (.ref (CAof K 5)) = some (clsIs c 5)) (fun c hc => of_decide_eq_true (all_at (test_at t 15) hc)) fun c hc z => by rw [is_last _ hc]; exact z
  kit_BadPiece := CA_ind (Q := fun c a => PySem.W.kitOne K (.ref a) (.ref (CAof K 6)) = some (clsIs c 6)) (fun c hc => of_decide_eq_true (all_at (test_at t 16) hc)) fun c hc z => by rw [is_last _ hc]; exact z
  kit_BadScope := CA_ind (Q := fun c a => PySem.W.kitOne K (.ref a) (.ref (CAof K 2)) = some (clsIs c 2)) (fun c hc => of_decide_eq_true (all_at (test_at t 17) hc)) fun c hc z => by rw [is_last _ hc]; exact z
  kit_BadText := CA_ind (Q := fun c a => PySem.W.kitOne K (.ref a) (.ref (CAof K 1)) = some (clsIs c 1)) (fun c hc => of_decide_eq_true (all_at (test_at t 18) hc)) fun c hc z => by rw [is_last _ hc]; exact z
  kit_BadTree := CA_ind (Q := fun c a => PySem.W.kitOne K (.ref a) (.ref (CAof K 3)) = some (clsIs c 3)) (fun c hc => of_decide_eq_true (all_at (test_at t 19) hc)) fun c hc z => by rw [is_last _ hc]; exact z
  kit_BadValue := CA_ind (Q := fun c a => PySem.W.kitOne K (.ref a) (.ref (CAof K 10)) = some (clsIs c 10)) (fun c hc => of_decide_eq_true (all_at (test_at t 20) hc)) fun c hc z => by rw [is_last _ hc]; exact z
  kit_BadWords := CA_ind (Q := fun c a => PySem.W.kitOne K (.ref a) (.ref (CAof K 7)) = some (clsIs c 7)) (fun c hc => of_decide_eq_true (all_at (test_at t 21) hc)) fun c hc z => by rw [is_last _ hc]; exact z
  kit_NotCompiled := CA_ind (Q := fun c a => PySem.W.kitOne K (.ref a) (.ref (CAof K 12)) = some (clsIs c 12)) (fun c hc => of_decide_eq_true (all_at (test_at t 22) hc)) fun c hc z => by rw [is_last _ hc]; exact z
  kit_NotTyped := CA_ind (Q := fun c a => PySem.W.kitOne K (.ref a) (.ref (CAof K 11)) = some (clsIs c 11)) (fun c hc => of_decide_eq_true (all_at (test_at t 23) hc)) fun c hc z => by rw [is_last _ hc]; exact z
  kit_NothingToRedo := CA_ind (Q := fun c a => PySem.W.kitOne K (.ref a) (.ref (CAof K 15)) = some (clsIs c 15)) (fun c hc => of_decide_eq_true (all_at (test_at t 24) hc)) fun c hc z => by rw [is_last _ hc]; exact z
  kit_NothingToUndo := CA_ind (Q := fun c a => PySem.W.kitOne K (.ref a) (.ref (CAof K 14)) = some (clsIs c 14)) (fun c hc => of_decide_eq_true (all_at (test_at t 25) hc)) fun c hc z => by rw [is_last _ hc]; exact z
  kit_TooMany := CA_ind (Q := fun c a => PySem.W.kitOne K (.ref a) (.ref (CAof K 13)) = some (clsIs c 13)) (fun c hc => of_decide_eq_true (all_at (test_at t 26) hc)) fun c hc z => by rw [is_last _ hc]; exact z
  kit_WellError := CA_ind (Q := fun c a => PySem.W.kitOne K (.ref a) (.ref (CAof K 0)) = some (clsIs c 0)) (fun c hc => of_decide_eq_true (all_at (test_at t 27) hc)) fun c hc z => by rw [is_last _ hc]; exact z
  kit_ValueError := CA_ind (Q := fun _ a => PySem.W.kitOne K (.ref a) (.type "ValueError") = some true) (fun c hc => of_decide_eq_true (all_at (test_at t 28) hc)) fun _ _ z => z
  a_BadEdit := He.glo_ok X G (c.fact 56 (f := .glo "BadEdit") rfl)
  a_BadGraph := He.glo_ok X G (c.fact 51 (f := .glo "BadGraph") rfl)
  a_BadInput := He.glo_ok X G (c.fact 55 (f := .glo "BadInput") rfl)
  a_BadPaper := He.glo_ok X G (c.fact 52 (f := .glo "BadPaper") rfl)
  a_BadPiece := He.glo_ok X G (c.fact 53 (f := .glo "BadPiece") rfl)
  a_BadScope := He.glo_ok X G (c.fact 49 (f := .glo "BadScope") rfl)
  a_BadText := He.glo_ok X G (c.fact 48 (f := .glo "BadText") rfl)
  a_BadTree := He.glo_ok X G (c.fact 50 (f := .glo "BadTree") rfl)
  a_BadValue := He.glo_ok X G (c.fact 57 (f := .glo "BadValue") rfl)
  a_BadWords := He.glo_ok X G (c.fact 54 (f := .glo "BadWords") rfl)
  a_NotCompiled := He.glo_ok X G (c.fact 59 (f := .glo "NotCompiled") rfl)
  a_NotTyped := He.glo_ok X G (c.fact 58 (f := .glo "NotTyped") rfl)
  a_NothingToRedo := He.glo_ok X G (c.fact 62 (f := .glo "NothingToRedo") rfl)
  a_NothingToUndo := He.glo_ok X G (c.fact 61 (f := .glo "NothingToUndo") rfl)
  a_TooMany := He.glo_ok X G (c.fact 60 (f := .glo "TooMany") rfl)
  a_WellError := He.glo_ok X G (c.fact 47 (f := .glo "WellError") rfl)
theorem df_is_int (X : K.In h) (G : h.Ns mainGlobals mg) (c : He.SaysD faL fnL K) : Df K mg "is_int" (topS 18) ["value"] := by
  obtain ⟨fd, F⟩ := c.def_ 0 (d := d_is_int) rfl
  exact ⟨_, fd, F, He.glo_ok X G (c.fact 0 (f := .glo "is_int") rfl), FunD.bindsN F fun _ _ _ _ _ _ us hl => match us, hl with | [_], _ => rfl⟩
theorem df_is_between (X : K.In h) (G : h.Ns mainGlobals mg) (c : He.SaysD faL fnL K) : Df K mg "is_between" (topS 19) ["value", "low", "high"] := by
  obtain ⟨fd, F⟩ := c.def_ 1 (d := d_is_between) rfl
  exact ⟨_, fd, F, He.glo_ok X G (c.fact 1 (f := .glo "is_between") rfl), FunD.bindsN F fun _ _ _ _ _ _ us hl => match us, hl with | [_, _, _], _ => rfl⟩
theorem df_is_list_of (X : K.In h) (G : h.Ns mainGlobals mg) (c : He.SaysD faL fnL K) : Df K mg "is_list_of" (topS 20) ["value", "many"] := by
  obtain ⟨fd, F⟩ := c.def_ 2 (d := d_is_list_of) rfl
  exact ⟨_, fd, F, He.glo_ok X G (c.fact 2 (f := .glo "is_list_of") rfl), FunD.bindsN F fun _ _ _ _ _ _ us hl => match us, hl with | [_, _], _ => rfl⟩
theorem df_is_tuple_of (X : K.In h) (G : h.Ns mainGlobals mg) (c : He.SaysD faL fnL K) : Df K mg "is_tuple_of" (topS 21) ["value", "many"] := by
  obtain ⟨fd, F⟩ := c.def_ 3 (d := d_is_tuple_of) rfl
  exact ⟨_, fd, F, He.glo_ok X G (c.fact 3 (f := .glo "is_tuple_of") rfl), FunD.bindsN F fun _ _ _ _ _ _ us hl => match us, hl with | [_, _], _ => rfl⟩
theorem df_is_word (X : K.In h) (G : h.Ns mainGlobals mg) (c : He.SaysD faL fnL K) : Df K mg "is_word" (topS 22) ["value", "words"] := by
  obtain ⟨fd, F⟩ := c.def_ 4 (d := d_is_word) rfl
  exact ⟨_, fd, F, He.glo_ok X G (c.fact 4 (f := .glo "is_word") rfl), FunD.bindsN F fun _ _ _ _ _ _ us hl => match us, hl with | [_, _], _ => rfl⟩
theorem df_is_length_row (X : K.In h) (G : h.Ns mainGlobals mg) (c : He.SaysD faL fnL K) : Df K mg "is_length_row" (topS 28) ["value", "many"] := by
  obtain ⟨fd, F⟩ := c.def_ 5 (d := d_is_length_row) rfl
  exact ⟨_, fd, F, He.glo_ok X G (c.fact 5 (f := .glo "is_length_row") rfl), FunD.bindsN F fun _ _ _ _ _ _ us hl => match us, hl with | [_, _], _ => rfl⟩
theorem df_check_rows (X : K.In h) (G : h.Ns mainGlobals mg) (c : He.SaysD faL fnL K) : Df K mg "check_rows" (topS 29) ["rows"] := by
  obtain ⟨fd, F⟩ := c.def_ 6 (d := d_check_rows) rfl
  exact ⟨_, fd, F, He.glo_ok X G (c.fact 6 (f := .glo "check_rows") rfl), FunD.bindsN F fun _ _ _ _ _ _ us hl => match us, hl with | [_], _ => rfl⟩
theorem df_near_lengths (X : K.In h) (G : h.Ns mainGlobals mg) (c : He.SaysD faL fnL K) : Df K mg "near_lengths" (topS 30) ["rows"] := by
  obtain ⟨fd, F⟩ := c.def_ 7 (d := d_near_lengths) rfl
  exact ⟨_, fd, F, He.glo_ok X G (c.fact 7 (f := .glo "near_lengths") rfl), FunD.bindsN F fun _ _ _ _ _ _ us hl => match us, hl with | [_], _ => rfl⟩
theorem df_row_starts (X : K.In h) (G : h.Ns mainGlobals mg) (c : He.SaysD faL fnL K) : Df K mg "row_starts" (topS 31) ["lengths"] := by
  obtain ⟨fd, F⟩ := c.def_ 8 (d := d_row_starts) rfl
  exact ⟨_, fd, F, He.glo_ok X G (c.fact 8 (f := .glo "row_starts") rfl), FunD.bindsN F fun _ _ _ _ _ _ us hl => match us, hl with | [_], _ => rfl⟩
theorem df_jump_reaches (X : K.In h) (G : h.Ns mainGlobals mg) (c : He.SaysD faL fnL K) : Df K mg "jump_reaches" (topS 32) ["row", "at", "starts"] := by
  obtain ⟨fd, F⟩ := c.def_ 9 (d := d_jump_reaches) rfl
  exact ⟨_, fd, F, He.glo_ok X G (c.fact 9 (f := .glo "jump_reaches") rfl), FunD.bindsN F fun _ _ _ _ _ _ us hl => match us, hl with | [_, _, _], _ => rfl⟩
theorem df_jump_distances (X : K.In h) (G : h.Ns mainGlobals mg) (c : He.SaysD faL fnL K) : Df K mg "jump_distances" (topS 33) ["rows", "lengths"] := by
  obtain ⟨fd, F⟩ := c.def_ 10 (d := d_jump_distances) rfl
  exact ⟨_, fd, F, He.glo_ok X G (c.fact 10 (f := .glo "jump_distances") rfl), FunD.bindsN F fun _ _ _ _ _ _ us hl => match us, hl with | [_, _], _ => rfl⟩
theorem df_jump_reach (X : K.In h) (G : h.Ns mainGlobals mg) (c : He.SaysD faL fnL K) : Df K mg "jump_reach" (topS 34) ["row", "at"] := by
  obtain ⟨fd, F⟩ := c.def_ 11 (d := d_jump_reach) rfl
  exact ⟨_, fd, F, He.glo_ok X G (c.fact 11 (f := .glo "jump_reach") rfl), FunD.bindsN F fun _ _ _ _ _ _ us hl => match us, hl with | [_, _], _ => rfl⟩
theorem df_jump_spans (X : K.In h) (G : h.Ns mainGlobals mg) (c : He.SaysD faL fnL K) : Df K mg "jump_spans" (topS 35) ["row", "at", "other"] := by
  obtain ⟨fd, F⟩ := c.def_ 12 (d := d_jump_spans) rfl
  exact ⟨_, fd, F, He.glo_ok X G (c.fact 12 (f := .glo "jump_spans") rfl), FunD.bindsN F fun _ _ _ _ _ _ us hl => match us, hl with | [_, _, _], _ => rfl⟩
theorem df_least_of (X : K.In h) (G : h.Ns mainGlobals mg) (c : He.SaysD faL fnL K) : Df K mg "least_of" (topS 36) ["rows"] := by
  obtain ⟨fd, F⟩ := c.def_ 13 (d := d_least_of) rfl
  exact ⟨_, fd, F, He.glo_ok X G (c.fact 13 (f := .glo "least_of") rfl), FunD.bindsN F fun _ _ _ _ _ _ us hl => match us, hl with | [_], _ => rfl⟩
theorem df_least_lengths (X : K.In h) (G : h.Ns mainGlobals mg) (c : He.SaysD faL fnL K) : Df K mg "least_lengths" (topS 37) ["rows"] := by
  obtain ⟨fd, F⟩ := c.def_ 14 (d := d_least_lengths) rfl
  exact ⟨_, fd, F, He.glo_ok X G (c.fact 14 (f := .glo "least_lengths") rfl), FunD.bindsN F fun _ _ _ _ _ _ us hl => match us, hl with | [_], _ => rfl⟩
theorem df_lengths_have_form (X : K.In h) (G : h.Ns mainGlobals mg) (c : He.SaysD faL fnL K) : Df K mg "lengths_have_form" (topS 38) ["rows", "lengths"] := by
  obtain ⟨fd, F⟩ := c.def_ 15 (d := d_lengths_have_form) rfl
  exact ⟨_, fd, F, He.glo_ok X G (c.fact 15 (f := .glo "lengths_have_form") rfl), FunD.bindsN F fun _ _ _ _ _ _ us hl => match us, hl with | [_, _], _ => rfl⟩
theorem df_sequence_fits (X : K.In h) (G : h.Ns mainGlobals mg) (c : He.SaysD faL fnL K) : Df K mg "sequence_fits" (topS 39) ["rows", "lengths", "sequence"] := by
  obtain ⟨fd, F⟩ := c.def_ 16 (d := d_sequence_fits) rfl
  exact ⟨_, fd, F, He.glo_ok X G (c.fact 16 (f := .glo "sequence_fits") rfl), FunD.bindsN F fun _ _ _ _ _ _ us hl => match us, hl with | [_, _, _], _ => rfl⟩
theorem df_is_least (X : K.In h) (G : h.Ns mainGlobals mg) (c : He.SaysD faL fnL K) : Df K mg "is_least" (topS 40) ["rows", "value"] := by
  obtain ⟨fd, F⟩ := c.def_ 17 (d := d_is_least) rfl
  exact ⟨_, fd, F, He.glo_ok X G (c.fact 17 (f := .glo "is_least") rfl), FunD.bindsN F fun _ _ _ _ _ _ us hl => match us, hl with | [_, _], _ => rfl⟩
theorem df__law_stream (X : K.In h) (G : h.Ns mainGlobals mg) (c : He.SaysD faL fnL K) : Df K mg "_law_stream" (topS 42) ["script"] := by
  obtain ⟨fd, F⟩ := c.def_ 18 (d := d__law_stream) rfl
  exact ⟨_, fd, F, He.glo_ok X G (c.fact 18 (f := .glo "_law_stream") rfl), FunD.bindsN F fun _ _ _ _ _ _ us hl => match us, hl with | [_], _ => rfl⟩
theorem df__law_next (X : K.In h) (G : h.Ns mainGlobals mg) (c : He.SaysD faL fnL K) : Df K mg "_law_next" (topS 43) ["stream", "many"] := by
  obtain ⟨fd, F⟩ := c.def_ 19 (d := d__law_next) rfl
  exact ⟨_, fd, F, He.glo_ok X G (c.fact 19 (f := .glo "_law_next") rfl), FunD.bindsN F fun _ _ _ _ _ _ us hl => match us, hl with | [_, _], _ => rfl⟩
theorem df__law_pick (X : K.In h) (G : h.Ns mainGlobals mg) (c : He.SaysD faL fnL K) : Df K mg "_law_pick" (topS 44) ["stream", "rows"] := by
  obtain ⟨fd, F⟩ := c.def_ 20 (d := d__law_pick) rfl
  exact ⟨_, fd, F, He.glo_ok X G (c.fact 20 (f := .glo "_law_pick") rfl), FunD.bindsN F fun _ _ _ _ _ _ us hl => match us, hl with | [_, _], _ => rfl⟩
theorem df__law_from (X : K.In h) (G : h.Ns mainGlobals mg) (c : He.SaysD faL fnL K) : Df K mg "_law_from" (topS 45) ["stream", "low", "high"] := by
  obtain ⟨fd, F⟩ := c.def_ 21 (d := d__law_from) rfl
  exact ⟨_, fd, F, He.glo_ok X G (c.fact 21 (f := .glo "_law_from") rfl), FunD.bindsN F fun _ _ _ _ _ _ us hl => match us, hl with | [_, _, _], _ => rfl⟩
theorem df__law_shuffled (X : K.In h) (G : h.Ns mainGlobals mg) (c : He.SaysD faL fnL K) : Df K mg "_law_shuffled" (topS 46) ["stream", "rows"] := by
  obtain ⟨fd, F⟩ := c.def_ 22 (d := d__law_shuffled) rfl
  exact ⟨_, fd, F, He.glo_ok X G (c.fact 22 (f := .glo "_law_shuffled") rfl), FunD.bindsN F fun _ _ _ _ _ _ us hl => match us, hl with | [_, _], _ => rfl⟩
theorem df__law_number (X : K.In h) (G : h.Ns mainGlobals mg) (c : He.SaysD faL fnL K) : Df K mg "_law_number" (topS 47) ["value", "low", "high"] := by
  obtain ⟨fd, F⟩ := c.def_ 23 (d := d__law_number) rfl
  exact ⟨_, fd, F, He.glo_ok X G (c.fact 23 (f := .glo "_law_number") rfl), FunD.bindsN F fun _ _ _ _ _ _ us hl => match us, hl with | [_, _, _], _ => rfl⟩
theorem df__law_is_row (X : K.In h) (G : h.Ns mainGlobals mg) (c : He.SaysD faL fnL K) : Df K mg "_law_is_row" (topS 48) ["value", "kind", "many"] := by
  obtain ⟨fd, F⟩ := c.def_ 24 (d := d__law_is_row) rfl
  exact ⟨_, fd, F, He.glo_ok X G (c.fact 24 (f := .glo "_law_is_row") rfl), FunD.bindsN F fun _ _ _ _ _ _ us hl => match us, hl with | [_, _, _], _ => rfl⟩
theorem df__law_same (X : K.In h) (G : h.Ns mainGlobals mg) (c : He.SaysD faL fnL K) : Df K mg "_law_same" (topS 49) ["actual", "due"] := by
  obtain ⟨fd, F⟩ := c.def_ 25 (d := d__law_same) rfl
  exact ⟨_, fd, F, He.glo_ok X G (c.fact 25 (f := .glo "_law_same") rfl), FunD.bindsN F fun _ _ _ _ _ _ us hl => match us, hl with | [_, _], _ => rfl⟩
theorem df__law_copy (X : K.In h) (G : h.Ns mainGlobals mg) (c : He.SaysD faL fnL K) : Df K mg "_law_copy" (topS 50) ["value"] := by
  obtain ⟨fd, F⟩ := c.def_ 26 (d := d__law_copy) rfl
  exact ⟨_, fd, F, He.glo_ok X G (c.fact 26 (f := .glo "_law_copy") rfl), FunD.bindsN F fun _ _ _ _ _ _ us hl => match us, hl with | [_], _ => rfl⟩
theorem df__law_named (X : K.In h) (G : h.Ns mainGlobals mg) (c : He.SaysD faL fnL K) : Df K mg "_law_named" (topS 51) ["error"] := by
  obtain ⟨fd, F⟩ := c.def_ 27 (d := d__law_named) rfl
  exact ⟨_, fd, F, He.glo_ok X G (c.fact 27 (f := .glo "_law_named") rfl), FunD.bindsN F fun _ _ _ _ _ _ us hl => match us, hl with | [_], _ => rfl⟩
theorem df__law_attributes (X : K.In h) (G : h.Ns mainGlobals mg) (c : He.SaysD faL fnL K) : Df K mg "_law_attributes" (topS 52) ["e", "name"] := by
  obtain ⟨fd, F⟩ := c.def_ 28 (d := d__law_attributes) rfl
  exact ⟨_, fd, F, He.glo_ok X G (c.fact 28 (f := .glo "_law_attributes") rfl), FunD.bindsN F fun _ _ _ _ _ _ us hl => match us, hl with | [_, _], _ => rfl⟩
theorem df__law_spoilt (X : K.In h) (G : h.Ns mainGlobals mg) (c : He.SaysD faL fnL K) : Df K mg "_law_spoilt" (topS 53) ["stream", "value"] := by
  obtain ⟨fd, F⟩ := c.def_ 29 (d := d__law_spoilt) rfl
  exact ⟨_, fd, F, He.glo_ok X G (c.fact 29 (f := .glo "_law_spoilt") rfl), FunD.bindsN F fun _ _ _ _ _ _ us hl => match us, hl with | [_, _], _ => rfl⟩
theorem df__law_row_starts (X : K.In h) (G : h.Ns mainGlobals mg) (c : He.SaysD faL fnL K) : Df K mg "_law_row_starts" (topS 54) ["lengths"] := by
  obtain ⟨fd, F⟩ := c.def_ 30 (d := d__law_row_starts) rfl
  exact ⟨_, fd, F, He.glo_ok X G (c.fact 30 (f := .glo "_law_row_starts") rfl), FunD.bindsN F fun _ _ _ _ _ _ us hl => match us, hl with | [_], _ => rfl⟩
theorem df__law_reach_ok (X : K.In h) (G : h.Ns mainGlobals mg) (c : He.SaysD faL fnL K) : Df K mg "_law_reach_ok" (topS 55) ["rows", "at", "starts"] := by
  obtain ⟨fd, F⟩ := c.def_ 31 (d := d__law_reach_ok) rfl
  exact ⟨_, fd, F, He.glo_ok X G (c.fact 31 (f := .glo "_law_reach_ok") rfl), FunD.bindsN F fun _ _ _ _ _ _ us hl => match us, hl with | [_, _, _], _ => rfl⟩
theorem df__law_sweep (X : K.In h) (G : h.Ns mainGlobals mg) (c : He.SaysD faL fnL K) : Df K mg "_law_sweep" (topS 56) ["rows", "forced"] := by
  obtain ⟨fd, F⟩ := c.def_ 32 (d := d__law_sweep) rfl
  exact ⟨_, fd, F, He.glo_ok X G (c.fact 32 (f := .glo "_law_sweep") rfl), FunD.bindsN F fun _ _ _ _ _ _ us hl => match us, hl with | [_, _], _ => rfl⟩
theorem df__law_some_rows (X : K.In h) (G : h.Ns mainGlobals mg) (c : He.SaysD faL fnL K) : Df K mg "_law_some_rows" (topS 57) ["stream"] := by
  obtain ⟨fd, F⟩ := c.def_ 33 (d := d__law_some_rows) rfl
  exact ⟨_, fd, F, He.glo_ok X G (c.fact 33 (f := .glo "_law_some_rows") rfl), FunD.bindsN F fun _ _ _ _ _ _ us hl => match us, hl with | [_], _ => rfl⟩
theorem df__law_facing (X : K.In h) (G : h.Ns mainGlobals mg) (c : He.SaysD faL fnL K) : Df K mg "_law_facing" (topS 58) ["stream"] := by
  obtain ⟨fd, F⟩ := c.def_ 34 (d := d__law_facing) rfl
  exact ⟨_, fd, F, He.glo_ok X G (c.fact 34 (f := .glo "_law_facing") rfl), FunD.bindsN F fun _ _ _ _ _ _ us hl => match us, hl with | [_], _ => rfl⟩
theorem df__law_falling (X : K.In h) (G : h.Ns mainGlobals mg) (c : He.SaysD faL fnL K) : Df K mg "_law_falling" (topS 59) ["stream"] := by
  obtain ⟨fd, F⟩ := c.def_ 35 (d := d__law_falling) rfl
  exact ⟨_, fd, F, He.glo_ok X G (c.fact 35 (f := .glo "_law_falling") rfl), FunD.bindsN F fun _ _ _ _ _ _ us hl => match us, hl with | [_], _ => rfl⟩
theorem df__law_out_of_reach (X : K.In h) (G : h.Ns mainGlobals mg) (c : He.SaysD faL fnL K) : Df K mg "_law_out_of_reach" (topS 60) ["rows", "lengths"] := by
  obtain ⟨fd, F⟩ := c.def_ 36 (d := d__law_out_of_reach) rfl
  exact ⟨_, fd, F, He.glo_ok X G (c.fact 36 (f := .glo "_law_out_of_reach") rfl), FunD.bindsN F fun _ _ _ _ _ _ us hl => match us, hl with | [_, _], _ => rfl⟩
theorem df__law_least_ok (X : K.In h) (G : h.Ns mainGlobals mg) (c : He.SaysD faL fnL K) : Df K mg "_law_least_ok" (topS 61) ["rows", "value"] := by
  obtain ⟨fd, F⟩ := c.def_ 37 (d := d__law_least_ok) rfl
  exact ⟨_, fd, F, He.glo_ok X G (c.fact 37 (f := .glo "_law_least_ok") rfl), FunD.bindsN F fun _ _ _ _ _ _ us hl => match us, hl with | [_, _], _ => rfl⟩
theorem df__law_other_sequence (X : K.In h) (G : h.Ns mainGlobals mg) (c : He.SaysD faL fnL K) : Df K mg "_law_other_sequence" (topS 62) ["stream", "rows"] := by
  obtain ⟨fd, F⟩ := c.def_ 38 (d := d__law_other_sequence) rfl
  exact ⟨_, fd, F, He.glo_ok X G (c.fact 38 (f := .glo "_law_other_sequence") rfl), FunD.bindsN F fun _ _ _ _ _ _ us hl => match us, hl with | [_, _], _ => rfl⟩
theorem df__law_other_fit (X : K.In h) (G : h.Ns mainGlobals mg) (c : He.SaysD faL fnL K) : Df K mg "_law_other_fit" (topS 63) ["stream", "rows", "lengths"] := by
  obtain ⟨fd, F⟩ := c.def_ 39 (d := d__law_other_fit) rfl
  exact ⟨_, fd, F, He.glo_ok X G (c.fact 39 (f := .glo "_law_other_fit") rfl), FunD.bindsN F fun _ _ _ _ _ _ us hl => match us, hl with | [_, _, _], _ => rfl⟩
theorem df__law_row_ok (X : K.In h) (G : h.Ns mainGlobals mg) (c : He.SaysD faL fnL K) : Df K mg "_law_row_ok" (topS 64) ["row", "many"] := by
  obtain ⟨fd, F⟩ := c.def_ 40 (d := d__law_row_ok) rfl
  exact ⟨_, fd, F, He.glo_ok X G (c.fact 40 (f := .glo "_law_row_ok") rfl), FunD.bindsN F fun _ _ _ _ _ _ us hl => match us, hl with | [_, _], _ => rfl⟩
theorem df__law_rows_ok (X : K.In h) (G : h.Ns mainGlobals mg) (c : He.SaysD faL fnL K) : Df K mg "_law_rows_ok" (topS 65) ["value"] := by
  obtain ⟨fd, F⟩ := c.def_ 41 (d := d__law_rows_ok) rfl
  exact ⟨_, fd, F, He.glo_ok X G (c.fact 41 (f := .glo "_law_rows_ok") rfl), FunD.bindsN F fun _ _ _ _ _ _ us hl => match us, hl with | [_], _ => rfl⟩
theorem df__law_told (X : K.In h) (G : h.Ns mainGlobals mg) (c : He.SaysD faL fnL K) : Df K mg "_law_told" (topS 66) ["rows"] := by
  obtain ⟨fd, F⟩ := c.def_ 42 (d := d__law_told) rfl
  exact ⟨_, fd, F, He.glo_ok X G (c.fact 42 (f := .glo "_law_told") rfl), FunD.bindsN F fun _ _ _ _ _ _ us hl => match us, hl with | [_], _ => rfl⟩
theorem df__law_judged (X : K.In h) (G : h.Ns mainGlobals mg) (c : He.SaysD faL fnL K) : Df K mg "_law_judged" (topS 67) ["rows", "value"] := by
  obtain ⟨fd, F⟩ := c.def_ 43 (d := d__law_judged) rfl
  exact ⟨_, fd, F, He.glo_ok X G (c.fact 43 (f := .glo "_law_judged") rfl), FunD.bindsN F fun _ _ _ _ _ _ us hl => match us, hl with | [_, _], _ => rfl⟩
theorem df__law_answers (X : K.In h) (G : h.Ns mainGlobals mg) (c : He.SaysD faL fnL K) : Df K mg "_law_answers" (topS 68) ["stream", "rows"] := by
  obtain ⟨fd, F⟩ := c.def_ 44 (d := d__law_answers) rfl
  exact ⟨_, fd, F, He.glo_ok X G (c.fact 44 (f := .glo "_law_answers") rfl), FunD.bindsN F fun _ _ _ _ _ _ us hl => match us, hl with | [_, _], _ => rfl⟩
theorem df__law_great (X : K.In h) (G : h.Ns mainGlobals mg) (c : He.SaysD faL fnL K) : Df K mg "_law_great" (topS 69) ["stream"] := by
  obtain ⟨fd, F⟩ := c.def_ 45 (d := d__law_great) rfl
  exact ⟨_, fd, F, He.glo_ok X G (c.fact 45 (f := .glo "_law_great") rfl), FunD.bindsN F fun _ _ _ _ _ _ us hl => match us, hl with | [_], _ => rfl⟩
theorem df_law (X : K.In h) (G : h.Ns mainGlobals mg) (c : He.SaysD faL fnL K) : Df K mg "law" (topS 70) ["script"] := by
  obtain ⟨fd, F⟩ := c.def_ 46 (d := d_law) rfl
  exact ⟨_, fd, F, He.glo_ok X G (c.fact 46 (f := .glo "law") rfl), FunD.bindsN F fun _ _ _ _ _ _ us hl => match us, hl with | [_], _ => rfl⟩
theorem txOk (X : K.In h) (G : h.Ns mainGlobals mg) (t : testB K = true) (c : He.SaysD faL fnL K) : Tx K mg where
  f_ValueError := He.free_ok X G (c.fact 63 (f := .free "ValueError") rfl)
  f_abs := He.free_ok X G (c.fact 64 (f := .free "abs") rfl)
  f_all := He.free_ok X G (c.fact 65 (f := .free "all") rfl)
  f_bool := He.free_ok X G (c.fact 66 (f := .free "bool") rfl)
  f_dict := He.free_ok X G (c.fact 67 (f := .free "dict") rfl)
  f_enumerate := He.free_ok X G (c.fact 68 (f := .free "enumerate") rfl)
  f_int := He.free_ok X G (c.fact 69 (f := .free "int") rfl)
  f_isinstance := He.free_ok X G (c.fact 70 (f := .free "isinstance") rfl)
  f_len := He.free_ok X G (c.fact 71 (f := .free "len") rfl)
  f_list := He.free_ok X G (c.fact 72 (f := .free "list") rfl)
  f_max := He.free_ok X G (c.fact 73 (f := .free "max") rfl)
  f_min := He.free_ok X G (c.fact 74 (f := .free "min") rfl)
  f_range := He.free_ok X G (c.fact 75 (f := .free "range") rfl)
  f_str := He.free_ok X G (c.fact 76 (f := .free "str") rfl)
  f_tuple := He.free_ok X G (c.fact 77 (f := .free "tuple") rfl)
  c_MOST_FAR := He.int_ok X G (c.fact 78 (f := .int "MOST_FAR" (8)) rfl)
  c_MOST_REACH := He.int_ok X G (c.fact 79 (f := .int "MOST_REACH" (100000)) rfl)
  c_MOST_ROWS := He.int_ok X G (c.fact 80 (f := .int "MOST_ROWS" (2000)) rfl)
  c_MOST_SIZE := He.int_ok X G (c.fact 81 (f := .int "MOST_SIZE" (1000)) rfl)
  x_BadValue := by
    obtain ⟨t1, t2⟩ := Bool.and_eq_true_iff.mp (test_at t 29)
    obtain ⟨fd, F⟩ := c.def_ 47 (d := i_BadValue) rfl
    exact xc_ok t1 t2 (He.glo_ok X G (c.fact 57 (f := .glo "BadValue") rfl)) F ⟨rfl, rfl, rfl, by decide +kernel, rfl, by decide +kernel, by decide +kernel⟩ rfl (by decide) (by decide) rfl rfl fun _ _ _ _ _ _ us hl => match us, hl with | [_, _], _ => rfl
  x_TooMany := by
    obtain ⟨t1, t2⟩ := Bool.and_eq_true_iff.mp (test_at t 30)
    obtain ⟨fd, F⟩ := c.def_ 48 (d := i_TooMany) rfl
    exact xc_ok t1 t2 (He.glo_ok X G (c.fact 60 (f := .glo "TooMany") rfl)) F ⟨rfl, rfl, rfl, by decide +kernel, rfl, by decide +kernel, by decide +kernel⟩ rfl (by decide) (by decide) rfl rfl fun _ _ _ _ _ _ us hl => match us, hl with | [_, _], _ => rfl
theorem hotC (X : K.In h) (G : h.Ns mainGlobals mg) (t : testB K = true) (c : He.SaysD faL fnL K) : HotC P w K mg base where
  exm := CA_ind (Q := fun _ a => PySem.W.exmOne K (.ref a) (.ref (CAof K 0)) = some true) (fun c hc => of_decide_eq_true (all_at (test_at t 1) hc)) fun _ _ z => z
  a_WellError := He.glo_ok X G (c.fact 47 (f := .glo "WellError") rfl)
  named := hot_ok (df__law_named X G c) (fun f fd F => okE__law_named (txOk X G t c) (hotK X G t c) F) fun a dd c as m hn => if_neg fun z => hn z.1
  attrs := hot_ok (df__law_attributes X G c) (fun f fd F => okE__law_attributes (txOk X G t c) (hotK X G t c) F) fun a dd c as m hn => if_neg fun z => hn z.1
theorem csOk (X : K.In h) (G : h.Ns mainGlobals mg) (T : Tx K mg) (Y : HotC P w K mg base) (c : He.SaysD faL fnL K) : ∀ n, Cs P w K mg base (CAof K) (FF tab n) (n + 2)
  | 0 => {
    c_is_int := cl_zero (fn := fn_is_int) rfl (df_is_int X G c)
    c_is_between := cl_zero (fn := fn_is_between) rfl (df_is_between X G c)
    c_is_list_of := cl_zero (fn := fn_is_list_of) rfl (df_is_list_of X G c)
    c_is_tuple_of := cl_zero (fn := fn_is_tuple_of) rfl (df_is_tuple_of X G c)
    c_is_word := cl_zero (fn := fn_is_word) rfl (df_is_word X G c)
    c_is_length_row := cl_zero (fn := fn_is_length_row) rfl (df_is_length_row X G c)
    c_check_rows := cl_zero (fn := fn_check_rows) rfl (df_check_rows X G c)
    c_near_lengths := cl_zero (fn := fn_near_lengths) rfl (df_near_lengths X G c)
    c_row_starts := cl_zero (fn := fn_row_starts) rfl (df_row_starts X G c)
    c_jump_reaches := cl_zero (fn := fn_jump_reaches) rfl (df_jump_reaches X G c)
    c_jump_distances := cl_zero (fn := fn_jump_distances) rfl (df_jump_distances X G c)
    c_jump_reach := cl_zero (fn := fn_jump_reach) rfl (df_jump_reach X G c)
    c_jump_spans := cl_zero (fn := fn_jump_spans) rfl (df_jump_spans X G c)
    c_least_of := cl_zero (fn := fn_least_of) rfl (df_least_of X G c)
    c_least_lengths := cl_zero (fn := fn_least_lengths) rfl (df_least_lengths X G c)
    c_lengths_have_form := cl_zero (fn := fn_lengths_have_form) rfl (df_lengths_have_form X G c)
    c_sequence_fits := cl_zero (fn := fn_sequence_fits) rfl (df_sequence_fits X G c)
    c_is_least := cl_zero (fn := fn_is_least) rfl (df_is_least X G c)
    c__law_stream := cl_zero (fn := fn__law_stream) rfl (df__law_stream X G c)
    c__law_next := cl_zero (fn := fn__law_next) rfl (df__law_next X G c)
    c__law_pick := cl_zero (fn := fn__law_pick) rfl (df__law_pick X G c)
    c__law_from := cl_zero (fn := fn__law_from) rfl (df__law_from X G c)
    c__law_shuffled := cl_zero (fn := fn__law_shuffled) rfl (df__law_shuffled X G c)
    c__law_number := cl_zero (fn := fn__law_number) rfl (df__law_number X G c)
    c__law_is_row := cl_zero (fn := fn__law_is_row) rfl (df__law_is_row X G c)
    c__law_same := cl_zero (fn := fn__law_same) rfl (df__law_same X G c)
    c__law_copy := cl_zero (fn := fn__law_copy) rfl (df__law_copy X G c)
    c__law_spoilt := cl_zero (fn := fn__law_spoilt) rfl (df__law_spoilt X G c)
    c__law_row_starts := cl_zero (fn := fn__law_row_starts) rfl (df__law_row_starts X G c)
    c__law_reach_ok := cl_zero (fn := fn__law_reach_ok) rfl (df__law_reach_ok X G c)
    c__law_sweep := cl_zero (fn := fn__law_sweep) rfl (df__law_sweep X G c)
    c__law_some_rows := cl_zero (fn := fn__law_some_rows) rfl (df__law_some_rows X G c)
    c__law_facing := cl_zero (fn := fn__law_facing) rfl (df__law_facing X G c)
    c__law_falling := cl_zero (fn := fn__law_falling) rfl (df__law_falling X G c)
    c__law_out_of_reach := cl_zero (fn := fn__law_out_of_reach) rfl (df__law_out_of_reach X G c)
    c__law_least_ok := cl_zero (fn := fn__law_least_ok) rfl (df__law_least_ok X G c)
    c__law_other_sequence := cl_zero (fn := fn__law_other_sequence) rfl (df__law_other_sequence X G c)
    c__law_other_fit := cl_zero (fn := fn__law_other_fit) rfl (df__law_other_fit X G c)
    c__law_row_ok := cl_zero (fn := fn__law_row_ok) rfl (df__law_row_ok X G c)
    c__law_rows_ok := cl_zero (fn := fn__law_rows_ok) rfl (df__law_rows_ok X G c)
    c__law_told := cl_zero (fn := fn__law_told) rfl (df__law_told X G c)
    c__law_judged := cl_zero (fn := fn__law_judged) rfl (df__law_judged X G c)
    c__law_answers := cl_zero (fn := fn__law_answers) rfl (df__law_answers X G c)
    c__law_great := cl_zero (fn := fn__law_great) rfl (df__law_great X G c)
    c_law := cl_zero (fn := fn_law) rfl (df_law X G c)
  }
  | n + 1 => {
    c_is_int := cl_succ (fn := fn_is_int) rfl (df_is_int X G c) fun f fd F => ok_is_int T (csOk X G T Y c n) (by omega) F fun _ _ => rfl
    c_is_between := cl_succ (fn := fn_is_between) rfl (df_is_between X G c) fun f fd F => ok_is_between T (csOk X G T Y c n) (by omega) F fun _ _ => rfl
    c_is_list_of := cl_succ (fn := fn_is_list_of) rfl (df_is_list_of X G c) fun f fd F => ok_is_list_of T (csOk X G T Y c n) (by omega) F fun _ _ => rfl
    c_is_tuple_of := cl_succ (fn := fn_is_tuple_of) rfl (df_is_tuple_of X G c) fun f fd F => ok_is_tuple_of T (csOk X G T Y c n) (by omega) F fun _ _ => rfl
    c_is_word := cl_succ (fn := fn_is_word) rfl (df_is_word X G c) fun f fd F => ok_is_word T (csOk X G T Y c n) (by omega) F fun _ _ => rfl
    c_is_length_row := cl_succ (fn := fn_is_length_row) rfl (df_is_length_row X G c) fun f fd F => ok_is_length_row T (csOk X G T Y c n) (by omega) F fun _ _ => rfl
    c_check_rows := cl_succ (fn := fn_check_rows) rfl (df_check_rows X G c) fun f fd F => ok_check_rows T (csOk X G T Y c n) (by omega) F fun _ _ => rfl
    c_near_lengths := cl_succ (fn := fn_near_lengths) rfl (df_near_lengths X G c) fun f fd F => ok_near_lengths T (csOk X G T Y c n) (by omega) F fun _ _ => rfl
    c_row_starts := cl_succ (fn := fn_row_starts) rfl (df_row_starts X G c) fun f fd F => ok_row_starts T (csOk X G T Y c n) (by omega) F fun _ _ => rfl
    c_jump_reaches := cl_succ (fn := fn_jump_reaches) rfl (df_jump_reaches X G c) fun f fd F => ok_jump_reaches T (csOk X G T Y c n) (by omega) F fun _ _ => rfl
    c_jump_distances := cl_succ (fn := fn_jump_distances) rfl (df_jump_distances X G c) fun f fd F => ok_jump_distances T (csOk X G T Y c n) (by omega) F fun _ _ => rfl
    c_jump_reach := cl_succ (fn := fn_jump_reach) rfl (df_jump_reach X G c) fun f fd F => ok_jump_reach T (csOk X G T Y c n) (by omega) F fun _ _ => rfl
    c_jump_spans := cl_succ (fn := fn_jump_spans) rfl (df_jump_spans X G c) fun f fd F => ok_jump_spans T (csOk X G T Y c n) (by omega) F fun _ _ => rfl
    c_least_of := cl_succ (fn := fn_least_of) rfl (df_least_of X G c) fun f fd F => ok_least_of T (csOk X G T Y c n) (by omega) F fun _ _ => rfl
    c_least_lengths := cl_succ (fn := fn_least_lengths) rfl (df_least_lengths X G c) fun f fd F => ok_least_lengths T (csOk X G T Y c n) (by omega) F fun _ _ => rfl
    c_lengths_have_form := cl_succ (fn := fn_lengths_have_form) rfl (df_lengths_have_form X G c) fun f fd F => ok_lengths_have_form T (csOk X G T Y c n) (by omega) F fun _ _ => rfl
    c_sequence_fits := cl_succ (fn := fn_sequence_fits) rfl (df_sequence_fits X G c) fun f fd F => ok_sequence_fits T (csOk X G T Y c n) (by omega) F fun _ _ => rfl
    c_is_least := cl_succ (fn := fn_is_least) rfl (df_is_least X G c) fun f fd F => ok_is_least T (csOk X G T Y c n) (by omega) F fun _ _ => rfl
    c__law_stream := cl_succ (fn := fn__law_stream) rfl (df__law_stream X G c) fun f fd F => ok__law_stream T (csOk X G T Y c n) (by omega) F fun _ _ => rfl
    c__law_next := cl_succ (fn := fn__law_next) rfl (df__law_next X G c) fun f fd F => ok__law_next T (csOk X G T Y c n) (by omega) F fun _ _ => rfl
    c__law_pick := cl_succ (fn := fn__law_pick) rfl (df__law_pick X G c) fun f fd F => ok__law_pick T (csOk X G T Y c n) (by omega) F fun _ _ => rfl
    c__law_from := cl_succ (fn := fn__law_from) rfl (df__law_from X G c) fun f fd F => ok__law_from T (csOk X G T Y c n) (by omega) F fun _ _ => rfl
    c__law_shuffled := cl_succ (fn := fn__law_shuffled) rfl (df__law_shuffled X G c) fun f fd F => ok__law_shuffled T (csOk X G T Y c n) (by omega) F fun _ _ => rfl
    c__law_number := cl_succ (fn := fn__law_number) rfl (df__law_number X G c) fun f fd F => ok__law_number T (csOk X G T Y c n) (by omega) F fun _ _ => rfl
    c__law_is_row := cl_succ (fn := fn__law_is_row) rfl (df__law_is_row X G c) fun f fd F => ok__law_is_row T (csOk X G T Y c n) (by omega) F fun _ _ => rfl
    c__law_same := cl_succ (fn := fn__law_same) rfl (df__law_same X G c) fun f fd F => ok__law_same T (csOk X G T Y c n) (by omega) F fun _ _ => rfl
    c__law_copy := cl_succ (fn := fn__law_copy) rfl (df__law_copy X G c) fun f fd F => ok__law_copy T (csOk X G T Y c n) (by omega) F fun _ _ => rfl
    c__law_spoilt := cl_succ (fn := fn__law_spoilt) rfl (df__law_spoilt X G c) fun f fd F => ok__law_spoilt T (csOk X G T Y c n) (by omega) F fun _ _ => rfl
    c__law_row_starts := cl_succ (fn := fn__law_row_starts) rfl (df__law_row_starts X G c) fun f fd F => ok__law_row_starts T (csOk X G T Y c n) (by omega) F fun _ _ => rfl
    c__law_reach_ok := cl_succ (fn := fn__law_reach_ok) rfl (df__law_reach_ok X G c) fun f fd F => ok__law_reach_ok T (csOk X G T Y c n) (by omega) F fun _ _ => rfl
    c__law_sweep := cl_succ (fn := fn__law_sweep) rfl (df__law_sweep X G c) fun f fd F => ok__law_sweep T (csOk X G T Y c n) (by omega) F fun _ _ => rfl
    c__law_some_rows := cl_succ (fn := fn__law_some_rows) rfl (df__law_some_rows X G c) fun f fd F => ok__law_some_rows T (csOk X G T Y c n) (by omega) F fun _ _ => rfl
    c__law_facing := cl_succ (fn := fn__law_facing) rfl (df__law_facing X G c) fun f fd F => ok__law_facing T (csOk X G T Y c n) (by omega) F fun _ _ => rfl
    c__law_falling := cl_succ (fn := fn__law_falling) rfl (df__law_falling X G c) fun f fd F => ok__law_falling T (csOk X G T Y c n) (by omega) F fun _ _ => rfl
    c__law_out_of_reach := cl_succ (fn := fn__law_out_of_reach) rfl (df__law_out_of_reach X G c) fun f fd F => ok__law_out_of_reach T (csOk X G T Y c n) (by omega) F fun _ _ => rfl
    c__law_least_ok := cl_succ (fn := fn__law_least_ok) rfl (df__law_least_ok X G c) fun f fd F => ok__law_least_ok T (csOk X G T Y c n) (by omega) F fun _ _ => rfl
    c__law_other_sequence := cl_succ (fn := fn__law_other_sequence) rfl (df__law_other_sequence X G c) fun f fd F => ok__law_other_sequence T (csOk X G T Y c n) (by omega) F fun _ _ => rfl
    c__law_other_fit := cl_succ (fn := fn__law_other_fit) rfl (df__law_other_fit X G c) fun f fd F => ok__law_other_fit T (csOk X G T Y c n) (by omega) F fun _ _ => rfl
    c__law_row_ok := cl_succ (fn := fn__law_row_ok) rfl (df__law_row_ok X G c) fun f fd F => ok__law_row_ok T (csOk X G T Y c n) (by omega) F fun _ _ => rfl
    c__law_rows_ok := cl_succ (fn := fn__law_rows_ok) rfl (df__law_rows_ok X G c) fun f fd F => ok__law_rows_ok T (csOk X G T Y c n) (by omega) F fun _ _ => rfl
    c__law_told := cl_succ (fn := fn__law_told) rfl (df__law_told X G c) fun f fd F => ok__law_told T Y (csOk X G T Y c n) (by omega) F fun _ _ => rfl
    c__law_judged := cl_succ (fn := fn__law_judged) rfl (df__law_judged X G c) fun f fd F => ok__law_judged T Y (csOk X G T Y c n) (by omega) F fun _ _ => rfl
    c__law_answers := cl_succ (fn := fn__law_answers) rfl (df__law_answers X G c) fun f fd F => ok__law_answers T (csOk X G T Y c n) (by omega) F fun _ _ => rfl
    c__law_great := cl_succ (fn := fn__law_great) rfl (df__law_great X G c) fun f fd F => ok__law_great T (csOk X G T Y c n) (by omega) F fun _ _ => rfl
    c_law := cl_succ (fn := fn_law) rfl (df_law X G c) fun f fd F => ok_law T (csOk X G T Y c n) (by omega) F fun _ _ => rfl
  }
end
abbrev Rw : PySem.W.OpenRow := PySem.W.OpenLaw.row PySem.Challenge.rw_wellrun_k78_whole_least_lengths
def CLOSE : Nat := 5
abbrev hkQ : PySem.W.Hook := hookQ CLOSE testB faL fnL
def obQ (s : PySem.W.SharedT) : AlQ := obsQ CLOSE testB faL fnL (HandSHeadRun.getT s)
theorem obQ_eq (s : PySem.W.SharedT) : obQ s = hkQ.obs s.abs := obsQ_eq (HandSHeadRun.getT_eq s)
end K78

set_option Elab.async false
set_option linter.all false
set_option maxRecDepth 100000
set_option maxHeartbeats 0
/-! K78Run: the top's run -/
namespace K78
open PySem PySem.Spec PySem.W PySem.Calls PyProof.Rows L2 Pm
def loose0 : List PySem.Str := ["__name__", "is_int", "is_between", "is_list_of", "is_tuple_of", "is_word", "is_length_row", "check_rows", "near_lengths", "row_starts", "jump_reaches", "jump_distances", "jump_reach", "jump_spans", "least_of", "least_lengths"]
def loose1 : List PySem.Str := ["lengths_have_form", "sequence_fits", "is_least", "_law_stream", "_law_next", "_law_pick", "_law_from", "_law_shuffled", "_law_number", "_law_is_row", "_law_same", "_law_copy", "_law_named", "_law_attributes", "_law_spoilt", "_law_row_starts"]
def loose2 : List PySem.Str := ["_law_reach_ok", "_law_sweep", "_law_some_rows", "_law_facing", "_law_falling", "_law_out_of_reach", "_law_least_ok", "_law_other_sequence", "_law_other_fit", "_law_row_ok", "_law_rows_ok", "_law_told", "_law_judged", "_law_answers", "_law_great", "WellError"]
def loose3 : List PySem.Str := ["BadText", "BadScope", "BadTree", "BadGraph", "BadPaper", "BadPiece", "BadWords", "BadInput", "BadEdit", "BadValue", "NotTyped", "NotCompiled", "TooMany", "NothingToUndo", "NothingToRedo", "MOST_ROWS"]
def loose4 : List PySem.Str := ["MOST_SIZE", "MOST_REACH", "MOST_FAR"]
def loose : List PySem.Str := loose0 ++ loose1 ++ loose2 ++ loose3 ++ loose4
theorem run (w : World) : HandSHeadRun.RunEq Rw (PySem.W.view Rw.prog [70]) hkQ obQ 20000 loose w := by
  intro os
  kernel_rfl
end K78

set_option Elab.async false
set_option linter.all false
set_option maxRecDepth 100000
set_option maxHeartbeats 4000000
/-! PmS: the combinators at a frame that is written out; for simp. -/
namespace Pm
open PySem
section
variable {s : S} {m : List (List D)} {e : List Sl}
@[simp] theorem mVar_ap (i : Nat) (s : S) : mVar i s = (match s.env[i]? with
  | some (.val d) => .ok (.d d) s
  | some (.own _) => .ok (.slt i) s
  | some (.bor _) => .ok (.slt i) s
  | some (.ro _) => .ok (.slt i) s
  | some (.exc _ _ _) => .ok (.slt i) s
  | _ => .st) := rfl
@[simp] theorem mC_ap (d : D) (s : S) : mC d s = .ok (.d d) s := rfl
@[simp] theorem mBin_ap (f : S → R → R → Option R) (a b : Me) (s : S) : mBin f a b s = (a s).bind fun x s1 => (b s1).bind fun y s2 => ofR (f s2 x y) s2 := rfl
@[simp] theorem mUn_ap (f : S → R → Option R) (a : Me) (s : S) : mUn f a s = (a s).bind fun x s1 => ofR (f s1 x) s1 := rfl
@[simp] theorem aNil_ap (s : S) : aNil s = .ok [] s := rfl
@[simp] theorem aCons_ap (a : Me) (b : Ma) (s : S) : aCons a b s = (a s).bind fun x s1 => (b s1).bind fun xs s2 => .ok (x :: xs) s2 := rfl
@[simp] theorem mB_ap (f : S → List R → Option R) (a : Ma) (s : S) : mB f a s = (a s).bind fun rs s1 => ofR (f s1 rs) s1 := rfl
@[simp] theorem mCall_ap (F : Fns) (f : Nat) (a : Ma) (s : S) : mCall F f a s = (a s).bind fun rs s1 => match toArgs s1 rs with
  | some as => fromFo (F f as s1.mem) s1
  | none => .st := rfl
@[simp] theorem tV_ap (a : Me) (s : S) : tV a s = asB (a s) := rfl
@[simp] theorem tAnd_ap (a b : Mt) (s : S) : tAnd a b s = (a s).bind fun c s1 => if c = true then b s1 else .ok false s1 := rfl
@[simp] theorem tOr_ap (a b : Mt) (s : S) : tOr a b s = (a s).bind fun c s1 => if c = true then .ok true s1 else b s1 := rfl
@[simp] theorem tNot_ap (a : Mt) (s : S) : tNot a s = (a s).bind fun c s1 => .ok (!c) s1 := rfl
@[simp] theorem mAnd_ap (a b : Me) (s : S) : mAnd a b s = (asB (a s)).bind fun c s1 => if c = true then b s1 else .ok (.d (.bl false)) s1 := rfl
@[simp] theorem mOr_ap (a b : Me) (s : S) : mOr a b s = (asB (a s)).bind fun c s1 => if c = true then .ok (.d (.bl true)) s1 else b s1 := rfl
@[simp] theorem mNot_ap (a : Me) (s : S) : mNot a s = (asB (a s)).bind fun c s1 => .ok (.d (.bl (!c))) s1 := rfl
@[simp] theorem mIf_ap (c : Mt) (a b : Me) (s : S) : mIf c a b s = (c s).bind fun k s1 => if k = true then a s1 else b s1 := rfl
@[simp] theorem sNx_ap (s : S) : sNx s = .ok .nx s := rfl
@[simp] theorem sBk_ap (s : S) : sBk s = .ok .bk s := rfl
@[simp] theorem sCt_ap (s : S) : sCt s = .ok .ct s := rfl
@[simp] theorem sSeq_ap (a b : Ms) (s : S) : sSeq a b s = (a s).bind fun f s1 => match f with
  | .nx => b s1
  | f => .ok f s1 := rfl
@[simp] theorem sRet_ap (a : Me) (s : S) : sRet a s = (a s).bind fun r s1 => .ok (.rt r) s1 := rfl
@[simp] theorem sDrop_ap (a : Me) (s : S) : sDrop a s = (a s).bind fun _ s1 => .ok .nx s1 := rfl
@[simp] theorem sSet_ap (i : Nat) (a : Me) (s : S) : sSet i a s = (a s).bind fun r s1 => match r.toD with
  | some d => .ok .nx (setVal s1 i (.val d))
  | none => .st := rfl
@[simp] theorem sOwn_ap (i : Nat) (a : Me) (s : S) : sOwn i a s = (a s).bind fun r s1 => match r with
  | .fr l => .ok .nx (setVal s1 i (.own l))
  | _ => .st := rfl
@[simp] theorem sIf_ap (c : Mt) (a b : Ms) (s : S) : sIf c a b s = (c s).bind fun k s1 => if k = true then a s1 else b s1 := rfl
@[simp] theorem setVal_ap (e : List Sl) (m : List (List D)) (i : Nat) (x : Sl) : setVal ⟨e, m⟩ i x = ⟨e.set i x, m⟩ := rfl
@[simp] theorem toArgs_nil (s : S) : toArgs s [] = some [] := rfl
@[simp] theorem toArgs_cons (s : S) (r : R) (rs : List R) : toArgs s (r :: rs) = (match r.arg s, toArgs s rs with
  | some x, some xs => some (x :: xs)
  | _, _ => none) := rfl
@[simp] theorem arg_d (s : S) (x : D) : R.arg s (.d x) = some (.val x) := rfl
@[simp] theorem arg_fr (s : S) (l : List D) : R.arg s (.fr l) = some (.val (.lst l)) := rfl
@[simp] theorem arg_slt (s : S) (i : Nat) : R.arg s (.slt i) = (match s.env[i]? with
  | some (.own l) => some (.bor l)
  | some (.bor l) => some (.bor l)
  | some (.ro l) => some (.ro l)
  | some (.exc a dd fs) => some (.exc a dd fs)
  | _ => none) := rfl
@[simp] theorem toD_d (x : D) : R.toD (.d x) = some x := rfl
@[simp] theorem toD_fr (l : List D) : R.toD (.fr l) = some (.lst l) := rfl
@[simp] theorem fromFo_d (x : D) (m : List (List D)) (s : S) : fromFo (.ok (.d x) m) s = .ok (.d x) ⟨s.env, m⟩ := rfl
@[simp] theorem fromFo_fr (l : List D) (m : List (List D)) (s : S) : fromFo (.ok (.fr l) m) s = .ok (.fr l) ⟨s.env, m⟩ := rfl
@[simp] theorem fromFo_ex (x : Xn) (m : List (List D)) (s : S) : fromFo (.ex x m) s = .ex x ⟨s.env, m⟩ := rfl
@[simp] theorem retOf_nx (s : S) : retOf (.ok .nx s) = .ok (.d .non) s.mem := rfl
@[simp] theorem retOf_d (x : D) (s : S) : retOf (.ok (.rt (.d x)) s) = .ok (.d x) s.mem := rfl
@[simp] theorem retOf_fr (l : List D) (s : S) : retOf (.ok (.rt (.fr l)) s) = .ok (.fr l) s.mem := rfl
@[simp] theorem retOf_slt (i : Nat) (s : S) : retOf (.ok (.rt (.slt i)) s) = (match s.env[i]? with
  | some (.own l) => .ok (.fr l) s.mem
  | _ => .st) := rfl
@[simp] theorem retOf_ex (x : Xn) (s : S) : retOf (.ex x s) = .ex x s.mem := rfl
@[simp] theorem lr_lst (s : S) (l : List D) : s.lr (.d (.lst l)) = some l := rfl
@[simp] theorem lr_fr (s : S) (l : List D) : s.lr (.fr l) = some l := rfl
@[simp] theorem lr_slt (s : S) (i : Nat) : s.lr (.slt i) = (match s.env[i]? with
  | some (.own l) => some l
  | some (.bor l) => some l
  | some (.ro l) => some l
  | _ => none) := rfl
@[simp] theorem lv_lst (s : S) (l : List D) : s.lv (.d (.lst l)) = some l := rfl
@[simp] theorem lv_fr (s : S) (l : List D) : s.lv (.fr l) = some l := rfl
@[simp] theorem lv_slt (s : S) (i : Nat) : s.lv (.slt i) = (match s.env[i]? with
  | some (.own l) => some l
  | some (.bor l) => some l
  | _ => none) := rfl
@[simp] theorem lstOf_lst (s : S) (l : List D) : s.lstOf (.d (.lst l)) = some l := rfl
@[simp] theorem lstOf_fr (s : S) (l : List D) : s.lstOf (.fr l) = some l := rfl
@[simp] theorem lstOf_slt (s : S) (i : Nat) : s.lstOf (.slt i) = (match s.env[i]? with
  | some (.bor l) => some l
  | some (.ro l) => some l
  | _ => none) := rfl
@[simp] theorem seqX_tup (s : S) (l : List D) : s.seqX (.d (.tup l)) = some l := rfl
@[simp] theorem seqX_lst (s : S) (l : List D) : s.seqX (.d (.lst l)) = some l := rfl
@[simp] theorem seqX_fr (s : S) (l : List D) : s.seqX (.fr l) = some l := rfl
@[simp] theorem seqX_hnd (s : S) (k : Nat) : s.seqX (.d (.hnd k)) = s.mem[k]? := rfl
@[simp] theorem seqX_slt (s : S) (i : Nat) : s.seqX (.slt i) = s.lr (.slt i) := rfl
@[simp] theorem liftI_ok (r : R) (s : S) (f : R → S → Option (List D)) : liftI (.ok r s) f = (match f r s with
  | some l => .ok l s
  | none => .st) := rfl
@[simp] theorem iLst_ap (a : Me) (s : S) : iLst a s = liftI (a s) fun r s1 => s1.lstOf r := rfl
@[simp] theorem iEnum_ap (a : Me) (s : S) : Pm.iEnum a s = liftI (a s) fun r s1 => (s1.lstOf r).map (enumFrom 0) := rfl
@[simp] theorem tYes_ap (s : S) : Pm.tYes s = .ok true s := rfl
@[simp] theorem put_name (i : Nat) (d : D) (s : S) : Tg.put (.name i) d s = some (setVal s i (.val d)) := rfl
@[simp] theorem put_tup (is : List Nat) (ds : List D) (s : S) : Tg.put (.tup is) (.tup ds) s = setVals s is ds := rfl
@[simp] theorem setVals_nil (s : S) : setVals s [] [] = some s := rfl
@[simp] theorem setVals_cons (s : S) (i : Nat) (is : List Nat) (d : D) (ds : List D) : setVals s (i :: is) (d :: ds) = setVals (setVal s i (.val d)) is ds := rfl
@[simp] theorem sFor_ap (tg : Tg) (src : Mi) (b : Ms) (s : S) : sFor tg src b s = (src s).bind fun items s1 => forL tg b items s1 := rfl
@[simp] theorem mLst_ap (a : Ma) (s : S) : mLst a s = (a s).bind fun rs s1 => match toDs rs with
  | some ds => if ds.length ≤ LIM then .ok (.fr ds) s1 else .st
  | none => .st := rfl
@[simp] theorem mTup_ap (a : Ma) (s : S) : mTup a s = (a s).bind fun rs s1 => match toDs rs with
  | some ds => if ds.length ≤ LIM then .ok (.d (.tup ds)) s1 else .st
  | none => .st := rfl
@[simp] theorem toDs_nil : toDs [] = some [] := rfl
@[simp] theorem toDs_cons (r : R) (rs : List R) : toDs (r :: rs) = (match r.toD, toDs rs with
  | some d, some ds => some (d :: ds)
  | _, _ => none) := rfl
@[simp] theorem sFrz_ap (is : List Nat) (a : Ms) (s : S) : sFrz is a s = a (is.foldl frz s) := rfl
@[simp] theorem frz_ap (e : List Sl) (m : List (List D)) (i : Nat) : frz ⟨e, m⟩ i = (match e[i]? with
  | some (.own l) => ⟨e.set i (.val (.lst l)), m⟩
  | _ => ⟨e, m⟩) := by
  unfold frz setVal
  split <;> simp_all
end
section
variable {s : S}
@[simp] theorem opEq_int (s : S) (i j : Int) : opEq s (.d (.int i)) (.d (.int j)) = some (.d (.bl (decide (i = j)))) := rfl
@[simp] theorem opEq_str (s : S) (a b : Str) : opEq s (.d (.str a)) (.d (.str b)) = some (.d (.bl (decide (a = b)))) := rfl
@[simp] theorem opNe_int (s : S) (i j : Int) : opNe s (.d (.int i)) (.d (.int j)) = some (.d (.bl (!decide (i = j)))) := rfl
@[simp] theorem opNe_str (s : S) (a b : Str) : opNe s (.d (.str a)) (.d (.str b)) = some (.d (.bl (!decide (a = b)))) := rfl
@[simp] theorem opNe_bl (s : S) (a b : Bool) : opNe s (.d (.bl a)) (.d (.bl b)) = some (.d (.bl (!decide (a = b)))) := rfl
@[simp] theorem opLt_int (s : S) (i j : Int) : opLt s (.d (.int i)) (.d (.int j)) = some (.d (.bl (decide (i < j)))) := rfl
@[simp] theorem opLe_int (s : S) (i j : Int) : opLe s (.d (.int i)) (.d (.int j)) = some (.d (.bl (decide (i ≤ j)))) := rfl
@[simp] theorem opGt_int (s : S) (i j : Int) : opGt s (.d (.int i)) (.d (.int j)) = some (.d (.bl (decide (j < i)))) := rfl
@[simp] theorem opGe_int (s : S) (i j : Int) : opGe s (.d (.int i)) (.d (.int j)) = some (.d (.bl (decide (j ≤ i)))) := rfl
@[simp] theorem opAdd_int (s : S) (i j : Int) : opAdd s (.d (.int i)) (.d (.int j)) = some (.d (.int (i + j))) := rfl
@[simp] theorem opAddI_int (s : S) (i j : Int) : opAddI s (.d (.int i)) (.d (.int j)) = some (.d (.int (i + j))) := rfl
@[simp] theorem opSub_int (s : S) (i j : Int) : opSub s (.d (.int i)) (.d (.int j)) = some (.d (.int (i - j))) := rfl
@[simp] theorem opNeg_int (s : S) (i : Int) : opNeg s (.d (.int i)) = some (.d (.int (-i))) := rfl
@[simp] theorem opIx_ap (s : S) (x : R) (i : Int) : opIx s x (.d (.int i)) = (s.seqX x).bind fun l => (atD l i).map .d := by
  unfold opIx
  cases s.seqX x <;> rfl
@[simp] theorem bLen_ap (s : S) (x : R) : bLen s [x] = (asLen s x).map fun n => .d (.int (n : Nat)) := rfl
@[simp] theorem asLen_lst (s : S) (l : List D) : asLen s (.d (.lst l)) = some l.length := rfl
@[simp] theorem asLen_tup (s : S) (l : List D) : asLen s (.d (.tup l)) = some l.length := rfl
@[simp] theorem asLen_fr (s : S) (l : List D) : asLen s (.fr l) = some l.length := rfl
@[simp] theorem asLen_slt (s : S) (i : Nat) : asLen s (.slt i) = (s.lr (.slt i)).map List.length := rfl
@[simp] theorem asLen_hnd (s : S) (k : Nat) : asLen s (.d (.hnd k)) = (s.mem[k]?).map List.length := rfl
@[simp] theorem bIsi_ap (s : S) (x : R) (t : String) : bIsi s [x, .d (.ty t)] = (match tyD s x with
  | some a => (kitD a t).map fun b => .d (.bl b)
  | none => none) := rfl
@[simp] theorem tyD_int (s : S) (i : Int) : tyD s (.d (.int i)) = some "int" := rfl
@[simp] theorem tyD_bl (s : S) (b : Bool) : tyD s (.d (.bl b)) = some "bool" := rfl
@[simp] theorem tyD_non (s : S) : tyD s (.d .non) = some "NoneType" := rfl
@[simp] theorem tyD_str (s : S) (x : Str) : tyD s (.d (.str x)) = some "str" := rfl
@[simp] theorem tyD_tup (s : S) (l : List D) : tyD s (.d (.tup l)) = some "tuple" := rfl
@[simp] theorem tyD_lst (s : S) (l : List D) : tyD s (.d (.lst l)) = some "list" := rfl
@[simp] theorem tyD_fr (s : S) (l : List D) : tyD s (.fr l) = some "list" := rfl
@[simp] theorem tyD_slt (s : S) (i : Nat) : tyD s (.slt i) = (s.lv (.slt i)).map fun _ => "list" := rfl
@[simp] theorem kit_int (a : String) : kitD a "int" = some (a == "int" || a == "bool") := rfl
@[simp] theorem kit_bool (a : String) : kitD a "bool" = some (a == "bool") := rfl
@[simp] theorem kit_str (a : String) : kitD a "str" = some (a == "str") := rfl
@[simp] theorem kit_list (a : String) : kitD a "list" = some (a == "list") := rfl
@[simp] theorem kit_tuple (a : String) : kitD a "tuple" = some (a == "tuple") := rfl
@[simp] theorem kit_dict (a : String) : kitD a "dict" = some false := rfl
@[simp] theorem opIs_non (s : S) (x : D) : opIs s (.d x) (.d .non) = some (.d (.bl (isNonD x))) := rfl
@[simp] theorem opIsnt_non (s : S) (x : D) : opIsnt s (.d x) (.d .non) = some (.d (.bl (!isNonD x))) := rfl
@[simp] theorem nonD_non : isNonD .non = true := rfl
@[simp] theorem nonD_int (i : Int) : isNonD (.int i) = false := rfl
@[simp] theorem nonD_lst (l : List D) : isNonD (.lst l) = false := rfl
@[simp] theorem nonD_tup (l : List D) : isNonD (.tup l) = false := rfl
@[simp] theorem nonD_str (x : Str) : isNonD (.str x) = false := rfl
@[simp] theorem nonD_bl (b : Bool) : isNonD (.bl b) = false := rfl
@[simp] theorem atD_zero (a : D) (l : List D) : atD (a :: l) 0 = some a := by simp [atD, Pm.ixN]
theorem atD_nat (l : List D) (k : Nat) : atD l (k : Int) = l[k]? := by
  unfold atD Pm.ixN
  rw [if_pos (Int.natCast_nonneg k)]
  by_cases h : k < l.length
  · rw [if_pos (Int.ofNat_lt.mpr h)]
    show l[(k : Int).toNat]? = _
    rw [Int.toNat_natCast]
  · rw [if_neg (fun z => h (Int.ofNat_lt.mp z)), List.getElem?_eq_none (by omega)]
    rfl
theorem atD_int (l : List D) (i : Int) (h : 0 ≤ i) : atD l i = l[i.toNat]? := by
  rw [← atD_nat, Int.toNat_of_nonneg h]
@[simp] theorem atD_1 (a b : D) (l : List D) : atD (a :: b :: l) 1 = some b := (atD_nat _ 1).trans rfl
@[simp] theorem atD_2 (a b c : D) (l : List D) : atD (a :: b :: c :: l) 2 = some c := (atD_nat _ 2).trans rfl
@[simp] theorem atD_3 (a b c d : D) (l : List D) : atD (a :: b :: c :: d :: l) 3 = some d := (atD_nat _ 3).trans rfl
@[simp] theorem atD_4 (a b c d e : D) (l : List D) : atD (a :: b :: c :: d :: e :: l) 4 = some e := (atD_nat _ 4).trans rfl
end
/-! ### comprehensions, loops -/
@[simp] theorem wipe_ap (e : List Sl) (m : List (List D)) (is : List Nat) : wipe ⟨e, m⟩ is = ⟨wipeE e is, m⟩ := rfl
@[simp] theorem wipeE_nil (e : List Sl) : wipeE e [] = e := rfl
@[simp] theorem wipeE_cons (e : List Sl) (i : Nat) (is : List Nat) : wipeE e (i :: is) = (wipeE e is).set i .un := rfl
@[simp] theorem restE_nil (e e1 : List Sl) : restE e e1 [] = e := rfl
@[simp] theorem restE_cons (e e1 : List Sl) (i : Nat) (is : List Nat) : restE e e1 (i :: is) = (match e1[i]? with
  | some b => (restE e e1 is).set i b
  | none => restE e e1 is) := rfl
@[simp] theorem notOwn_un : notOwn (some .un) = true := rfl
@[simp] theorem notOwn_val (d : D) : notOwn (some (.val d)) = true := rfl
@[simp] theorem notOwn_none : notOwn none = true := rfl
@[simp] theorem slots_name (i : Nat) : Tg.slots (.name i) = [i] := rfl
@[simp] theorem slots_tup (is : List Nat) : Tg.slots (.tup is) = is := rfl
@[simp] theorem noEx_ok {α : Type} (a : α) (s : S) : noEx (.ok a s) = .ok a s := rfl
@[simp] theorem mComp_ap (own : List Nat) (tg : Tg) (src : Mi) (c : Mt) (e : Me) (s : S) : mComp own tg src c e s = (src s).bind fun items s1 =>
  if (own.all fun i => notOwn s1.env[i]?) = true ∧ (tg.slots.all fun i => own.contains i) = true then
    noEx ((compL own tg c e items (wipe s1 own) []).bind fun l s2 => .ok (.fr l) { s2 with env := restE s2.env s1.env own }) else .st := rfl
theorem compL_ok {own : List Nat} {tg : Tg} {c : Mt} {e : Me} {s : S} (p : D → Bool) (f : D → D) : ∀ (items acc : List D), (∀ x ∈ items, ∃ s1, tg.put x s = some s1 ∧ c s1 = .ok (p x) s1 ∧ wipe s1 own = s ∧ (p x = true → ∃ r, e s1 = .ok r s1 ∧ r.toD = some (f x))) →
    acc.length + items.length ≤ LIM → compL own tg c e items s acc = .ok (acc ++ (items.filter p).map f) s
  | [], acc, _, _ => by simp [compL]
  | x :: xs, acc, h, hl => by
    obtain ⟨s1, h1, h2, h3, h4⟩ := h x List.mem_cons_self
    have hl2 : acc.length + xs.length + 1 ≤ LIM := by simpa [Nat.add_assoc] using hl
    unfold compL
    rw [h1]
    dsimp only
    rw [h2]
    simp only [Ou.bind_ok]
    cases hp : p x with
    | true =>
      obtain ⟨r, h5, h6⟩ := h4 hp
      rw [if_pos rfl, h5]
      simp only [Ou.bind_ok, h6]
      rw [if_pos (by omega), h3, compL_ok p f xs (acc ++ [f x]) (fun y hy => h y (List.mem_cons_of_mem _ hy)) (by rw [List.length_append]; simp; omega)]
      simp [List.filter_cons, hp]
    | false =>
      rw [if_neg (by simp), h3, compL_ok p f xs acc (fun y hy => h y (List.mem_cons_of_mem _ hy)) (by omega)]
      simp [List.filter_cons, hp]
theorem compL_map {own : List Nat} {tg : Tg} {e : Me} {s : S} (f : D → D) (items : List D) (h : ∀ x ∈ items, ∃ s1, tg.put x s = some s1 ∧ wipe s1 own = s ∧ ∃ r, e s1 = .ok r s1 ∧ r.toD = some (f x)) (hl : items.length ≤ LIM) :
    compL own tg Pm.tYes e items s [] = .ok (items.map f) s := by
  have := compL_ok (own := own) (tg := tg) (c := Pm.tYes) (e := e) (s := s) (fun _ => true) f items [] (fun x hx => by
    obtain ⟨s1, h1, h2, h3⟩ := h x hx
    exact ⟨s1, h1, rfl, h2, fun _ => h3⟩) (by simpa using hl)
  rw [this, List.filter_eq_self.mpr (fun _ _ => rfl)]
  rfl
/-- a loop that keeps a relation: I k s before item k -/
theorem forL_ok {tg : Tg} {b : Ms} (I : Nat → S → Prop) : ∀ (items : List D) (k : Nat) (s : S), I k s → (∀ (j : Nat) (x : D) (s : S), items[j]? = some x → I (k + j) s → ∃ s1 s2 f, tg.put x s = some s1 ∧ b s1 = .ok f s2 ∧ (f = .nx ∨ f = .ct) ∧ I (k + j + 1) s2) →
    ∃ s', forL tg b items s = .ok .nx s' ∧ I (k + items.length) s'
  | [], k, s, h, _ => ⟨s, rfl, h⟩
  | x :: xs, k, s, h, hb => by
    obtain ⟨s1, s2, f, h1, h2, h3, h4⟩ := hb 0 x s rfl h
    obtain ⟨s', h5, h6⟩ := forL_ok I xs (k + 1) s2 h4 (fun j y s hy hI => by
      have := hb (j + 1) y s hy (by rw [show k + (j + 1) = k + 1 + j by omega]; exact hI)
      rw [show k + (j + 1) + 1 = k + 1 + j + 1 by omega] at this
      exact this)
    refine ⟨s', ?_, by rw [List.length_cons, show k + (xs.length + 1) = k + 1 + xs.length by omega]; exact h6⟩
    unfold forL
    rw [h1]
    dsimp only
    rw [h2]
    rcases h3 with rfl | rfl <;> exact h5
/-- a fold that may stop -/
def runO {σ : Type} (step : σ → D → Option σ) : List D → σ → Option σ
  | [], a => some a
  | x :: xs, a => (step a x).bind (runO step xs)
/-- a loop that goes on or returns r -/
theorem forL_fold {σ : Type} {tg : Tg} {b : Ms} (Inv : σ → S → Prop) (step : σ → D → Option σ) (r : R) (M : List (List D)) : ∀ (items : List D) (a : σ) (s : S), Inv a s →
    (∀ x ∈ items, ∀ a s, Inv a s → ∃ s1 s2, tg.put x s = some s1 ∧ match step a x with
      | some a' => (b s1 = .ok .nx s2 ∨ b s1 = .ok .ct s2) ∧ Inv a' s2
      | none => b s1 = .ok (.rt r) s2 ∧ s2.mem = M) →
    ∃ s', match runO step items a with
      | some a' => forL tg b items s = .ok .nx s' ∧ Inv a' s'
      | none => forL tg b items s = .ok (.rt r) s' ∧ s'.mem = M
  | [], a, s, h, _ => ⟨s, rfl, h⟩
  | x :: xs, a, s, h, hb => by
    obtain ⟨s1, s2, h1, h2⟩ := hb x List.mem_cons_self a s h
    unfold forL runO
    rw [h1]
    dsimp only
    cases hs : step a x with
    | none =>
      rw [hs] at h2
      refine ⟨s2, ?_⟩
      dsimp only [Option.bind]
      rw [h2.1]
      exact ⟨rfl, h2.2⟩
    | some a' =>
      rw [hs] at h2
      obtain ⟨s', h3⟩ := forL_fold Inv step r M xs a' s2 h2.2 fun y hy => hb y (List.mem_cons_of_mem _ hy)
      refine ⟨s', ?_⟩
      dsimp only [Option.bind]
      rcases h2.1 with e | e <;> rw [e] <;> exact h3
/-- a call of the table at depth n + 1 -/
theorem FF_at {tab : Nat → Option Fn} {n j : Nat} {fn : Fn} {as : List Arg} {m : List (List D)} (h : tab j = some fn) (ha : as.length = fn.pars) (hp : fn.pars ≤ fn.slots) :
    FF tab (n + 1) j as m = retOf (fn.body (FF tab n) { env := startEnv as fn.slots, mem := m }) := by
  show (match tab j with
    | some fn => runFn fn (FF tab n) as m
    | none => .st) = _
  rw [h]
  exact if_pos ⟨ha, hp⟩
end Pm

set_option Elab.async false
set_option linter.all false
/-! K78LB: printed by wip/mkloops.py: loops and comprehensions of the bodies -/
namespace K78
open Pm
def lc_check_rows_0 (F : Fns) : Mt := (Pm.tYes)
def le_check_rows_0 (F : Fns) : Me := (mCall F 5 (aCons (mVar 1) (aCons (mB bLen (aCons (mVar 0) (aNil))) (aNil))))
def lc_near_lengths_0 (F : Fns) : Mt := (Pm.tYes)
def le_near_lengths_0 (F : Fns) : Me := (mIf (tV (mBin opEq (mBin opIx (mVar 1) (mC (.int 0))) (mC (.str "size")))) (mBin opIx (mVar 1) (mC (.int 1))) (mC (.int 1)))
def lb_row_starts_0 (F : Fns) : Ms := (sApp (mVar 1) (mBin opAdd (mBin opIx (mVar 1) (mUn opNeg (mC (.int 1)))) (mVar 2)))
def lc_jump_distances_0 (F : Fns) : Mt := (Pm.tYes)
def le_jump_distances_0 (F : Fns) : Me := (mIf (tV (mBin opEq (mBin opIx (mVar 4) (mC (.int 0))) (mC (.str "size")))) (mC (.int 0)) (mB bAbs (aCons (mBin opSub (mBin opIx (mVar 2) (mBin opIx (mVar 4) (mC (.int 1)))) (mBin opIx (mVar 2) (mVar 3))) (aNil))))
def lc_least_of_0 (F : Fns) : Mt := (Pm.tYes)
def le_least_of_0 (F : Fns) : Me := (mAnd (mBin opEq (mBin opIx (mVar 9) (mC (.int 0))) (mC (.str "jump"))) (mBin opLe (mBin opIx (mVar 2) (mVar 8)) (mCall F 11 (aCons (mVar 9) (aCons (mVar 8) (aNil))))))
def lc_least_of_1 (F : Fns) : Mt := (Pm.tAnd (tV (mBin opEq (mBin opIx (mVar 9) (mC (.int 0))) (mC (.str "jump")))) (Pm.tNot (tV (mBin opIx (mVar 3) (mVar 8)))))
def le_least_of_1 (F : Fns) : Me := (mVar 8)
def lc_least_of_2 (F : Fns) : Mt := (tV (mBin opIx (mVar 3) (mVar 8)))
def le_least_of_2 (F : Fns) : Me := (mB bAbs (aCons (mBin opSub (mBin opIx (mVar 9) (mC (.int 1))) (mVar 8)) (aNil)))
def lc_least_of_3 (F : Fns) : Mt := (tV (mBin opLt (mB bLen (aCons (mVar 6) (aNil))) (mB bLen (aCons (mVar 4) (aNil)))))
def lb_least_of_3 (F : Fns) : Ms := (sSeq (sSet 7 (mBin opIx (mVar 4) (mB bLen (aCons (mVar 6) (aNil))))) (sSeq (sApp (mVar 6) (mVar 7)) (sSeq (sSetIx (mVar 1) (mVar 7) (mBin opIx (mBin opIx (mVar 0) (mVar 7)) (mC (.int 4)))) (sFor (.name 8) (iR2 (mB bMax2 (aCons (mC (.int 0)) (aCons (mBin opSub (mVar 7) (mVar 5)) (aNil)))) (mB bMin2 (aCons (mB bLen (aCons (mVar 0) (aNil))) (aCons (mBin opAdd (mBin opAdd (mVar 7) (mVar 5)) (mC (.int 1))) (aNil))))) (sIf (Pm.tAnd (tV (mBin opIx (mVar 3) (mVar 8))) (tV (mCall F 12 (aCons (mBin opIx (mVar 0) (mVar 8)) (aCons (mVar 8) (aCons (mVar 7) (aNil))))))) (sSeq (sAugIx opAddI (mVar 2) (mVar 8) (mBin opSub (mBin opIx (mBin opIx (mVar 0) (mVar 7)) (mC (.int 4))) (mC (.int 1)))) (sIf (tV (mBin opGt (mBin opIx (mVar 2) (mVar 8)) (mCall F 11 (aCons (mBin opIx (mVar 0) (mVar 8)) (aCons (mVar 8) (aNil)))))) (sSeq (sSetIx (mVar 3) (mVar 8) (mC (.bl false))) (sApp (mVar 4) (mVar 8))) (sNx))) (sNx))))))
def lb_least_of_4 (F : Fns) : Ms := (sIf (Pm.tAnd (tV (mBin opIx (mVar 3) (mVar 8))) (tV (mCall F 12 (aCons (mBin opIx (mVar 0) (mVar 8)) (aCons (mVar 8) (aCons (mVar 7) (aNil))))))) (sSeq (sAugIx opAddI (mVar 2) (mVar 8) (mBin opSub (mBin opIx (mBin opIx (mVar 0) (mVar 7)) (mC (.int 4))) (mC (.int 1)))) (sIf (tV (mBin opGt (mBin opIx (mVar 2) (mVar 8)) (mCall F 11 (aCons (mBin opIx (mVar 0) (mVar 8)) (aCons (mVar 8) (aNil)))))) (sSeq (sSetIx (mVar 3) (mVar 8) (mC (.bl false))) (sApp (mVar 4) (mVar 8))) (sNx))) (sNx))
def lb_lengths_have_form_0 (F : Fns) : Ms := (sSeq (sIf (Pm.tAnd (tV (mBin opEq (mBin opIx (mVar 3) (mC (.int 0))) (mC (.str "size")))) (Pm.tNot (tV (mCall F 1 (aCons (mBin opIx (mVar 1) (mVar 2)) (aCons (mBin opIx (mVar 3) (mC (.int 1))) (aCons (mBin opIx (mVar 3) (mC (.int 1))) (aNil)))))))) (sRet (mC (.bl false))) (sNx)) (sIf (Pm.tAnd (tV (mBin opEq (mBin opIx (mVar 3) (mC (.int 0))) (mC (.str "jump")))) (Pm.tAnd (Pm.tNot (tV (mCall F 1 (aCons (mBin opIx (mVar 1) (mVar 2)) (aCons (mC (.int 1)) (aCons (mC (.int 1)) (aNil))))))) (Pm.tNot (tV (mCall F 1 (aCons (mBin opIx (mVar 1) (mVar 2)) (aCons (mBin opIx (mVar 3) (mC (.int 4))) (aCons (mBin opIx (mVar 3) (mC (.int 4))) (aNil))))))))) (sRet (mC (.bl false))) (sNx)))
def lc_sequence_fits_0 (F : Fns) : Mt := (Pm.tAnd (tV (mBin opEq (mBin opIx (mVar 6) (mC (.int 0))) (mC (.str "jump")))) (tV (mBin opGt (mBin opIx (mVar 1) (mVar 5)) (mC (.int 1)))))
def le_sequence_fits_0 (F : Fns) : Me := (mVar 5)
def lb_sequence_fits_1 (F : Fns) : Ms := (sSeq (sIf (Pm.tOr (Pm.tNot (tV (mCall F 1 (aCons (mVar 5) (aCons (mC (.int 0)) (aCons (mBin opSub (mB bLen (aCons (mVar 0) (aNil))) (mC (.int 1))) (aNil))))))) (Pm.tOr (tV (mBin opEq (mBin opIx (mBin opIx (mVar 0) (mVar 5)) (mC (.int 0))) (mC (.str "size")))) (tV (mBin opGt (mBin opIx (mVar 4) (mVar 5)) (mC (.int 1)))))) (sRet (mC (.bl false))) (sNx)) (sSeq (sIf (tV (mCall F 9 (aCons (mBin opIx (mVar 0) (mVar 5)) (aCons (mVar 5) (aCons (mCall F 8 (aCons (mVar 4) (aNil))) (aNil)))))) (sRet (mC (.bl false))) (sNx)) (sSetIx (mVar 4) (mVar 5) (mBin opIx (mBin opIx (mVar 0) (mVar 5)) (mC (.int 4))))))
def lb_is_least_0 (F : Fns) : Ms := (sIf (Pm.tAnd (tV (mBin opEq (mBin opIx (mVar 6) (mC (.int 0))) (mC (.str "jump")))) (Pm.tAnd (tV (mBin opEq (mBin opIx (mVar 3) (mVar 5)) (mC (.int 1)))) (Pm.tNot (tV (mCall F 9 (aCons (mVar 6) (aCons (mVar 5) (aCons (mVar 2) (aNil))))))))) (sRet (mC (.bl false))) (sNx))
def lb__law_shuffled_0 (F : Fns) : Ms := (sApp (mVar 3) (mPopAt (mVar 2) (mCall F 19 (aCons (mVar 0) (aCons (mB bLen (aCons (mVar 2) (aNil))) (aNil))))))
def lb__law_same_0 (F : Fns) : Ms := (sSeq (sIf (tV (mBin opEq (mB bLen (aCons (mVar 2) (aNil))) (mC (.int 0)))) (sRet (mC (.bl true))) (sNx)) (sSeq (sUnp [4, 5] (mPop (mVar 2))) (sIf (Pm.tOr (tV (mB bIsi (aCons (mVar 5) (aCons (mC (.ty "tuple")) (aNil))))) (tV (mB bIsi (aCons (mVar 5) (aCons (mC (.ty "list")) (aNil)))))) (sSeq (sIf (Pm.tOr (tV (mBin opNe (mB bIsi (aCons (mVar 5) (aCons (mC (.ty "tuple")) (aNil)))) (mB bIsi (aCons (mVar 4) (aCons (mC (.ty "tuple")) (aNil)))))) (Pm.tOr (tV (mBin opNe (mB bIsi (aCons (mVar 5) (aCons (mC (.ty "list")) (aNil)))) (mB bIsi (aCons (mVar 4) (aCons (mC (.ty "list")) (aNil)))))) (tV (mBin opNe (mB bLen (aCons (mVar 4) (aNil))) (mB bLen (aCons (mVar 5) (aNil))))))) (sRet (mC (.bl false))) (sNx)) (sExt (mVar 2) (mComp [6] (.name 6) (iR1 (mB bLen (aCons (mVar 5) (aNil)))) (Pm.tYes) (mTup (aCons (mBin opIx (mVar 4) (mVar 6)) (aCons (mBin opIx (mVar 5) (mVar 6)) (aNil))))))) (sIf (tV (mB bIsi (aCons (mVar 5) (aCons (mC (.ty "dict")) (aNil))))) (sNev) (sIf (Pm.tOr (tV (mB bIsi (aCons (mVar 5) (aCons (mC (.ty "bool")) (aNil))))) (tV (mB bIsi (aCons (mVar 5) (aCons (mC (.ty "str")) (aNil)))))) (sIf (Pm.tOr (tV (mBin opNe (mB bIsi (aCons (mVar 4) (aCons (mC (.ty "bool")) (aNil)))) (mB bIsi (aCons (mVar 5) (aCons (mC (.ty "bool")) (aNil)))))) (Pm.tOr (tV (mBin opNe (mB bIsi (aCons (mVar 4) (aCons (mC (.ty "str")) (aNil)))) (mB bIsi (aCons (mVar 5) (aCons (mC (.ty "str")) (aNil)))))) (tV (mBin opNe (mVar 4) (mVar 5))))) (sRet (mC (.bl false))) (sNx)) (sIf (tV (mB bIsi (aCons (mVar 5) (aCons (mC (.ty "int")) (aNil))))) (sIf (Pm.tOr (Pm.tNot (tV (mB bIsi (aCons (mVar 4) (aCons (mC (.ty "int")) (aNil)))))) (Pm.tOr (tV (mB bIsi (aCons (mVar 4) (aCons (mC (.ty "bool")) (aNil))))) (tV (mBin opNe (mVar 4) (mVar 5))))) (sRet (mC (.bl false))) (sNx)) (sIf (tV (mBin opIsnt (mVar 4) (mC .non))) (sRet (mC (.bl false))) (sNx))))))))
def lc__law_same_1 (F : Fns) : Mt := (Pm.tYes)
def le__law_same_1 (F : Fns) : Me := (mTup (aCons (mBin opIx (mVar 4) (mVar 6)) (aCons (mBin opIx (mVar 5) (mVar 6)) (aNil))))
def lc__law_copy_0 (F : Fns) : Mt := (Pm.tYes)
def le__law_copy_0 (F : Fns) : Me := (mCall F 26 (aCons (mVar 3) (aNil)))
def lc__law_copy_1 (F : Fns) : Mt := (Pm.tYes)
def le__law_copy_1 (F : Fns) : Me := (mCall F 26 (aCons (mVar 3) (aNil)))
def lb__law_row_starts_0 (F : Fns) : Ms := (sApp (mVar 1) (mBin opAdd (mBin opIx (mVar 1) (mBin opSub (mB bLen (aCons (mVar 1) (aNil))) (mC (.int 1)))) (mVar 2)))
def lc__law_sweep_0 (F : Fns) : Mt := (Pm.tYes)
def le__law_sweep_0 (F : Fns) : Me := (mIf (tV (mBin opEq (mBin opIx (mVar 7) (mC (.int 0))) (mC (.str "size")))) (mBin opIx (mVar 7) (mC (.int 1))) (mC (.int 1)))
def lb__law_sweep_1 (F : Fns) : Ms := (sSetIx (mVar 2) (mVar 3) (mBin opIx (mBin opIx (mVar 0) (mVar 3)) (mC (.int 4))))
def lb__law_sweep_2 (F : Fns) : Ms := (sSeq (sSet 5 (mCall F 30 (aCons (mVar 2) (aNil)))) (sSeq (sSet 6 (mComp [3] (.name 3) (iR1 (mB bLen (aCons (mVar 0) (aNil)))) (Pm.tAnd (tV (mBin opEq (mBin opIx (mBin opIx (mVar 0) (mVar 3)) (mC (.int 0))) (mC (.str "jump")))) (Pm.tAnd (tV (mBin opEq (mBin opIx (mVar 2) (mVar 3)) (mC (.int 1)))) (Pm.tNot (tV (mCall F 31 (aCons (mVar 0) (aCons (mVar 3) (aCons (mVar 5) (aNil))))))))) (mVar 3))) (sSeq (sIf (tV (mBin opEq (mB bLen (aCons (mVar 6) (aNil))) (mC (.int 0)))) (sBk) (sNx)) (sFor (.name 3) (iLst (mVar 6)) (sSetIx (mVar 2) (mVar 3) (mBin opIx (mBin opIx (mVar 0) (mVar 3)) (mC (.int 4))))))))
def lc__law_sweep_3 (F : Fns) : Mt := (Pm.tAnd (tV (mBin opEq (mBin opIx (mBin opIx (mVar 0) (mVar 3)) (mC (.int 0))) (mC (.str "jump")))) (Pm.tAnd (tV (mBin opEq (mBin opIx (mVar 2) (mVar 3)) (mC (.int 1)))) (Pm.tNot (tV (mCall F 31 (aCons (mVar 0) (aCons (mVar 3) (aCons (mVar 5) (aNil)))))))))
def le__law_sweep_3 (F : Fns) : Me := (mVar 3)
def lb__law_sweep_4 (F : Fns) : Ms := (sSetIx (mVar 2) (mVar 3) (mBin opIx (mBin opIx (mVar 0) (mVar 3)) (mC (.int 4))))
def lb__law_some_rows_0 (F : Fns) : Ms := (sIf (tV (mBin opLt (mCall F 19 (aCons (mVar 0) (aCons (mC (.int 5)) (aNil)))) (mC (.int 2)))) (sApp (mVar 2) (mTup (aCons (mC (.str "size")) (aCons (mCall F 20 (aCons (mVar 0) (aCons (mLst (aCons (mC (.int 0)) (aCons (mC (.int 1)) (aCons (mC (.int 1)) (aCons (mC (.int 2)) (aCons (mC (.int 3)) (aCons (mIf (tV (mBin opLt (mVar 1) (mC (.int 9)))) (mC (.int 1000)) (mC (.int 7))) (aNil)))))))) (aNil)))) (aNil))))) (sSeq (sSet 7 (mIf (tV (mBin opEq (mCall F 19 (aCons (mVar 0) (aCons (mC (.int 3)) (aNil)))) (mC (.int 0)))) (mCall F 19 (aCons (mVar 0) (aCons (mVar 1) (aNil)))) (mBin opMod (mB bInt (aCons (mBin opAdd (mVar 3) (mCall F 21 (aCons (mVar 0) (aCons (mUn opNeg (mC (.int 4))) (aCons (mC (.int 4)) (aNil)))))) (aNil))) (mVar 1)))) (sApp (mVar 2) (mTup (aCons (mC (.str "jump")) (aCons (mVar 7) (aCons (mC (.int 0)) (aCons (mC (.int 0)) (aCons (mCall F 20 (aCons (mVar 0) (aCons (mLst (aCons (mC (.int 2)) (aCons (mC (.int 2)) (aCons (mC (.int 3)) (aCons (mC (.int 3)) (aCons (mC (.int 8)) (aNil))))))) (aNil)))) (aNil))))))))))
def lc__law_some_rows_1 (F : Fns) : Mt := (Pm.tYes)
def le__law_some_rows_1 (F : Fns) : Me := (mIf (tV (mBin opEq (mBin opIx (mVar 6) (mC (.int 0))) (mC (.str "size")))) (mBin opIx (mVar 6) (mC (.int 1))) (mC (.int 1)))
def lb__law_some_rows_2 (F : Fns) : Ms := (sSeq (sSet 6 (mBin opIx (mVar 2) (mVar 3))) (sSeq (sIf (tV (mBin opEq (mBin opIx (mVar 6) (mC (.int 0))) (mC (.str "jump")))) (sSeq (sSet 8 (mBin opSub (mBin opIx (mVar 4) (mBin opIx (mVar 6) (mC (.int 1)))) (mBin opIx (mVar 4) (mVar 3)))) (sSeq (sSet 9 (mCall F 20 (aCons (mVar 0) (aCons (mLst (aCons (mUn opNeg (mC (.int 1))) (aCons (mC (.int 0)) (aCons (mC (.int 0)) (aCons (mC (.int 1)) (aCons (mC (.int 1)) (aCons (mC (.int 2)) (aCons (mC (.int 2)) (aCons (mC (.int 3)) (aCons (mC (.int 4)) (aCons (mC (.int 6)) (aCons (mC (.int 9)) (aCons (mC (.int 100000)) (aNil)))))))))))))) (aNil))))) (sSeq (sSet 10 (mCall F 19 (aCons (mVar 0) (aCons (mC (.int 5)) (aNil))))) (sSeq (sUnp [11, 12] (mIf (tV (mBin opGe (mVar 8) (mC (.int 0)))) (mTup (aCons (mVar 10) (aCons (mB bMax2 (aCons (mC (.int 0)) (aCons (mB bMin2 (aCons (mC (.int 100000)) (aCons (mBin opAdd (mVar 8) (mVar 9)) (aNil)))) (aNil)))) (aNil)))) (mTup (aCons (mB bMax2 (aCons (mC (.int 0)) (aCons (mB bMin2 (aCons (mC (.int 100000)) (aCons (mBin opSub (mVar 9) (mVar 8)) (aNil)))) (aNil)))) (aCons (mVar 10) (aNil)))))) (sSet 6 (mTup (aCons (mC (.str "jump")) (aCons (mBin opIx (mVar 6) (mC (.int 1))) (aCons (mVar 11) (aCons (mVar 12) (aCons (mBin opIx (mVar 6) (mC (.int 4))) (aNil)))))))))))) (sNx)) (sApp (mVar 5) (mVar 6))))
def lc__law_falling_0 (F : Fns) : Mt := (Pm.tYes)
def le__law_falling_0 (F : Fns) : Me := (mTup (aCons (mC (.str "jump")) (aCons (mBin opAdd (mVar 4) (mC (.int 2))) (aCons (mC (.int 0)) (aCons (mC (.int 2)) (aCons (mVar 2) (aNil)))))))
def lc__law_out_of_reach_0 (F : Fns) : Mt := (Pm.tAnd (tV (mBin opEq (mBin opIx (mBin opIx (mVar 0) (mVar 3)) (mC (.int 0))) (mC (.str "jump")))) (Pm.tAnd (tV (mBin opEq (mBin opIx (mVar 1) (mVar 3)) (mC (.int 1)))) (Pm.tNot (tV (mCall F 31 (aCons (mVar 0) (aCons (mVar 3) (aCons (mVar 2) (aNil)))))))))
def le__law_out_of_reach_0 (F : Fns) : Me := (mVar 3)
def lb__law_least_ok_0 (F : Fns) : Ms := (sSeq (sIf (Pm.tAnd (tV (mBin opEq (mBin opIx (mBin opIx (mVar 0) (mVar 2)) (mC (.int 0))) (mC (.str "size")))) (Pm.tNot (tV (mCall F 23 (aCons (mBin opIx (mVar 4) (mVar 2)) (aCons (mBin opIx (mBin opIx (mVar 0) (mVar 2)) (mC (.int 1))) (aCons (mBin opIx (mBin opIx (mVar 0) (mVar 2)) (mC (.int 1))) (aNil)))))))) (sRet (mC (.bl false))) (sNx)) (sIf (Pm.tAnd (tV (mBin opEq (mBin opIx (mBin opIx (mVar 0) (mVar 2)) (mC (.int 0))) (mC (.str "jump")))) (Pm.tAnd (Pm.tNot (tV (mCall F 23 (aCons (mBin opIx (mVar 4) (mVar 2)) (aCons (mC (.int 1)) (aCons (mC (.int 1)) (aNil))))))) (Pm.tNot (tV (mCall F 23 (aCons (mBin opIx (mVar 4) (mVar 2)) (aCons (mBin opIx (mBin opIx (mVar 0) (mVar 2)) (mC (.int 4))) (aCons (mBin opIx (mBin opIx (mVar 0) (mVar 2)) (mC (.int 4))) (aNil))))))))) (sRet (mC (.bl false))) (sNx)))
def lc__law_least_ok_1 (F : Fns) : Mt := (Pm.tYes)
def le__law_least_ok_1 (F : Fns) : Me := (mIf (tV (mBin opEq (mBin opIx (mVar 6) (mC (.int 0))) (mC (.str "size")))) (mBin opIx (mVar 6) (mC (.int 1))) (mC (.int 1)))
def lb__law_least_ok_2 (F : Fns) : Ms := (sSeq (sIf (Pm.tOr (Pm.tNot (tV (mCall F 23 (aCons (mVar 2) (aCons (mC (.int 0)) (aCons (mBin opSub (mB bLen (aCons (mVar 0) (aNil))) (mC (.int 1))) (aNil))))))) (tV (mBin opNin (mVar 2) (mCall F 36 (aCons (mVar 0) (aCons (mVar 3) (aNil))))))) (sRet (mC (.bl false))) (sNx)) (sSetIx (mVar 3) (mVar 2) (mBin opIx (mBin opIx (mVar 0) (mVar 2)) (mC (.int 4)))))
def lc__law_other_sequence_0 (F : Fns) : Mt := (Pm.tYes)
def le__law_other_sequence_0 (F : Fns) : Me := (mIf (tV (mBin opEq (mBin opIx (mVar 6) (mC (.int 0))) (mC (.str "size")))) (mBin opIx (mVar 6) (mC (.int 1))) (mC (.int 1)))
def lb__law_other_sequence_1 (F : Fns) : Ms := (sSeq (sSet 5 (mCall F 36 (aCons (mVar 1) (aCons (mVar 2) (aNil))))) (sIf (tV (mBin opGt (mB bLen (aCons (mVar 5) (aNil))) (mC (.int 0)))) (sSeq (sSet 7 (mCall F 20 (aCons (mVar 0) (aCons (mVar 5) (aNil))))) (sSeq (sApp (mVar 3) (mVar 7)) (sSetIx (mVar 2) (mVar 7) (mBin opIx (mBin opIx (mVar 1) (mVar 7)) (mC (.int 4)))))) (sNx)))
def lc__law_other_fit_0 (F : Fns) : Mt := (Pm.tAnd (tV (mBin opEq (mBin opIx (mBin opIx (mVar 1) (mVar 3)) (mC (.int 0))) (mC (.str "jump")))) (Pm.tOr (tV (mBin opGt (mBin opIx (mVar 2) (mVar 3)) (mC (.int 1)))) (tV (mBin opEq (mCall F 19 (aCons (mVar 0) (aCons (mC (.int 4)) (aNil)))) (mC (.int 0))))))
def le__law_other_fit_0 (F : Fns) : Me := (mVar 3)
def lc__law_rows_ok_0 (F : Fns) : Mt := (Pm.tNot (tV (mCall F 40 (aCons (mVar 1) (aCons (mB bLen (aCons (mVar 0) (aNil))) (aNil))))))
def le__law_rows_ok_0 (F : Fns) : Me := (mVar 1)
def lc__law_answers_0 (F : Fns) : Mt := (tV (mBin opEq (mBin opIx (mBin opIx (mVar 1) (mVar 11)) (mC (.int 0))) (mC (.str "jump"))))
def le__law_answers_0 (F : Fns) : Me := (mVar 11)
def lc__law_answers_1 (F : Fns) : Mt := (Pm.tYes)
def le__law_answers_1 (F : Fns) : Me := (mIf (tV (mBin opEq (mBin opIx (mVar 12) (mC (.int 0))) (mC (.str "size")))) (mBin opIx (mVar 12) (mC (.int 1))) (mBin opIx (mVar 12) (mC (.int 4))))
def lc__law_answers_2 (F : Fns) : Mt := (Pm.tYes)
def le__law_answers_2 (F : Fns) : Me := (mIf (tV (mBin opEq (mBin opIx (mVar 12) (mC (.int 0))) (mC (.str "size")))) (mBin opIx (mVar 12) (mC (.int 1))) (mC (.int 1)))
def lc__law_answers_3 (F : Fns) : Mt := (tV (mBin opGt (mBin opIx (mVar 6) (mVar 11)) (mC (.int 1))))
def le__law_answers_3 (F : Fns) : Me := (mVar 11)
def lb__law_answers_4 (F : Fns) : Ms := (sIf (Pm.tNot (tV (mCall F 25 (aCons (mCall F 43 (aCons (mVar 1) (aCons (mVar 10) (aNil)))) (aCons (mLst (aCons (mC (.str "told")) (aCons (mCall F 37 (aCons (mVar 1) (aCons (mVar 10) (aNil)))) (aNil)))) (aNil)))))) (sRet (mC (.bl false))) (sNx))
def lc__law_answers_5 (F : Fns) : Mt := (tV (mBin opLt (mBin opIx (mVar 6) (mVar 11)) (mBin opIx (mBin opIx (mBin opIx (mVar 2) (mC (.int 1))) (mC (.int 0))) (mVar 11))))
def le__law_answers_5 (F : Fns) : Me := (mVar 11)
def lc__law_great_0 (F : Fns) : Mt := (Pm.tYes)
def le__law_great_0 (F : Fns) : Me := (mTup (aCons (mC (.str "jump")) (aCons (mBin opAdd (mVar 9) (mC (.int 2))) (aCons (mC (.int 0)) (aCons (mC (.int 2)) (aCons (mC (.int 2)) (aNil)))))))
def lc__law_great_1 (F : Fns) : Mt := (Pm.tYes)
def le__law_great_1 (F : Fns) : Me := (mBin opSub (mBin opSub (mVar 1) (mC (.int 1))) (mVar 10))
def lc__law_great_2 (F : Fns) : Mt := (Pm.tYes)
def le__law_great_2 (F : Fns) : Me := (mBin opIx (mVar 11) (mC (.int 1)))
def lc__law_great_3 (F : Fns) : Mt := (Pm.tYes)
def le__law_great_3 (F : Fns) : Me := (mTup (aCons (mC (.str "jump")) (aCons (mBin opAdd (mVar 9) (mC (.int 2))) (aCons (mC (.int 0)) (aCons (mC (.int 2)) (aCons (mC (.int 2)) (aNil)))))))
def lc__law_great_4 (F : Fns) : Mt := (Pm.tYes)
def le__law_great_4 (F : Fns) : Me := (mBin opSub (mC (.int 39)) (mVar 10))
def lb_law_0 (F : Fns) : Ms := (sSeq (sSet 5 (mCall F 20 (aCons (mVar 1) (aCons (mLst (aCons (mCall F 33 (aCons (mVar 1) (aNil))) (aCons (mCall F 33 (aCons (mVar 1) (aNil))) (aCons (mCall F 34 (aCons (mVar 1) (aNil))) (aCons (mCall F 35 (aCons (mVar 1) (aNil))) (aNil)))))) (aNil))))) (sIf (Pm.tNot (tV (mCall F 44 (aCons (mVar 1) (aCons (mVar 5) (aNil)))))) (sRet (mC (.bl false))) (sNx)))
end K78

set_option Elab.async false
set_option linter.all false
/-! K78LS: printed by wip/split.py: the statements of some bodies -/
namespace K78
open Pm
def st__law_spoilt_0 (F : Fns) : Ms := (sIf (Pm.tAnd (Pm.tOr (tV (mB bIsi (aCons (mVar 1) (aCons (mC (.ty "list")) (aNil))))) (tV (mB bIsi (aCons (mVar 1) (aCons (mC (.ty "tuple")) (aNil)))))) (Pm.tAnd (tV (mBin opGt (mB bLen (aCons (mVar 1) (aNil))) (mC (.int 0)))) (tV (mBin opGt (mCall F 19 (aCons (mVar 0) (aCons (mC (.int 6)) (aNil)))) (mC (.int 0)))))) (sSeq (sSet 2 (mCall F 19 (aCons (mVar 0) (aCons (mB bLen (aCons (mVar 1) (aNil))) (aNil))))) (sSeq (sOwn 3 (mB bList (aCons (mVar 1) (aNil)))) (sSeq (sSetIx (mVar 3) (mVar 2) (mCall F 29 (aCons (mVar 0) (aCons (mBin opIx (mVar 1) (mVar 2)) (aNil))))) (sFrz [3] (sRet (mIf (tV (mB bIsi (aCons (mVar 1) (aCons (mC (.ty "list")) (aNil))))) (mVar 3) (mB bTuple (aCons (mVar 3) (aNil))))))))) (sNx))
def st__law_spoilt_1 (F : Fns) : Ms := (sIf (Pm.tAnd (tV (mB bIsi (aCons (mVar 1) (aCons (mC (.ty "int")) (aNil))))) (Pm.tNot (tV (mB bIsi (aCons (mVar 1) (aCons (mC (.ty "bool")) (aNil))))))) (sRet (mCall F 20 (aCons (mVar 0) (aCons (mLst (aCons (mBin opAdd (mVar 1) (mC (.int 1))) (aCons (mBin opSub (mVar 1) (mC (.int 1))) (aCons (mBin opAdd (mVar 1) (mC (.int 7))) (aCons (mC .non) (aCons (mBin opEq (mVar 1) (mC (.int 1))) (aCons (mB bStr (aCons (mBin opMod (mB bInt (aCons (mVar 1) (aNil))) (mC (.int 1000))) (aNil))) (aCons (mTup (aCons (mVar 1) (aCons (mC (.int 1)) (aNil)))) (aNil))))))))) (aNil))))) (sNx))
def st__law_spoilt_2 (F : Fns) : Ms := (sIf (tV (mB bIsi (aCons (mVar 1) (aCons (mC (.ty "list")) (aNil))))) (sRet (mCall F 20 (aCons (mVar 0) (aCons (mLst (aCons (mB bTuple (aCons (mVar 1) (aNil))) (aCons (mBin opAdd (mVar 1) (mLst (aCons (mC (.int 0)) (aNil)))) (aCons (mBin opAdd (mSl (mVar 1) (oSome (mC (.int 1))) (oNone)) (mLst (aCons (mC .non) (aNil)))) (aCons (mSl (mVar 1) (oSome (mC (.int 1))) (oNone)) (aCons (mC .non) (aCons (mC (.str "list")) (aNil)))))))) (aNil))))) (sNx))
def st__law_spoilt_3 (F : Fns) : Ms := (sIf (tV (mB bIsi (aCons (mVar 1) (aCons (mC (.ty "tuple")) (aNil))))) (sRet (mCall F 20 (aCons (mVar 0) (aCons (mLst (aCons (mB bList (aCons (mVar 1) (aNil))) (aCons (mBin opAdd (mVar 1) (mTup (aCons (mC (.int 0)) (aNil)))) (aCons (mSl (mVar 1) (oSome (mC (.int 1))) (oNone)) (aCons (mC .non) (aCons (mC (.int 3)) (aNil))))))) (aNil))))) (sNx))
def st__law_spoilt_4 (F : Fns) : Ms := (sIf (tV (mB bIsi (aCons (mVar 1) (aCons (mC (.ty "str")) (aNil))))) (sRet (mCall F 20 (aCons (mVar 0) (aCons (mLst (aCons (mBin opAdd (mVar 1) (mC (.str "x"))) (aCons (mC (.str "")) (aCons (mSl (mVar 1) (oSome (mC (.int 1))) (oNone)) (aCons (mC (.int 0)) (aCons (mC .non) (aCons (mLst (aCons (mVar 1) (aNil))) (aNil)))))))) (aNil))))) (sNx))
def st__law_spoilt_5 (F : Fns) : Ms := (sRet (mCall F 20 (aCons (mVar 0) (aCons (mLst (aCons (mC (.int 0)) (aCons (mC (.int 1)) (aCons (mC (.str "")) (aCons (mLst (aNil)) (aCons (mTup (aCons (mC (.int 0)) (aCons (mC (.int 1)) (aNil)))) (aCons (mC (.bl true)) (aNil)))))))) (aNil)))))
theorem st__law_spoilt (F : Fns) : b__law_spoilt F = sSeq (st__law_spoilt_0 F) (sSeq (st__law_spoilt_1 F) (sSeq (st__law_spoilt_2 F) (sSeq (st__law_spoilt_3 F) (sSeq (st__law_spoilt_4 F) (st__law_spoilt_5 F))))) := rfl
def st_least_of_0 (F : Fns) : Ms := (sOwn 1 (mCall F 7 (aCons (mVar 0) (aNil))))
def st_least_of_1 (F : Fns) : Ms := (sOwn 2 (mCall F 10 (aCons (mVar 0) (aCons (mVar 1) (aNil)))))
def st_least_of_2 (F : Fns) : Ms := (sOwn 3 (mComp [8, 9] (.tup [8, 9]) (Pm.iEnum (mVar 0)) (Pm.tYes) (mAnd (mBin opEq (mBin opIx (mVar 9) (mC (.int 0))) (mC (.str "jump"))) (mBin opLe (mBin opIx (mVar 2) (mVar 8)) (mCall F 11 (aCons (mVar 9) (aCons (mVar 8) (aNil))))))))
def st_least_of_3 (F : Fns) : Ms := (sOwn 4 (mComp [8, 9] (.tup [8, 9]) (Pm.iEnum (mVar 0)) (Pm.tAnd (tV (mBin opEq (mBin opIx (mVar 9) (mC (.int 0))) (mC (.str "jump")))) (Pm.tNot (tV (mBin opIx (mVar 3) (mVar 8))))) (mVar 8)))
def st_least_of_4 (F : Fns) : Ms := (sSet 5 (mMaxD (mComp [8, 9] (.tup [8, 9]) (Pm.iEnum (mVar 0)) (tV (mBin opIx (mVar 3) (mVar 8))) (mB bAbs (aCons (mBin opSub (mBin opIx (mVar 9) (mC (.int 1))) (mVar 8)) (aNil)))) (mC (.int 0))))
def st_least_of_5 (F : Fns) : Ms := (sOwn 6 (mLst (aNil)))
def st_least_of_6 (F : Fns) : Ms := (sWhile FUEL (tV (mBin opLt (mB bLen (aCons (mVar 6) (aNil))) (mB bLen (aCons (mVar 4) (aNil))))) (sSeq (sSet 7 (mBin opIx (mVar 4) (mB bLen (aCons (mVar 6) (aNil))))) (sSeq (sApp (mVar 6) (mVar 7)) (sSeq (sSetIx (mVar 1) (mVar 7) (mBin opIx (mBin opIx (mVar 0) (mVar 7)) (mC (.int 4)))) (sFor (.name 8) (iR2 (mB bMax2 (aCons (mC (.int 0)) (aCons (mBin opSub (mVar 7) (mVar 5)) (aNil)))) (mB bMin2 (aCons (mB bLen (aCons (mVar 0) (aNil))) (aCons (mBin opAdd (mBin opAdd (mVar 7) (mVar 5)) (mC (.int 1))) (aNil))))) (sIf (Pm.tAnd (tV (mBin opIx (mVar 3) (mVar 8))) (tV (mCall F 12 (aCons (mBin opIx (mVar 0) (mVar 8)) (aCons (mVar 8) (aCons (mVar 7) (aNil))))))) (sSeq (sAugIx opAddI (mVar 2) (mVar 8) (mBin opSub (mBin opIx (mBin opIx (mVar 0) (mVar 7)) (mC (.int 4))) (mC (.int 1)))) (sIf (tV (mBin opGt (mBin opIx (mVar 2) (mVar 8)) (mCall F 11 (aCons (mBin opIx (mVar 0) (mVar 8)) (aCons (mVar 8) (aNil)))))) (sSeq (sSetIx (mVar 3) (mVar 8) (mC (.bl false))) (sApp (mVar 4) (mVar 8))) (sNx))) (sNx)))))))
def st_least_of_7 (F : Fns) : Ms := (sFrz [1, 6] (sRet (mTup (aCons (mVar 1) (aCons (mVar 6) (aNil))))))
theorem st_least_of (F : Fns) : b_least_of F = sSeq (st_least_of_0 F) (sSeq (st_least_of_1 F) (sSeq (st_least_of_2 F) (sSeq (st_least_of_3 F) (sSeq (st_least_of_4 F) (sSeq (st_least_of_5 F) (sSeq (st_least_of_6 F) (st_least_of_7 F))))))) := rfl
def st__law_sweep_0 (F : Fns) : Ms := (sOwn 2 (mComp [7] (.name 7) (iLst (mVar 0)) (Pm.tYes) (mIf (tV (mBin opEq (mBin opIx (mVar 7) (mC (.int 0))) (mC (.str "size")))) (mBin opIx (mVar 7) (mC (.int 1))) (mC (.int 1)))))
def st__law_sweep_1 (F : Fns) : Ms := (sFor (.name 3) (iLst (mVar 1)) (sSetIx (mVar 2) (mVar 3) (mBin opIx (mBin opIx (mVar 0) (mVar 3)) (mC (.int 4)))))
def st__law_sweep_2 (F : Fns) : Ms := (sFor (.name 4) (iR1 (mBin opAdd (mB bLen (aCons (mVar 0) (aNil))) (mC (.int 1)))) (sSeq (sSet 5 (mCall F 30 (aCons (mVar 2) (aNil)))) (sSeq (sSet 6 (mComp [3] (.name 3) (iR1 (mB bLen (aCons (mVar 0) (aNil)))) (Pm.tAnd (tV (mBin opEq (mBin opIx (mBin opIx (mVar 0) (mVar 3)) (mC (.int 0))) (mC (.str "jump")))) (Pm.tAnd (tV (mBin opEq (mBin opIx (mVar 2) (mVar 3)) (mC (.int 1)))) (Pm.tNot (tV (mCall F 31 (aCons (mVar 0) (aCons (mVar 3) (aCons (mVar 5) (aNil))))))))) (mVar 3))) (sSeq (sIf (tV (mBin opEq (mB bLen (aCons (mVar 6) (aNil))) (mC (.int 0)))) (sBk) (sNx)) (sFor (.name 3) (iLst (mVar 6)) (sSetIx (mVar 2) (mVar 3) (mBin opIx (mBin opIx (mVar 0) (mVar 3)) (mC (.int 4)))))))))
def st__law_sweep_3 (F : Fns) : Ms := (sRet (mVar 2))
theorem st__law_sweep (F : Fns) : b__law_sweep F = sSeq (st__law_sweep_0 F) (sSeq (st__law_sweep_1 F) (sSeq (st__law_sweep_2 F) (st__law_sweep_3 F))) := rfl
def st__law_some_rows_0 (F : Fns) : Ms := (sSet 1 (mCall F 20 (aCons (mVar 0) (aCons (mLst (aCons (mC (.int 0)) (aCons (mC (.int 1)) (aCons (mC (.int 2)) (aCons (mC (.int 3)) (aCons (mC (.int 5)) (aCons (mC (.int 8)) (aCons (mC (.int 13)) (aCons (mC (.int 20)) (aCons (mC (.int 30)) (aCons (mC (.int 40)) (aNil)))))))))))) (aNil)))))
def st__law_some_rows_1 (F : Fns) : Ms := (sOwn 2 (mLst (aNil)))
def st__law_some_rows_2 (F : Fns) : Ms := (sFor (.name 3) (iR1 (mVar 1)) (sIf (tV (mBin opLt (mCall F 19 (aCons (mVar 0) (aCons (mC (.int 5)) (aNil)))) (mC (.int 2)))) (sApp (mVar 2) (mTup (aCons (mC (.str "size")) (aCons (mCall F 20 (aCons (mVar 0) (aCons (mLst (aCons (mC (.int 0)) (aCons (mC (.int 1)) (aCons (mC (.int 1)) (aCons (mC (.int 2)) (aCons (mC (.int 3)) (aCons (mIf (tV (mBin opLt (mVar 1) (mC (.int 9)))) (mC (.int 1000)) (mC (.int 7))) (aNil)))))))) (aNil)))) (aNil))))) (sSeq (sSet 7 (mIf (tV (mBin opEq (mCall F 19 (aCons (mVar 0) (aCons (mC (.int 3)) (aNil)))) (mC (.int 0)))) (mCall F 19 (aCons (mVar 0) (aCons (mVar 1) (aNil)))) (mBin opMod (mB bInt (aCons (mBin opAdd (mVar 3) (mCall F 21 (aCons (mVar 0) (aCons (mUn opNeg (mC (.int 4))) (aCons (mC (.int 4)) (aNil)))))) (aNil))) (mVar 1)))) (sApp (mVar 2) (mTup (aCons (mC (.str "jump")) (aCons (mVar 7) (aCons (mC (.int 0)) (aCons (mC (.int 0)) (aCons (mCall F 20 (aCons (mVar 0) (aCons (mLst (aCons (mC (.int 2)) (aCons (mC (.int 2)) (aCons (mC (.int 3)) (aCons (mC (.int 3)) (aCons (mC (.int 8)) (aNil))))))) (aNil)))) (aNil)))))))))))
def st__law_some_rows_3 (F : Fns) : Ms := (sFrz [2] (sSeq (sSet 4 (mCall F 30 (aCons (mComp [6] (.name 6) (iLst (mVar 2)) (Pm.tYes) (mIf (tV (mBin opEq (mBin opIx (mVar 6) (mC (.int 0))) (mC (.str "size")))) (mBin opIx (mVar 6) (mC (.int 1))) (mC (.int 1)))) (aNil)))) (sSeq (sOwn 5 (mLst (aNil))) (sSeq (sFor (.name 3) (iR1 (mVar 1)) (sSeq (sSet 6 (mBin opIx (mVar 2) (mVar 3))) (sSeq (sIf (tV (mBin opEq (mBin opIx (mVar 6) (mC (.int 0))) (mC (.str "jump")))) (sSeq (sSet 8 (mBin opSub (mBin opIx (mVar 4) (mBin opIx (mVar 6) (mC (.int 1)))) (mBin opIx (mVar 4) (mVar 3)))) (sSeq (sSet 9 (mCall F 20 (aCons (mVar 0) (aCons (mLst (aCons (mUn opNeg (mC (.int 1))) (aCons (mC (.int 0)) (aCons (mC (.int 0)) (aCons (mC (.int 1)) (aCons (mC (.int 1)) (aCons (mC (.int 2)) (aCons (mC (.int 2)) (aCons (mC (.int 3)) (aCons (mC (.int 4)) (aCons (mC (.int 6)) (aCons (mC (.int 9)) (aCons (mC (.int 100000)) (aNil)))))))))))))) (aNil))))) (sSeq (sSet 10 (mCall F 19 (aCons (mVar 0) (aCons (mC (.int 5)) (aNil))))) (sSeq (sUnp [11, 12] (mIf (tV (mBin opGe (mVar 8) (mC (.int 0)))) (mTup (aCons (mVar 10) (aCons (mB bMax2 (aCons (mC (.int 0)) (aCons (mB bMin2 (aCons (mC (.int 100000)) (aCons (mBin opAdd (mVar 8) (mVar 9)) (aNil)))) (aNil)))) (aNil)))) (mTup (aCons (mB bMax2 (aCons (mC (.int 0)) (aCons (mB bMin2 (aCons (mC (.int 100000)) (aCons (mBin opSub (mVar 9) (mVar 8)) (aNil)))) (aNil)))) (aCons (mVar 10) (aNil)))))) (sSet 6 (mTup (aCons (mC (.str "jump")) (aCons (mBin opIx (mVar 6) (mC (.int 1))) (aCons (mVar 11) (aCons (mVar 12) (aCons (mBin opIx (mVar 6) (mC (.int 4))) (aNil)))))))))))) (sNx)) (sApp (mVar 5) (mVar 6))))) (sRet (mVar 5))))))
theorem st__law_some_rows (F : Fns) : b__law_some_rows F = sSeq (st__law_some_rows_0 F) (sSeq (st__law_some_rows_1 F) (sSeq (st__law_some_rows_2 F) (st__law_some_rows_3 F))) := rfl
def st__law_facing_0 (F : Fns) : Ms := (sSet 1 (mCall F 19 (aCons (mVar 0) (aCons (mC (.int 4)) (aNil)))))
def st__law_facing_1 (F : Fns) : Ms := (sSet 2 (mBin opAdd (mC (.int 2)) (mCall F 19 (aCons (mVar 0) (aCons (mC (.int 7)) (aNil))))))
def st__law_facing_2 (F : Fns) : Ms := (sOwn 3 (mLst (aCons (mTup (aCons (mC (.str "size")) (aCons (mCall F 19 (aCons (mVar 0) (aCons (mC (.int 3)) (aNil)))) (aNil)))) (aCons (mTup (aCons (mC (.str "jump")) (aCons (mC (.int 3)) (aCons (mC (.int 0)) (aCons (mBin opAdd (mC (.int 2)) (mVar 1)) (aCons (mVar 2) (aNil))))))) (aCons (mTup (aCons (mC (.str "size")) (aCons (mVar 1) (aNil)))) (aCons (mTup (aCons (mC (.str "jump")) (aCons (mC (.int 1)) (aCons (mBin opAdd (mC (.int 1)) (mVar 1)) (aCons (mC (.int 0)) (aCons (mVar 2) (aNil))))))) (aCons (mTup (aCons (mC (.str "size")) (aCons (mC (.int 1)) (aNil)))) (aNil))))))))
def st__law_facing_3 (F : Fns) : Ms := (sSetIx (mVar 3) (mC (.int 1)) (mTup (aCons (mC (.str "jump")) (aCons (mC (.int 4)) (aCons (mC (.int 0)) (aCons (mBin opAdd (mC (.int 2)) (mVar 1)) (aCons (mVar 2) (aNil))))))))
def st__law_facing_4 (F : Fns) : Ms := (sRet (mVar 3))
theorem st__law_facing (F : Fns) : b__law_facing F = sSeq (st__law_facing_0 F) (sSeq (st__law_facing_1 F) (sSeq (st__law_facing_2 F) (sSeq (st__law_facing_3 F) (st__law_facing_4 F)))) := rfl
def st__law_falling_0 (F : Fns) : Ms := (sSet 1 (mBin opAdd (mC (.int 2)) (mCall F 19 (aCons (mVar 0) (aCons (mC (.int 9)) (aNil))))))
def st__law_falling_1 (F : Fns) : Ms := (sSet 2 (mBin opAdd (mC (.int 2)) (mCall F 19 (aCons (mVar 0) (aCons (mC (.int 3)) (aNil))))))
def st__law_falling_2 (F : Fns) : Ms := (sSet 3 (mComp [4] (.name 4) (iR1 (mVar 1)) (Pm.tYes) (mTup (aCons (mC (.str "jump")) (aCons (mBin opAdd (mVar 4) (mC (.int 2))) (aCons (mC (.int 0)) (aCons (mC (.int 2)) (aCons (mVar 2) (aNil)))))))))
def st__law_falling_3 (F : Fns) : Ms := (sRet (mIf (tV (mBin opGt (mCall F 19 (aCons (mVar 0) (aCons (mC (.int 4)) (aNil)))) (mC (.int 0)))) (mBin opAdd (mVar 3) (mLst (aCons (mTup (aCons (mC (.str "size")) (aCons (mBin opAdd (mC (.int 1)) (mCall F 19 (aCons (mVar 0) (aCons (mC (.int 2)) (aNil))))) (aNil)))) (aCons (mTup (aCons (mC (.str "size")) (aCons (mC (.int 1)) (aNil)))) (aCons (mTup (aCons (mC (.str "size")) (aCons (mC (.int 0)) (aNil)))) (aNil)))))) (mBin opAdd (mVar 3) (mLst (aCons (mTup (aCons (mC (.str "size")) (aCons (mC (.int 1)) (aNil)))) (aCons (mTup (aCons (mC (.str "size")) (aCons (mC (.int 1)) (aNil)))) (aNil)))))))
theorem st__law_falling (F : Fns) : b__law_falling F = sSeq (st__law_falling_0 F) (sSeq (st__law_falling_1 F) (sSeq (st__law_falling_2 F) (st__law_falling_3 F))) := rfl
def st__law_other_sequence_0 (F : Fns) : Ms := (sOwn 2 (mComp [6] (.name 6) (iLst (mVar 1)) (Pm.tYes) (mIf (tV (mBin opEq (mBin opIx (mVar 6) (mC (.int 0))) (mC (.str "size")))) (mBin opIx (mVar 6) (mC (.int 1))) (mC (.int 1)))))
def st__law_other_sequence_1 (F : Fns) : Ms := (sOwn 3 (mLst (aNil)))
def st__law_other_sequence_2 (F : Fns) : Ms := (sFor (.name 4) (iR1 (mB bLen (aCons (mVar 1) (aNil)))) (sSeq (sSet 5 (mCall F 36 (aCons (mVar 1) (aCons (mVar 2) (aNil))))) (sIf (tV (mBin opGt (mB bLen (aCons (mVar 5) (aNil))) (mC (.int 0)))) (sSeq (sSet 7 (mCall F 20 (aCons (mVar 0) (aCons (mVar 5) (aNil))))) (sSeq (sApp (mVar 3) (mVar 7)) (sSetIx (mVar 2) (mVar 7) (mBin opIx (mBin opIx (mVar 1) (mVar 7)) (mC (.int 4)))))) (sNx))))
def st__law_other_sequence_3 (F : Fns) : Ms := (sFrz [2, 3] (sRet (mTup (aCons (mVar 2) (aCons (mVar 3) (aNil))))))
theorem st__law_other_sequence (F : Fns) : b__law_other_sequence F = sSeq (st__law_other_sequence_0 F) (sSeq (st__law_other_sequence_1 F) (sSeq (st__law_other_sequence_2 F) (st__law_other_sequence_3 F))) := rfl
def st__law_answers_0 (F : Fns) : Ms := (sSet 2 (mCall F 42 (aCons (mVar 1) (aNil))))
def st__law_answers_1 (F : Fns) : Ms := (sSet 3 (mCall F 32 (aCons (mVar 1) (aCons (mLst (aNil)) (aNil)))))
def st__law_answers_2 (F : Fns) : Ms := (sIf (Pm.tOr (tV (mBin opNe (mBin opIx (mVar 2) (mC (.int 0))) (mC (.str "told")))) (Pm.tOr (Pm.tNot (tV (mCall F 37 (aCons (mVar 1) (aCons (mBin opIx (mVar 2) (mC (.int 1))) (aNil)))))) (Pm.tNot (tV (mCall F 25 (aCons (mBin opIx (mBin opIx (mVar 2) (mC (.int 1))) (mC (.int 0))) (aCons (mVar 3) (aNil)))))))) (sRet (mC (.bl false))) (sNx))
def st__law_answers_3 (F : Fns) : Ms := (sSet 4 (mCall F 38 (aCons (mVar 0) (aCons (mVar 1) (aNil)))))
def st__law_answers_4 (F : Fns) : Ms := (sSet 5 (mComp [11] (.name 11) (iR1 (mB bLen (aCons (mVar 1) (aNil)))) (tV (mBin opEq (mBin opIx (mBin opIx (mVar 1) (mVar 11)) (mC (.int 0))) (mC (.str "jump")))) (mVar 11)))
def st__law_answers_5 (F : Fns) : Ms := (sSet 6 (mCall F 39 (aCons (mVar 0) (aCons (mVar 1) (aCons (mVar 3) (aNil))))))
def st__law_answers_6 (F : Fns) : Ms := (sSet 7 (mLst (aCons (mBin opIx (mVar 2) (mC (.int 1))) (aCons (mVar 4) (aCons (mTup (aCons (mBin opIx (mVar 4) (mC (.int 0))) (aCons (mCall F 22 (aCons (mVar 0) (aCons (mBin opIx (mVar 4) (mC (.int 1))) (aNil)))) (aNil)))) (aCons (mTup (aCons (mVar 3) (aCons (mSl (mBin opIx (mVar 4) (mC (.int 1))) (oNone) (oSome (mUn opNeg (mC (.int 1))))) (aNil)))) (aCons (mTup (aCons (mBin opIx (mVar 4) (mC (.int 0))) (aCons (mBin opAdd (mBin opIx (mVar 4) (mC (.int 1))) (mSl (mBin opIx (mVar 4) (mC (.int 1))) (oNone) (oSome (mC (.int 1))))) (aNil)))) (aNil))))))))
def st__law_answers_7 (F : Fns) : Ms := (sSet 8 (mComp [12] (.name 12) (iLst (mVar 1)) (Pm.tYes) (mIf (tV (mBin opEq (mBin opIx (mVar 12) (mC (.int 0))) (mC (.str "size")))) (mBin opIx (mVar 12) (mC (.int 1))) (mBin opIx (mVar 12) (mC (.int 4))))))
def st__law_answers_8 (F : Fns) : Ms := (sSet 9 (mComp [12] (.name 12) (iLst (mVar 1)) (Pm.tYes) (mIf (tV (mBin opEq (mBin opIx (mVar 12) (mC (.int 0))) (mC (.str "size")))) (mBin opIx (mVar 12) (mC (.int 1))) (mC (.int 1)))))
def st__law_answers_9 (F : Fns) : Ms := (sSet 7 (mBin opAdd (mVar 7) (mLst (aCons (mTup (aCons (mVar 6) (aCons (mComp [11] (.name 11) (iLst (mVar 5)) (tV (mBin opGt (mBin opIx (mVar 6) (mVar 11)) (mC (.int 1)))) (mVar 11)) (aNil)))) (aCons (mTup (aCons (mVar 6) (aCons (mBin opIx (mVar 4) (mC (.int 1))) (aNil)))) (aCons (mTup (aCons (mVar 8) (aCons (mVar 5) (aNil)))) (aCons (mTup (aCons (mVar 9) (aCons (mLst (aNil)) (aNil)))) (aNil))))))))
def st__law_answers_10 (F : Fns) : Ms := (sSet 7 (mBin opAdd (mVar 7) (mLst (aCons (mCall F 29 (aCons (mVar 0) (aCons (mVar 4) (aNil)))) (aCons (mCall F 29 (aCons (mVar 0) (aCons (mBin opIx (mVar 2) (mC (.int 1))) (aNil)))) (aCons (mLst (aCons (mBin opIx (mVar 4) (mC (.int 0))) (aCons (mBin opIx (mVar 4) (mC (.int 1))) (aNil)))) (aNil)))))))
def st__law_answers_11 (F : Fns) : Ms := (sFor (.name 10) (iLst (mBin opAdd (mLst (aCons (mBin opIx (mVar 2) (mC (.int 1))) (aCons (mVar 4) (aNil)))) (mSl (mCall F 22 (aCons (mVar 0) (aCons (mVar 7) (aNil)))) (oNone) (oSome (mC (.int 6)))))) (sIf (Pm.tNot (tV (mCall F 25 (aCons (mCall F 43 (aCons (mVar 1) (aCons (mVar 10) (aNil)))) (aCons (mLst (aCons (mC (.str "told")) (aCons (mCall F 37 (aCons (mVar 1) (aCons (mVar 10) (aNil)))) (aNil)))) (aNil)))))) (sRet (mC (.bl false))) (sNx)))
def st__law_answers_12 (F : Fns) : Ms := (sRet (mBin opEq (mB bLen (aCons (mComp [11] (.name 11) (iR1 (mB bLen (aCons (mVar 1) (aNil)))) (tV (mBin opLt (mBin opIx (mVar 6) (mVar 11)) (mBin opIx (mBin opIx (mBin opIx (mVar 2) (mC (.int 1))) (mC (.int 0))) (mVar 11)))) (mVar 11)) (aNil))) (mC (.int 0))))
theorem st__law_answers (F : Fns) : b__law_answers F = sSeq (st__law_answers_0 F) (sSeq (st__law_answers_1 F) (sSeq (st__law_answers_2 F) (sSeq (st__law_answers_3 F) (sSeq (st__law_answers_4 F) (sSeq (st__law_answers_5 F) (sSeq (st__law_answers_6 F) (sSeq (st__law_answers_7 F) (sSeq (st__law_answers_8 F) (sSeq (st__law_answers_9 F) (sSeq (st__law_answers_10 F) (sSeq (st__law_answers_11 F) (st__law_answers_12 F)))))))))))) := rfl
def st__law_great_0 (F : Fns) : Ms := (sSet 1 (mBin opAdd (mC (.int 1700)) (mCall F 19 (aCons (mVar 0) (aCons (mC (.int 200)) (aNil))))))
def st__law_great_1 (F : Fns) : Ms := (sSet 2 (mBin opAdd (mComp [9] (.name 9) (iR1 (mVar 1)) (Pm.tYes) (mTup (aCons (mC (.str "jump")) (aCons (mBin opAdd (mVar 9) (mC (.int 2))) (aCons (mC (.int 0)) (aCons (mC (.int 2)) (aCons (mC (.int 2)) (aNil)))))))) (mLst (aCons (mTup (aCons (mC (.str "size")) (aCons (mBin opAdd (mC (.int 1)) (mCall F 19 (aCons (mVar 0) (aCons (mC (.int 2)) (aNil))))) (aNil)))) (aCons (mTup (aCons (mC (.str "size")) (aCons (mC (.int 1)) (aNil)))) (aNil))))))
def st__law_great_2 (F : Fns) : Ms := (sSet 2 (mBin opAdd (mVar 2) (mBin opMul (mLst (aCons (mTup (aCons (mC (.str "size")) (aCons (mC (.int 1)) (aNil)))) (aNil))) (mBin opSub (mC (.int 2000)) (mB bLen (aCons (mVar 2) (aNil)))))))
def st__law_great_3 (F : Fns) : Ms := (sSet 3 (mCall F 42 (aCons (mVar 2) (aNil))))
def st__law_great_4 (F : Fns) : Ms := (sSet 4 (mIf (tV (mBin opEq (mBin opIx (mBin opIx (mVar 2) (mVar 1)) (mC (.int 1))) (mC (.int 2)))) (mC (.int 2)) (mC (.int 1))))
def st__law_great_5 (F : Fns) : Ms := (sSet 5 (mIf (tV (mBin opEq (mVar 4) (mC (.int 2)))) (mComp [10] (.name 10) (iR1 (mVar 1)) (Pm.tYes) (mBin opSub (mBin opSub (mVar 1) (mC (.int 1))) (mVar 10))) (mLst (aNil))))
def st__law_great_6 (F : Fns) : Ms := (sIf (Pm.tOr (tV (mBin opNe (mBin opIx (mVar 3) (mC (.int 0))) (mC (.str "told")))) (Pm.tNot (tV (mCall F 25 (aCons (mBin opIx (mVar 3) (mC (.int 1))) (aCons (mTup (aCons (mBin opAdd (mBin opMul (mLst (aCons (mVar 4) (aNil))) (mVar 1)) (mComp [11] (.name 11) (iLst (mSl (mVar 2) (oSome (mVar 1)) (oNone))) (Pm.tYes) (mBin opIx (mVar 11) (mC (.int 1))))) (aCons (mVar 5) (aNil)))) (aNil))))))) (sRet (mC (.bl false))) (sNx))
def st__law_great_7 (F : Fns) : Ms := (sIf (Pm.tNot (tV (mCall F 25 (aCons (mCall F 42 (aCons (mBin opAdd (mVar 2) (mLst (aCons (mTup (aCons (mC (.str "size")) (aCons (mC (.int 0)) (aNil)))) (aNil)))) (aNil))) (aCons (mLst (aCons (mC (.str "raised")) (aCons (mC (.str "TooMany")) (aCons (mTup (aCons (mC (.str "rows")) (aNil))) (aNil))))) (aNil)))))) (sRet (mC (.bl false))) (sNx))
def st__law_great_8 (F : Fns) : Ms := (sSet 6 (mBin opAdd (mComp [9] (.name 9) (iR1 (mC (.int 40))) (Pm.tYes) (mTup (aCons (mC (.str "jump")) (aCons (mBin opAdd (mVar 9) (mC (.int 2))) (aCons (mC (.int 0)) (aCons (mC (.int 2)) (aCons (mC (.int 2)) (aNil)))))))) (mLst (aCons (mTup (aCons (mC (.str "size")) (aCons (mC (.int 2)) (aNil)))) (aCons (mTup (aCons (mC (.str "size")) (aCons (mC (.int 1)) (aNil)))) (aNil))))))
def st__law_great_9 (F : Fns) : Ms := (sSet 7 (mBin opAdd (mVar 6) (mBin opMul (mLst (aCons (mTup (aCons (mC (.str "size")) (aCons (mC (.int 1)) (aNil)))) (aNil))) (mC (.int 1990)))))
def st__law_great_10 (F : Fns) : Ms := (sSet 8 (mTup (aCons (mBin opAdd (mBin opAdd (mBin opMul (mLst (aCons (mC (.int 2)) (aNil))) (mC (.int 40))) (mLst (aCons (mC (.int 2)) (aCons (mC (.int 1)) (aNil))))) (mBin opMul (mLst (aCons (mC (.int 1)) (aNil))) (mC (.int 1990)))) (aCons (mComp [10] (.name 10) (iR1 (mC (.int 40))) (Pm.tYes) (mBin opSub (mC (.int 39)) (mVar 10))) (aNil)))))
def st__law_great_11 (F : Fns) : Ms := (sRet (mAnd (mCall F 25 (aCons (mCall F 43 (aCons (mVar 7) (aCons (mVar 8) (aNil)))) (aCons (mLst (aCons (mC (.str "told")) (aCons (mC (.bl true)) (aNil)))) (aNil)))) (mCall F 25 (aCons (mCall F 43 (aCons (mVar 7) (aCons (mTup (aCons (mBin opIx (mVar 8) (mC (.int 0))) (aCons (mUn opRev (mBin opIx (mVar 8) (mC (.int 1)))) (aNil)))) (aNil)))) (aCons (mLst (aCons (mC (.str "told")) (aCons (mC (.bl false)) (aNil)))) (aNil))))))
theorem st__law_great (F : Fns) : b__law_great F = sSeq (st__law_great_0 F) (sSeq (st__law_great_1 F) (sSeq (st__law_great_2 F) (sSeq (st__law_great_3 F) (sSeq (st__law_great_4 F) (sSeq (st__law_great_5 F) (sSeq (st__law_great_6 F) (sSeq (st__law_great_7 F) (sSeq (st__law_great_8 F) (sSeq (st__law_great_9 F) (sSeq (st__law_great_10 F) (st__law_great_11 F))))))))))) := rfl
def st_law_0 (F : Fns) : Ms := (sSet 1 (mCall F 18 (aCons (mVar 0) (aNil))))
def st_law_1 (F : Fns) : Ms := (sIf (tV (mBin opEq (mCall F 19 (aCons (mVar 1) (aCons (mC (.int 30)) (aNil)))) (mC (.int 7)))) (sRet (mCall F 45 (aCons (mVar 1) (aNil)))) (sNx))
def st_law_2 (F : Fns) : Ms := (sFor (.name 2) (iR1 (mC (.int 2))) (sSeq (sSet 5 (mCall F 20 (aCons (mVar 1) (aCons (mLst (aCons (mCall F 33 (aCons (mVar 1) (aNil))) (aCons (mCall F 33 (aCons (mVar 1) (aNil))) (aCons (mCall F 34 (aCons (mVar 1) (aNil))) (aCons (mCall F 35 (aCons (mVar 1) (aNil))) (aNil)))))) (aNil))))) (sIf (Pm.tNot (tV (mCall F 44 (aCons (mVar 1) (aCons (mVar 5) (aNil)))))) (sRet (mC (.bl false))) (sNx))))
def st_law_3 (F : Fns) : Ms := (sSet 3 (mCall F 29 (aCons (mVar 1) (aCons (mVar 5) (aNil)))))
def st_law_4 (F : Fns) : Ms := (sIf (tV (mBin opEq (mCall F 19 (aCons (mVar 1) (aCons (mC (.int 4)) (aNil)))) (mC (.int 0)))) (sSeq (sSet 6 (mCall F 20 (aCons (mVar 1) (aCons (mLst (aCons (mTup (aCons (mC (.str "jump")) (aCons (mBin opAdd (mB bLen (aCons (mVar 5) (aNil))) (mC (.int 1))) (aCons (mC (.int 0)) (aCons (mC (.int 0)) (aCons (mC (.int 2)) (aNil))))))) (aCons (mTup (aCons (mC (.str "jump")) (aCons (mB bLen (aCons (mVar 5) (aNil))) (aCons (mC (.int 0)) (aCons (mC (.int 0)) (aCons (mC (.int 2)) (aNil))))))) (aCons (mTup (aCons (mC (.str "size")) (aCons (mC (.int 1001)) (aNil)))) (aCons (mTup (aCons (mC (.str "jump")) (aCons (mC (.int 0)) (aCons (mC (.int 100001)) (aCons (mC (.int 0)) (aCons (mC (.int 8)) (aNil))))))) (aCons (mTup (aCons (mC (.str "jump")) (aCons (mC (.int 0)) (aCons (mC (.int 0)) (aCons (mC (.int 0)) (aCons (mC (.int 9)) (aNil))))))) (aNil))))))) (aNil))))) (sSet 3 (mBin opAdd (mVar 5) (mLst (aCons (mCall F 20 (aCons (mVar 1) (aCons (mLst (aCons (mVar 6) (aCons (mVar 6) (aCons (mTup (aCons (mC (.str "size")) (aCons (mUn opNeg (mC (.int 1))) (aNil)))) (aCons (mTup (aCons (mC (.str "jump")) (aCons (mC (.int 0)) (aCons (mC (.int 1)) (aCons (mC (.int 1)) (aCons (mC (.int 1)) (aNil))))))) (aCons (mLst (aCons (mC (.str "size")) (aCons (mC (.int 1)) (aNil)))) (aCons (mTup (aCons (mC (.str "jump")) (aCons (mUn opNeg (mC (.int 1))) (aCons (mC (.int 9)) (aCons (mC (.int 9)) (aCons (mC (.int 2)) (aNil))))))) (aNil)))))))) (aNil)))) (aNil)))))) (sNx))
def st_law_5 (F : Fns) : Ms := (sIf (tV (mCall F 41 (aCons (mVar 3) (aNil)))) (sRet (mCall F 44 (aCons (mVar 1) (aCons (mVar 3) (aNil))))) (sNx))
def st_law_6 (F : Fns) : Ms := (sSet 4 (mLst (aCons (mC (.str "raised")) (aCons (mC (.str "BadValue")) (aCons (mTup (aCons (mC (.str "rows")) (aNil))) (aNil))))))
def st_law_7 (F : Fns) : Ms := (sRet (mAnd (mCall F 25 (aCons (mCall F 42 (aCons (mVar 3) (aNil))) (aCons (mVar 4) (aNil)))) (mCall F 25 (aCons (mCall F 43 (aCons (mVar 3) (aCons (mTup (aCons (mLst (aNil)) (aCons (mLst (aNil)) (aNil)))) (aNil)))) (aCons (mVar 4) (aNil))))))
theorem st_law (F : Fns) : b_law F = sSeq (st_law_0 F) (sSeq (st_law_1 F) (sSeq (st_law_2 F) (sSeq (st_law_3 F) (sSeq (st_law_4 F) (sSeq (st_law_5 F) (sSeq (st_law_6 F) (st_law_7 F))))))) := rfl
def st__law_told_0 (F : Fns) : Ms := (sSet 1 (mCall F 26 (aCons (mVar 0) (aNil))))
def st__law_told_1 (F : Fns) : Ms := (sTry 2 (hT clsName clsFld 2 4) (sSet 3 (mCall F 14 (aCons (mVar 1) (aNil)))))
def st__law_told_2 (F : Fns) : Ms := (sRet (mIf (tV (mCall F 25 (aCons (mVar 1) (aCons (mVar 0) (aNil))))) (mLst (aCons (mC (.str "told")) (aCons (mVar 3) (aNil)))) (mLst (aCons (mC (.str "changed")) (aNil)))))
theorem st__law_told (F : Fns) : b__law_told F = sSeq (st__law_told_0 F) (sSeq (st__law_told_1 F) (st__law_told_2 F)) := rfl
def st__law_judged_0 (F : Fns) : Ms := (sSet 2 (mCall F 26 (aCons (mVar 1) (aNil))))
def st__law_judged_1 (F : Fns) : Ms := (sSet 3 (mCall F 26 (aCons (mVar 0) (aNil))))
def st__law_judged_2 (F : Fns) : Ms := (sTry 4 (hT clsName clsFld 4 6) (sSet 5 (mCall F 17 (aCons (mVar 3) (aCons (mVar 2) (aNil))))))
def st__law_judged_3 (F : Fns) : Ms := (sRet (mIf (Pm.tAnd (tV (mCall F 25 (aCons (mVar 2) (aCons (mVar 1) (aNil))))) (tV (mCall F 25 (aCons (mVar 3) (aCons (mVar 0) (aNil)))))) (mLst (aCons (mC (.str "told")) (aCons (mVar 5) (aNil)))) (mLst (aCons (mC (.str "changed")) (aNil)))))
theorem st__law_judged (F : Fns) : b__law_judged F = sSeq (st__law_judged_0 F) (sSeq (st__law_judged_1 F) (sSeq (st__law_judged_2 F) (st__law_judged_3 F))) := rfl
end K78

set_option Elab.async false
set_option linter.all false
set_option maxRecDepth 100000
set_option maxHeartbeats 4000000
/-! K78M1: what the small defs compute -/
namespace K78
open PySem Pm
@[simp] theorem jump_size : ((Str.ofString "jump" : Str) = Str.ofString "size") = False := eq_false (by decide)
@[simp] theorem size_jump : ((Str.ofString "size" : Str) = Str.ofString "jump") = False := eq_false (by decide)
def isIntD : D → Bool
  | .int _ => true
  | _ => false
/-- plain data -/
def plainD : D → Bool
  | .hnd _ => false
  | .ty _ => false
  | _ => true
theorem is_int_ok (n : Nat) (d : D) (h : plainD d = true) (m : List (List D)) : FF tab (n + 1) 0 [.val d] m = .ok (.d (.bl (isIntD d))) m := by
  rw [FF_at (fn := fn_is_int) rfl rfl (by decide)]
  cases d <;> simp [fn_is_int, b_is_int, startEnv, bIsi, tyD, kitD, isIntD, plainD] at h ⊢
/-- is_between of any plain value -/
def betwD (d : D) (lo hi : Int) : Bool := match d with
  | .int i => decide (lo ≤ i) && decide (i ≤ hi)
  | _ => false
theorem is_between_ok (n : Nat) (d : D) (h : plainD d = true) (lo hi : Int) (m : List (List D)) : FF tab (n + 2) 1 [.val d, .val (.int lo), .val (.int hi)] m = .ok (.d (.bl (betwD d lo hi))) m := by
  rw [FF_at (fn := fn_is_between) rfl rfl (by decide)]
  have e := is_int_ok n d h m
  cases d <;> simp [fn_is_between, b_is_between, startEnv, e, isIntD, betwD, opLe, opI] at h e ⊢
  split
  · rename_i z
    simp [z]
  · rename_i z
    simp [z]
def isLst : D → Bool
  | .lst _ => true
  | _ => false
def isTup : D → Bool
  | .tup _ => true
  | _ => false
def isStr : D → Bool
  | .str _ => true
  | _ => false
theorem is_list_none (n : Nat) (d : D) (h : plainD d = true) (m : List (List D)) : FF tab (n + 1) 2 [.val d, .val .non] m = .ok (.d (.bl (isLst d))) m := by
  rw [FF_at (fn := fn_is_list_of) rfl rfl (by decide)]
  cases d <;> simp [fn_is_list_of, b_is_list_of, startEnv, bIsi, tyD, kitD, isLst, plainD, opIs, isNon, isNonD] at h ⊢
def lstN (d : D) (k : Int) : Bool := match d with
  | .lst l => decide ((l.length : Int) = k)
  | _ => false
def tupN (d : D) (k : Int) : Bool := match d with
  | .tup l => decide ((l.length : Int) = k)
  | _ => false
theorem is_list_int (n : Nat) (d : D) (h : plainD d = true) (k : Int) (m : List (List D)) : FF tab (n + 1) 2 [.val d, .val (.int k)] m = .ok (.d (.bl (lstN d k))) m := by
  rw [FF_at (fn := fn_is_list_of) rfl rfl (by decide)]
  cases d <;> simp [fn_is_list_of, b_is_list_of, startEnv, bIsi, tyD, kitD, lstN, plainD, opIs, isNon, isNonD, bLen, asLen, opEq, S.dat, eqD, eqS] at h ⊢
theorem is_tuple_int (n : Nat) (d : D) (h : plainD d = true) (k : Int) (m : List (List D)) : FF tab (n + 1) 3 [.val d, .val (.int k)] m = .ok (.d (.bl (tupN d k))) m := by
  rw [FF_at (fn := fn_is_tuple_of) rfl rfl (by decide)]
  cases d <;> simp [fn_is_tuple_of, b_is_tuple_of, startEnv, bIsi, tyD, kitD, tupN, plainD, opIs, isNon, isNonD, bLen, asLen, opEq, S.dat, eqD, eqS] at h ⊢
/-- the words that a row begins with -/
def isW (d : D) : Bool := match d with
  | .str x => decide (x = "size") || decide (x = "jump")
  | _ => false
theorem is_word_ok (n : Nat) (d : D) (h : plainD d = true) (m : List (List D)) : FF tab (n + 1) 4 [.val d, .val (.tup [.str "size", .str "jump"])] m = .ok (.d (.bl (isW d))) m := by
  rw [FF_at (fn := fn_is_word) rfl rfl (by decide)]
  cases d <;> simp [fn_is_word, b_is_word, startEnv, bIsi, tyD, kitD, isW, plainD, opIn, seqR, flatD, inD, fV] at h ⊢
  rename_i x
  show (L2.eqV (.str "size") (.str x) || L2.eqV (.str "jump") (.str x)) = _
  have e1 : ∀ y : Str, L2.eqV (.str y) (.str x) = decide (x = y) := fun y => by
    show decide _ = _
    simp [eq_comm]
  rw [e1, e1]
mutual
/-- no handles, no types, all the way down -/
def okD : D → Bool
  | .lst l => okDs l
  | .tup l => okDs l
  | .hnd _ => false
  | .ty _ => false
  | _ => true
def okDs : List D → Bool
  | [] => true
  | d :: l => okD d && okDs l
end
theorem okD_plain {d : D} (h : okD d = true) : plainD d = true := by
  cases d <;> simp [okD, plainD] at h ⊢
theorem okDs_mem : ∀ {l : List D}, okDs l = true → ∀ d ∈ l, okD d = true
  | [], _, d, hd => by cases hd
  | a :: l, h, d, hd => by
    unfold okDs at h
    obtain ⟨h1, h2⟩ := Bool.and_eq_true_iff.mp h
    cases hd with
    | head => exact h1
    | tail _ hd => exact okDs_mem h2 d hd
theorem okDs_of : ∀ {l : List D}, (∀ d ∈ l, okD d = true) → okDs l = true
  | [], _ => rfl
  | a :: l, h => by
    unfold okDs
    exact Bool.and_eq_true_iff.mpr ⟨h a List.mem_cons_self, okDs_of fun d hd => h d (List.mem_cons_of_mem _ hd)⟩
/-- a right row of a list of so many -/
def rowOk (d : D) (many : Int) : Bool := match d with
  | .tup [.str x, b] => decide (x = "size") && betwD b 0 1000
  | .tup [.str x, b, c, e, f] => decide (x = "jump") && (betwD b 0 (many - 1) && (betwD f 2 8 && (betwD c 0 100000 && betwD e 0 100000)))
  | _ => false
theorem rowOk_noW {a : D} {l : List D} {many : Int} (h : isW a = false) : rowOk (.tup (a :: l)) many = false := by
  unfold rowOk
  split
  · rename_i x b q
    injection q with q
    injection q with q1 q2
    subst q1
    simp [isW] at h
    simp [h.1]
  · rename_i x b c e f q
    injection q with q
    injection q with q1 q2
    subst q1
    simp [isW] at h
    simp [h.2]
  · rfl
theorem is_length_row_ok (n : Nat) (d : D) (h : okD d = true) (many : Int) (m : List (List D)) : FF tab (n + 3) 5 [.val d, .val (.int many)] m = .ok (.d (.bl (rowOk d many))) m := by
  rw [FF_at (fn := fn_is_length_row) rfl rfl (by decide)]
  by_cases ht : isTup d = false
  · cases d <;> simp [fn_is_length_row, b_is_length_row, startEnv, bIsi, tyD, kitD, isTup, okD, rowOk] at h ht ⊢
  obtain ⟨l, rfl⟩ : ∃ l, d = .tup l := by
    cases d with
    | tup l => exact ⟨l, rfl⟩
    | _ => exact absurd rfl ht
  have hl := okDs_mem (show okDs l = true from h)
  cases l with
  | nil => simp [fn_is_length_row, b_is_length_row, startEnv, bIsi, tyD, kitD, bLen, asLen, opEq, S.dat, eqD, eqS, rowOk]
  | cons a l =>
    have ha := okD_plain (hl a List.mem_cons_self)
    have ew := is_word_ok (n + 1) a ha m
    have e0 : atD (a :: l) 0 = some a := by simp [atD, Pm.ixN]
    have l0 : ¬ ((l.length : Int) + 1 = 0) := by omega
    by_cases hw : isW a = false
    · rw [rowOk_noW hw]
      simp [fn_is_length_row, b_is_length_row, startEnv, ew, hw, l0, LIM]
    · have hw : isW a = true := by simpa using hw
      obtain ⟨x, rfl, hx⟩ : ∃ x, a = .str x ∧ (x = "size" ∨ x = "jump") := by
        cases a <;> simp [isW] at hw
        exact ⟨_, rfl, hw⟩
      match l, hl with
      | [], _ => rcases hx with rfl | rfl <;> simp [fn_is_length_row, b_is_length_row, startEnv, ew, hw, LIM, rowOk]
      | [b], hl =>
        have e1 := is_between_ok n b (okD_plain (hl b (by simp))) 0 1000 m
        rcases hx with rfl | rfl <;> simp [fn_is_length_row, b_is_length_row, startEnv, ew, hw, LIM, rowOk, e1]
      | [b, c], _ => rcases hx with rfl | rfl <;> simp [fn_is_length_row, b_is_length_row, startEnv, ew, hw, LIM, rowOk]
      | [b, c, e], _ => rcases hx with rfl | rfl <;> simp [fn_is_length_row, b_is_length_row, startEnv, ew, hw, LIM, rowOk]
      | [b, c, e, f], hl =>
        have e1 := is_between_ok n b (okD_plain (hl b (by simp))) 0 (many - 1) m
        have e2 := is_between_ok n f (okD_plain (hl f (by simp))) 2 8 m
        have e3 := is_between_ok n c (okD_plain (hl c (by simp))) 0 100000 m
        have e4 := is_between_ok n e (okD_plain (hl e (by simp))) 0 100000 m
        obtain ⟨x1, g1⟩ : ∃ y, betwD b 0 (many - 1) = y := ⟨_, rfl⟩
        obtain ⟨x2, g2⟩ : ∃ y, betwD f 2 8 = y := ⟨_, rfl⟩
        obtain ⟨x3, g3⟩ : ∃ y, betwD c 0 100000 = y := ⟨_, rfl⟩
        obtain ⟨x4, g4⟩ : ∃ y, betwD e 0 100000 = y := ⟨_, rfl⟩
        rw [g1] at e1
        rw [g2] at e2
        rw [g3] at e3
        rw [g4] at e4
        rcases hx with rfl | rfl
        · simp [fn_is_length_row, b_is_length_row, startEnv, ew, hw, LIM, rowOk]
        · cases x1 <;> cases x2 <;> cases x3 <;> simp [fn_is_length_row, b_is_length_row, startEnv, ew, hw, LIM, rowOk, e1, e2, e3, e4, g1, g2, g3, g4]
      | b :: c :: e :: f :: g :: l, _ =>
        have l1 : ¬ ((l.length : Int) + 1 + 1 + 1 + 1 + 1 + 1 = 5) := by omega
        have l2 : ¬ ((l.length : Int) + 1 + 1 + 1 + 1 + 1 + 1 = 2) := by omega
        have l3 : ¬ ((l.length : Int) + 1 + 1 + 1 + 1 + 1 + 1 = 0) := by omega
        rcases hx with rfl | rfl <;> simp [fn_is_length_row, b_is_length_row, startEnv, ew, hw, LIM, rowOk, l1, l2, l3]
/-- right rows -/
def rowsOk (d : D) : Bool := match d with
  | .lst l => l.all fun r => rowOk r l.length
  | _ => false
def lenOk (d : D) : Prop := match d with
  | .lst l => l.length ≤ LIM
  | _ => True
theorem bls_map {α : Type} (f : α → Bool) : ∀ l : List α, bls (l.map fun x => D.bl (f x)) = some (l.map f)
  | [] => rfl
  | a :: l => by
    rw [List.map_cons, List.map_cons]
    unfold bls
    rw [bls_map f l]
    rfl
theorem check_rows_ok (n : Nat) (d : D) (h : okD d = true) (hl : lenOk d) (m : List (List D)) : FF tab (n + 4) 6 [.val d] m = if rowsOk d = true then .ok (.d .non) m else .ex ⟨10, [("name", .str "rows")]⟩ m := by
  rw [FF_at (fn := fn_check_rows) rfl rfl (by decide)]
  have e0 := is_list_none (n + 2) d (okD_plain h) m
  by_cases hd : isLst d = true
  case neg =>
    have hd : isLst d = false := by simpa using hd
    have : rowsOk d = false := by cases d <;> simp [isLst, rowsOk] at hd ⊢
    simp [fn_check_rows, b_check_rows, startEnv, e0, hd, this, sRaise]
  obtain ⟨l, rfl⟩ : ∃ l, d = .lst l := by
    cases d <;> simp [isLst] at hd
    exact ⟨_, rfl⟩
  have hm := okDs_mem (show okDs l = true from h)
  have ec := compL_map (own := [1]) (tg := .name 1) (s := ⟨[.val (.lst l), .un], m⟩) (e := mCall (FF tab (n + 3)) 5 (aCons (mVar 1) (aCons (mB bLen (aCons (mVar 0) aNil)) aNil))) (fun r => .bl (rowOk r l.length)) l (fun x hx => by
    have e := is_length_row_ok n x (hm x hx) l.length m
    exact ⟨⟨[.val (.lst l), .val x], m⟩, rfl, rfl, .d (.bl (rowOk x l.length)), by simp [e], rfl⟩) hl
  have hb := bls_map (fun r => rowOk r l.length) l
  have ha : (l.map fun r => rowOk r l.length).all id = rowsOk (.lst l) := by
    rw [List.all_map]
    rfl
  have hA : bAll ⟨[.val (.lst l), .un], m⟩ [.fr (l.map fun r => .bl (rowOk r l.length))] = some (.d (.bl (rowsOk (.lst l)))) := by
    rw [← ha]
    simp [bAll, hb]
  cases hr : rowsOk (.lst l) <;> rw [hr] at hA <;> simp [fn_check_rows, b_check_rows, startEnv, e0, isLst, ec, hA, sRaise]
end K78

set_option Elab.async false
set_option linter.all false
set_option maxRecDepth 100000
set_option maxHeartbeats 4000000
/-! K78M2: rows, lengths, starts -/
namespace K78
open PySem Pm
inductive Row where
  | size (s : Int) | jump (g b a f : Int)
def encR : Row → D
  | .size s => .tup [.str "size", .int s]
  | .jump g b a f => .tup [.str "jump", .int g, .int b, .int a, .int f]
def Row.good (many : Nat) : Row → Prop
  | .size s => 0 ≤ s ∧ s ≤ 1000
  | .jump g b a f => (0 ≤ g ∧ g < many) ∧ (0 ≤ b ∧ b ≤ 100000) ∧ (0 ≤ a ∧ a ≤ 100000) ∧ 2 ≤ f ∧ f ≤ 8
def Good (rs : List Row) : Prop := ∀ r ∈ rs, r.good rs.length
def rowsD (rs : List Row) : List D := rs.map encR
def Row.near : Row → Int
  | .size s => s
  | .jump _ _ _ _ => 1
def Row.isJ : Row → Bool
  | .size _ => false
  | .jump _ _ _ _ => true
def nears (rs : List Row) : List Int := rs.map Row.near
theorem betw_int {d : D} {lo hi : Int} (h : betwD d lo hi = true) : ∃ i, d = .int i ∧ lo ≤ i ∧ i ≤ hi := by
  cases d <;> simp [betwD] at h
  exact ⟨_, rfl, h.1, h.2⟩
theorem rowOk_row {d : D} {many : Nat} (h : rowOk d many = true) : ∃ r, d = encR r ∧ r.good many := by
  unfold rowOk at h
  split at h
  · simp only [Bool.and_eq_true, decide_eq_true_eq] at h
    obtain ⟨rfl, h⟩ := h
    obtain ⟨i, rfl, h1, h2⟩ := betw_int h
    exact ⟨.size i, rfl, h1, h2⟩
  · simp only [Bool.and_eq_true, decide_eq_true_eq] at h
    obtain ⟨rfl, h1, h2, h3, h4⟩ := h
    obtain ⟨g, rfl, g1, g2⟩ := betw_int h1
    obtain ⟨f, rfl, f1, f2⟩ := betw_int h2
    obtain ⟨b, rfl, b1, b2⟩ := betw_int h3
    obtain ⟨a, rfl, a1, a2⟩ := betw_int h4
    exact ⟨.jump g b a f, rfl, ⟨g1, by omega⟩, ⟨b1, b2⟩, ⟨a1, a2⟩, f1, f2⟩
  · cases h
theorem row_rowOk {r : Row} {many : Nat} (h : r.good many) : rowOk (encR r) many = true := by
  cases r with
  | size s => simp [encR, rowOk, betwD, h.1, h.2]
  | jump g b a f =>
    obtain ⟨⟨g1, g2⟩, ⟨b1, b2⟩, ⟨a1, a2⟩, f1, f2⟩ := h
    have : g ≤ (many : Int) - 1 := by omega
    simp [encR, rowOk, betwD, g1, this, b1, b2, a1, a2, f1, f2]
theorem rowsOk_rows {d : D} (h : rowsOk d = true) : ∃ rs, d = .lst (rowsD rs) ∧ Good rs := by
  unfold rowsOk at h
  split at h
  · rename_i l
    have h := List.all_eq_true.mp h
    have key : ∀ (k : Nat) (l' : List D), (∀ x ∈ l', rowOk x k = true) → ∃ rs, l' = rowsD rs ∧ ∀ r ∈ rs, r.good k := by
      intro k l'
      induction l' with
      | nil => exact fun _ => ⟨[], rfl, fun r hr => by cases hr⟩
      | cons x l' ih =>
        intro hx
        obtain ⟨r, rfl, hr⟩ := rowOk_row (hx x List.mem_cons_self)
        obtain ⟨rs, rfl, hrs⟩ := ih fun y hy => hx y (List.mem_cons_of_mem _ hy)
        exact ⟨r :: rs, rfl, fun q hq => by
          cases hq with
          | head => exact hr
          | tail _ hq => exact hrs q hq⟩
    obtain ⟨rs, e, hrs⟩ := key l.length l h
    refine ⟨rs, by rw [e], fun r hr => ?_⟩
    have : rs.length = l.length := by rw [e]; simp [rowsD]
    rw [this]
    exact hrs r hr
  · cases h
theorem rows_rowsOk {rs : List Row} (h : Good rs) : rowsOk (.lst (rowsD rs)) = true := by
  unfold rowsOk
  refine List.all_eq_true.mpr fun x hx => ?_
  obtain ⟨r, hr, rfl⟩ := List.mem_map.mp hx
  rw [show (rowsD rs).length = rs.length by simp [rowsD]]
  exact row_rowOk (h r hr)
theorem encR_ok (r : Row) : okD (encR r) = true := by cases r <;> rfl
theorem rowsD_ok (rs : List Row) : okD (.lst (rowsD rs)) = true := okDs_of fun d hd => by
  obtain ⟨r, _, rfl⟩ := List.mem_map.mp hd
  exact encR_ok r
@[simp] theorem rowsD_len (rs : List Row) : (rowsD rs).length = rs.length := by simp [rowsD]
@[simp] theorem intsD_len (l : List Int) : (intsD l).length = l.length := by simp [intsD]
theorem rowsD_at (rs : List Row) (k : Nat) : atD (rowsD rs) (k : Int) = (rs[k]?).map encR := by rw [atD_nat, rowsD, List.getElem?_map]
theorem intsD_at (l : List Int) (k : Nat) : atD (intsD l) (k : Int) = (l[k]?).map D.int := by rw [atD_nat, intsD, List.getElem?_map]
/-! ### the near lengths -/
theorem near_ok (n : Nat) (rs : List Row) (hl : rs.length ≤ LIM) (m : List (List D)) : FF tab (n + 1) 7 [.val (.lst (rowsD rs))] m = .ok (.fr (intsD (nears rs))) m := by
  rw [FF_at (fn := fn_near_lengths) rfl rfl (by decide)]
  have ec := compL_map (own := [1]) (tg := .name 1) (s := ⟨[.val (.lst (rowsD rs)), .un], m⟩) (e := mIf (tV (mBin opEq (mBin opIx (mVar 1) (mC (.int 0))) (mC (.str "size")))) (mBin opIx (mVar 1) (mC (.int 1))) (mC (.int 1)))
    (fun d => match d with
      | .tup [_, .int s] => .int s
      | _ => .int 1) (rowsD rs) (fun x hx => by
    obtain ⟨r, _, rfl⟩ := List.mem_map.mp hx
    refine ⟨⟨[.val (.lst (rowsD rs)), .val (encR r)], m⟩, rfl, rfl, ?_⟩
    cases r <;> simp [encR]) (by simpa using hl)
  simp [fn_near_lengths, b_near_lengths, startEnv, ec]
  unfold rowsD nears intsD
  rw [List.map_map, List.map_map]
  refine List.map_congr_left fun r _ => ?_
  cases r <;> rfl
/-! ### the starts -/
def startsL (ls : List Int) : List Int := (List.range (ls.length + 1)).map fun i => (ls.take i).sum
@[simp] theorem startsL_len (ls : List Int) : (startsL ls).length = ls.length + 1 := by simp [startsL]
theorem startsL_at (ls : List Int) (k : Nat) (h : k ≤ ls.length) : (startsL ls)[k]? = some (ls.take k).sum := by
  unfold startsL
  rw [List.getElem?_map, List.getElem?_range (by omega)]
  rfl
theorem startsL_take (ls : List Int) (k : Nat) (x : Int) (h : ls[k]? = some x) : startsL (ls.take (k + 1)) = startsL (ls.take k) ++ [(ls.take k).sum + x] := by
  have hk : k < ls.length := (List.getElem?_eq_some_iff.mp h).1
  apply List.ext_getElem?
  intro i
  by_cases hi : i ≤ k
  · rw [startsL_at _ i (by simp; omega), List.getElem?_append_left (by simp; omega), startsL_at _ i (by simp; omega), List.take_take, List.take_take, Nat.min_eq_left (by omega), Nat.min_eq_left (by omega)]
  · by_cases hi2 : i = k + 1
    · subst hi2
      rw [startsL_at _ (k + 1) (by simp; omega), List.getElem?_append_right (by simp; omega)]
      simp only [startsL_len, List.length_take]
      rw [Nat.min_eq_left (by omega), Nat.sub_self, List.take_take, Nat.min_self]
      show some _ = some _
      congr 1
      rw [List.take_succ, h]
      simp
    · rw [List.getElem?_eq_none (by simp; omega), List.getElem?_eq_none (by simp; omega)]
theorem starts_last (ls : List Int) (k : Nat) (h : k ≤ ls.length) : atD (intsD (startsL (ls.take k))) (-1) = some (.int (ls.take k).sum) ∧ atD (intsD (startsL (ls.take k))) (((startsL (ls.take k)).length : Int) - 1) = some (.int (ls.take k).sum) := by
  have hl : (ls.take k).length = k := by simp; omega
  have e : (intsD (startsL (ls.take k)))[k]? = some (.int (ls.take k).sum) := by
    unfold intsD
    rw [List.getElem?_map, startsL_at _ k (by omega), List.take_take, Nat.min_self]
    rfl
  constructor
  · unfold atD Pm.ixN
    rw [if_neg (by decide), if_pos (by simp; omega)]
    show (intsD (startsL (ls.take k)))[(-1 + ((intsD (startsL (ls.take k))).length : Int)).toNat]? = _
    have : (-1 + ((intsD (startsL (ls.take k))).length : Int)).toNat = k := by simp; omega
    rw [this, e]
  · have : (((startsL (ls.take k)).length : Int) - 1) = (k : Int) := by simp; omega
    rw [this, atD_nat, e]
/-- a list of numbers as an argument -/
def IsL (a : Pm.Arg) (l : List D) : Prop := a = .val (.lst l) ∨ a = .bor l ∨ a = .ro l
@[simp] theorem sApp_ap (o e : Me) (s : S) : sApp o e s = (o s).bind fun ro s1 => match chg s1 ro some with
  | none => .st
  | some _ => (e s1).bind fun r s2 => match r.toD with
    | some d => (match chg s2 ro (fun l => if l.length < LIM then some (l ++ [d]) else none) with
      | some s3 => .ok .nx s3
      | none => .st)
    | none => .st := rfl
@[simp] theorem chg_slt (s : S) (i : Nat) (f : List D → Option (List D)) : chg s (.slt i) f = (match s.env[i]? with
  | some (.own l) => (f l).map fun l' => setVal s i (.own l')
  | _ => none) := rfl
theorem row_starts_ok (n : Nat) (a : Pm.Arg) (ls : List Int) (ha : IsL a (intsD ls)) (hl : ls.length + 1 < LIM) (m : List (List D)) : FF tab (n + 1) 8 [a] m = .ok (.fr (intsD (startsL ls))) m := by
  rw [FF_at (fn := fn_row_starts) rfl rfl (by decide)]
  have main : ∀ sl : Sl, (sl = .val (.lst (intsD ls)) ∨ sl = .bor (intsD ls) ∨ sl = .ro (intsD ls)) → retOf (b_row_starts (FF tab n) ⟨[sl, .un, .un], m⟩) = .ok (.fr (intsD (startsL ls))) m := by
    intro sl hs
    have hit : iLst (mVar 0) ⟨[sl, .own (intsD (startsL (ls.take 0))), .un], m⟩ = .ok (intsD ls) ⟨[sl, .own (intsD (startsL (ls.take 0))), .un], m⟩ := by
      rcases hs with rfl | rfl | rfl <;> simp
    obtain ⟨s', h1, h2⟩ := forL_ok (tg := .name 2) (b := sApp (mVar 1) (mBin opAdd (mBin opIx (mVar 1) (mUn opNeg (mC (.int 1)))) (mVar 2))) (fun k s => ∃ x, s = ⟨[sl, .own (intsD (startsL (ls.take k))), x], m⟩) (intsD ls) 0 ⟨[sl, .own (intsD (startsL (ls.take 0))), .un], m⟩ ⟨.un, rfl⟩ (fun j d s hd hI => by
      obtain ⟨x, rfl⟩ := hI
      unfold intsD at hd
      rw [List.getElem?_map] at hd
      cases hq : ls[j]? with
      | none => rw [hq] at hd; cases hd
      | some v =>
        rw [hq] at hd
        injection hd with hd
        subst hd
        have hj : j < ls.length := (List.getElem?_eq_some_iff.mp hq).1
        have e1 := (starts_last ls j (by omega)).1
        have hlen : (intsD (startsL (ls.take j))).length < LIM := by simp; omega
        refine ⟨⟨[sl, .own (intsD (startsL (ls.take j))), .val (.int v)], m⟩, ⟨[sl, .own (intsD (startsL (ls.take (j + 1)))), .val (.int v)], m⟩, .nx, by simp, ?_, .inl rfl, ⟨.val (.int v), by simp⟩⟩
        rw [startsL_take ls j v hq]
        simp [e1]
        simp at hlen
        rw [if_pos hlen]
        simp [intsD])
    obtain ⟨x, rfl⟩ := h2
    simp only [Nat.zero_add, intsD_len, List.take_length] at h1
    have hl0 : 1 ≤ LIM := by decide
    have e0 : intsD (startsL []) = [.int 0] := rfl
    simp only [List.take_zero, e0] at h1 hit
    rcases hs with rfl | rfl | rfl <;> simp [b_row_starts, hl0, h1]
  rcases ha with rfl | rfl | rfl
  · exact main _ (.inl rfl)
  · exact main _ (.inr (.inl rfl))
  · exact main _ (.inr (.inr rfl))
end K78

set_option Elab.async false
set_option linter.all false
set_option maxRecDepth 100000
set_option maxHeartbeats 4000000
/-! K78M3: the program's small defs about jumps -/
namespace K78
open PySem Pm
/-- how far it is from row k to row g -/
def way (ls : List Int) (k : Nat) (g : Int) : Int := (ls.take g.toNat).sum - (ls.take k).sum
def reachB (ls : List Int) (k : Nat) (g b a : Int) : Bool := decide (-b ≤ way ls k g) && decide (way ls k g ≤ a)
theorem startsD_at (ls : List Int) (i : Int) (h : 0 ≤ i) (h2 : i ≤ ls.length) : atD (intsD (startsL ls)) i = some (.int (ls.take i.toNat).sum) := by
  rw [atD_int _ _ h, intsD, List.getElem?_map, startsL_at ls i.toNat (by omega)]
  rfl
theorem jump_reaches_ok (n : Nat) (ls : List Int) (k : Nat) (g b a f : Int) (hk : k ≤ ls.length) (hg : 0 ≤ g) (hg2 : g ≤ ls.length) (m : List (List D)) :
    FF tab (n + 1) 9 [.val (encR (.jump g b a f)), .val (.int k), .val (.lst (intsD (startsL ls)))] m = .ok (.d (.bl (reachB ls k g b a))) m := by
  rw [FF_at (fn := fn_jump_reaches) rfl rfl (by decide)]
  have e1 := startsD_at ls g hg hg2
  have e2 := startsD_at ls k (by omega) (by omega)
  rw [Int.toNat_natCast] at e2
  simp only [fn_jump_reaches, b_jump_reaches, startEnv, encR]
  simp [e1, e2]
  unfold reachB way
  by_cases h : -b ≤ (ls.take g.toNat).sum - (ls.take k).sum
  · simp [h]
  · simp [h]
theorem jump_reach_ok (n : Nat) (k : Nat) (g b a f : Int) (m : List (List D)) :
    FF tab (n + 1) 11 [.val (encR (.jump g b a f)), .val (.int k)] m = .ok (.d (.int (if (k : Int) ≤ g then a else b))) m := by
  rw [FF_at (fn := fn_jump_reach) rfl rfl (by decide)]
  simp only [fn_jump_reach, b_jump_reach, startEnv, encR]
  by_cases h : (k : Int) ≤ g
  · simp [h]
  · simp [h]
def spans (g : Int) (k o : Int) : Bool := (decide (k ≤ o) && decide (o < g)) || (decide (g ≤ o) && decide (o < k))
theorem jump_spans_ok (n : Nat) (g b a f k o : Int) (m : List (List D)) :
    FF tab (n + 1) 12 [.val (encR (.jump g b a f)), .val (.int k), .val (.int o)] m = .ok (.d (.bl (spans g k o))) m := by
  rw [FF_at (fn := fn_jump_spans) rfl rfl (by decide)]
  simp only [fn_jump_spans, b_jump_spans, startEnv, encR]
  unfold spans
  by_cases h : k ≤ o
  · by_cases h2 : o < g
    · simp [h, h2]
    · by_cases h3 : g ≤ o
      · simp [h, h2, h3]
      · simp [h, h2, h3]
  · by_cases h3 : g ≤ o
    · simp [h, h3]
    · simp [h, h3]
/-- a jump's distance -/
def distR (ls : List Int) (k : Nat) : Row → Int
  | .size _ => 0
  | .jump g _ _ _ => if way ls k g < 0 then -way ls k g else way ls k g
def idx {α : Type} (f : Nat → α → D) (l : List α) : List D := l.mapIdx f
theorem enum_mem : ∀ (l : List D) (n : Nat) (x : D), x ∈ enumFrom n l → ∃ k d, x = .tup [.int ((n + k : Nat) : Int), d] ∧ l[k]? = some d
  | [], n, x, h => by cases h
  | a :: l, n, x, h => by
    unfold enumFrom at h
    rcases List.mem_cons.mp h with rfl | h
    · exact ⟨0, a, rfl, rfl⟩
    · obtain ⟨k, d, rfl, hd⟩ := enum_mem l (n + 1) x h
      exact ⟨k + 1, d, by rw [show n + 1 + k = n + (k + 1) by omega], hd⟩
@[simp] theorem enum_len : ∀ (l : List D) (n : Nat), (enumFrom n l).length = l.length
  | [], _ => rfl
  | a :: l, n => by
    unfold enumFrom
    rw [List.length_cons, enum_len l (n + 1), List.length_cons]
theorem enum_at : ∀ (l : List D) (n k : Nat), (enumFrom n l)[k]? = (l[k]?).map fun d => .tup [.int ((n + k : Nat) : Int), d]
  | [], _, _ => by simp [enumFrom]
  | a :: l, n, 0 => by simp [enumFrom]
  | a :: l, n, k + 1 => by
    unfold enumFrom
    rw [List.getElem?_cons_succ, enum_at l (n + 1) k, List.getElem?_cons_succ, show n + 1 + k = n + (k + 1) by omega]
theorem enum_eq (l : List D) : enumFrom 0 l = (List.range l.length).map fun k => .tup [.int (k : Nat), l.getD k .non] := by
  apply List.ext_getElem?
  intro i
  rw [enum_at, List.getElem?_map]
  by_cases hi : i < l.length
  · rw [List.getElem?_range hi, List.getElem?_eq_getElem hi]
    simp [hi]
  · rw [List.getElem?_eq_none (by omega), List.getElem?_eq_none (by simp; omega)]
    rfl
/-- a comprehension over enumerate(rows) -/
theorem compE_ok {own : List Nat} {tg : Tg} {c : Mt} {e : Me} {s : S} (rs : List Row) (pp : Nat → Bool) (h : Nat → D)
    (hyp : ∀ k r, rs[k]? = some r → ∃ s1, tg.put (.tup [.int (k : Nat), encR r]) s = some s1 ∧ c s1 = .ok (pp k) s1 ∧ wipe s1 own = s ∧ (pp k = true → ∃ z, e s1 = .ok z s1 ∧ z.toD = some (h k))) (hl : rs.length ≤ LIM) :
    compL own tg c e (enumFrom 0 (rowsD rs)) s [] = .ok (((List.range rs.length).filter pp).map h) s := by
  have := compL_ok (own := own) (tg := tg) (c := c) (e := e) (s := s) (fun d => match d with
    | .tup [.int k, _] => pp k.toNat
    | _ => false) (fun d => match d with
    | .tup [.int k, _] => h k.toNat
    | _ => .non) (enumFrom 0 (rowsD rs)) [] (fun x hx => by
      obtain ⟨k, d, rfl, hd⟩ := enum_mem _ _ x hx
      unfold rowsD at hd
      rw [List.getElem?_map] at hd
      cases hr : rs[k]? with
      | none => rw [hr] at hd; cases hd
      | some r =>
        rw [hr] at hd
        injection hd with hd
        subst hd
        rw [Nat.zero_add]
        exact hyp k r hr) (by simpa using hl)
  rw [this, enum_eq, List.filter_map, List.map_map, rowsD_len]
  rfl
def distsL (rs : List Row) (ls : List Int) : List Int := (List.range rs.length).map fun k => match rs[k]? with
  | some r => distR ls k r
  | none => 0
theorem jump_distances_ok (n : Nat) (rs : List Row) (ls : List Int) (hg : Good rs) (hls : ls.length = rs.length) (hl : rs.length + 1 < LIM) (m : List (List D)) :
    FF tab (n + 2) 10 [.val (.lst (rowsD rs)), .bor (intsD ls)] m = .ok (.fr (intsD (distsL rs ls))) m := by
  rw [FF_at (fn := fn_jump_distances) rfl rfl (by decide)]
  have es := row_starts_ok n (.bor (intsD ls)) ls (.inr (.inl rfl)) (by omega) m
  have ec := compE_ok (own := [3, 4]) (tg := .tup [3, 4]) (c := Pm.tYes) (s := ⟨[.val (.lst (rowsD rs)), .bor (intsD ls), .val (.lst (intsD (startsL ls))), .un, .un], m⟩)
    (e := mIf (tV (mBin opEq (mBin opIx (mVar 4) (mC (.int 0))) (mC (.str "size")))) (mC (.int 0)) (mB bAbs (aCons (mBin opSub (mBin opIx (mVar 2) (mBin opIx (mVar 4) (mC (.int 1)))) (mBin opIx (mVar 2) (mVar 3))) (aNil)))) rs (fun _ => true) (fun k => .int (match rs[k]? with
      | some r => distR ls k r
      | none => 0)) (fun k r hr => by
      have hk : k < rs.length := (List.getElem?_eq_some_iff.mp hr).1
      refine ⟨⟨[.val (.lst (rowsD rs)), .bor (intsD ls), .val (.lst (intsD (startsL ls))), .val (.int k), .val (encR r)], m⟩, by simp, rfl, rfl, fun _ => ?_⟩
      rw [hr]
      cases r with
      | size s => simp [encR, distR]
      | jump g b a f =>
        have hgg := hg _ (List.mem_of_getElem? hr)
        have e1 := startsD_at ls g hgg.1.1 (by have := hgg.1.2; omega)
        have e2 := startsD_at ls k (by omega) (by omega)
        rw [Int.toNat_natCast] at e2
        simp [encR, e1, e2, bAbs, one, distR]
        rfl) (by omega)
  have ef : ∀ l : List Nat, l.filter (fun _ => true) = l := fun l => List.filter_eq_self.mpr fun _ _ => rfl
  rw [ef] at ec
  simp [fn_jump_distances, b_jump_distances, startEnv, es, ec]
  simp [distsL, intsD]
end K78

set_option Elab.async false
set_option linter.all false
set_option maxRecDepth 100000
set_option maxHeartbeats 4000000
/-! K78M4: the program's judge -/
namespace K78
open PySem Pm
def fitD (r : Row) (d : D) : Bool := match r with
  | .size s => betwD d s s
  | .jump _ _ _ f => betwD d 1 1 || betwD d f f
def okAt (rs : List Row) (l : List D) (k : Nat) : Bool := match rs[k]?, l[k]? with
  | some r, some d => fitD r d
  | _, _ => false
def formB (rs : List Row) (l : List D) : Bool := (List.range rs.length).all (okAt rs l)
/-- a check of every item -/
def chk (q : D → Bool) (_ : Unit) (x : D) : Option Unit := cond (q x) (some ()) none
theorem runO_unit (q : D → Bool) : ∀ items : List D, runO (chk q) items () = cond (items.all q) (some ()) none
  | [] => rfl
  | x :: xs => by
    unfold runO
    show (cond (q x) (some ()) none).bind _ = _
    cases h : q x with
    | true =>
      show runO (chk q) xs () = _
      rw [runO_unit q xs, List.all_cons, h, Bool.true_and]
    | false =>
      rw [List.all_cons, h, Bool.false_and]
      rfl
/-- a test of enumerate's items by their number -/
def onE (q : Nat → Bool) (x : D) : Bool := match x with
  | .tup [.int k, _] => q k.toNat
  | _ => false
theorem all_enum (rs : List Row) (q : Nat → Bool) : (enumFrom 0 (rowsD rs)).all (onE q) = (List.range rs.length).all q := by
  rw [enum_eq, List.all_map, rowsD_len]
  rfl
def formD (rs : List Row) (d : D) : Bool := match d with
  | .lst l => formB rs l
  | _ => false
@[simp] theorem formD_lst (rs : List Row) (l : List D) : formD rs (.lst l) = formB rs l := rfl
theorem have_form_ok (n : Nat) (rs : List Row) (d : D) (hd : okD d = true) (m : List (List D)) :
    FF tab (n + 3) 15 [.val (.lst (rowsD rs)), .val d] m = .ok (.d (.bl (lstN d rs.length && formD rs d))) m := by
  rw [FF_at (fn := fn_lengths_have_form) rfl rfl (by decide)]
  have e0 := is_list_int (n + 1) d (okD_plain hd) rs.length m
  cases hL : lstN d rs.length with
  | false =>
    rw [hL] at e0
    simp [fn_lengths_have_form, b_lengths_have_form, startEnv, e0]
  | true =>
    rw [hL] at e0
    obtain ⟨l, rfl, hl⟩ : ∃ l, d = .lst l ∧ l.length = rs.length := by
      cases d <;> simp [lstN] at hL
      exact ⟨_, rfl, by omega⟩
    have hm := okDs_mem (show okDs l = true from hd)
    obtain ⟨s', h1⟩ := forL_fold (σ := Unit) (tg := .tup [2, 3]) (b := sSeq (sIf (Pm.tAnd (tV (mBin opEq (mBin opIx (mVar 3) (mC (.int 0))) (mC (.str "size")))) (Pm.tNot (tV (mCall (FF tab (n + 2)) 1 (aCons (mBin opIx (mVar 1) (mVar 2)) (aCons (mBin opIx (mVar 3) (mC (.int 1))) (aCons (mBin opIx (mVar 3) (mC (.int 1))) (aNil)))))))) (sRet (mC (.bl false))) (sNx)) (sIf (Pm.tAnd (tV (mBin opEq (mBin opIx (mVar 3) (mC (.int 0))) (mC (.str "jump")))) (Pm.tAnd (Pm.tNot (tV (mCall (FF tab (n + 2)) 1 (aCons (mBin opIx (mVar 1) (mVar 2)) (aCons (mC (.int 1)) (aCons (mC (.int 1)) (aNil))))))) (Pm.tNot (tV (mCall (FF tab (n + 2)) 1 (aCons (mBin opIx (mVar 1) (mVar 2)) (aCons (mBin opIx (mVar 3) (mC (.int 4))) (aCons (mBin opIx (mVar 3) (mC (.int 4))) (aNil))))))))) (sRet (mC (.bl false))) (sNx)))
      (fun _ s => ∃ x y, s = ⟨[.val (.lst (rowsD rs)), .val (.lst l), x, y], m⟩) (chk (onE (okAt rs l))) (.d (.bl false)) m (enumFrom 0 (rowsD rs)) () ⟨[.val (.lst (rowsD rs)), .val (.lst l), .un, .un], m⟩ ⟨_, _, rfl⟩ (fun x hx a s hI => by
      obtain ⟨x1, x2, rfl⟩ := hI
      obtain ⟨k, dr, rfl, hdr⟩ := enum_mem _ _ x hx
      rw [rowsD, List.getElem?_map] at hdr
      cases hr : rs[k]? with
      | none => rw [hr] at hdr; cases hdr
      | some r =>
        rw [hr] at hdr
        injection hdr with hdr
        subst hdr
        have hk : k < rs.length := (List.getElem?_eq_some_iff.mp hr).1
        obtain ⟨v, hv⟩ : ∃ v, l[k]? = some v := ⟨_, List.getElem?_eq_getElem (by omega)⟩
        have hvp := okD_plain (hm v (List.mem_of_getElem? hv))
        have ev : atD l ((0 + k : Nat) : Int) = some v := by rw [Nat.zero_add, atD_nat, hv]
        have hok : okAt rs l ((0 + k : Nat) : Int).toNat = fitD r v := by
          unfold okAt
          rw [Int.toNat_natCast, Nat.zero_add, hr, hv]
        unfold chk onE
        dsimp only
        rw [hok]
        refine ⟨⟨[.val (.lst (rowsD rs)), .val (.lst l), .val (.int ((0 + k : Nat) : Int)), .val (encR r)], m⟩, ⟨[.val (.lst (rowsD rs)), .val (.lst l), .val (.int ((0 + k : Nat) : Int)), .val (encR r)], m⟩, by simp, ?_⟩
        rw [Nat.zero_add] at ev ⊢
        cases r with
        | size s =>
          have e1 := is_between_ok n v hvp s s m
          cases hf : betwD v s s <;> rw [hf] at e1 <;> simp [encR, fitD, ev, e1, hf]
        | jump g b a f =>
          have e1 := is_between_ok n v hvp 1 1 m
          have e2 := is_between_ok n v hvp f f m
          cases hf : betwD v 1 1 <;> cases hf2 : betwD v f f <;> rw [hf] at e1 <;> rw [hf2] at e2 <;> simp [encR, fitD, ev, e1, e2, hf, hf2])
    rw [runO_unit, all_enum rs (okAt rs l)] at h1
    cases hA : (List.range rs.length).all (okAt rs l) with
    | true =>
      rw [hA] at h1
      obtain ⟨h1, x, y, rfl⟩ := h1
      have hF : formB rs l = true := hA
      simp [fn_lengths_have_form, b_lengths_have_form, startEnv, e0, h1, hF]
    | false =>
      rw [hA] at h1
      obtain ⟨h1, h2⟩ := h1
      have hF : formB rs l = false := hA
      simp [fn_lengths_have_form, b_lengths_have_form, startEnv, e0, h1, h2, hF]
end K78

set_option Elab.async false
set_option linter.all false
set_option maxRecDepth 100000
set_option maxHeartbeats 4000000
/-! K78M5: equal lists of numbers; setting an item -/
namespace K78
open PySem Pm
theorem pys_ints : ∀ l : List Int, pys (intsD l) = some (l.map PyData.int)
  | [] => rfl
  | a :: l => by
    show (match py (.int a), pys (intsD l) with
      | some a, some b => some (a :: b)
      | _, _ => none) = _
    rw [pys_ints l]
    rfl
theorem can_ints : ∀ l : List Int, PyData.canLayAll0 (l.map PyData.int) = true
  | [] => rfl
  | a :: l => by
    rw [List.map_cons]
    unfold PyData.canLayAll0
    rw [can_ints l]
    rfl
theorem dep_ints : ∀ l : List Int, PyData.depthAll (l.map PyData.int) ≤ 1
  | [] => by decide
  | a :: l => by
    rw [List.map_cons]
    have := dep_ints l
    simp only [PyData.depthAll, PyData.depth]
    omega
theorem shaped_ints (l : List Int) : SeqAt.shaped (.list (l.map PyData.int)) = true := by
  unfold SeqAt.shaped
  have h1 : (PyData.list (l.map PyData.int)).canLay0 = true := by
    simp only [PyData.canLay0]
    exact can_ints l
  have h2 : (PyData.list (l.map PyData.int)).depth ≤ 64 := by
    have := dep_ints l
    simp only [PyData.depth]
    omega
  rw [h1, decide_eq_true h2]
  rfl
theorem eq_ints (a b : List Int) : eqD (.lst (intsD a)) (.lst (intsD b)) = some (decide (a = b)) := by
  show eqN _ _ = _
  unfold eqN
  have e : ∀ l : List Int, py (.lst (intsD l)) = some (.list (l.map PyData.int)) := fun l => by
    show (pys (intsD l)).map PyData.list = _
    rw [pys_ints]
    rfl
  rw [e, e]
  dsimp only
  rw [if_pos ⟨shaped_ints a, shaped_ints b⟩]
  congr 1
  simp only [PyData.eqv]
  exact PySem.W.ked_eqvAll a b
theorem setAt_ok {l : List D} {i : Int} {d : D} (h : 0 ≤ i) (h2 : i < l.length) : setAt i d l = some (l.set i.toNat d) := by
  unfold setAt Pm.ixN
  rw [if_pos h, if_pos h2]
  rfl
@[simp] theorem sSetIx_ap (o i e : Me) (s : S) : sSetIx o i e s = (e s).bind fun r s1 => (o s1).bind fun ro s2 => (i s2).bind fun ri s3 => match r.toD, ri with
  | some d, .d (.int k) => (match chg s3 ro (setAt k d) with
    | some s4 => .ok .nx s4
    | none => .st)
  | _, _ => .st := rfl
end K78

set_option Elab.async false
set_option linter.all false
set_option maxRecDepth 100000
set_option maxHeartbeats 4000000
/-! K78M6: sequence_fits -/
namespace K78
open PySem Pm
def fitI (r : Row) (x : Int) : Prop := match r with
  | .size s => x = s
  | .jump _ _ _ f => x = 1 ∨ x = f
/-- lengths of the right form -/
def Shape (rs : List Row) (ls : List Int) : Prop := ls.length = rs.length ∧ ∀ (k : Nat) (r : Row), rs[k]? = some r → ∃ x, ls[k]? = some x ∧ fitI r x
theorem betw_eq {d : D} {i : Int} (h : betwD d i i = true) : d = .int i := by
  obtain ⟨j, rfl, h1, h2⟩ := betw_int h
  rw [show j = i by omega]
theorem all_ints {l : List D} (all : ∀ d ∈ l, ∃ x, d = D.int x) : ∃ ls : List Int, l = intsD ls := by
  induction l with
  | nil => exact ⟨[], rfl⟩
  | cons d l ih =>
    obtain ⟨x, rfl⟩ := all d List.mem_cons_self
    obtain ⟨ls, rfl⟩ := ih fun e he => all e (List.mem_cons_of_mem _ he)
    exact ⟨x :: ls, rfl⟩
theorem formB_shape {rs : List Row} {l : List D} (hl : l.length = rs.length) (h : formB rs l = true) : ∃ ls, l = intsD ls ∧ Shape rs ls := by
  have h := List.all_eq_true.mp h
  have key : ∀ (k : Nat) (d : D), l[k]? = some d → ∃ x r, d = .int x ∧ rs[k]? = some r ∧ fitI r x := by
    intro k d hd
    have hk : k < l.length := (List.getElem?_eq_some_iff.mp hd).1
    have q := h k (List.mem_range.mpr (by omega))
    unfold okAt at q
    rw [hd] at q
    cases hr : rs[k]? with
    | none => rw [hr] at q; cases q
    | some r =>
      rw [hr] at q
      dsimp only at q
      cases r with
      | size s => exact ⟨s, _, betw_eq q, rfl, rfl⟩
      | jump g b a f =>
        rcases Bool.or_eq_true_iff.mp q with q | q
        · exact ⟨1, _, betw_eq q, rfl, .inl rfl⟩
        · exact ⟨f, _, betw_eq q, rfl, .inr rfl⟩
  have hi : ∃ ls : List Int, l = intsD ls := by
    have all : ∀ d ∈ l, ∃ x, d = D.int x := fun d hd => by
      obtain ⟨k, hk⟩ := List.getElem?_of_mem hd
      obtain ⟨x, _, rfl, _⟩ := key k d hk
      exact ⟨x, rfl⟩
    exact all_ints all
  obtain ⟨ls, rfl⟩ := hi
  refine ⟨ls, rfl, by simpa using hl, fun k r hr => ?_⟩
  have hk : k < rs.length := (List.getElem?_eq_some_iff.mp hr).1
  have hk2 : k < ls.length := by simp at hl; omega
  have e : (intsD ls)[k]? = some (.int ls[k]) := by
    unfold intsD
    rw [List.getElem?_map, List.getElem?_eq_getElem hk2]
    rfl
  obtain ⟨x, r', e1, e2, e3⟩ := key k _ e
  injection e1 with e1
  rw [hr] at e2
  injection e2 with e2
  subst e2
  exact ⟨ls[k], List.getElem?_eq_getElem hk2, by rw [e1]; exact e3⟩
/-- one step of a sequence -/
def stepC (rs : List Row) (now : List Int) (d : D) : Option (List Int) := match d with
  | .int i => if 0 ≤ i ∧ i < rs.length then (match rs[i.toNat]? with
    | some (.jump g b a f) => if now[i.toNat]? = some 1 ∧ reachB now i.toNat g b a = false then some (now.set i.toNat f) else none
    | _ => none) else none
  | _ => none
theorem shape_near {rs : List Row} : Shape rs (nears rs) := by
  refine ⟨by simp [nears], fun k r hr => ⟨r.near, by unfold nears; rw [List.getElem?_map, hr]; rfl, ?_⟩⟩
  cases r with
  | size s => rfl
  | jump g b a f => exact .inl rfl
theorem shape_set {rs : List Row} {ls : List Int} {k : Nat} {g b a f : Int} (h : Shape rs ls) (hr : rs[k]? = some (.jump g b a f)) : Shape rs (ls.set k f) := by
  refine ⟨by simpa using h.1, fun j r hj => ?_⟩
  obtain ⟨x, h1, h2⟩ := h.2 j r hj
  have hl : j < ls.length := (List.getElem?_eq_some_iff.mp h1).1
  by_cases e : k = j
  · subst e
    rw [hr] at hj
    injection hj with hj
    subst hj
    exact ⟨f, by rw [List.getElem?_set_self hl], .inr rfl⟩
  · exact ⟨x, by rw [List.getElem?_set_ne e]; exact h1, h2⟩
theorem shape_step {rs : List Row} {now now' : List Int} {d : D} (h : Shape rs now) (e : stepC rs now d = some now') : Shape rs now' := by
  unfold stepC at e
  split at e
  · split at e
    · split at e
      · rename_i hr
        split at e
        · injection e with e
          subst e
          exact shape_set h hr
        · cases e
      · cases e
    · cases e
  · cases e
/-- how many jumps are long -/
def longAt (rs : List Row) (ls : List Int) (k : Nat) : Bool := match rs[k]?, ls[k]? with
  | some (.jump _ _ _ _), some x => decide (1 < x)
  | _, _ => false
def longs (rs : List Row) (ls : List Int) : List Nat := (List.range rs.length).filter (longAt rs ls)
end K78

set_option Elab.async false
set_option linter.all false
set_option maxRecDepth 100000
set_option maxHeartbeats 4000000
/-! K78M7: sequence_fits -/
namespace K78
open PySem Pm
def bodyC (F : Fns) : Ms := sSeq (sIf (Pm.tOr (Pm.tNot (tV (mCall F 1 (aCons (mVar 5) (aCons (mC (.int 0)) (aCons (mBin opSub (mB bLen (aCons (mVar 0) (aNil))) (mC (.int 1))) (aNil))))))) (Pm.tOr (tV (mBin opEq (mBin opIx (mBin opIx (mVar 0) (mVar 5)) (mC (.int 0))) (mC (.str "size")))) (tV (mBin opGt (mBin opIx (mVar 4) (mVar 5)) (mC (.int 1)))))) (sRet (mC (.bl false))) (sNx)) (sSeq (sIf (tV (mCall F 9 (aCons (mBin opIx (mVar 0) (mVar 5)) (aCons (mVar 5) (aCons (mCall F 8 (aCons (mVar 4) (aNil))) (aNil)))))) (sRet (mC (.bl false))) (sNx)) (sSetIx (mVar 4) (mVar 5) (mBin opIx (mBin opIx (mVar 0) (mVar 5)) (mC (.int 4)))))
def stepRow (now : List Int) (k : Nat) (x : Int) : Row → Option (List Int)
  | .jump g b a f => if x = 1 ∧ reachB now k g b a = false then some (now.set k f) else none
  | _ => none
theorem stepC_at {rs : List Row} {now : List Int} {k : Nat} {r : Row} {x : Int} (hk : k < rs.length) (hr : rs[k]? = some r) (hx : now[k]? = some x) : stepC rs now (.int (k : Int)) = stepRow now k x r := by
  unfold stepC
  dsimp only
  rw [if_pos ⟨by omega, by omega⟩, Int.toNat_natCast, hr]
  cases r with
  | size s => rfl
  | jump g b a f =>
    unfold stepRow
    dsimp only
    rw [hx]
    simp
theorem bodyC_ok (n : Nat) (rs : List Row) (hg : Good rs) (hl : rs.length + 1 < LIM) (a2 a3 : D) (sq x5 x6 : Sl) (now : List Int) (hs : Shape rs now) (d : D) (hd : okD d = true) (m : List (List D)) :
    ∃ s2, match stepC rs now d with
      | some now' => bodyC (FF tab (n + 2)) ⟨[.val (.lst (rowsD rs)), .val a2, sq, .val a3, .own (intsD now), .val d, x6], m⟩ = .ok .nx s2 ∧ s2 = ⟨[.val (.lst (rowsD rs)), .val a2, sq, .val a3, .own (intsD now'), .val d, x6], m⟩
      | none => bodyC (FF tab (n + 2)) ⟨[.val (.lst (rowsD rs)), .val a2, sq, .val a3, .own (intsD now), .val d, x6], m⟩ = .ok (.rt (.d (.bl false))) s2 ∧ s2.mem = m := by
  have e1 := is_between_ok n d (okD_plain hd) 0 ((rs.length : Int) - 1) m
  cases hb : betwD d 0 ((rs.length : Int) - 1) with
  | false =>
    rw [hb] at e1
    have : stepC rs now d = none := by
      unfold stepC
      split
      · rename_i i
        rw [if_neg]
        intro ⟨h1, h2⟩
        simp [betwD] at hb
        omega
      · rfl
    rw [this]
    exact ⟨⟨[.val (.lst (rowsD rs)), .val a2, sq, .val a3, .own (intsD now), .val d, x6], m⟩, by simp [bodyC, e1], rfl⟩
  | true =>
    rw [hb] at e1
    obtain ⟨i, rfl, h1, h2⟩ := betw_int hb
    obtain ⟨k, rfl⟩ : ∃ k : Nat, i = (k : Int) := ⟨i.toNat, by omega⟩
    have hk : k < rs.length := by omega
    obtain ⟨r, hr⟩ : ∃ r, rs[k]? = some r := ⟨_, List.getElem?_eq_getElem hk⟩
    obtain ⟨x, hx, hf⟩ := hs.2 k r hr
    have er : atD (rowsD rs) (k : Int) = some (encR r) := by rw [rowsD_at, hr]; rfl
    have ex : atD (intsD now) (k : Int) = some (.int x) := by rw [intsD_at, hx]; rfl
    have hst := stepC_at (hk := hk) (hr := hr) (hx := hx)
    rw [hst]
    cases r with
    | size s =>
      exact ⟨⟨[.val (.lst (rowsD rs)), .val a2, sq, .val a3, .own (intsD now), .val (.int k), x6], m⟩, by simp [bodyC, e1, er, encR], rfl⟩
    | jump g b a f =>
      have hgg := hg _ (List.mem_of_getElem? hr)
      have hf2 : 2 ≤ f := hgg.2.2.2.1
      unfold stepRow
      dsimp only
      by_cases hx1 : x = 1
      · subst hx1
        have e8 := row_starts_ok (n + 1) (.bor (intsD now)) now (.inr (.inl rfl)) (by rw [hs.1]; exact hl) m
        have e9 := jump_reaches_ok (n + 1) now k g b a f (by rw [hs.1]; omega) hgg.1.1 (by rw [hs.1]; have := hgg.1.2; omega) m
        cases hrb : reachB now k g b a with
        | true =>
          rw [hrb] at e9
          rw [if_neg (by simp)]
          exact ⟨⟨[.val (.lst (rowsD rs)), .val a2, sq, .val a3, .own (intsD now), .val (.int k), x6], m⟩, by simp only [encR] at er e9; simp [bodyC, e1, er, ex, e8, e9], rfl⟩
        | false =>
          rw [hrb] at e9
          rw [if_pos ⟨rfl, rfl⟩]
          have es : setAt (k : Int) (.int f) (intsD now) = some (intsD (now.set k f)) := by
            rw [setAt_ok (by omega) (by simp; rw [hs.1]; omega), Int.toNat_natCast]
            unfold intsD
            rw [List.map_set]
          exact ⟨_, by simp only [encR] at er e9; simp [bodyC, e1, er, ex, e8, e9, es], rfl⟩
      · have hxf : x = f := hf.resolve_left hx1
        have h1x : (1 : Int) < x := by omega
        rw [if_neg (fun z => hx1 z.1)]
        exact ⟨⟨[.val (.lst (rowsD rs)), .val a2, sq, .val a3, .own (intsD now), .val (.int k), x6], m⟩, by simp only [encR] at er; simp [bodyC, e1, er, ex, h1x], rfl⟩
def seqB (rs : List Row) (ls : List Int) (sq : D) : Bool := match sq with
  | .lst l => decide (runO (stepC rs) l (nears rs) = some ls)
  | _ => false
@[simp] theorem seqB_lst (rs : List Row) (ls : List Int) (l : List D) : seqB rs ls (.lst l) = decide (runO (stepC rs) l (nears rs) = some ls) := rfl
theorem seq_fits_ok (n : Nat) (rs : List Row) (hg : Good rs) (hl : rs.length + 1 < LIM) (ls : List Int) (hs : Shape rs ls) (sq : D) (hq : okD sq = true) (m : List (List D)) :
    FF tab (n + 3) 16 [.val (.lst (rowsD rs)), .val (.lst (intsD ls)), .val sq] m = .ok (.d (.bl (lstN sq (longs rs ls).length && seqB rs ls sq))) m := by
  rw [FF_at (fn := fn_sequence_fits) rfl rfl (by decide)]
  have ec := compE_ok (own := [5, 6]) (tg := .tup [5, 6]) (s := ⟨[.val (.lst (rowsD rs)), .val (.lst (intsD ls)), .val sq, .un, .un, .un, .un], m⟩)
    (c := Pm.tAnd (tV (mBin opEq (mBin opIx (mVar 6) (mC (.int 0))) (mC (.str "jump")))) (tV (mBin opGt (mBin opIx (mVar 1) (mVar 5)) (mC (.int 1))))) (e := mVar 5) rs (longAt rs ls) (fun k => .int (k : Nat)) (fun k r hr => by
      obtain ⟨x, hx, hf⟩ := hs.2 k r hr
      have ex : atD (intsD ls) (k : Int) = some (.int x) := by rw [intsD_at, hx]; rfl
      refine ⟨⟨[.val (.lst (rowsD rs)), .val (.lst (intsD ls)), .val sq, .un, .un, .val (.int k), .val (encR r)], m⟩, by simp, ?_, rfl, fun _ => ⟨.d (.int k), by simp, rfl⟩⟩
      unfold longAt
      rw [hr, hx]
      cases r with
      | size s => simp [encR]
      | jump g b a f => simp [encR, ex]) (by omega)
  have el : (((List.range rs.length).filter (longAt rs ls)).map fun k => D.int ((k : Nat) : Int)).length = (longs rs ls).length := by simp [longs]
  have e2 := is_list_int (n + 1) sq (okD_plain hq) (longs rs ls).length m
  cases hL : lstN sq (longs rs ls).length with
  | false =>
    rw [hL] at e2
    rw [Bool.false_and]
    simp [fn_sequence_fits, b_sequence_fits, startEnv, ec]
    rw [show ((List.range rs.length).filter (longAt rs ls)).length = (longs rs ls).length from rfl]
    simp [e2]
  | true =>
    rw [hL] at e2
    rw [Bool.true_and]
    obtain ⟨l, rfl⟩ : ∃ l, sq = .lst l := by
      cases sq <;> simp [lstN] at hL
      exact ⟨_, rfl⟩
    have hm := okDs_mem (show okDs l = true from hq)
    have en := near_ok (n + 1) rs (by omega) m
    obtain ⟨s', h1⟩ := forL_fold (tg := .name 5) (b := bodyC (FF tab (n + 2))) (fun now s => Shape rs now ∧ ∃ x5, s = ⟨[.val (.lst (rowsD rs)), .val (.lst (intsD ls)), .val (.lst l), .val (.int (longs rs ls).length), .own (intsD now), x5, .un], m⟩)
      (stepC rs) (.d (.bl false)) m l (nears rs) ⟨[.val (.lst (rowsD rs)), .val (.lst (intsD ls)), .val (.lst l), .val (.int (longs rs ls).length), .own (intsD (nears rs)), .un, .un], m⟩ ⟨shape_near, _, rfl⟩ (fun d hd now s hI => by
        obtain ⟨hsn, x5, rfl⟩ := hI
        obtain ⟨s2, h2⟩ := bodyC_ok n rs hg hl (.lst (intsD ls)) (.int (longs rs ls).length) (.val (.lst l)) .un .un now hsn d (hm d hd) m
        refine ⟨⟨[.val (.lst (rowsD rs)), .val (.lst (intsD ls)), .val (.lst l), .val (.int (longs rs ls).length), .own (intsD now), .val d, .un], m⟩, s2, by simp, ?_⟩
        cases hst : stepC rs now d with
        | none => rw [hst] at h2; exact h2
        | some now' =>
          rw [hst] at h2
          exact ⟨.inl h2.1, shape_step hsn hst, _, h2.2⟩)
    cases hr : runO (stepC rs) l (nears rs) with
    | none =>
      rw [hr] at h1
      simp [fn_sequence_fits, b_sequence_fits, startEnv, ec]
      rw [show ((List.range rs.length).filter (longAt rs ls)).length = (longs rs ls).length from rfl]
      have hb := h1.1
      unfold bodyC at hb
      simp [e2, en, hb, h1.2, hr]
    | some now =>
      rw [hr] at h1
      obtain ⟨h1, _, x5, rfl⟩ := h1
      simp [fn_sequence_fits, b_sequence_fits, startEnv, ec]
      rw [show ((List.range rs.length).filter (longAt rs ls)).length = (longs rs ls).length from rfl]
      unfold bodyC at h1
      simp [e2, en, h1, opEq, S.dat, eq_ints, hr]
end K78

set_option Elab.async false
set_option linter.all false
set_option maxRecDepth 100000
set_option maxHeartbeats 4000000
/-! K78M8: is_least -/
namespace K78
open PySem Pm
@[simp] theorem sUnp_ap (is : List Nat) (a : Me) (s : S) : sUnp is a s = (a s).bind fun r s1 => match r with
  | .d (.tup ds) => (match setVals s1 is ds with
    | some s2 => .ok .nx s2
    | none => .st)
  | _ => .st := rfl
def badAt (rs : List Row) (ls : List Int) (k : Nat) : Bool := match rs[k]?, ls[k]? with
  | some (.jump g b a _), some x => decide (x = 1) && !reachB ls k g b a
  | _, _ => false
def badRow (ls : List Int) (k : Nat) (x : Int) : Row → Bool
  | .jump g b a _ => decide (x = 1) && !reachB ls k g b a
  | _ => false
theorem badAt_eq {rs : List Row} {ls : List Int} {k : Nat} {r : Row} {x : Int} (hr : rs[k]? = some r) (hx : ls[k]? = some x) : badAt rs ls k = badRow ls k x r := by
  unfold badAt
  rw [hr, hx]
  cases r <;> rfl
def noBad (rs : List Row) (ls : List Int) : Bool := (List.range rs.length).all fun k => !badAt rs ls k
def intsOf (l : List D) : List Int := l.map fun
  | .int i => i
  | _ => 0
theorem intsOf_ints (ls : List Int) : intsOf (intsD ls) = ls := by
  unfold intsOf intsD
  rw [List.map_map]
  exact List.map_id'' (fun _ => rfl) ls
def leastB (rs : List Row) (v : D) : Bool := match v with
  | .tup [.lst l, sq] => decide (l.length = rs.length) && (formB rs l && (noBad rs (intsOf l) && (lstN sq (longs rs (intsOf l)).length && seqB rs (intsOf l) sq)))
  | _ => false
theorem is_least_ok (n : Nat) (rs : List Row) (hg : Good rs) (hl : rs.length + 1 < LIM) (v : D) (hv : okD v = true) (m : List (List D)) :
    FF tab (n + 5) 17 [.val (.lst (rowsD rs)), .val v] m = .ok (.d (.bl (leastB rs v))) m := by
  rw [FF_at (fn := fn_is_least) rfl rfl (by decide)]
  have e6 := check_rows_ok n (.lst (rowsD rs)) (rowsD_ok rs) (by show (rowsD rs).length ≤ LIM; simp; omega) m
  rw [if_pos (rows_rowsOk hg)] at e6
  have e3 := is_tuple_int (n + 3) v (okD_plain hv) 2 m
  cases ht : tupN v 2 with
  | false =>
    rw [ht] at e3
    have : leastB rs v = false := by
      unfold leastB
      split
      · simp [tupN] at ht
      · rfl
    rw [this]
    simp [fn_is_least, b_is_least, startEnv, e6, e3]
  | true =>
    rw [ht] at e3
    obtain ⟨a, sq, rfl⟩ : ∃ a sq, v = .tup [a, sq] := by
      cases v <;> simp [tupN] at ht
      rename_i l
      match l, ht with
      | [a, b], _ => exact ⟨a, b, rfl⟩
      | [], h => simp at h
      | [_], h => simp at h
      | _ :: _ :: _ :: l, h => simp at h; omega
    have hm := okDs_mem (show okDs [a, sq] = true from hv)
    have ha := hm a (by simp)
    have hq := hm sq (by simp)
    have e15 := have_form_ok (n + 1) rs a ha m
    cases hf : (lstN a rs.length && formD rs a) with
    | false =>
      rw [hf] at e15
      have : leastB rs (.tup [a, sq]) = false := by
        unfold leastB
        cases a <;> try rfl
        rename_i l
        simp only [lstN] at hf
        have : (decide (l.length = rs.length) && formB rs l) = false := by
          rw [← hf, formD_lst]
          congr 1
          exact decide_eq_decide.mpr ⟨fun h => by omega, fun h => by omega⟩
        simp only [← Bool.and_assoc, this, Bool.false_and]
      rw [this]
      simp [fn_is_least, b_is_least, startEnv, e6, e3, e15]
    | true =>
      rw [hf] at e15
      obtain ⟨l, rfl, hll, hfl⟩ : ∃ l, a = .lst l ∧ l.length = rs.length ∧ formB rs l = true := by
        cases a <;> simp [lstN] at hf
        exact ⟨_, rfl, by omega, hf.2⟩
      obtain ⟨ls, rfl, hs⟩ := formB_shape hll hfl
      have e8 := row_starts_ok (n + 3) (.val (.lst (intsD ls))) ls (.inl rfl) (by rw [hs.1]; exact hl) m
      have e16 := seq_fits_ok (n + 1) rs hg hl ls hs sq hq m
      have hB : leastB rs (.tup [.lst (intsD ls), sq]) = (noBad rs ls && (lstN sq (longs rs ls).length && seqB rs ls sq)) := by
        unfold leastB
        dsimp only
        rw [intsOf_ints, hfl, decide_eq_true hll]
        rfl
      rw [hB]
      obtain ⟨s', h1⟩ := forL_fold (σ := Unit) (tg := .tup [5, 6]) (b := sIf (Pm.tAnd (tV (mBin opEq (mBin opIx (mVar 6) (mC (.int 0))) (mC (.str "jump")))) (Pm.tAnd (tV (mBin opEq (mBin opIx (mVar 3) (mVar 5)) (mC (.int 1)))) (Pm.tNot (tV (mCall (FF tab (n + 4)) 9 (aCons (mVar 6) (aCons (mVar 5) (aCons (mVar 2) (aNil))))))))) (sRet (mC (.bl false))) (sNx))
        (fun _ s => ∃ x y, s = ⟨[.val (.lst (rowsD rs)), .val (.tup [.lst (intsD ls), sq]), .val (.lst (intsD (startsL ls))), .val (.lst (intsD ls)), .val sq, x, y], m⟩) (chk (onE fun k => !badAt rs ls k)) (.d (.bl false)) m (enumFrom 0 (rowsD rs)) () ⟨[.val (.lst (rowsD rs)), .val (.tup [.lst (intsD ls), sq]), .val (.lst (intsD (startsL ls))), .val (.lst (intsD ls)), .val sq, .un, .un], m⟩ ⟨_, _, rfl⟩ (fun x hx u s hI => by
        obtain ⟨x1, x2, rfl⟩ := hI
        obtain ⟨k, dr, rfl, hdr⟩ := enum_mem _ _ x hx
        rw [rowsD, List.getElem?_map] at hdr
        cases hr : rs[k]? with
        | none => rw [hr] at hdr; cases hdr
        | some r =>
          rw [hr] at hdr
          injection hdr with hdr
          subst hdr
          have hk : k < rs.length := (List.getElem?_eq_some_iff.mp hr).1
          obtain ⟨x, hx, hf⟩ := hs.2 k r hr
          have ex : atD (intsD ls) (k : Int) = some (.int x) := by rw [intsD_at, hx]; rfl
          unfold chk onE
          dsimp only
          rw [Nat.zero_add, Int.toNat_natCast]
          rw [badAt_eq hr hx]
          refine ⟨⟨[.val (.lst (rowsD rs)), .val (.tup [.lst (intsD ls), sq]), .val (.lst (intsD (startsL ls))), .val (.lst (intsD ls)), .val sq, .val (.int k), .val (encR r)], m⟩, ⟨[.val (.lst (rowsD rs)), .val (.tup [.lst (intsD ls), sq]), .val (.lst (intsD (startsL ls))), .val (.lst (intsD ls)), .val sq, .val (.int k), .val (encR r)], m⟩, by simp, ?_⟩
          cases r with
          | size s => simp [encR, badRow]
          | jump g b a f =>
            have hgg := hg _ (List.mem_of_getElem? hr)
            have e9 := jump_reaches_ok (n + 3) ls k g b a f (by rw [hs.1]; omega) hgg.1.1 (by rw [hs.1]; have := hgg.1.2; omega) m
            simp only [encR] at e9
            unfold badRow
            dsimp only
            by_cases hx1 : x = 1
            · cases hrb : reachB ls k g b a <;> rw [hrb] at e9 <;> simp [encR, ex, hx1, e9]
            · simp [encR, ex, hx1])
      rw [runO_unit, all_enum rs (fun k => !badAt rs ls k)] at h1
      cases hA : (List.range rs.length).all fun k => !badAt rs ls k with
      | true =>
        rw [hA] at h1
        obtain ⟨h1, x, y, rfl⟩ := h1
        have hN : noBad rs ls = true := hA
        have e16' : FF tab (n + 4) 16 [.val (.lst (rowsD rs)), .val (.lst (intsD ls)), .val sq] m = .ok (.d (.bl (lstN sq (longs rs ls).length && seqB rs ls sq))) m := e16
        simp [fn_is_least, b_is_least, startEnv, e6, e3, e15, e8, h1, e16', hN]
      | false =>
        rw [hA] at h1
        have hN : noBad rs ls = false := hA
        simp [fn_is_least, b_is_least, startEnv, e6, e3, e15, e8, h1.1, h1.2, hN]
end K78

set_option Elab.async false
set_option linter.all false
set_option maxRecDepth 100000
set_option maxHeartbeats 4000000
/-! K78M9: the law's small defs -/
namespace K78
open PySem Pm
theorem law_number_ok (n : Nat) (d : D) (h : plainD d = true) (lo hi : Int) (m : List (List D)) : FF tab (n + 1) 23 [.val d, .val (.int lo), .val (.int hi)] m = .ok (.d (.bl (betwD d lo hi))) m := by
  rw [FF_at (fn := fn__law_number) rfl rfl (by decide)]
  cases d <;> simp [fn__law_number, b__law_number, startEnv, betwD, plainD] at h ⊢
  rename_i i
  by_cases h1 : lo ≤ i
  · simp [h1]
  · simp [h1]
theorem law_row_starts_ok (n : Nat) (a : Pm.Arg) (ls : List Int) (ha : IsL a (intsD ls)) (hl : ls.length + 1 < LIM) (m : List (List D)) : FF tab (n + 1) 30 [a] m = .ok (.fr (intsD (startsL ls))) m := by
  rw [FF_at (fn := fn__law_row_starts) rfl rfl (by decide)]
  have main : ∀ sl : Sl, (sl = .val (.lst (intsD ls)) ∨ sl = .bor (intsD ls) ∨ sl = .ro (intsD ls)) → retOf (b__law_row_starts (FF tab n) ⟨[sl, .un, .un], m⟩) = .ok (.fr (intsD (startsL ls))) m := by
    intro sl hs
    obtain ⟨s', h1, h2⟩ := forL_ok (tg := .name 2) (b := sApp (mVar 1) (mBin opAdd (mBin opIx (mVar 1) (mBin opSub (mB bLen (aCons (mVar 1) (aNil))) (mC (.int 1)))) (mVar 2))) (fun k s => ∃ x, s = ⟨[sl, .own (intsD (startsL (ls.take k))), x], m⟩) (intsD ls) 0 ⟨[sl, .own (intsD (startsL (ls.take 0))), .un], m⟩ ⟨.un, rfl⟩ (fun j d s hd hI => by
      obtain ⟨x, rfl⟩ := hI
      unfold intsD at hd
      rw [List.getElem?_map] at hd
      cases hq : ls[j]? with
      | none => rw [hq] at hd; cases hd
      | some v =>
        rw [hq] at hd
        injection hd with hd
        subst hd
        have hj : j < ls.length := (List.getElem?_eq_some_iff.mp hq).1
        have e1 := (starts_last ls j (by omega)).2
        have hlen : (intsD (startsL (ls.take j))).length < LIM := by simp; omega
        refine ⟨⟨[sl, .own (intsD (startsL (ls.take j))), .val (.int v)], m⟩, ⟨[sl, .own (intsD (startsL (ls.take (j + 1)))), .val (.int v)], m⟩, .nx, by simp, ?_, .inl rfl, ⟨.val (.int v), by simp⟩⟩
        rw [startsL_take ls j v hq]
        simp at e1
        simp [e1]
        simp at hlen
        rw [if_pos hlen]
        simp [intsD])
    obtain ⟨x, rfl⟩ := h2
    simp only [Nat.zero_add, intsD_len, List.take_length] at h1
    have hl0 : 1 ≤ LIM := by decide
    have e0 : intsD (startsL []) = [.int 0] := rfl
    simp only [List.take_zero, e0] at h1
    rcases hs with rfl | rfl | rfl <;> simp [b__law_row_starts, hl0, h1]
  rcases ha with rfl | rfl | rfl
  · exact main _ (.inl rfl)
  · exact main _ (.inr (.inl rfl))
  · exact main _ (.inr (.inr rfl))
theorem law_reach_ok (n : Nat) (rs : List Row) (ls : List Int) (k : Nat) (g b a f : Int) (hr : rs[k]? = some (.jump g b a f)) (hk : k ≤ ls.length) (hg : 0 ≤ g) (hg2 : g ≤ ls.length) (m : List (List D)) :
    FF tab (n + 1) 31 [.val (.lst (rowsD rs)), .val (.int k), .val (.lst (intsD (startsL ls)))] m = .ok (.d (.bl (reachB ls k g b a))) m := by
  rw [FF_at (fn := fn__law_reach_ok) rfl rfl (by decide)]
  have e1 := startsD_at ls g hg hg2
  have e2 := startsD_at ls k (by omega) (by omega)
  rw [Int.toNat_natCast] at e2
  have er : atD (rowsD rs) (k : Int) = some (encR (.jump g b a f)) := by rw [rowsD_at, hr]; rfl
  simp only [encR] at er
  simp [fn__law_reach_ok, b__law_reach_ok, startEnv, e1, e2, er]
  unfold reachB way
  by_cases h : -b ≤ (ls.take g.toNat).sum - (ls.take k).sum
  · simp [h]
  · simp [h]
theorem ivs_eq (n : Nat) : ivs 0 n = (List.range n).map fun k => D.int ((k : Nat) : Int) := by
  unfold ivs
  refine List.map_congr_left fun k _ => ?_
  rw [Int.zero_add]
/-- a comprehension over range(n) -/
theorem compR_ok {own : List Nat} {tg : Tg} {c : Mt} {e : Me} {s : S} (n : Nat) (pp : Nat → Bool) (h : Nat → D)
    (hyp : ∀ k, k < n → ∃ s1, tg.put (.int (k : Nat)) s = some s1 ∧ c s1 = .ok (pp k) s1 ∧ wipe s1 own = s ∧ (pp k = true → ∃ z, e s1 = .ok z s1 ∧ z.toD = some (h k))) (hl : n ≤ LIM) :
    compL own tg c e (ivs 0 n) s [] = .ok (((List.range n).filter pp).map h) s := by
  have := compL_ok (own := own) (tg := tg) (c := c) (e := e) (s := s) (fun d => match d with
    | .int k => pp k.toNat
    | _ => false) (fun d => match d with
    | .int k => h k.toNat
    | _ => .non) (ivs 0 n) [] (fun x hx => by
      rw [ivs_eq] at hx
      obtain ⟨k, hk, rfl⟩ := List.mem_map.mp hx
      exact hyp k (List.mem_range.mp hk)) (by rw [ivs_eq]; simpa using hl)
  rw [this, ivs_eq, List.filter_map, List.map_map]
  rfl
def natsD (l : List Nat) : List D := l.map fun (k : Nat) => D.int (k : Int)
def badL (rs : List Row) (ls : List Int) : List Nat := (List.range rs.length).filter (badAt rs ls)
@[simp] theorem iR1_ap (a : Me) (s : S) : iR1 a s = liftI (a s) fun r _ => match r with
  | .d (.int j) => if j ≤ 100000000 ∧ -100000000 ≤ j then some (ivs 0 j.toNat) else none
  | _ => none := rfl
theorem law_out_ok (n : Nat) (rs : List Row) (hg : Good rs) (ls : List Int) (hs : Shape rs ls) (a : Pm.Arg) (ha : IsL a (intsD ls)) (hl : rs.length + 1 < LIM) (m : List (List D)) :
    FF tab (n + 2) 36 [.val (.lst (rowsD rs)), a] m = .ok (.fr (natsD (badL rs ls))) m := by
  rw [FF_at (fn := fn__law_out_of_reach) rfl rfl (by decide)]
  have e30 := law_row_starts_ok n a ls ha (by rw [hs.1]; exact hl) m
  have main : ∀ sl : Sl, (sl = .val (.lst (intsD ls)) ∨ sl = .bor (intsD ls) ∨ sl = .ro (intsD ls)) → compL [3] (.name 3) (Pm.tAnd (tV (mBin opEq (mBin opIx (mBin opIx (mVar 0) (mVar 3)) (mC (.int 0))) (mC (.str "jump")))) (Pm.tAnd (tV (mBin opEq (mBin opIx (mVar 1) (mVar 3)) (mC (.int 1)))) (Pm.tNot (tV (mCall (FF tab (n + 1)) 31 (aCons (mVar 0) (aCons (mVar 3) (aCons (mVar 2) (aNil))))))))) (mVar 3)
      (ivs 0 rs.length) ⟨[.val (.lst (rowsD rs)), sl, .val (.lst (intsD (startsL ls))), .un], m⟩ [] = .ok (natsD (badL rs ls)) ⟨[.val (.lst (rowsD rs)), sl, .val (.lst (intsD (startsL ls))), .un], m⟩ := by
    intro sl hsl
    refine compR_ok rs.length (badAt rs ls) (fun k => .int (k : Nat)) (fun k hk => ?_) (by omega)
    obtain ⟨r, hr⟩ : ∃ r, rs[k]? = some r := ⟨_, List.getElem?_eq_getElem hk⟩
    obtain ⟨x, hx, hf⟩ := hs.2 k r hr
    have er : atD (rowsD rs) (k : Int) = some (encR r) := by rw [rowsD_at, hr]; rfl
    have ex : atD (intsD ls) (k : Int) = some (.int x) := by rw [intsD_at, hx]; rfl
    refine ⟨⟨[.val (.lst (rowsD rs)), sl, .val (.lst (intsD (startsL ls))), .val (.int k)], m⟩, by simp, ?_, rfl, fun _ => ⟨.d (.int k), by simp, rfl⟩⟩
    rw [badAt_eq hr hx]
    cases r with
    | size s => simp only [encR] at er; simp [er, badRow]
    | jump g b a' f =>
      have hgg := hg _ (List.mem_of_getElem? hr)
      have e31 := law_reach_ok n rs ls k g b a' f hr (by rw [hs.1]; omega) hgg.1.1 (by rw [hs.1]; have := hgg.1.2; omega) m
      simp only [encR] at er
      unfold badRow
      dsimp only
      by_cases hx1 : x = 1
      · cases hrb : reachB ls k g b a' <;> rw [hrb] at e31 <;> rcases hsl with rfl | rfl | rfl <;> simp [er, ex, hx1, e31]
      · rcases hsl with rfl | rfl | rfl <;> simp [er, ex, hx1]
  have h8 : (rs.length : Int) ≤ 100000000 := by
    have : LIM = 1000000 := rfl
    omega
  rcases ha with rfl | rfl | rfl
  · have := main _ (.inl rfl)
    simp [fn__law_out_of_reach, b__law_out_of_reach, startEnv, e30, h8, this]
  · have := main _ (.inr (.inl rfl))
    simp [fn__law_out_of_reach, b__law_out_of_reach, startEnv, e30, h8, this]
  · have := main _ (.inr (.inr rfl))
    simp [fn__law_out_of_reach, b__law_out_of_reach, startEnv, e30, h8, this]
end K78

set_option Elab.async false
set_option linter.all false
set_option maxRecDepth 100000
set_option maxHeartbeats 4000000
/-! K78MA: the law's judge -/
namespace K78
open PySem Pm
theorem strLT : ((Str.ofString "L" : Str) = Str.ofString "T") = False := eq_false (by decide)
theorem strTL : ((Str.ofString "T" : Str) = Str.ofString "L") = False := eq_false (by decide)
theorem law_row_T (n : Nat) (d : D) (h : plainD d = true) (k : Int) (m : List (List D)) : FF tab (n + 1) 24 [.val d, .val (.str "T"), .val (.int k)] m = .ok (.d (.bl (tupN d k))) m := by
  rw [FF_at (fn := fn__law_is_row) rfl rfl (by decide)]
  cases d <;> simp [fn__law_is_row, b__law_is_row, startEnv, tupN, plainD, strTL] at h ⊢
theorem law_row_L (n : Nat) (d : D) (h : plainD d = true) (k : Int) (m : List (List D)) : FF tab (n + 1) 24 [.val d, .val (.str "L"), .val (.int k)] m = .ok (.d (.bl (lstN d k))) m := by
  rw [FF_at (fn := fn__law_is_row) rfl rfl (by decide)]
  cases d <;> simp [fn__law_is_row, b__law_is_row, startEnv, lstN, plainD, strLT] at h ⊢
theorem law_row_L0 (n : Nat) (d : D) (h : plainD d = true) (m : List (List D)) : FF tab (n + 1) 24 [.val d, .val (.str "L"), .val .non] m = .ok (.d (.bl (isLst d))) m := by
  rw [FF_at (fn := fn__law_is_row) rfl rfl (by decide)]
  cases d <;> simp [fn__law_is_row, b__law_is_row, startEnv, isLst, plainD, strLT] at h ⊢
/-- a step makes one more jump long -/
theorem step_longs {rs : List Row} (hg : Good rs) {now now' : List Int} {d : D} (hs : Shape rs now) (e : stepC rs now d = some now') : (longs rs now').length = (longs rs now).length + 1 := by
  unfold stepC at e
  split at e
  · rename_i i
    split at e
    · rename_i hi
      split at e
      · rename_i g b a f hr
        split at e
        · rename_i hc
          injection e with e
          subst e
          have hf : (2 : Int) ≤ f := (hg _ (List.mem_of_getElem? hr)).2.2.2.1
          have hlt : i.toNat < rs.length := by omega
          have hltn : i.toNat < now.length := by rw [hs.1]; exact hlt
          have e1 : longAt rs now i.toNat = false := by
            unfold longAt
            rw [hr, hc.1]
            rfl
          have e2 : longAt rs (now.set i.toNat f) i.toNat = true := by
            unfold longAt
            rw [hr, List.getElem?_set_self hltn]
            simp
            omega
          have e3 : ∀ j, j ≠ i.toNat → longAt rs (now.set i.toNat f) j = longAt rs now j := fun j hj => by
            unfold longAt
            rw [List.getElem?_set_ne (Ne.symm hj)]
          unfold longs
          have key : ∀ l : List Nat, l.Nodup → (l.filter (longAt rs (now.set i.toNat f))).length = (l.filter (longAt rs now)).length + (if i.toNat ∈ l then 1 else 0) := by
            intro l
            induction l with
            | nil => simp
            | cons j l ih =>
              intro hn
              have hn2 := (List.nodup_cons.mp hn)
              have := ih hn2.2
              by_cases hj : j = i.toNat
              · subst hj
                rw [if_neg hn2.1] at this
                simp [List.filter_cons, e1, e2, this]
              · rw [List.filter_cons, List.filter_cons, e3 j hj]
                have hne : i.toNat ≠ j := Ne.symm hj
                cases longAt rs now j <;> simp [this, hne] <;> omega
          rw [key _ List.nodup_range, if_pos (List.mem_range.mpr hlt)]
        · cases e
      · cases e
    · cases e
  · cases e
theorem run_longs {rs : List Row} (hg : Good rs) : ∀ (l : List D) (now now' : List Int), Shape rs now → runO (stepC rs) l now = some now' → (longs rs now').length = (longs rs now).length + l.length
  | [], now, now', _, e => by injection e with e; rw [e]; rfl
  | d :: l, now, now', hs, e => by
    unfold runO at e
    cases hst : stepC rs now d with
    | none => rw [hst] at e; cases e
    | some n1 =>
      rw [hst] at e
      have h1 := run_longs hg l n1 now' (shape_step hs hst) e
      have h2 := step_longs hg hs hst
      rw [h1, h2, List.length_cons]
      omega
theorem near_longs (rs : List Row) : (longs rs (nears rs)).length = 0 := by
  unfold longs
  rw [List.length_eq_zero_iff, List.filter_eq_nil_iff]
  intro k hk
  unfold longAt nears
  rw [List.getElem?_map]
  cases hr : rs[k]? with
  | none => simp
  | some r => cases r <;> simp [Row.near]
end K78

set_option Elab.async false
set_option linter.all false
set_option maxRecDepth 100000
set_option maxHeartbeats 4000000
/-! K78MB: the law's judge, its loop over a sequence -/
namespace K78
open PySem Pm
def bodyL (F : Fns) : Ms := sSeq (sIf (Pm.tOr (Pm.tNot (tV (mCall F 23 (aCons (mVar 2) (aCons (mC (.int 0)) (aCons (mBin opSub (mB bLen (aCons (mVar 0) (aNil))) (mC (.int 1))) (aNil))))))) (tV (mBin opNin (mVar 2) (mCall F 36 (aCons (mVar 0) (aCons (mVar 3) (aNil))))))) (sRet (mC (.bl false))) (sNx)) (sSetIx (mVar 3) (mVar 2) (mBin opIx (mBin opIx (mVar 0) (mVar 2)) (mC (.int 4))))
theorem nat_flat (l : List Nat) : (natsD l).all flatD = true := by
  unfold natsD
  rw [List.all_map]
  exact List.all_eq_true.mpr fun _ _ => rfl
theorem nat_in (l : List Nat) (k : Nat) : inD (.int (k : Int)) (natsD l) = decide (k ∈ l) := by
  unfold inD natsD
  rw [List.any_map]
  induction l with
  | nil => simp
  | cons j l ih =>
    rw [List.any_cons, ih]
    have : ((fun y => L2.eqV (fV y) (fV (D.int (k : Int)))) ∘ fun (k : Nat) => D.int (k : Int)) j = decide (k = j) := by
      show ((j : Int) == (k : Int)) = _
      by_cases h : k = j
      · subst h; simp
      · have : ¬ ((j : Int) = (k : Int)) := by omega
        simp [h, this]
    rw [this]
    by_cases h : k = j <;> simp [h]
theorem bodyL_ok (n : Nat) (rs : List Row) (hg : Good rs) (hl : rs.length + 1 < LIM) (a1 a4 a5 : D) (now : List Int) (hs : Shape rs now) (d : D) (hd : okD d = true) (m : List (List D)) :
    ∃ s2, match stepC rs now d with
      | some now' => bodyL (FF tab (n + 2)) ⟨[.val (.lst (rowsD rs)), .val a1, .val d, .own (intsD now), .val a4, .val a5, .un], m⟩ = .ok .nx s2 ∧ s2 = ⟨[.val (.lst (rowsD rs)), .val a1, .val d, .own (intsD now'), .val a4, .val a5, .un], m⟩
      | none => bodyL (FF tab (n + 2)) ⟨[.val (.lst (rowsD rs)), .val a1, .val d, .own (intsD now), .val a4, .val a5, .un], m⟩ = .ok (.rt (.d (.bl false))) s2 ∧ s2.mem = m := by
  have e1 := law_number_ok (n + 1) d (okD_plain hd) 0 ((rs.length : Int) - 1) m
  cases hb : betwD d 0 ((rs.length : Int) - 1) with
  | false =>
    rw [hb] at e1
    have : stepC rs now d = none := by
      unfold stepC
      split
      · rename_i i
        rw [if_neg]
        intro ⟨h1, h2⟩
        simp [betwD] at hb
        omega
      · rfl
    rw [this]
    exact ⟨⟨[.val (.lst (rowsD rs)), .val a1, .val d, .own (intsD now), .val a4, .val a5, .un], m⟩, by simp [bodyL, e1], rfl⟩
  | true =>
    rw [hb] at e1
    obtain ⟨i, rfl, h1, h2⟩ := betw_int hb
    obtain ⟨k, rfl⟩ : ∃ k : Nat, i = (k : Int) := ⟨i.toNat, by omega⟩
    have hk : k < rs.length := by omega
    obtain ⟨r, hr⟩ : ∃ r, rs[k]? = some r := ⟨_, List.getElem?_eq_getElem hk⟩
    obtain ⟨x, hx, hf⟩ := hs.2 k r hr
    have er : atD (rowsD rs) (k : Int) = some (encR r) := by rw [rowsD_at, hr]; rfl
    have e36 := law_out_ok n rs hg now hs (.bor (intsD now)) (.inr (.inl rfl)) hl m
    have hin : opNin ⟨[.val (.lst (rowsD rs)), .val a1, .val (.int (k : Int)), .own (intsD now), .val a4, .val a5, .un], m⟩ (.d (.int (k : Int))) (.fr (natsD (badL rs now))) = some (.d (.bl (!badRow now k x r))) := by
      show (if flatD (.int (k : Int)) = true ∧ (natsD (badL rs now)).all flatD = true then some (R.d (.bl (!inD (.int (k : Int)) (natsD (badL rs now))))) else none) = _
      rw [if_pos ⟨rfl, nat_flat _⟩, nat_in]
      have : decide (k ∈ badL rs now) = badRow now k x r := by
        unfold badL
        rw [← badAt_eq hr hx]
        have : (k ∈ (List.range rs.length).filter (badAt rs now)) ↔ badAt rs now k = true := by
          rw [List.mem_filter, List.mem_range]
          exact ⟨fun h => h.2, fun h => ⟨hk, h⟩⟩
        cases hba : badAt rs now k with
        | true => exact decide_eq_true (this.mpr hba)
        | false => exact decide_eq_false fun z => by rw [this.mp z] at hba; cases hba
      rw [this]
    rw [stepC_at hk hr hx]
    cases r with
    | size s =>
      exact ⟨⟨[.val (.lst (rowsD rs)), .val a1, .val (.int k), .own (intsD now), .val a4, .val a5, .un], m⟩, by simp [bodyL, e1, e36, hin, badRow], rfl⟩
    | jump g b a f =>
      unfold stepRow
      dsimp only
      by_cases hc : x = 1 ∧ reachB now k g b a = false
      · have hbr : badRow now k x (.jump g b a f) = true := by
          unfold badRow
          dsimp only
          rw [hc.1, hc.2]
          rfl
        rw [hbr] at hin
        rw [if_pos hc]
        have es : setAt (k : Int) (.int f) (intsD now) = some (intsD (now.set k f)) := by
          rw [setAt_ok (by omega) (by simp; rw [hs.1]; omega), Int.toNat_natCast]
          unfold intsD
          rw [List.map_set]
        exact ⟨_, by simp only [encR] at er; simp [bodyL, e1, e36, hin, er, es], rfl⟩
      · have hbr : badRow now k x (.jump g b a f) = false := by
          unfold badRow
          dsimp only
          by_cases hx1 : x = 1
          · have : reachB now k g b a = true := by
              cases hq : reachB now k g b a with
              | true => rfl
              | false => exact absurd ⟨hx1, hq⟩ hc
            simp [this]
          · simp [hx1]
        rw [hbr] at hin
        rw [if_neg hc]
        exact ⟨⟨[.val (.lst (rowsD rs)), .val a1, .val (.int k), .own (intsD now), .val a4, .val a5, .un], m⟩, by simp [bodyL, e1, e36, hin], rfl⟩
end K78

set_option Elab.async false
set_option linter.all false
set_option maxRecDepth 100000
set_option maxHeartbeats 4000000
/-! K78MC: the law's judge computes what the program's does -/
namespace K78
open PySem Pm
theorem noBad_bad (rs : List Row) (ls : List Int) : noBad rs ls = decide ((badL rs ls).length = 0) := by
  unfold noBad badL
  cases h : (List.range rs.length).all fun k => !badAt rs ls k with
  | true =>
    have h := List.all_eq_true.mp h
    symm
    refine decide_eq_true ?_
    rw [List.length_eq_zero_iff, List.filter_eq_nil_iff]
    intro k hk z
    have := h k hk
    rw [z] at this
    cases this
  | false =>
    symm
    refine decide_eq_false fun z => ?_
    rw [List.length_eq_zero_iff, List.filter_eq_nil_iff] at z
    have : ((List.range rs.length).all fun k => !badAt rs ls k) = true := List.all_eq_true.mpr fun k hk => by
      cases hb : badAt rs ls k with
      | true => exact absurd hb (z k hk)
      | false => rfl
    rw [this] at h
    cases h
theorem seq_len {rs : List Row} (hg : Good rs) {ls : List Int} {sq : D} (h : seqB rs ls sq = true) : lstN sq (longs rs ls).length = true := by
  cases sq with
  | lst l =>
    have e : runO (stepC rs) l (nears rs) = some ls := of_decide_eq_true h
    have := run_longs hg l _ _ shape_near e
    rw [near_longs, Nat.zero_add] at this
    unfold lstN
    rw [this]
    simp
  | _ => cases h
theorem lst_seq {rs : List Row} (hg : Good rs) (ls : List Int) (sq : D) : (lstN sq (longs rs ls).length && seqB rs ls sq) = seqB rs ls sq := by
  cases h : seqB rs ls sq with
  | true => rw [seq_len hg h]; rfl
  | false => simp
def onI (q : Nat → Bool) (x : D) : Bool := match x with
  | .int k => q k.toNat
  | _ => false
theorem all_ivs (n : Nat) (q : Nat → Bool) : (ivs 0 n).all (onI q) = (List.range n).all q := by
  rw [ivs_eq, List.all_map]
  rfl
def bodyF (F : Fns) : Ms := sSeq (sIf (Pm.tAnd (tV (mBin opEq (mBin opIx (mBin opIx (mVar 0) (mVar 2)) (mC (.int 0))) (mC (.str "size")))) (Pm.tNot (tV (mCall F 23 (aCons (mBin opIx (mVar 4) (mVar 2)) (aCons (mBin opIx (mBin opIx (mVar 0) (mVar 2)) (mC (.int 1))) (aCons (mBin opIx (mBin opIx (mVar 0) (mVar 2)) (mC (.int 1))) (aNil)))))))) (sRet (mC (.bl false))) (sNx)) (sIf (Pm.tAnd (tV (mBin opEq (mBin opIx (mBin opIx (mVar 0) (mVar 2)) (mC (.int 0))) (mC (.str "jump")))) (Pm.tAnd (Pm.tNot (tV (mCall F 23 (aCons (mBin opIx (mVar 4) (mVar 2)) (aCons (mC (.int 1)) (aCons (mC (.int 1)) (aNil))))))) (Pm.tNot (tV (mCall F 23 (aCons (mBin opIx (mVar 4) (mVar 2)) (aCons (mBin opIx (mBin opIx (mVar 0) (mVar 2)) (mC (.int 4))) (aCons (mBin opIx (mBin opIx (mVar 0) (mVar 2)) (mC (.int 4))) (aNil))))))))) (sRet (mC (.bl false))) (sNx))
theorem formF (n : Nat) (rs : List Row) (l : List D) (hll : l.length = rs.length) (hm : okDs l = true) (a1 a5 : D) (m : List (List D)) :
    ∃ s', match cond (formB rs l) (some ()) none with
      | some _ => forL (.name 2) (bodyF (FF tab (n + 1))) (ivs 0 rs.length) ⟨[.val (.lst (rowsD rs)), .val a1, .un, .un, .val (.lst l), .val a5, .un], m⟩ = .ok .nx s' ∧ ∃ x, s' = ⟨[.val (.lst (rowsD rs)), .val a1, x, .un, .val (.lst l), .val a5, .un], m⟩
      | none => forL (.name 2) (bodyF (FF tab (n + 1))) (ivs 0 rs.length) ⟨[.val (.lst (rowsD rs)), .val a1, .un, .un, .val (.lst l), .val a5, .un], m⟩ = .ok (.rt (.d (.bl false))) s' ∧ s'.mem = m := by
  have hm := okDs_mem hm
  obtain ⟨s', h1⟩ := forL_fold (σ := Unit) (tg := .name 2) (b := bodyF (FF tab (n + 1))) (fun _ s => ∃ x, s = ⟨[.val (.lst (rowsD rs)), .val a1, x, .un, .val (.lst l), .val a5, .un], m⟩) (chk (onI (okAt rs l))) (.d (.bl false)) m (ivs 0 rs.length) ()
    ⟨[.val (.lst (rowsD rs)), .val a1, .un, .un, .val (.lst l), .val a5, .un], m⟩ ⟨_, rfl⟩ (fun x hx u s hI => by
      obtain ⟨x1, rfl⟩ := hI
      rw [ivs_eq] at hx
      obtain ⟨k, hk, rfl⟩ := List.mem_map.mp hx
      have hk := List.mem_range.mp hk
      obtain ⟨r, hr⟩ : ∃ r, rs[k]? = some r := ⟨_, List.getElem?_eq_getElem hk⟩
      obtain ⟨v, hv⟩ : ∃ v, l[k]? = some v := ⟨_, List.getElem?_eq_getElem (by omega)⟩
      have hvp := okD_plain (hm v (List.mem_of_getElem? hv))
      have er : atD (rowsD rs) (k : Int) = some (encR r) := by rw [rowsD_at, hr]; rfl
      have ev : atD l (k : Int) = some v := by rw [atD_nat, hv]
      have hok : okAt rs l ((k : Nat) : Int).toNat = fitD r v := by
        unfold okAt
        rw [Int.toNat_natCast, hr, hv]
      unfold chk onI
      dsimp only
      rw [hok]
      refine ⟨⟨[.val (.lst (rowsD rs)), .val a1, .val (.int k), .un, .val (.lst l), .val a5, .un], m⟩, ⟨[.val (.lst (rowsD rs)), .val a1, .val (.int k), .un, .val (.lst l), .val a5, .un], m⟩, by simp, ?_⟩
      cases r with
      | size s =>
        have e1 := law_number_ok n v hvp s s m
        simp only [encR] at er
        cases hf : betwD v s s <;> rw [hf] at e1 <;> simp [bodyF, fitD, er, ev, e1, hf]
      | jump g b a f =>
        have e1 := law_number_ok n v hvp 1 1 m
        have e2 := law_number_ok n v hvp f f m
        simp only [encR] at er
        cases hf : betwD v 1 1 <;> cases hf2 : betwD v f f <;> rw [hf] at e1 <;> rw [hf2] at e2 <;> simp [bodyF, fitD, er, ev, e1, e2, hf, hf2])
  rw [runO_unit, all_ivs] at h1
  refine ⟨s', ?_⟩
  rw [show formB rs l = (List.range rs.length).all (okAt rs l) from rfl]
  revert h1
  cases (List.range rs.length).all (okAt rs l) <;> exact id
theorem law_least_ok (n : Nat) (rs : List Row) (hg : Good rs) (hl : rs.length + 1 < LIM) (v : D) (hv : okD v = true) (m : List (List D)) :
    FF tab (n + 4) 37 [.val (.lst (rowsD rs)), .val v] m = .ok (.d (.bl (leastB rs v))) m := by
  rw [FF_at (fn := fn__law_least_ok) rfl rfl (by decide)]
  have e24 := law_row_T (n + 2) v (okD_plain hv) 2 m
  have h8 : (rs.length : Int) ≤ 100000000 := by
    have : LIM = 1000000 := rfl
    omega
  cases ht : tupN v 2 with
  | false =>
    rw [ht] at e24
    have : leastB rs v = false := by
      unfold leastB
      split
      · simp [tupN] at ht
      · rfl
    rw [this]
    simp [fn__law_least_ok, b__law_least_ok, startEnv, e24]
  | true =>
    rw [ht] at e24
    obtain ⟨a, sq, rfl⟩ : ∃ a sq, v = .tup [a, sq] := by
      cases v <;> simp [tupN] at ht
      rename_i l
      match l, ht with
      | [a, b], _ => exact ⟨a, b, rfl⟩
      | [], h => simp at h
      | [_], h => simp at h
      | _ :: _ :: _ :: l, h => simp at h; omega
    have hm := okDs_mem (show okDs [a, sq] = true from hv)
    have ha := hm a (by simp)
    have hq := hm sq (by simp)
    have eA := law_row_L (n + 2) a (okD_plain ha) rs.length m
    have eS := law_row_L0 (n + 2) sq (okD_plain hq) m
    cases hL : lstN a rs.length with
    | false =>
      rw [hL] at eA
      have : leastB rs (.tup [a, sq]) = false := by
        unfold leastB
        cases a <;> try rfl
        rename_i l
        have : decide (l.length = rs.length) = false := by
          rw [← hL]
          exact decide_eq_decide.mpr ⟨fun h => by omega, fun h => by omega⟩
        dsimp only
        rw [this]
        rfl
      rw [this]
      simp [fn__law_least_ok, b__law_least_ok, startEnv, e24, eA]
    | true =>
      rw [hL] at eA
      obtain ⟨l, rfl, hll⟩ : ∃ l, a = .lst l ∧ l.length = rs.length := by
        cases a <;> simp [lstN] at hL
        exact ⟨_, rfl, by omega⟩
      cases hI : isLst sq with
      | false =>
        rw [hI] at eS
        have : leastB rs (.tup [.lst l, sq]) = false := by
          unfold leastB
          dsimp only
          rw [lst_seq hg]
          cases sq <;> simp [isLst, seqB] at hI ⊢
        rw [this]
        simp [fn__law_least_ok, b__law_least_ok, startEnv, e24, eA, eS]
      | true =>
        rw [hI] at eS
        obtain ⟨q, rfl⟩ : ∃ q, sq = .lst q := by
          cases sq <;> simp [isLst] at hI
          exact ⟨_, rfl⟩
        obtain ⟨s', h1⟩ := formF (n + 2) rs l hll (show okDs l = true from ha) (.tup [.lst l, .lst q]) (.lst q) m
        cases hF : formB rs l with
        | false =>
          rw [hF] at h1
          have : leastB rs (.tup [.lst l, .lst q]) = false := by
            unfold leastB
            dsimp only
            rw [hF]
            simp
          rw [this]
          have h2 := h1.1
          unfold bodyF at h2
          simp [fn__law_least_ok, b__law_least_ok, startEnv, e24, eA, eS, h8, h2, h1.2]
        | true =>
          rw [hF] at h1
          obtain ⟨h1, x, rfl⟩ := h1
          unfold bodyF at h1
          obtain ⟨ls, rfl, hs⟩ := formB_shape hll hF
          have e36 := law_out_ok (n + 1) rs hg ls hs (.val (.lst (intsD ls))) (.inl rfl) hl m
          have hB : leastB rs (.tup [.lst (intsD ls), .lst q]) = (noBad rs ls && decide (runO (stepC rs) q (nears rs) = some ls)) := by
            unfold leastB
            dsimp only
            rw [intsOf_ints, hF, decide_eq_true hll, lst_seq hg]
            rfl
          rw [hB, noBad_bad]
          have hnl : (natsD (badL rs ls)).length = (badL rs ls).length := by simp [natsD]
          by_cases h0 : (badL rs ls).length = 0
          case neg =>
            have h0' : 0 < (badL rs ls).length := by omega
            simp [fn__law_least_ok, b__law_least_ok, startEnv, e24, eA, eS, h8, h1, e36, hnl, h0', h0]
          have ec := compL_map (own := [6]) (tg := .name 6) (s := ⟨[.val (.lst (rowsD rs)), .val (.tup [.lst (intsD ls), .lst q]), x, .un, .val (.lst (intsD ls)), .val (.lst q), .un], m⟩) (e := mIf (tV (mBin opEq (mBin opIx (mVar 6) (mC (.int 0))) (mC (.str "size")))) (mBin opIx (mVar 6) (mC (.int 1))) (mC (.int 1)))
            (fun d => match d with
              | .tup [_, .int s] => .int s
              | _ => .int 1) (rowsD rs) (fun y hy => by
            obtain ⟨r, _, rfl⟩ := List.mem_map.mp hy
            refine ⟨⟨[.val (.lst (rowsD rs)), .val (.tup [.lst (intsD ls), .lst q]), x, .un, .val (.lst (intsD ls)), .val (.lst q), .val (encR r)], m⟩, rfl, rfl, ?_⟩
            cases r <;> simp [encR]) (by simp; omega)
          have en : (rowsD rs).map (fun d => match d with
              | .tup [_, .int s] => D.int s
              | _ => .int 1) = intsD (nears rs) := by
            unfold rowsD nears intsD
            rw [List.map_map, List.map_map]
            refine List.map_congr_left fun r _ => ?_
            cases r <;> rfl
          rw [en] at ec
          have hmq := okDs_mem (show okDs q = true from hq)
          obtain ⟨s', h2⟩ := forL_fold (tg := .name 2) (b := bodyL (FF tab (n + 3))) (fun now s => Shape rs now ∧ ∃ x2, s = ⟨[.val (.lst (rowsD rs)), .val (.tup [.lst (intsD ls), .lst q]), x2, .own (intsD now), .val (.lst (intsD ls)), .val (.lst q), .un], m⟩)
            (stepC rs) (.d (.bl false)) m q (nears rs) ⟨[.val (.lst (rowsD rs)), .val (.tup [.lst (intsD ls), .lst q]), x, .own (intsD (nears rs)), .val (.lst (intsD ls)), .val (.lst q), .un], m⟩ ⟨shape_near, _, rfl⟩ (fun d hd now s hI => by
              obtain ⟨hsn, x2, rfl⟩ := hI
              obtain ⟨s2, h3⟩ := bodyL_ok (n + 1) rs hg hl (.tup [.lst (intsD ls), .lst q]) (.lst (intsD ls)) (.lst q) now hsn d (hmq d hd) m
              refine ⟨⟨[.val (.lst (rowsD rs)), .val (.tup [.lst (intsD ls), .lst q]), .val d, .own (intsD now), .val (.lst (intsD ls)), .val (.lst q), .un], m⟩, s2, by simp, ?_⟩
              cases hst : stepC rs now d with
              | none => rw [hst] at h3; exact h3
              | some now' =>
                rw [hst] at h3
                exact ⟨.inl h3.1, shape_step hsn hst, _, h3.2⟩)
          cases hr : runO (stepC rs) q (nears rs) with
          | none =>
            rw [hr] at h2
            have hb := h2.1
            unfold bodyL at hb
            simp [fn__law_least_ok, b__law_least_ok, startEnv, e24, eA, eS, h8, h1, e36, hnl, h0, ec, hb, h2.2]
          | some now =>
            rw [hr] at h2
            obtain ⟨h2, _, x5, rfl⟩ := h2
            unfold bodyL at h2
            simp [fn__law_least_ok, b__law_least_ok, startEnv, e24, eA, eS, h8, h1, e36, hnl, h0, ec, h2, opEq, S.dat, eq_ints]
end K78

set_option Elab.async false
set_option linter.all false
set_option maxRecDepth 100000
set_option maxHeartbeats 4000000
/-! K78MD: the stream -/
namespace K78
open PySem Pm
/-- the stream's object -/
def strm (ns : List Int) (cell : Int) (k : Nat) : List (List D) := [[.lst (intsD ns), .int cell, .int (k : Int)]]
/-- the last part of _law_next -/
def tailN : Ms := sSeq (sSet 2 (mBin opMod (mB bInt (aCons (mBin opIx (mVar 0) (mC (.int 1))) (aNil))) (mVar 1))) (sSeq (sSetIx (mVar 0) (mC (.int 1)) (mBin opFdiv (mBin opIx (mVar 0) (mC (.int 1))) (mVar 1))) (sRet (mVar 2)))
@[simp] theorem chg_hnd (s : S) (k : Nat) (f : List D → Option (List D)) : chg s (.d (.hnd k)) f = (match s.mem[k]? with
  | some l => (f l).map fun l' => { s with mem := s.mem.set k l' }
  | none => none) := rfl
theorem tailN_ok (ns : List Int) (cell many : Int) (k : Nat) (hm : 0 < many) (hm2 : many < 1073741824) (x3 x4 : Sl) :
    ∃ s', tailN ⟨[.val (.hnd 0), .val (.int many), .un, x3, x4], strm ns cell k⟩ = .ok (.rt (.d (.int (cell % many)))) s' ∧ s'.mem = strm ns (cell / many) k := by
  have e1 : setAt 1 (.int (cell / many)) [.lst (intsD ns), .int cell, .int (k : Int)] = some [.lst (intsD ns), .int (cell / many), .int (k : Int)] := setAt_ok (by omega) (by simp)
  refine ⟨⟨[.val (.hnd 0), .val (.int many), .val (.int (cell % many)), x3, x4], strm ns (cell / many) k⟩, by simp [tailN, strm, bInt, one, opMod, opFdiv, opI, hm, hm2, e1], rfl⟩
def headN : Ms := sIf (tV (mBin opEq (mBin opIx (mVar 0) (mC (.int 1))) (mC (.int 0)))) (sSeq (sSet 3 (mBin opIx (mVar 0) (mC (.int 2)))) (sSeq (sSet 4 (mBin opAdd (mC (.int 7)) (mVar 3))) (sSeq (sIf (tV (mBin opLt (mVar 3) (mB bLen (aCons (mBin opIx (mVar 0) (mC (.int 0))) (aNil))))) (sSet 4 (mBin opMod (mB bInt (aCons (mB bAbs (aCons (mBin opIx (mBin opIx (mVar 0) (mC (.int 0))) (mVar 3)) (aNil))) (aNil))) (mBin opMul (mBin opMul (mBin opPow (mC (.int 10)) (mC (.int 64))) (mBin opPow (mC (.int 10)) (mC (.int 64)))) (mBin opPow (mC (.int 10)) (mC (.int 64)))))) (sNx)) (sSeq (sIf (tV (mBin opLt (mVar 4) (mBin opPow (mC (.int 10)) (mC (.int 18))))) (sSeq (sSet 4 (mBin opMod (mB bInt (aCons (mBin opAdd (mBin opAdd (mBin opMul (mVar 4) (mC (.int 48271))) (mBin opMul (mVar 3) (mC (.int 69621)))) (mC (.int 11))) (aNil))) (mC (.int 2147483647)))) (sSet 4 (mBin opAdd (mBin opMul (mBin opMod (mB bInt (aCons (mBin opAdd (mBin opMul (mVar 4) (mC (.int 16807))) (mC (.int 13))) (aNil))) (mC (.int 2147483647))) (mC (.int 65537))) (mVar 4)))) (sNx)) (sSeq (sSetIx (mVar 0) (mC (.int 1)) (mVar 4)) (sSetIx (mVar 0) (mC (.int 2)) (mBin opAdd (mVar 3) (mC (.int 1))))))))) (sNx)
theorem body_next (F : Fns) : b__law_next F = sSeq headN tailN := rfl
theorem headN_skip (ns : List Int) (cell : Int) (k : Nat) (many : Int) (h : cell ≠ 0) :
    headN ⟨[.val (.hnd 0), .val (.int many), .un, .un, .un], strm ns cell k⟩ = .ok .nx ⟨[.val (.hnd 0), .val (.int many), .un, .un, .un], strm ns cell k⟩ := by
  simp [headN, strm, h]
end K78

set_option Elab.async false
set_option linter.all false
set_option maxRecDepth 100000
set_option maxHeartbeats 4000000
/-! K78ME: drawn numbers -/
namespace K78
open PySem Pm
def contN : Ms := sSeq (sIf (tV (mBin opLt (mVar 4) (mBin opPow (mC (.int 10)) (mC (.int 18))))) (sSeq (sSet 4 (mBin opMod (mB bInt (aCons (mBin opAdd (mBin opAdd (mBin opMul (mVar 4) (mC (.int 48271))) (mBin opMul (mVar 3) (mC (.int 69621)))) (mC (.int 11))) (aNil))) (mC (.int 2147483647)))) (sSet 4 (mBin opAdd (mBin opMul (mBin opMod (mB bInt (aCons (mBin opAdd (mBin opMul (mVar 4) (mC (.int 16807))) (mC (.int 13))) (aNil))) (mC (.int 2147483647))) (mC (.int 65537))) (mVar 4)))) (sNx)) (sSeq (sSetIx (mVar 0) (mC (.int 1)) (mVar 4)) (sSetIx (mVar 0) (mC (.int 2)) (mBin opAdd (mVar 3) (mC (.int 1)))))
def digN : Ms := sIf (tV (mBin opLt (mVar 3) (mB bLen (aCons (mBin opIx (mVar 0) (mC (.int 0))) (aNil))))) (sSet 4 (mBin opMod (mB bInt (aCons (mB bAbs (aCons (mBin opIx (mBin opIx (mVar 0) (mC (.int 0))) (mVar 3)) (aNil))) (aNil))) (mBin opMul (mBin opMul (mBin opPow (mC (.int 10)) (mC (.int 64))) (mBin opPow (mC (.int 10)) (mC (.int 64)))) (mBin opPow (mC (.int 10)) (mC (.int 64)))))) (sNx)
theorem headN_eq : headN = sIf (tV (mBin opEq (mBin opIx (mVar 0) (mC (.int 1))) (mC (.int 0)))) (sSeq (sSet 3 (mBin opIx (mVar 0) (mC (.int 2)))) (sSeq (sSet 4 (mBin opAdd (mC (.int 7)) (mVar 3))) (sSeq digN contN))) sNx := rfl
theorem contN_ok (ns : List Int) (k : Nat) (many c1 : Int) : ∃ c' : Int, contN ⟨[.val (.hnd 0), .val (.int many), .un, .val (.int (k : Int)), .val (.int c1)], strm ns 0 k⟩ = .ok .nx ⟨[.val (.hnd 0), .val (.int many), .un, .val (.int (k : Int)), .val (.int c')], strm ns c' (k + 1)⟩ := by
  have e1 : ∀ c : Int, setAt 1 (.int c) [.lst (intsD ns), .int 0, .int (k : Int)] = some [.lst (intsD ns), .int c, .int (k : Int)] := fun c => setAt_ok (by omega) (by simp)
  have e2 : ∀ c : Int, setAt 2 (.int ((k : Int) + 1)) [.lst (intsD ns), .int c, .int (k : Int)] = some [.lst (intsD ns), .int c, .int ((k : Int) + 1)] := fun c => setAt_ok (by omega) (by simp)
  have s1 : smallI 48271 = true := by decide
  have s2 : smallI 69621 = true := by decide
  have s3 : smallI 16807 = true := by decide
  have s4 : smallI 65537 = true := by decide
  by_cases hc : c1 < 1000000000000000000
  · exact ⟨_, by simp [contN, strm, opPow, opI, opMul, s1, s2, s3, s4, opMod, bInt, one, hc, e1, e2]; rfl⟩
  · exact ⟨_, by simp [contN, strm, opPow, opI, hc, e1, e2]; rfl⟩
def BIG1 : Int := 10 ^ 64
def BIG2 : Int := 10 ^ 64 * 10 ^ 64
def BIG3 : Int := 10 ^ 64 * 10 ^ 64 * 10 ^ 64
theorem pow64 (s : S) : opPow s (.d (.int 10)) (.d (.int 64)) = some (.d (.int BIG1)) := rfl
theorem opMul_int (s : S) (i j : Int) : opMul s (.d (.int i)) (.d (.int j)) = if (smallI i || (smallI j || (wideI i && wideI j))) = true then some (.d (.int (i * j))) else none := rfl
theorem mul1 (s : S) : opMul s (.d (.int BIG1)) (.d (.int BIG1)) = some (.d (.int BIG2)) := by
  rw [opMul_int, if_pos (by decide +kernel)]
  rfl
theorem mul2 (s : S) : opMul s (.d (.int BIG2)) (.d (.int BIG1)) = some (.d (.int BIG3)) := by
  rw [opMul_int, if_pos (by decide +kernel)]
  rfl
theorem modB (s : S) (i : Int) : opMod s (.d (.int i)) (.d (.int BIG3)) = some (.d (.int (i % BIG3))) := by
  have h : (0 : Int) < BIG3 := by decide +kernel
  show Option.map R.d (if 0 < BIG3 then some (D.int (i % BIG3)) else none) = _
  rw [if_pos h]
  rfl
theorem digN_ok (ns : List Int) (k : Nat) (many c0 : Int) : ∃ c1 : Int, digN ⟨[.val (.hnd 0), .val (.int many), .un, .val (.int (k : Int)), .val (.int c0)], strm ns 0 k⟩ = .ok .nx ⟨[.val (.hnd 0), .val (.int many), .un, .val (.int (k : Int)), .val (.int c1)], strm ns 0 k⟩ := by
  by_cases hk : k < ns.length
  · obtain ⟨v, hv⟩ : ∃ v, ns[k]? = some v := ⟨_, List.getElem?_eq_getElem hk⟩
    have ev : atD (intsD ns) (k : Int) = some (.int v) := by rw [intsD_at, hv]; rfl
    exact ⟨(if v < 0 then -v else v) % BIG3, by simp [digN, strm, hk, ev, bAbs, one, bInt, pow64, mul1, mul2, modB]⟩
  · exact ⟨c0, by simp [digN, strm, hk]⟩
theorem headN_ok (ns : List Int) (cell : Int) (k : Nat) (many : Int) : ∃ (c' : Int) (k' : Nat) (x3 x4 : Sl),
    headN ⟨[.val (.hnd 0), .val (.int many), .un, .un, .un], strm ns cell k⟩ = .ok .nx ⟨[.val (.hnd 0), .val (.int many), .un, x3, x4], strm ns c' k'⟩ := by
  by_cases h : cell ≠ 0
  · exact ⟨cell, k, _, _, headN_skip ns cell k many h⟩
  have h : cell = 0 := Decidable.not_not.mp h
  subst h
  obtain ⟨c1, h1⟩ := digN_ok ns k many (7 + k)
  obtain ⟨c2, h2⟩ := contN_ok ns k many c1
  refine ⟨c2, k + 1, .val (.int k), .val (.int c2), ?_⟩
  rw [headN_eq]
  simp only [strm] at h1 h2 ⊢
  simp [h1, h2]
theorem next_ok (n : Nat) (ns : List Int) (many cell : Int) (k : Nat) (hm : 0 < many) (hm2 : many < 1073741824) : ∃ (d cell' : Int) (k' : Nat), 0 ≤ d ∧ d < many ∧
    FF tab (n + 1) 19 [.val (.hnd 0), .val (.int many)] (strm ns cell k) = .ok (.d (.int d)) (strm ns cell' k') := by
  obtain ⟨c', k', x3, x4, h1⟩ := headN_ok ns cell k many
  obtain ⟨s', h2, h3⟩ := tailN_ok ns c' many k' hm hm2 x3 x4
  refine ⟨c' % many, c' / many, k', Int.emod_nonneg _ (by omega), Int.emod_lt_of_pos _ hm, ?_⟩
  rw [FF_at (fn := fn__law_next) rfl rfl (by decide)]
  show retOf (b__law_next (FF tab n) ⟨[.val (.hnd 0), .val (.int many), .un, .un, .un], strm ns cell k⟩) = _
  rw [body_next, sSeq_ap, h1]
  simp [h2, h3]
/-- some stream: the memory's object -/
def Strm (ns : List Int) (m : List (List D)) : Prop := ∃ (c : Int) (k : Nat), m = strm ns c k
theorem nextS {ns : List Int} {m : List (List D)} (hS : Strm ns m) (n : Nat) (many : Int) (hm : 0 < many) (hm2 : many < 1073741824) : ∃ (d : Int) (m' : List (List D)), Strm ns m' ∧ 0 ≤ d ∧ d < many ∧
    FF tab (n + 1) 19 [.val (.hnd 0), .val (.int many)] m = .ok (.d (.int d)) m' := by
  obtain ⟨c, k, rfl⟩ := hS
  obtain ⟨d, c', k', h1, h2, h3⟩ := next_ok n ns many c k hm hm2
  exact ⟨d, _, ⟨c', k', rfl⟩, h1, h2, h3⟩
theorem pickS {ns : List Int} {m : List (List D)} (hS : Strm ns m) (n : Nat) (l : List D) (h0 : 0 < l.length) (hl : l.length ≤ LIM) : ∃ (d : D) (m' : List (List D)), Strm ns m' ∧ d ∈ l ∧
    FF tab (n + 2) 20 [.val (.hnd 0), .val (.lst l)] m = .ok (.d d) m' := by
  have : LIM = 1000000 := rfl
  obtain ⟨i, m', h1, h2, h3, h4⟩ := nextS hS n l.length (by omega) (by omega)
  obtain ⟨j, rfl⟩ : ∃ j : Nat, i = (j : Int) := ⟨i.toNat, by omega⟩
  have hj : j < l.length := by omega
  refine ⟨l[j], m', h1, List.getElem_mem hj, ?_⟩
  have e : atD l (j : Int) = some l[j] := by rw [atD_nat, List.getElem?_eq_getElem hj]
  rw [FF_at (fn := fn__law_pick) rfl rfl (by decide)]
  simp [fn__law_pick, b__law_pick, startEnv, h4, e]
theorem fromS {ns : List Int} {m : List (List D)} (hS : Strm ns m) (n : Nat) (lo hi : Int) (h0 : lo ≤ hi) (hl : hi - lo < 1000000) : ∃ (d : Int) (m' : List (List D)), Strm ns m' ∧ lo ≤ d ∧ d ≤ hi ∧
    FF tab (n + 2) 21 [.val (.hnd 0), .val (.int lo), .val (.int hi)] m = .ok (.d (.int d)) m' := by
  obtain ⟨i, m', h1, h2, h3, h4⟩ := nextS hS n (hi - lo + 1) (by omega) (by omega)
  refine ⟨lo + i, m', h1, by omega, by omega, ?_⟩
  rw [FF_at (fn := fn__law_from) rfl rfl (by decide)]
  simp [fn__law_from, b__law_from, startEnv, h4]
@[simp] theorem mPopAt_ap (o e : Me) (s : S) : mPopAt o e s = (o s).bind fun ro s1 => match chg s1 ro some with
  | none => .st
  | some _ => (e s1).bind fun rk s2 => match ro, rk with
    | .slt i, .d (.int k) => (match s2.env[i]? with
      | some (.own l) => (if k < 0 ∨ LIM < k then .st else match l[k.toNat]? with
        | some d => .ok (.d d) (setVal s2 i (.own (l.eraseIdx k.toNat)))
        | none => .st)
      | _ => .st)
    | _, _ => .st := rfl
@[simp] theorem seqR_tup (s : S) (l : List D) : seqR s (.d (.tup l)) = some l := rfl
@[simp] theorem seqR_lst (s : S) (l : List D) : seqR s (.d (.lst l)) = some l := rfl
@[simp] theorem seqR_fr (s : S) (l : List D) : seqR s (.fr l) = some l := rfl
@[simp] theorem bList_ap (s : S) (x : R) : bList s [x] = (seqR s x).map fun l => .fr l := rfl
theorem shuffledS {ns : List Int} {m : List (List D)} (hS : Strm ns m) (n : Nat) (l : List D) (hl : l.length ≤ LIM) : ∃ (l' : List D) (m' : List (List D)), Strm ns m' ∧ l'.length = l.length ∧ (∀ d ∈ l', d ∈ l) ∧
    FF tab (n + 2) 22 [.val (.hnd 0), .val (.lst l)] m = .ok (.fr l') m' := by
  have hL : LIM = 1000000 := rfl
  have hl1 : (l.length : Int) ≤ 100000000 := by omega
  obtain ⟨s', h1, h2⟩ := forL_ok (tg := .name 4) (b := sApp (mVar 3) (mPopAt (mVar 2) (mCall (FF tab (n + 1)) 19 (aCons (mVar 0) (aCons (mB bLen (aCons (mVar 2) (aNil))) (aNil))))))
    (fun k s => ∃ (a f : List D) (x : Sl) (m' : List (List D)), s = ⟨[.val (.hnd 0), .val (.lst l), .own a, .own f, x], m'⟩ ∧ Strm ns m' ∧ a.length + k = l.length ∧ f.length = k ∧ (∀ d ∈ a, d ∈ l) ∧ (∀ d ∈ f, d ∈ l)) (ivs 0 l.length) 0
    ⟨[.val (.hnd 0), .val (.lst l), .own l, .own [], .un], m⟩ ⟨l, [], .un, m, rfl, hS, by simp, rfl, fun _ h => h, fun _ h => by cases h⟩ (fun j d s hd hI => by
      obtain ⟨a, f, x, m1, rfl, hS1, h1, h2, h3, h4⟩ := hI
      have hj : j < l.length := by
        have := (List.getElem?_eq_some_iff.mp hd).1
        rw [ivs_eq] at this
        simpa using this
      obtain ⟨i, m2, g1, g2, g3, g4⟩ := nextS hS1 n a.length (by omega) (by omega)
      obtain ⟨q, rfl⟩ : ∃ q : Nat, i = (q : Int) := ⟨i.toNat, by omega⟩
      have hq : q < a.length := by omega
      have e1 : a[q]? = some a[q] := List.getElem?_eq_getElem hq
      have hf : f.length < LIM := by omega
      have hq2 : ¬ (LIM < (q : Int)) := by omega
      refine ⟨_, ⟨[.val (.hnd 0), .val (.lst l), .own (a.eraseIdx q), .own (f ++ [a[q]]), .val d], m2⟩, .nx, rfl, ?_, .inl rfl, a.eraseIdx q, f ++ [a[q]], .val d, m2, rfl, g1, ?_, by simp [h2], fun d hd => h3 d (List.mem_of_mem_eraseIdx hd), fun d hd => ?_⟩
      · have hq3 : ¬ ((LIM : Int) < (q : Int)) := by omega
        have hq4 : ¬ ((q : Int) < 0) := by omega
        simp [g4, hf, hq3, hq4, hq]
      · rw [List.length_eraseIdx, if_pos hq]
        omega
      · rcases List.mem_append.mp hd with hd | hd
        · exact h4 d hd
        · rw [List.mem_singleton.mp hd]
          exact h3 _ (List.getElem_mem hq))
  obtain ⟨a, f, x, m1, rfl, hS1, g1, g2, g3, g4⟩ := h2
  have e2 : (ivs 0 l.length).length = l.length := by rw [ivs_eq]; simp
  rw [e2] at g2
  refine ⟨f, m1, hS1, by omega, g4, ?_⟩
  rw [FF_at (fn := fn__law_shuffled) rfl rfl (by decide)]
  have h0 : 0 ≤ LIM := Nat.zero_le _
  simp [fn__law_shuffled, b__law_shuffled, startEnv, hl1, h1]
@[simp] theorem mNew_ap (a : Ma) (s : S) : mNew a s = (a s).bind fun rs s1 => match toDs rs with
  | some ds => if ds.length ≤ LIM then .ok (.d (.hnd s1.mem.length)) { s1 with mem := s1.mem ++ [ds] } else .st
  | none => .st := rfl
theorem stream_ok (n : Nat) (ns : List Int) : FF tab (n + 1) 18 [.ro (intsD ns)] [] = .ok (.d (.hnd 0)) (strm ns 0 0) := by
  rw [FF_at (fn := fn__law_stream) rfl rfl (by decide)]
  have h0 : 3 ≤ LIM := by decide
  simp [fn__law_stream, b__law_stream, startEnv, seqR, h0, strm]
end K78

set_option Elab.async false
set_option linter.all false
set_option maxRecDepth 100000
set_option maxHeartbeats 4000000
/-! K78MF: sizes of data; _law_same of a value with itself; _law_copy -/
namespace K78
open PySem Pm
/-- plain data: at most k levels, lists of at most B items, texts (but W) of at most 100 signs -/
def sm (W : Bool) (B : Nat) : Nat → D → Bool
  | _, .non => true
  | _, .bl _ => true
  | _, .int _ => true
  | _, .str s => W || decide (s.length ≤ 100)
  | k + 1, .lst l => decide (l.length ≤ B) && l.all (sm W B k)
  | k + 1, .tup l => decide (l.length ≤ B) && l.all (sm W B k)
  | _, _ => false
theorem sm_mono {W W' : Bool} {B B' : Nat} (hW : W = true → W' = true) (hB : B ≤ B') : ∀ {k k' : Nat} {d : D}, k ≤ k' → sm W B k d = true → sm W' B' k' d = true
  | k, k', .non, _, _ => by unfold sm; rfl
  | k, k', .bl _, _, _ => by unfold sm; rfl
  | k, k', .int _, _, _ => by unfold sm; rfl
  | k, k', .str s, _, h => by
    unfold sm at h ⊢
    rcases Bool.or_eq_true_iff.mp h with h | h
    · rw [hW h]
      rfl
    · rw [h, Bool.or_true]
  | 0, k', .lst l, _, h => by simp [sm] at h
  | 0, k', .tup l, _, h => by simp [sm] at h
  | k, k', .hnd _, _, h => by simp [sm] at h
  | k, k', .ty _, _, h => by simp [sm] at h
  | k + 1, 0, .lst l, hk, h => by omega
  | k + 1, 0, .tup l, hk, h => by omega
  | k + 1, k' + 1, .lst l, hk, h => by
    simp only [sm, Bool.and_eq_true, decide_eq_true_eq, List.all_eq_true] at h ⊢
    exact ⟨by omega, fun d hd => sm_mono hW hB (by omega) (h.2 d hd)⟩
  | k + 1, k' + 1, .tup l, hk, h => by
    simp only [sm, Bool.and_eq_true, decide_eq_true_eq, List.all_eq_true] at h ⊢
    exact ⟨by omega, fun d hd => sm_mono hW hB (by omega) (h.2 d hd)⟩
theorem sm_ok {W : Bool} {B : Nat} : ∀ {k : Nat} {d : D}, sm W B k d = true → okD d = true
  | k, .non, _ => by unfold okD; rfl
  | k, .bl _, _ => by unfold okD; rfl
  | k, .int _, _ => by unfold okD; rfl
  | k, .str s, h => by unfold okD; rfl
  | 0, .lst l, h => by simp [sm] at h
  | 0, .tup l, h => by simp [sm] at h
  | k, .hnd _, h => by simp [sm] at h
  | k, .ty _, h => by simp [sm] at h
  | k + 1, .lst l, h => by
    simp only [sm, Bool.and_eq_true, decide_eq_true_eq, List.all_eq_true] at h
    exact okDs_of fun d hd => sm_ok (h.2 d hd)
  | k + 1, .tup l, h => by
    simp only [sm, Bool.and_eq_true, decide_eq_true_eq, List.all_eq_true] at h
    exact okDs_of fun d hd => sm_ok (h.2 d hd)
theorem sm_lst {W : Bool} {B k : Nat} {l : List D} : sm W B (k + 1) (.lst l) = true ↔ l.length ≤ B ∧ ∀ d ∈ l, sm W B k d = true := by
  simp only [sm, Bool.and_eq_true, decide_eq_true_eq, List.all_eq_true]
theorem sm_tup {W : Bool} {B k : Nat} {l : List D} : sm W B (k + 1) (.tup l) = true ↔ l.length ≤ B ∧ ∀ d ∈ l, sm W B k d = true := by
  simp only [sm, Bool.and_eq_true, decide_eq_true_eq, List.all_eq_true]
mutual
def nodes : D → Nat
  | .lst l => 1 + nodesL l
  | .tup l => 1 + nodesL l
  | _ => 1
def nodesL : List D → Nat
  | [] => 0
  | d :: l => nodes d + nodesL l
end
theorem nodes_pos (d : D) : 1 ≤ nodes d := by
  cases d <;> simp [nodes]
theorem nodesL_app : ∀ a b : List D, nodesL (a ++ b) = nodesL a + nodesL b
  | [], b => by simp [nodesL]
  | d :: a, b => by
    rw [List.cons_append]
    simp only [nodesL]
    rw [nodesL_app a b]
    omega
theorem nodesL_len : ∀ a : List D, a.length ≤ nodesL a
  | [] => by simp [nodesL]
  | d :: a => by
    have := nodesL_len a
    have := nodes_pos d
    simp [nodesL]
    omega
/-- the parts of a value -/
def kids : D → List D
  | .lst l => l
  | .tup l => l
  | _ => []
theorem nodes_kids (d : D) : nodes d = 1 + nodesL (kids d) := by
  cases d <;> simp [nodes, kids, nodesL]
def stepS (left : List D) (_ : D) : Option (List D) := match left.getLast? with
  | none => none
  | some t => some (left.dropLast ++ kids t)
theorem dropLast_app {l : List D} {t : D} (h : l.getLast? = some t) : l = l.dropLast ++ [t] := by
  cases l with
  | nil => cases h
  | cons a l =>
    have h2 : (a :: l).getLast (by simp) = t := by
      rw [List.getLast?_eq_some_getLast (by simp)] at h
      injection h
    rw [← h2]
    exact (List.dropLast_concat_getLast _).symm
theorem run_stepS : ∀ (items left : List D), nodesL left < items.length → runO stepS items left = none
  | [], left, h => by simp at h
  | x :: items, left, h => by
    unfold runO stepS
    cases hl : left.getLast? with
    | none => rfl
    | some t =>
      refine run_stepS items (left.dropLast ++ kids t) ?_
      have e := dropLast_app hl
      have e2 : nodesL left = nodesL left.dropLast + nodes t := by
        rw [e, nodesL_app, ← e]
        simp [nodesL]
      rw [nodesL_app]
      rw [nodes_kids] at e2
      simp at h
      omega
def pairD (t : D) : D := .tup [t, t]
@[simp] theorem mPop_ap (o : Me) (s : S) : mPop o s = (o s).bind fun ro s1 => match ro with
  | .slt i => (match s1.env[i]? with
    | some (.own l) => (match l.getLast? with
      | some d => .ok (.d d) (setVal s1 i (.own l.dropLast))
      | none => .st)
    | _ => .st)
  | _ => .st := rfl
@[simp] theorem sExt_ap (o e : Me) (s : S) : sExt o e s = (o s).bind fun ro s1 => match chg s1 ro some with
  | none => .st
  | some _ => (e s1).bind fun r s2 => match r with
    | .fr l2 => (match chg s2 ro (fun l => if l.length + l2.length ≤ LIM then some (l ++ l2) else none) with
      | some s3 => .ok .nx s3
      | none => .st)
    | _ => .st := rfl
@[simp] theorem opIsnt_int (s : S) (i : Int) : opIsnt s (.d (.int i)) (.d .non) = some (.d (.bl true)) := rfl
@[simp] theorem iTup_ap (a : Me) (s : S) : Pm.iTup a s = liftI (a s) fun r _ => tupOf r := rfl
@[simp] theorem tupOf_tup (l : List D) : tupOf (.d (.tup l)) = some l := rfl
@[simp] theorem bTuple_tup (s : S) (l : List D) : bTuple s [.d (.tup l)] = some (.d (.tup l)) := rfl
@[simp] theorem bTuple_fr (s : S) (l : List D) : bTuple s [.fr l] = some (.d (.tup l)) := rfl
@[simp] theorem bTuple_lst (s : S) (l : List D) : bTuple s [.d (.lst l)] = some (.d (.tup l)) := rfl
theorem kids_comp (n : Nat) (xs : List D) (hx : xs.length ≤ LIM) (t : D) (ht : t = .lst xs ∨ t = .tup xs) (a b : D) (L : Sl) (hL : notOwn (some (.val .non)) = true) (x3 x6 x7 : Sl) (m : List (List D)) :
    compL [6] (.name 6) Pm.tYes (mTup (aCons (mBin opIx (mVar 4) (mVar 6)) (aCons (mBin opIx (mVar 5) (mVar 6)) (aNil)))) (ivs 0 xs.length) ⟨[.val a, .val b, L, x3, .val t, .val t, .un, x7], m⟩ [] = .ok (xs.map pairD) ⟨[.val a, .val b, L, x3, .val t, .val t, .un, x7], m⟩ := by
  have := compR_ok (own := [6]) (tg := .name 6) (c := Pm.tYes) (e := mTup (aCons (mBin opIx (mVar 4) (mVar 6)) (aCons (mBin opIx (mVar 5) (mVar 6)) (aNil)))) (s := ⟨[.val a, .val b, L, x3, .val t, .val t, .un, x7], m⟩) xs.length (fun _ => true) (fun k => pairD (xs.getD k .non)) (fun k hk => by
    have e : atD xs (k : Int) = some (xs.getD k .non) := by
      rw [atD_nat, List.getElem?_eq_getElem hk]
      simp [hk]
    have h2 : 2 ≤ LIM := by decide
    refine ⟨⟨[.val a, .val b, L, x3, .val t, .val t, .val (.int k), x7], m⟩, rfl, rfl, rfl, fun _ => ⟨.d (pairD (xs.getD k .non)), ?_, rfl⟩⟩
    rcases ht with rfl | rfl <;> simp [e, h2, pairD]) hx
  rw [this]
  congr 1
  rw [List.filter_eq_self.mpr (fun _ _ => rfl)]
  apply List.ext_getElem?
  intro i
  rw [List.getElem?_map, List.getElem?_map]
  by_cases hi : i < xs.length
  · rw [List.getElem?_range hi, List.getElem?_eq_getElem hi]
    simp [hi]
  · rw [List.getElem?_eq_none (by simp; omega), List.getElem?_eq_none (by omega)]
    rfl
theorem sameBody (n : Nat) (d t : D) (P Q : List D) (hp : P.getLast? = some (.tup [t, t])) (hq : P.dropLast = Q) (hP : P ≠ []) (hl : Q.length + (kids t).length ≤ LIM) (hok : okD t = true) (x x4 x5 : Sl) (m : List (List D)) :
    lb__law_same_0 (FF tab n) ⟨[.val d, .val d, .own P, x, x4, x5, .un, .un], m⟩ = .ok .nx ⟨[.val d, .val d, .own (Q ++ (kids t).map pairD), x, .val t, .val t, .un, .un], m⟩ := by
  have hL : LIM = 1000000 := rfl
  unfold lb__law_same_0
  cases t with
  | lst xs =>
    have hl2 : Q.length + xs.length ≤ LIM := hl
    have ec := kids_comp n xs (by omega) (.lst xs) (.inl rfl) d d (.own Q) rfl x .un .un m
    have hx8 : (xs.length : Int) ≤ 100000000 := by omega
    obtain ⟨X, hX, hXl⟩ : ∃ X, xs.map pairD = X ∧ X.length = xs.length := ⟨_, rfl, by simp⟩
    rw [hX] at ec
    rw [show (kids (.lst xs)).map pairD = X from hX]
    have hs : Q.length + X.length ≤ LIM := by omega
    simp [hP, hp, hq, hx8, ec, hs]
  | tup xs =>
    have hl2 : Q.length + xs.length ≤ LIM := hl
    have ec := kids_comp n xs (by omega) (.tup xs) (.inr rfl) d d (.own Q) rfl x .un .un m
    have hx8 : (xs.length : Int) ≤ 100000000 := by omega
    obtain ⟨X, hX, hXl⟩ : ∃ X, xs.map pairD = X ∧ X.length = xs.length := ⟨_, rfl, by simp⟩
    rw [hX] at ec
    rw [show (kids (.tup xs)).map pairD = X from hX]
    have hs : Q.length + X.length ≤ LIM := by omega
    simp [hP, hp, hq, hx8, ec, hs]
  | hnd i => simp [okD] at hok
  | ty i => simp [okD] at hok
  | _ => simp [hP, hp, hq, kids]
theorem turns : ∃ items : List D, items.length = 2000000 ∧ ∀ s, iR1 (mC (.int 2000000)) s = .ok items s := by
  refine ⟨ivs 0 (2000000 : Int).toNat, by rw [ivs_eq, List.length_map, List.length_range]; rfl, fun s => ?_⟩
  rw [iR1_ap, mC_ap, liftI_ok]
  dsimp only
  rw [if_pos (by decide)]
theorem same_ok (n : Nat) (d : D) (hd : okD d = true) (hn : nodes d ≤ 900000) (m : List (List D)) : FF tab (n + 1) 25 [.val d, .val d] m = .ok (.d (.bl true)) m := by
  rw [FF_at (fn := fn__law_same) rfl rfl (by decide)]
  have hL : LIM = 1000000 := rfl
  have h1 : 1 ≤ LIM := by decide
  have h2 : 2 ≤ LIM := by decide
  obtain ⟨items, hlen, hit⟩ := turns
  have main : ∃ s', forL (.name 3) (lb__law_same_0 (FF tab n)) items ⟨[.val d, .val d, .own [pairD d], .un, .un, .un, .un, .un], m⟩ = .ok (.rt (.d (.bl true))) s' ∧ s'.mem = m := by
    obtain ⟨s', h⟩ := forL_fold (tg := .name 3) (b := lb__law_same_0 (FF tab n)) (fun left s => (∀ x ∈ left, okD x = true) ∧ nodesL left ≤ 900000 ∧ ∃ x3 x4 x5, s = ⟨[.val d, .val d, .own (left.map pairD), x3, x4, x5, .un, .un], m⟩) stepS (.d (.bl true)) m items [d] ⟨[.val d, .val d, .own [pairD d], .un, .un, .un, .un, .un], m⟩
      ⟨fun x hx => by rw [List.mem_singleton.mp hx]; exact hd, by simp [nodesL]; exact hn, .un, .un, .un, rfl⟩ (fun x hx left s hI => by
        obtain ⟨hok, hnl, x3, x4, x5, rfl⟩ := hI
        refine ⟨⟨[.val d, .val d, .own (left.map pairD), .val x, x4, x5, .un, .un], m⟩, ?_⟩
        unfold stepS
        cases hl : left.getLast? with
        | none =>
          have : left = [] := List.getLast?_eq_none_iff.mp hl
          subst this
          exact ⟨⟨[.val d, .val d, .own [], .val x, x4, x5, .un, .un], m⟩, by simp, by simp [lb__law_same_0], rfl⟩
        | some t =>
          have e := dropLast_app hl
          have hp : (left.map pairD).getLast? = some (.tup [t, t]) := by
            rw [List.getLast?_map, hl]
            rfl
          have hpd : (left.map pairD).dropLast = left.dropLast.map pairD := by
            rw [List.map_dropLast]
          have hpos : 0 < left.length := List.length_pos_iff.mpr fun z => by rw [z] at hl; cases hl
          have hne : left.map pairD ≠ [] := fun z => by
            have z2 := congrArg List.length z
            rw [List.length_map, List.length_nil] at z2
            omega
          have e2 : nodesL left = nodesL left.dropLast + nodes t := by
            rw [e, nodesL_app, ← e]
            simp [nodesL]
          have hnk := nodes_kids t
          have hokt : okD t = true := hok t (by rw [e]; simp)
          have hokd : ∀ x ∈ left.dropLast, okD x = true := fun x hx => hok x (List.dropLast_subset _ hx)
          have hlen1 := nodesL_len left.dropLast
          have hlen2 := nodesL_len (kids t)
          have fin : (∀ y ∈ left.dropLast ++ kids t, okD y = true) ∧ nodesL (left.dropLast ++ kids t) ≤ 900000 := by
            constructor
            · intro y hy
              rcases List.mem_append.mp hy with hy | hy
              · exact hokd y hy
              · cases t with
                | lst l => exact okDs_mem (show okDs l = true from hokt) y hy
                | tup l => exact okDs_mem (show okDs l = true from hokt) y hy
                | _ => cases hy
            · rw [nodesL_app]
              omega
          have hb := sameBody n d t (left.map pairD) (left.dropLast.map pairD) hp hpd hne (by rw [List.length_map]; omega) hokt (.val x) x4 x5 m
          rw [← List.map_append] at hb
          exact ⟨⟨[.val d, .val d, .own ((left.dropLast ++ kids t).map pairD), .val x, .val t, .val t, .un, .un], m⟩, by simp, .inl hb, fin.1, fin.2, _, _, _, rfl⟩)
    have hr : runO stepS items [d] = none := run_stepS _ _ (by rw [hlen]; simp [nodesL]; omega)
    rw [hr] at h
    exact ⟨s', h⟩
  obtain ⟨s', h3, h4⟩ := main
  simp only [pairD, lb__law_same_0] at h3
  simp [fn__law_same, b__law_same, startEnv, h1, h2, h3, h4, hit, -iR1_ap]
theorem copy_ok (W : Bool) (B : Nat) (hB : B ≤ LIM) : ∀ (k n : Nat) (d : D), sm W B k d = true → ∀ m, ∃ r, FF tab (n + k + 1) 26 [.val d] m = .ok r m ∧ r.toD = some d ∧ (∀ i, r ≠ .slt i) := by
  intro k
  induction k with
  | zero =>
    intro n d hd m
    refine ⟨.d d, ?_, rfl, fun i h => by cases h⟩
    rw [FF_at (fn := fn__law_copy) rfl rfl (by decide)]
    cases d <;> simp [sm] at hd <;> simp [fn__law_copy, b__law_copy, startEnv]
  | succ k ih =>
    intro n d hd m
    have kid : ∀ (l : List D) (x2 : Sl) (v : Sl), l.length ≤ B → (∀ x ∈ l, sm W B k x = true) → compL [3] (.name 3) Pm.tYes (mCall (FF tab (n + k + 1)) 26 (aCons (mVar 3) (aNil))) l ⟨[v, .un, x2, .un], m⟩ [] = .ok l ⟨[v, .un, x2, .un], m⟩ := by
      intro l x2 v hl hall
      have := compL_map (own := [3]) (tg := .name 3) (s := ⟨[v, .un, x2, .un], m⟩) (e := mCall (FF tab (n + k + 1)) 26 (aCons (mVar 3) (aNil))) id l (fun x hx => by
        obtain ⟨r, h1, h2, h3⟩ := ih n x (hall x hx) m
        refine ⟨⟨[v, .un, x2, .val x], m⟩, rfl, rfl, r, ?_, h2⟩
        cases r with
        | slt i => exact absurd rfl (h3 i)
        | d y => simp [h1]
        | fr y => simp [h1]) (by omega)
      rw [this, List.map_id]
    cases d with
    | lst l =>
      obtain ⟨h1, h2⟩ := sm_lst.mp hd
      refine ⟨.fr l, ?_, rfl, fun i h => by cases h⟩
      rw [show n + (k + 1) + 1 = (n + k + 1) + 1 by omega, FF_at (fn := fn__law_copy) rfl rfl (by decide)]
      simp [fn__law_copy, b__law_copy, startEnv, kid l .un (.val (.lst l)) h1 h2]
    | tup l =>
      obtain ⟨h1, h2⟩ := sm_tup.mp hd
      refine ⟨.d (.tup l), ?_, rfl, fun i h => by cases h⟩
      rw [show n + (k + 1) + 1 = (n + k + 1) + 1 by omega, FF_at (fn := fn__law_copy) rfl rfl (by decide)]
      simp [fn__law_copy, b__law_copy, startEnv, kid l .un (.val (.tup l)) h1 h2]
    | hnd _ => simp [sm] at hd
    | ty _ => simp [sm] at hd
    | _ =>
      refine ⟨.d _, ?_, rfl, fun i h => by cases h⟩
      rw [show n + (k + 1) + 1 = (n + k + 1) + 1 by omega, FF_at (fn := fn__law_copy) rfl rfl (by decide)]
      simp [fn__law_copy, b__law_copy, startEnv]
end K78

set_option Elab.async false
set_option linter.all false
set_option maxRecDepth 100000
set_option maxHeartbeats 4000000
/-! K78MG: _law_spoilt -/
namespace K78
open PySem Pm
theorem nodesL_mem : ∀ {l : List D} {d : D}, d ∈ l → nodes d ≤ nodesL l
  | a :: l, d, h => by
    simp only [nodesL]
    cases h with
    | head => omega
    | tail _ h =>
      have := nodesL_mem h
      omega
theorem nodesL_sub {a b : List D} (h : a.Sublist b) : nodesL a ≤ nodesL b := by
  induction h with
  | slnil => exact Nat.le_refl _
  | cons x _ ih => simp only [nodesL]; omega
  | cons_cons x _ ih => simp only [nodesL]; omega
theorem nodesL_set : ∀ (l : List D) (j : Nat) (d d' : D), l[j]? = some d → nodesL (l.set j d') + nodes d = nodesL l + nodes d'
  | [], j, d, d', h => by simp at h
  | a :: l, 0, d, d', h => by
    simp at h
    subst h
    simp only [List.set, nodesL]
    omega
  | a :: l, j + 1, d, d', h => by
    have := nodesL_set l j d d' (by simpa using h)
    simp only [List.set, nodesL]
    omega
theorem cut_sub (l : List D) (lo hi : Option Int) : (cutD l lo hi).Sublist l := (List.take_sublist _ _).trans (List.drop_sublist _ _)
@[simp] theorem mSl_ap (a : Me) (lo hi : Mo) (s : S) : mSl a lo hi s = (a s).bind fun x s1 => (lo s1).bind fun l s2 => (hi s2).bind fun h s3 => ofR (opSl s3 x l h) s3 := rfl
@[simp] theorem oNone_ap (s : S) : oNone s = .ok none s := rfl
@[simp] theorem oSome_ap (a : Me) (s : S) : oSome a s = (a s).bind fun r s1 => match r with
  | .d (.int i) => .ok (some i) s1
  | _ => .st := rfl
@[simp] theorem opSl_lst (s : S) (l : List D) (lo hi : Option Int) : opSl s (.d (.lst l)) lo hi = some (.fr (cutD l lo hi)) := rfl
@[simp] theorem opSl_fr (s : S) (l : List D) (lo hi : Option Int) : opSl s (.fr l) lo hi = some (.fr (cutD l lo hi)) := rfl
@[simp] theorem opSl_tup (s : S) (l : List D) (lo hi : Option Int) : opSl s (.d (.tup l)) lo hi = some (.d (.tup (cutD l lo hi))) := rfl
@[simp] theorem opSl_str (s : S) (z : Str) (lo hi : Option Int) : opSl s (.d (.str z)) lo hi = if z.length ≤ LIM then some (.d (.str (L2.cutS z lo hi))) else none := rfl
@[simp] theorem opAdd_lf (s : S) (a b : List D) : opAdd s (.d (.lst a)) (.fr b) = if a.length + b.length ≤ LIM then some (.fr (a ++ b)) else none := rfl
@[simp] theorem opAdd_ff (s : S) (a b : List D) : opAdd s (.fr a) (.fr b) = if a.length + b.length ≤ LIM then some (.fr (a ++ b)) else none := rfl
@[simp] theorem opAdd_tt (s : S) (a b : List D) : opAdd s (.d (.tup a)) (.d (.tup b)) = if a.length + b.length ≤ LIM then some (.d (.tup (a ++ b))) else none := rfl
@[simp] theorem opAdd_ss (s : S) (a b : Str) : opAdd s (.d (.str a)) (.d (.str b)) = if a.length + b.length ≤ LIM then some (.d (.str (a ++ b))) else none := rfl
/-- what a spoilt value may be -/
def SpR (B k N : Nat) (d : D) : Prop := sm true (B + 1) (k + 1) d = true ∧ nodes d ≤ N + 2
theorem spR_flat {B k N : Nat} {d : D} (h : ∀ l, d ≠ .lst l) (h2 : ∀ l, d ≠ .tup l) (h3 : ∀ i, d ≠ .hnd i) (h4 : ∀ i, d ≠ .ty i) : SpR B k N d := by
  cases d with
  | lst l => exact absurd rfl (h l)
  | tup l => exact absurd rfl (h2 l)
  | hnd l => exact absurd rfl (h3 l)
  | ty l => exact absurd rfl (h4 l)
  | _ => exact ⟨by simp [sm], by simp [nodes]⟩
/-- picks -/
theorem pickP {ns : List Int} {m : List (List D)} (hS : Strm ns m) (n : Nat) (l : List D) (h0 : 0 < l.length) (hl : l.length ≤ 100) (P : D → Prop) (hP : ∀ d ∈ l, P d) : ∃ (d : D) (m' : List (List D)), Strm ns m' ∧ P d ∧
    FF tab (n + 2) 20 [.val (.hnd 0), .val (.lst l)] m = .ok (.d d) m' := by
  have : LIM = 1000000 := rfl
  obtain ⟨d, m', h1, h2, h3⟩ := pickS hS n l h0 (by omega)
  exact ⟨d, m', h1, hP d h2, h3⟩
def picksS (F : Fns) : Ms := sSeq (st__law_spoilt_1 F) (sSeq (st__law_spoilt_2 F) (sSeq (st__law_spoilt_3 F) (sSeq (st__law_spoilt_4 F) (st__law_spoilt_5 F))))
theorem spoilt_eq (F : Fns) : b__law_spoilt F = sSeq (st__law_spoilt_0 F) (picksS F) := rfl
theorem spR_nil {B k N : Nat} : SpR B k N (.lst []) := ⟨sm_lst.mpr ⟨Nat.zero_le _, fun d h => by cases h⟩, by simp [nodes, nodesL]⟩
theorem spR_pair {B k N : Nat} (hB : 4 ≤ B) (hN : 1 ≤ N) {a b : D} (ha : sm true (B + 1) k a = true) (hb : sm true (B + 1) k b = true) (h1 : nodes a = 1) (h2 : nodes b = 1) : SpR B k N (.tup [a, b]) :=
  ⟨sm_tup.mpr ⟨by simp; omega, fun d h => by rcases List.mem_cons.mp h with rfl | h; exact ha; rw [List.mem_singleton.mp h]; exact hb⟩, by simp [nodes, nodesL, h1, h2]; omega⟩
theorem spR_lt {B k : Nat} {l l' : List D} (h : l'.length ≤ B + 1) (hm : ∀ d ∈ l', sm true (B + 1) k d = true) (hn : nodesL l' ≤ nodesL l + 2) : SpR B k (1 + nodesL l) (.lst l') ∧ SpR B k (1 + nodesL l) (.tup l') := by
  refine ⟨⟨sm_mono (fun h => h) (Nat.le_refl _) (Nat.le_refl _) (sm_lst.mpr ⟨h, hm⟩), by simp only [nodes]; omega⟩, ⟨sm_tup.mpr ⟨h, hm⟩, by simp only [nodes]; omega⟩⟩
theorem picks_ok (ns : List Int) (B : Nat) (hB : 4 ≤ B) (hB2 : B ≤ 900000) (k n : Nat) (d : D) (hd : sm false B k d = true) (m : List (List D)) (hS : Strm ns m) (x2 x3 : Sl) : ∃ (d' : D) (m' : List (List D)) (s' : S), s'.mem = m' ∧ Strm ns m' ∧ SpR B k (nodes d) d' ∧
    picksS (FF tab (n + 2)) ⟨[.val (.hnd 0), .val d, x2, x3], m⟩ = .ok (.rt (.d d')) s' := by
  have hL : LIM = 1000000 := rfl
  have l0 : 0 ≤ LIM := Nat.zero_le _
  have l1 : 1 ≤ LIM := by decide
  have l2 : 2 ≤ LIM := by decide
  have l5 : 5 ≤ LIM := by decide
  have l6 : 6 ≤ LIM := by decide
  have l7 : 7 ≤ LIM := by decide
  have flat : ∀ e : D, (e = .non ∨ (∃ b, e = .bl b) ∨ (∃ i, e = .int i) ∨ ∃ z, e = .str z) → SpR B k (nodes d) e := fun e h => by
    rcases h with rfl | ⟨b, rfl⟩ | ⟨i, rfl⟩ | ⟨z, rfl⟩ <;> exact ⟨by simp [sm], by simp [nodes]⟩
  have last : (∀ l, d ≠ .lst l) → (∀ l, d ≠ .tup l) → ∀ e ∈ [D.int 0, .int 1, .str "", .lst [], .tup [.int 0, .int 1], .bl true], SpR B k (nodes d) e := fun _ _ e he => by
    simp only [List.mem_cons, List.not_mem_nil, or_false] at he
    rcases he with rfl | rfl | rfl | rfl | rfl | rfl
    · exact flat _ (.inr (.inr (.inl ⟨_, rfl⟩)))
    · exact flat _ (.inr (.inr (.inl ⟨_, rfl⟩)))
    · exact flat _ (.inr (.inr (.inr ⟨_, rfl⟩)))
    · exact spR_nil
    · exact spR_pair hB (nodes_pos d) (by simp [sm]) (by simp [sm]) rfl rfl
    · exact flat _ (.inr (.inl ⟨_, rfl⟩))
  cases d with
  | hnd i => simp [sm] at hd
  | ty i => simp [sm] at hd
  | non =>
    obtain ⟨d', m', h1, h2, h3⟩ := pickP hS n [D.int 0, .int 1, .str "", .lst [], .tup [.int 0, .int 1], .bl true] (by simp) (by simp) _ (last (fun l h => by cases h) (fun l h => by cases h))
    exact ⟨d', m', ⟨_, m'⟩, rfl, h1, h2, by simp [picksS, st__law_spoilt_1, st__law_spoilt_2, st__law_spoilt_3, st__law_spoilt_4, st__law_spoilt_5, l0, l2, l6, h3]; rfl⟩
  | bl b =>
    obtain ⟨d', m', h1, h2, h3⟩ := pickP hS n [D.int 0, .int 1, .str "", .lst [], .tup [.int 0, .int 1], .bl true] (by simp) (by simp) _ (last (fun l h => by cases h) (fun l h => by cases h))
    exact ⟨d', m', ⟨_, m'⟩, rfl, h1, h2, by simp [picksS, st__law_spoilt_1, st__law_spoilt_2, st__law_spoilt_3, st__law_spoilt_4, st__law_spoilt_5, l0, l2, l6, h3]; rfl⟩
  | int v =>
    obtain ⟨d', m', h1, h2, h3⟩ := pickP hS n [D.int (v + 1), .int (v - 1), .int (v + 7), .non, .bl (decide (v = 1)), .str (Str.ofString (v % 1000).repr), .tup [.int v, .int 1]] (by simp) (by simp) (SpR B k (nodes (.int v))) (fun e he => by
      simp only [List.mem_cons, List.not_mem_nil, or_false] at he
      rcases he with rfl | rfl | rfl | rfl | rfl | rfl | rfl
      · exact flat _ (.inr (.inr (.inl ⟨_, rfl⟩)))
      · exact flat _ (.inr (.inr (.inl ⟨_, rfl⟩)))
      · exact flat _ (.inr (.inr (.inl ⟨_, rfl⟩)))
      · exact flat _ (.inl rfl)
      · exact flat _ (.inr (.inl ⟨_, rfl⟩))
      · exact flat _ (.inr (.inr (.inr ⟨_, rfl⟩)))
      · exact spR_pair hB (nodes_pos _) (by simp [sm]) (by simp [sm]) rfl rfl)
    have hlog : (v % 1000).natAbs.log2 < 1920 := by
      have : (v % 1000).natAbs < 1000 := by omega
      by_cases h0 : (v % 1000).natAbs = 0
      · rw [h0]
        decide
      · have := (Nat.log2_lt h0 (k := 1920)).mpr (Nat.lt_trans this (by decide +kernel))
        exact this
    exact ⟨d', m', ⟨_, m'⟩, rfl, h1, h2, by simp [picksS, st__law_spoilt_1, l2, l7, bInt, one, opMod, opI, bStr, hlog, h3]; rfl⟩
  | str z =>
    have hz : z.length ≤ 100 := by simpa [sm] using hd
    obtain ⟨d', m', h1, h2, h3⟩ := pickP hS n [D.str (z ++ "x"), .str "", .str (L2.cutS z (some 1) none), .int 0, .non, .lst [.str z]] (by simp) (by simp) (SpR B k (nodes (.str z))) (fun e he => by
      simp only [List.mem_cons, List.not_mem_nil, or_false] at he
      rcases he with rfl | rfl | rfl | rfl | rfl | rfl
      · exact flat _ (.inr (.inr (.inr ⟨_, rfl⟩)))
      · exact flat _ (.inr (.inr (.inr ⟨_, rfl⟩)))
      · exact flat _ (.inr (.inr (.inr ⟨_, rfl⟩)))
      · exact flat _ (.inr (.inr (.inl ⟨_, rfl⟩)))
      · exact flat _ (.inl rfl)
      · exact ⟨sm_lst.mpr ⟨by simp, fun d h => by rw [List.mem_singleton.mp h]; simp [sm]⟩, by simp [nodes, nodesL]⟩)
    have hx : z.length + (("x" : Str)).length ≤ LIM := by
      have : (("x" : Str)).length = 1 := by decide
      omega
    have hz2 : z.length ≤ LIM := by omega
    exact ⟨d', m', ⟨_, m'⟩, rfl, h1, h2, by simp [picksS, st__law_spoilt_1, st__law_spoilt_2, st__law_spoilt_3, st__law_spoilt_4, l1, l6, hx, hz2, h3]; rfl⟩
  | lst l =>
    cases k with
    | zero => simp [sm] at hd
    | succ k =>
      obtain ⟨g1, g2⟩ := sm_lst.mp hd
      have g3 : ∀ d ∈ l, sm true (B + 1) (k + 1) d = true := fun d h => sm_mono (fun _ => rfl) (by omega) (by omega) (g2 d h)
      have c1 := cut_sub l (some 1) none
      have c2 := c1.length_le
      obtain ⟨d', m', h1, h2, h3⟩ := pickP hS n [D.tup l, .lst (l ++ [.int 0]), .lst (cutD l (some 1) none ++ [.non]), .lst (cutD l (some 1) none), .non, .str "list"] (by simp) (by simp) (SpR B (k + 1) (nodes (.lst l))) (fun e he => by
        simp only [List.mem_cons, List.not_mem_nil, or_false] at he
        rcases he with rfl | rfl | rfl | rfl | rfl | rfl
        · exact (spR_lt (l := l) (by omega) g3 (by omega)).2
        · refine (spR_lt (l := l) (by simp; omega) (fun d h => ?_) (by rw [nodesL_app]; simp [nodesL, nodes])).1
          rcases List.mem_append.mp h with h | h
          · exact g3 d h
          · rw [List.mem_singleton.mp h]; simp [sm]
        · refine (spR_lt (l := l) (by simp; omega) (fun d h => ?_) (by rw [nodesL_app]; have := nodesL_sub c1; simp [nodesL, nodes]; omega)).1
          rcases List.mem_append.mp h with h | h
          · exact g3 d (c1.subset h)
          · rw [List.mem_singleton.mp h]; simp [sm]
        · exact (spR_lt (l := l) (by omega) (fun d h => g3 d (c1.subset h)) (by have := nodesL_sub c1; omega)).1
        · exact flat _ (.inl rfl)
        · exact flat _ (.inr (.inr (.inr ⟨_, rfl⟩))))
      have q1 : l.length + 1 ≤ LIM := by omega
      have q2 : (cutD l (some 1) none).length + 1 ≤ LIM := by omega
      exact ⟨d', m', ⟨_, m'⟩, rfl, h1, h2, by simp [picksS, st__law_spoilt_1, st__law_spoilt_2, l1, l6, q1, q2, h3]; rfl⟩
  | tup l =>
    cases k with
    | zero => simp [sm] at hd
    | succ k =>
      obtain ⟨g1, g2⟩ := sm_tup.mp hd
      have g3 : ∀ d ∈ l, sm true (B + 1) (k + 1) d = true := fun d h => sm_mono (fun _ => rfl) (by omega) (by omega) (g2 d h)
      have c1 := cut_sub l (some 1) none
      have c2 := c1.length_le
      obtain ⟨d', m', h1, h2, h3⟩ := pickP hS n [D.lst l, .tup (l ++ [.int 0]), .tup (cutD l (some 1) none), .non, .int 3] (by simp) (by simp) (SpR B (k + 1) (nodes (.tup l))) (fun e he => by
        simp only [List.mem_cons, List.not_mem_nil, or_false] at he
        rcases he with rfl | rfl | rfl | rfl | rfl
        · exact (spR_lt (l := l) (by omega) g3 (by omega)).1
        · refine (spR_lt (l := l) (by simp; omega) (fun d h => ?_) (by rw [nodesL_app]; simp [nodesL, nodes])).2
          rcases List.mem_append.mp h with h | h
          · exact g3 d h
          · rw [List.mem_singleton.mp h]; simp [sm]
        · exact (spR_lt (l := l) (by omega) (fun d h => g3 d (c1.subset h)) (by have := nodesL_sub c1; omega)).2
        · exact flat _ (.inl rfl)
        · exact flat _ (.inr (.inr (.inl ⟨_, rfl⟩))))
      have q1 : l.length + 1 ≤ LIM := by omega
      exact ⟨d', m', ⟨_, m'⟩, rfl, h1, h2, by simp [picksS, st__law_spoilt_1, st__law_spoilt_2, st__law_spoilt_3, l1, l5, q1, h3]; rfl⟩
theorem opGt0 (d : Int) (h : 0 ≤ d) : decide (0 < d) = !decide (d = 0) := by
  by_cases e : d = 0
  · simp [e]
  · have : 0 < d := by omega
    simp [e, this]
theorem spoilt_ok (ns : List Int) (B : Nat) (hB : 4 ≤ B) (hB2 : B ≤ 900000) : ∀ (k n : Nat) (d : D), sm false B k d = true → ∀ (m : List (List D)), Strm ns m → ∃ (d' : D) (m' : List (List D)), Strm ns m' ∧ SpR B k (nodes d) d' ∧
    FF tab (n + k + 3) 29 [.val (.hnd 0), .val d] m = .ok (.d d') m' := by
  have hL : LIM = 1000000 := rfl
  intro k
  induction k with
  | zero =>
    intro n d hd m hS
    obtain ⟨d', m', s', h1, h2, h3, h4⟩ := picks_ok ns B hB hB2 0 n d hd m hS .un .un
    refine ⟨d', m', h2, h3, ?_⟩
    rw [FF_at (fn := fn__law_spoilt) rfl rfl (by decide)]
    show retOf (b__law_spoilt (FF tab (n + 2)) ⟨[.val (.hnd 0), .val d, .un, .un], m⟩) = _
    rw [spoilt_eq, sSeq_ap]
    have e0 : st__law_spoilt_0 (FF tab (n + 2)) ⟨[.val (.hnd 0), .val d, .un, .un], m⟩ = .ok .nx ⟨[.val (.hnd 0), .val d, .un, .un], m⟩ := by
      cases d <;> simp [sm] at hd <;> simp [st__law_spoilt_0]
    rw [e0]
    simp [h4, h1]
  | succ k ih =>
    intro n d hd m hS
    rw [show n + (k + 1) + 3 = (n + k + 3) + 1 by omega, FF_at (fn := fn__law_spoilt) rfl rfl (by decide)]
    have fin : ∀ m2 : List (List D), Strm ns m2 → st__law_spoilt_0 (FF tab (n + k + 3)) ⟨[.val (.hnd 0), .val d, .un, .un], m⟩ = .ok .nx ⟨[.val (.hnd 0), .val d, .un, .un], m2⟩ → ∃ (d' : D) (m' : List (List D)), Strm ns m' ∧ SpR B (k + 1) (nodes d) d' ∧
        retOf (b__law_spoilt (FF tab (n + k + 3)) ⟨[.val (.hnd 0), .val d, .un, .un], m⟩) = .ok (.d d') m' := by
      intro m2 hS2 e0
      obtain ⟨d', m', s', h1, h2, h3, h4⟩ := picks_ok ns B hB hB2 (k + 1) (n + k + 1) d hd m2 hS2 .un .un
      refine ⟨d', m', h2, h3, ?_⟩
      rw [spoilt_eq, sSeq_ap, e0]
      have h4' : picksS (FF tab (n + k + 3)) ⟨[.val (.hnd 0), .val d, .un, .un], m2⟩ = .ok (.rt (.d d')) s' := h4
      simp [h4', h1]
    show ∃ (d' : D) (m' : List (List D)), Strm ns m' ∧ SpR B (k + 1) (nodes d) d' ∧
        retOf (b__law_spoilt (FF tab (n + k + 3)) ⟨[.val (.hnd 0), .val d, .un, .un], m⟩) = .ok (.d d') m'
    have down : ∀ (l : List D) (tp : Bool), (d = if tp then .tup l else .lst l) → 0 < l.length → l.length ≤ B → (∀ x ∈ l, sm false B k x = true) → ∃ (d' : D) (m' : List (List D)), Strm ns m' ∧ SpR B (k + 1) (nodes d) d' ∧
        retOf (b__law_spoilt (FF tab (n + k + 3)) ⟨[.val (.hnd 0), .val d, .un, .un], m⟩) = .ok (.d d') m' := by
      intro l tp e h0 h1 h2
      obtain ⟨q, m2, hS2, q1, q2, q3⟩ := nextS hS (n + k + 2) 6 (by omega) (by omega)
      have hpos : ¬ l = [] := fun z => by rw [z] at h0; cases h0
      by_cases hq : q = 0
      · subst hq
        refine fin m2 hS2 ?_
        subst e
        cases tp <;> simp [st__law_spoilt_0, q3, h0]
      · have hq2 : 0 < q := by omega
        obtain ⟨i, m3, hS3, i1, i2, i3⟩ := nextS hS2 (n + k + 2) l.length (by omega) (by omega)
        obtain ⟨j, rfl⟩ : ∃ j : Nat, i = (j : Int) := ⟨i.toNat, by omega⟩
        have hj : j < l.length := by omega
        have ej : l[j]? = some l[j] := List.getElem?_eq_getElem hj
        have ea : atD l (j : Int) = some l[j] := by rw [atD_nat, ej]
        obtain ⟨d2, m4, hS4, s1, s2⟩ := ih n l[j] (h2 _ (List.getElem_mem hj)) m3 hS3
        have es : setAt (j : Int) d2 l = some (l.set j d2) := by rw [setAt_ok (by omega) (by omega), Int.toNat_natCast]
        have hn := nodesL_set l j l[j] d2 ej
        have hR := spR_lt (B := B) (k := k + 1) (l := l) (l' := l.set j d2) (by simp; omega) (fun x hx => by
          rcases List.mem_or_eq_of_mem_set hx with hx | hx
          · exact sm_mono (fun _ => rfl) (by omega) (by omega) (h2 x hx)
          · rw [hx]; exact s1.1) (by have := s1.2; omega)
        subst e
        cases tp with
        | true =>
          refine ⟨.tup (l.set j d2), m4, hS4, hR.2, ?_⟩
          rw [spoilt_eq]
          simp [st__law_spoilt_0, q3, h0, hq2, i3, ea, s2, es]
        | false =>
          refine ⟨.lst (l.set j d2), m4, hS4, hR.1, ?_⟩
          rw [spoilt_eq]
          simp [st__law_spoilt_0, q3, h0, hq2, i3, ea, s2, es]
    cases d with
    | lst l =>
      obtain ⟨g1, g2⟩ := sm_lst.mp hd
      by_cases h0 : 0 < l.length
      · exact down l false rfl h0 g1 g2
      · refine fin m hS ?_
        simp [st__law_spoilt_0, h0]
    | tup l =>
      obtain ⟨g1, g2⟩ := sm_tup.mp hd
      by_cases h0 : 0 < l.length
      · exact down l true rfl h0 g1 g2
      · refine fin m hS ?_
        simp [st__law_spoilt_0, h0]
    | hnd i => simp [sm] at hd
    | ty i => simp [sm] at hd
    | _ =>
      refine fin m hS ?_
      simp [st__law_spoilt_0]
end K78

set_option Elab.async false
set_option linter.all false
set_option maxRecDepth 100000
set_option maxHeartbeats 4000000
/-! K78MH: sums, greater lengths, the least closed lengths; no program here -/
namespace K78
open PySem Pm
def Sm (ls : List Int) (n : Nat) : Int := (ls.take n).sum
theorem Sm_succ (ls : List Int) (n : Nat) : Sm ls (n + 1) = Sm ls n + ls.getD n 0 := by
  unfold Sm
  rw [List.take_succ, List.sum_append]
  cases h : ls[n]? with
  | none => simp [List.getD_eq_getElem?_getD, h]
  | some x => simp [List.getD_eq_getElem?_getD, h]
theorem way_S (ls : List Int) (k : Nat) (g : Int) : way ls k g = Sm ls g.toNat - Sm ls k := rfl
def NN (ls : List Int) : Prop := ∀ k, 0 ≤ ls.getD k 0
def Le (a b : List Int) : Prop := ∀ k, a.getD k 0 ≤ b.getD k 0
theorem Sm_mono {ls : List Int} (h : NN ls) (i d : Nat) : Sm ls i ≤ Sm ls (i + d) := by
  induction d with
  | zero => exact Int.le_refl _
  | succ d ih =>
    have := h (i + d)
    rw [← Nat.add_assoc, Sm_succ]
    omega
theorem Sm_seg {a b : List Int} (h : Le a b) (i d : Nat) : Sm a (i + d) - Sm a i ≤ Sm b (i + d) - Sm b i := by
  induction d with
  | zero => simp
  | succ d ih =>
    have := h (i + d)
    rw [← Nat.add_assoc, Sm_succ, Sm_succ]
    omega
theorem getD_set (ls : List Int) (j k : Nat) (f : Int) (hj : j < ls.length) : (ls.set j f).getD k 0 = if k = j then f else ls.getD k 0 := by
  rw [List.getD_eq_getElem?_getD, List.getD_eq_getElem?_getD]
  by_cases h : k = j
  · subst h
    rw [List.getElem?_set_self hj, if_pos rfl]
    rfl
  · rw [List.getElem?_set_ne (Ne.symm h), if_neg h]
theorem Sm_set (ls : List Int) (j : Nat) (f : Int) (hj : j < ls.length) (n : Nat) : Sm (ls.set j f) n = Sm ls n + if j < n then f - ls.getD j 0 else 0 := by
  induction n with
  | zero => simp [Sm]
  | succ n ih =>
    rw [Sm_succ, Sm_succ, ih, getD_set ls j n f hj]
    by_cases h : n = j
    · subst h
      rw [if_pos rfl, if_neg (Nat.lt_irrefl _), if_pos (Nat.lt_succ_self _)]
      omega
    · rw [if_neg h]
      by_cases h2 : j < n
      · rw [if_pos h2, if_pos (by omega)]
        omega
      · rw [if_neg h2, if_neg (by omega)]
        omega
/-- how far a jump reaches in its direction -/
def reachR (k : Nat) : Row → Int
  | .size _ => 0
  | .jump g b a _ => if (k : Int) ≤ g then a else b
theorem way_up {ls : List Int} (h : NN ls) {k : Nat} {g : Int} (hkg : (k : Int) ≤ g) : 0 ≤ way ls k g := by
  rw [way_S]
  obtain ⟨d, hd⟩ : ∃ d, g.toNat = k + d := ⟨g.toNat - k, by omega⟩
  have := Sm_mono h k d
  rw [hd]
  omega
theorem way_down {ls : List Int} (h : NN ls) {k : Nat} {g : Int} (hg : 0 ≤ g) (hkg : g < (k : Int)) : way ls k g ≤ 0 := by
  rw [way_S]
  obtain ⟨d, hd⟩ : ∃ d, k = g.toNat + d := ⟨k - g.toNat, by omega⟩
  have := Sm_mono h g.toNat d
  rw [← hd] at this
  omega
theorem distR_jump (ls : List Int) (k : Nat) (g b a f : Int) : distR ls k (.jump g b a f) = if way ls k g < 0 then -way ls k g else way ls k g := rfl
theorem reachR_jump (k : Nat) (g b a f : Int) : reachR k (.jump g b a f) = if (k : Int) ≤ g then a else b := rfl
theorem reach_dist {ls : List Int} (h : NN ls) {k : Nat} {g b a f : Int} (hg : 0 ≤ g) (hb : 0 ≤ b) (ha : 0 ≤ a) : reachB ls k g b a = decide (distR ls k (.jump g b a f) ≤ reachR k (.jump g b a f)) := by
  rw [distR_jump, reachR_jump]
  unfold reachB
  by_cases hk : (k : Int) ≤ g
  · have := way_up h hk
    rw [if_neg (by omega), if_pos hk, decide_eq_true (by omega : -b ≤ way ls k g), Bool.true_and]
  · have := way_down h hg (by omega : g < (k : Int))
    rw [if_neg hk, decide_eq_true (by omega : way ls k g ≤ a), Bool.and_true]
    refine decide_eq_decide.mpr ?_
    by_cases h0 : way ls k g < 0
    · rw [if_pos h0]; omega
    · rw [if_neg h0]; omega
theorem reach_anti {a0 b0 : List Int} (hn : NN a0) (h : Le a0 b0) {k : Nat} {g b a : Int} (hg : 0 ≤ g) (hb : 0 ≤ b) (ha : 0 ≤ a) (hr : reachB b0 k g b a = true) : reachB a0 k g b a = true := by
  unfold reachB at hr ⊢
  simp only [Bool.and_eq_true, decide_eq_true_eq] at hr ⊢
  by_cases hk : (k : Int) ≤ g
  · have h1 := way_up hn hk
    have : way a0 k g ≤ way b0 k g := by
      rw [way_S, way_S]
      obtain ⟨d, hd⟩ : ∃ d, g.toNat = k + d := ⟨g.toNat - k, by omega⟩
      have := Sm_seg h k d
      rw [hd]
      omega
    omega
  · have h1 := way_down hn hg (by omega : g < (k : Int))
    have : way b0 k g ≤ way a0 k g := by
      rw [way_S, way_S]
      obtain ⟨d, hd⟩ : ∃ d, k = g.toNat + d := ⟨k - g.toNat, by omega⟩
      have := Sm_seg h g.toNat d
      rw [← hd] at this
      omega
    omega
theorem dist_set {ls : List Int} (hn : NN ls) {j k : Nat} {g b a f0 f : Int} (hg : 0 ≤ g) (hj : ls[j]? = some 1) (hf : 2 ≤ f) :
    distR (ls.set j f) k (.jump g b a f0) = distR ls k (.jump g b a f0) + if spans g k j = true then f - 1 else 0 := by
  have hl : j < ls.length := (List.getElem?_eq_some_iff.mp hj).1
  have e1 : ls.getD j 0 = 1 := by rw [List.getD_eq_getElem?_getD, hj]; rfl
  rw [distR_jump, distR_jump]
  rw [way_S, way_S, Sm_set ls j f hl, Sm_set ls j f hl, e1]
  unfold spans
  simp only [Bool.or_eq_true, Bool.and_eq_true, decide_eq_true_eq]
  by_cases hk : (k : Int) ≤ g
  · have h1 := way_up hn hk
    rw [way_S] at h1
    by_cases h2 : (j : Int) < g
    · rw [if_pos (by omega : j < g.toNat)]
      by_cases h3 : j < k
      · rw [if_pos h3, if_neg (by omega), if_neg (by omega), if_neg (by omega)]
        omega
      · rw [if_neg h3, if_neg (by omega), if_neg (by omega), if_pos (by omega)]
        omega
    · rw [if_neg (by omega : ¬ j < g.toNat), if_neg (by omega : ¬ j < k), if_neg (by omega), if_neg (by omega), if_neg (by omega)]
      omega
  · have h1 := way_down hn hg (by omega : g < (k : Int))
    rw [way_S] at h1
    by_cases h2 : (j : Int) < g
    · rw [if_pos (by omega : j < g.toNat), if_pos (by omega : j < k)]
      rw [if_neg (show ¬ (((k : Int) ≤ j ∧ (j : Int) < g) ∨ (g ≤ j ∧ (j : Int) < k)) by omega)]
      have : Sm ls g.toNat + (f - 1) - (Sm ls k + (f - 1)) = Sm ls g.toNat - Sm ls k := by omega
      rw [this]
      omega
    · rw [if_neg (by omega : ¬ j < g.toNat)]
      by_cases h3 : j < k
      · rw [if_pos h3, if_pos (by omega : Sm ls g.toNat + 0 - (Sm ls k + (f - 1)) < 0), if_pos (show (((k : Int) ≤ j ∧ (j : Int) < g) ∨ (g ≤ j ∧ (j : Int) < k)) by omega)]
        by_cases h4 : Sm ls g.toNat - Sm ls k < 0
        · rw [if_pos h4]; omega
        · rw [if_neg h4]; omega
      · rw [if_neg h3, if_neg (show ¬ (((k : Int) ≤ j ∧ (j : Int) < g) ∨ (g ≤ j ∧ (j : Int) < k)) by omega)]
        have : Sm ls g.toNat + 0 - (Sm ls k + 0) = Sm ls g.toNat - Sm ls k := by omega
        rw [this]
        omega
/-! ### closed lengths -/
def Closed (rs : List Row) (ls : List Int) : Prop := Shape rs ls ∧ ∀ k, badAt rs ls k = false
theorem shape_nn {rs : List Row} (hg : Good rs) {ls : List Int} (h : Shape rs ls) : NN ls := by
  intro k
  rw [List.getD_eq_getElem?_getD]
  by_cases hk : k < rs.length
  · obtain ⟨r, hr⟩ : ∃ r, rs[k]? = some r := ⟨_, List.getElem?_eq_getElem hk⟩
    obtain ⟨x, hx, hf⟩ := h.2 k r hr
    have hgr := hg r (List.mem_of_getElem? hr)
    rw [hx]
    show 0 ≤ x
    cases r with
    | size s => have : x = s := hf; have := hgr.1; omega
    | jump g b a f =>
      have : x = 1 ∨ x = f := hf
      have := hgr.2.2.2.1
      omega
  · rw [List.getElem?_eq_none (by rw [h.1]; omega)]
    exact Int.le_refl _
theorem getD_some {ls : List Int} {k : Nat} {x : Int} (h : ls[k]? = some x) : ls.getD k 0 = x := by
  rw [List.getD_eq_getElem?_getD, h]
  rfl
theorem near_le {rs : List Row} (hg : Good rs) {ls : List Int} (h : Shape rs ls) : Le (nears rs) ls := by
  intro k
  by_cases hk : k < rs.length
  · obtain ⟨r, hr⟩ : ∃ r, rs[k]? = some r := ⟨_, List.getElem?_eq_getElem hk⟩
    obtain ⟨x, hx, hf⟩ := h.2 k r hr
    have e : (nears rs)[k]? = some r.near := by unfold nears; rw [List.getElem?_map, hr]; rfl
    rw [getD_some hx, getD_some e]
    have hgr := hg r (List.mem_of_getElem? hr)
    cases r with
    | size s => have : x = s := hf; show s ≤ x; omega
    | jump g b a f =>
      have : x = 1 ∨ x = f := hf
      have := hgr.2.2.2.1
      show 1 ≤ x
      omega
  · rw [List.getD_eq_getElem?_getD, List.getD_eq_getElem?_getD, List.getElem?_eq_none (by simp [nears]; omega), List.getElem?_eq_none (by rw [h.1]; omega)]
    exact Int.le_refl _
theorem badAt_jump {rs : List Row} {ls : List Int} {k : Nat} (h : badAt rs ls k = true) : ∃ g b a f, rs[k]? = some (.jump g b a f) ∧ ls[k]? = some 1 ∧ reachB ls k g b a = false := by
  unfold badAt at h
  split at h
  · rename_i g b a f x hr hx
    simp only [Bool.and_eq_true, decide_eq_true_eq, Bool.not_eq_true'] at h
    obtain ⟨rfl, h⟩ := h
    exact ⟨g, b, a, f, hr, hx, h⟩
  · cases h
theorem badAt_of {rs : List Row} {ls : List Int} {k : Nat} {g b a f : Int} (hr : rs[k]? = some (.jump g b a f)) (hx : ls[k]? = some 1) (h : reachB ls k g b a = false) : badAt rs ls k = true := by
  unfold badAt
  rw [hr, hx]
  simp [h]
/-- a jump that is bad in lesser lengths is far in closed ones -/
theorem bad_far {rs : List Row} (hg : Good rs) {a0 B : List Int} (ha : Shape rs a0) (hB : Closed rs B) (hle : Le a0 B) {k : Nat} {g b a f : Int} (hr : rs[k]? = some (.jump g b a f)) (h : reachB a0 k g b a = false) : B[k]? = some f := by
  obtain ⟨x, hx, hf⟩ := hB.1.2 k _ hr
  have hgr := hg _ (List.mem_of_getElem? hr)
  rcases (hf : x = 1 ∨ x = f) with rfl | rfl
  · exfalso
    cases hc : reachB B k g b a with
    | true =>
      have := reach_anti (shape_nn hg ha) hle hgr.1.1 hgr.2.1.1 hgr.2.2.1.1 hc
      rw [this] at h
      cases h
    | false =>
      have h2 := hB.2 k
      rw [badAt_of hr hx hc] at h2
      cases h2
  · exact hx
theorem set_le {a0 B : List Int} (h : Le a0 B) {k : Nat} {f : Int} (hk : k < a0.length) (hB : B[k]? = some f) : Le (a0.set k f) B := by
  intro j
  rw [getD_set a0 k j f hk]
  by_cases hj : j = k
  · subst hj
    rw [if_pos rfl, getD_some hB]
    exact Int.le_refl _
  · rw [if_neg hj]
    exact h j
theorem le_set {a0 : List Int} {k : Nat} {x f : Int} (hx : a0[k]? = some x) (h : x ≤ f) : Le a0 (a0.set k f) := by
  intro j
  rw [getD_set a0 k j f (List.getElem?_eq_some_iff.mp hx).1]
  by_cases hj : j = k
  · subst hj
    rw [if_pos rfl, getD_some hx]
    exact h
  · rw [if_neg hj]
    exact Int.le_refl _
theorem step_inv {rs : List Row} {now now' : List Int} {d : D} (e : stepC rs now d = some now') : ∃ (k : Nat) (g b a f : Int), d = .int k ∧ rs[k]? = some (.jump g b a f) ∧ now[k]? = some 1 ∧ reachB now k g b a = false ∧ now' = now.set k f := by
  unfold stepC at e
  split at e
  · rename_i i
    split at e
    · rename_i hi
      split at e
      · rename_i g b a f hr
        split at e
        · rename_i hc
          injection e with e
          exact ⟨i.toNat, g, b, a, f, by rw [Int.toNat_of_nonneg hi.1], hr, hc.1, hc.2, e.symm⟩
        · cases e
      · cases e
    · cases e
  · cases e
theorem step_of {rs : List Row} {now : List Int} {k : Nat} {g b a f : Int} (hr : rs[k]? = some (.jump g b a f)) (hx : now[k]? = some 1) (h : reachB now k g b a = false) : stepC rs now (.int (k : Int)) = some (now.set k f) := by
  have hk : k < rs.length := (List.getElem?_eq_some_iff.mp hr).1
  unfold stepC
  dsimp only
  rw [if_pos ⟨by omega, by omega⟩, Int.toNat_natCast, hr]
  dsimp only
  rw [if_pos ⟨hx, h⟩]
theorem chain_le {rs : List Row} (hg : Good rs) {B : List Int} (hB : Closed rs B) : ∀ (l : List D) (now L : List Int), Shape rs now → Le now B → runO (stepC rs) l now = some L → Shape rs L ∧ Le L B
  | [], now, L, hs, h, e => by injection e with e; rw [← e]; exact ⟨hs, h⟩
  | d :: l, now, L, hs, h, e => by
    unfold runO at e
    cases hst : stepC rs now d with
    | none => rw [hst] at e; cases e
    | some n1 =>
      rw [hst] at e
      obtain ⟨k, g, b, a, f, rfl, hr, hx, hb, rfl⟩ := step_inv hst
      exact chain_le hg hB l _ L (shape_step hs hst) (set_le h (List.getElem?_eq_some_iff.mp hx).1 (bad_far hg hs hB h hr hb)) e
/-- the least lengths, and a chain that shows them -/
def Least (rs : List Row) (L : List Int) : Prop := Closed rs L ∧ ∃ l, runO (stepC rs) l (nears rs) = some L
theorem least_le {rs : List Row} (hg : Good rs) {L B : List Int} (h : Least rs L) (hB : Closed rs B) : Le L B := by
  obtain ⟨_, l, hl⟩ := h
  exact (chain_le hg hB l _ _ shape_near (near_le hg hB.1) hl).2
theorem le_antisymm {a b : List Int} (hl : a.length = b.length) (h1 : Le a b) (h2 : Le b a) : a = b := by
  apply List.ext_getElem hl
  intro k hk hk2
  have e1 := h1 k
  have e2 := h2 k
  rw [getD_some (List.getElem?_eq_getElem hk), getD_some (List.getElem?_eq_getElem hk2)] at e1 e2
  omega
theorem least_unique {rs : List Row} (hg : Good rs) {L M : List Int} (h1 : Least rs L) (h2 : Least rs M) : L = M :=
  le_antisymm (by rw [h1.1.1.1, h2.1.1.1]) (least_le hg h1 h2.1) (least_le hg h2 h1.1)
theorem shape_form {rs : List Row} {ls : List Int} (h : Shape rs ls) : formB rs (intsD ls) = true := by
  refine List.all_eq_true.mpr fun k hk => ?_
  have hk := List.mem_range.mp hk
  obtain ⟨r, hr⟩ : ∃ r, rs[k]? = some r := ⟨_, List.getElem?_eq_getElem hk⟩
  obtain ⟨x, hx, hf⟩ := h.2 k r hr
  unfold okAt
  have e : (intsD ls)[k]? = some (.int x) := by unfold intsD; rw [List.getElem?_map, hx]; rfl
  rw [hr, e]
  cases r with
  | size s => have : x = s := hf; subst this; simp [fitD, betwD]
  | jump g b a f =>
    rcases (hf : x = 1 ∨ x = f) with rfl | rfl <;> simp [fitD, betwD]
theorem least_B {rs : List Row} (hg : Good rs) {L : List Int} {l : List D} (hc : Closed rs L) (hl : runO (stepC rs) l (nears rs) = some L) : leastB rs (.tup [.lst (intsD L), .lst l]) = true := by
  unfold leastB
  dsimp only
  rw [intsOf_ints, lst_seq hg, shape_form hc.1]
  have e1 : noBad rs L = true := List.all_eq_true.mpr fun k _ => by rw [hc.2 k]; rfl
  have e2 : decide ((intsD L).length = rs.length) = true := by
    rw [intsD_len]
    exact decide_eq_true hc.1.1
  rw [e1, e2]
  show decide _ = true
  exact decide_eq_true hl
end K78

set_option Elab.async false
set_option linter.all false
set_option maxRecDepth 100000
set_option maxHeartbeats 4000000
/-! K78MI: least_of, its invariant and its loops -/
namespace K78
open PySem Pm
def boolsD (l : List Bool) : List D := l.map D.bl
def cntT : List Bool → Nat
  | [] => 0
  | true :: l => cntT l + 1
  | false :: l => cntT l
theorem cnt_set : ∀ (l : List Bool) (k : Nat), l[k]? = some true → cntT (l.set k false) + 1 = cntT l
  | [], k, h => by simp at h
  | b :: l, 0, h => by
    simp at h
    subst h
    rfl
  | b :: l, k + 1, h => by
    have := cnt_set l k (by simpa using h)
    cases b <;> simp only [List.set, cntT] <;> omega
theorem runO_snoc {σ : Type} (step : σ → D → Option σ) : ∀ (l : List D) (x : D) (a : σ), runO step (l ++ [x]) a = (runO step l a).bind fun b => step b x
  | [], x, a => by
    show (step a x).bind (fun b => some b) = step a x
    cases step a x <;> rfl
  | y :: l, x, a => by
    rw [List.cons_append]
    unfold runO
    cases step a y with
    | none => rfl
    | some b => exact runO_snoc step l x b
theorem natsD_snoc (l : List Nat) (k : Nat) : natsD (l ++ [k]) = natsD l ++ [.int (k : Int)] := by
  unfold natsD
  rw [List.map_append]
  rfl
@[simp] theorem natsD_len (l : List Nat) : (natsD l).length = l.length := by simp [natsD]
@[simp] theorem boolsD_len (l : List Bool) : (boolsD l).length = l.length := by simp [boolsD]
structure Inn (rs : List Row) (W : Int) (ls ls' : List Int) (lo t : Nat) (sq : List Nat) (left : List Int) (js : List Bool) (wt : List Nat) : Prop where
  l1 : left.length = rs.length
  l2 : js.length = rs.length
  a : ∀ k : Nat, js[k]? = some true → ∃ g b a f, rs[k]? = some (.jump g b a f) ∧ (g - k ≤ W ∧ (k : Int) - g ≤ W) ∧ ls'[k]? = some 1 ∧ left[k]? = some (distR (if lo ≤ k ∧ k < t then ls' else ls) k (.jump g b a f)) ∧ distR (if lo ≤ k ∧ k < t then ls' else ls) k (.jump g b a f) ≤ reachR k (.jump g b a f)
  b : ∀ (k : Nat) (g b a f : Int), rs[k]? = some (.jump g b a f) → js[k]? = some true ∨ k ∈ wt
  d : ∀ k : Nat, k ∈ wt → js[k]? = some false
  e : ∃ rest, wt = sq ++ rest ∧ ∀ k ∈ rest, badAt rs ls' k = true
  n : wt.Nodup
  c : wt.length + cntT js ≤ rs.length
  s : Shape rs ls'
  q : ∀ k : Nat, k ∈ sq → ls'[k]? ≠ some 1
  r : runO (stepC rs) (natsD sq) (nears rs) = some ls'
/-- one more jump becomes far -/
theorem Inn.far {rs : List Row} (hg : Good rs) {W : Int} {ls : List Int} {x y lo : Nat} {sq : List Nat} {left : List Int} {js : List Bool} {wt : List Nat} (I : Inn rs W ls ls x y sq left js wt) (hlt : sq.length < wt.length) :
    ∃ (far : Nat) (g b a f : Int), wt[sq.length]? = some far ∧ rs[far]? = some (.jump g b a f) ∧ ls[far]? = some 1 ∧ 2 ≤ f ∧ Inn rs W ls (ls.set far f) lo lo (sq ++ [far]) left js wt := by
  obtain ⟨rest, e1, e2⟩ := I.e
  match rest, e1, e2 with
  | [], e1, _ =>
    rw [e1] at hlt
    simp at hlt
  | far :: rest, e1, e2 =>
    have hb := e2 far List.mem_cons_self
    obtain ⟨g, b, a, f, hr, hx, hrb⟩ := badAt_jump hb
    have hgr := hg _ (List.mem_of_getElem? hr)
    have hf : 2 ≤ f := hgr.2.2.2.1
    have hn : wt.Nodup := I.n
    rw [e1] at hn
    have hfr : far ∉ rest := ((List.nodup_append.mp hn).2.1 |> List.nodup_cons.mp).1
    have hfw : far ∈ wt := by rw [e1]; simp
    have hfl : far < ls.length := (List.getElem?_eq_some_iff.mp hx).1
    have hnn := shape_nn hg I.s
    have hle : Le ls (ls.set far f) := le_set hx (by omega)
    refine ⟨far, g, b, a, f, by rw [e1]; simp, hr, hx, hf, I.l1, I.l2, fun k hk => ?_, I.b, I.d, ⟨rest, by rw [e1]; simp, fun k hk => ?_⟩, I.n, I.c, shape_set I.s hr, fun k hk => ?_, ?_⟩
    · obtain ⟨g2, b2, a2, f2, q1, q2, q3, q4, q5⟩ := I.a k hk
      have hne : far ≠ k := fun z => by
        have := I.d far hfw
        rw [z, hk] at this
        cases this
      rw [ite_self] at q4 q5
      refine ⟨g2, b2, a2, f2, q1, q2, by rw [List.getElem?_set_ne hne]; exact q3, ?_⟩
      rw [if_neg (by omega)]
      exact ⟨q4, q5⟩
    · have hbk := e2 k (List.mem_cons_of_mem _ hk)
      obtain ⟨g2, b2, a2, f2, q1, q2, q3⟩ := badAt_jump hbk
      have hne : far ≠ k := fun z => hfr (by rw [z]; exact hk)
      have hgk := hg _ (List.mem_of_getElem? q1)
      refine badAt_of q1 (by rw [List.getElem?_set_ne hne]; exact q2) ?_
      cases hc : reachB (ls.set far f) k g2 b2 a2 with
      | false => rfl
      | true =>
        have := reach_anti hnn hle hgk.1.1 hgk.2.1.1 hgk.2.2.1.1 hc
        rw [this] at q3
        cases q3
    · rcases List.mem_append.mp hk with hk | hk
      · have := I.q k hk
        by_cases hne : far = k
        · subst hne
          exact absurd hx this
        · rw [List.getElem?_set_ne hne]
          exact this
      · rw [List.mem_singleton.mp hk, List.getElem?_set_self hfl]
        intro z
        injection z with z
        omega
    · rw [natsD_snoc, runO_snoc, I.r]
      exact step_of hr hx hrb
/-- behind the loop over the window -/
theorem Inn.close {rs : List Row} (hg : Good rs) {W : Int} {ls : List Int} {lo hi far : Nat} {f : Int} {sq : List Nat} {left : List Int} {js : List Bool} {wt : List Nat} (hx : ls[far]? = some 1) (hf : 2 ≤ f) (hs : Shape rs ls)
    (hlo : (lo : Int) ≤ far - W ∨ lo = 0) (hhi : (far : Int) + W + 1 ≤ hi ∨ hi = rs.length) (I : Inn rs W ls (ls.set far f) lo hi sq left js wt) : Inn rs W (ls.set far f) (ls.set far f) 0 0 sq left js wt := by
  refine ⟨I.l1, I.l2, fun k hk => ?_, I.b, I.d, I.e, I.n, I.c, I.s, I.q, I.r⟩
  obtain ⟨g, b, a, f0, q1, q2, q3, q4, q5⟩ := I.a k hk
  have hgr := hg _ (List.mem_of_getElem? q1)
  have hkl : k < rs.length := (List.getElem?_eq_some_iff.mp q1).1
  refine ⟨g, b, a, f0, q1, q2, q3, ?_⟩
  rw [ite_self]
  by_cases hw : lo ≤ k ∧ k < hi
  · rw [if_pos hw] at q4 q5
    exact ⟨q4, q5⟩
  · rw [if_neg hw] at q4 q5
    have e := dist_set (k := k) (g := g) (b := b) (a := a) (f0 := f0) (shape_nn hg hs) hgr.1.1 hx hf
    have hsp : spans g k far = false := by
      cases h : spans g k far with
      | false => rfl
      | true =>
        exfalso
        unfold spans at h
        simp only [Bool.or_eq_true, Bool.and_eq_true, decide_eq_true_eq] at h
        apply hw
        constructor
        · rcases hlo with h1 | h1
          · rcases h with h | h <;> omega
          · omega
        · rcases hhi with h1 | h1
          · rcases h with h | h <;> omega
          · omega
    rw [hsp] at e
    rw [if_neg (by decide), Int.add_zero] at e
    rw [e]
    exact ⟨q4, q5⟩
/-- all is done -/
theorem Inn.done {rs : List Row} (hg : Good rs) {W : Int} {ls : List Int} {x y : Nat} {sq : List Nat} {left : List Int} {js : List Bool} {wt : List Nat} (I : Inn rs W ls ls x y sq left js wt) (h : wt.length ≤ sq.length) : Closed rs ls := by
  refine ⟨I.s, fun k => ?_⟩
  cases hb : badAt rs ls k with
  | false => rfl
  | true =>
    exfalso
    obtain ⟨g, b, a, f, hr, hx, hrb⟩ := badAt_jump hb
    have hgr := hg _ (List.mem_of_getElem? hr)
    rcases I.b k g b a f hr with hj | hw
    · obtain ⟨g2, b2, a2, f2, q1, q2, q3, q4, q5⟩ := I.a k hj
      rw [hr] at q1
      injection q1 with q1
      injection q1 with q1a q1b q1c q1d
      subst q1a q1b q1c q1d
      rw [ite_self] at q5
      rw [reach_dist (f := f) (shape_nn hg I.s) hgr.1.1 hgr.2.1.1 hgr.2.2.1.1, decide_eq_true q5] at hrb
      cases hrb
    · obtain ⟨rest, e1, _⟩ := I.e
      have : rest = [] := by
        rw [e1, List.length_append] at h
        exact List.length_eq_zero_iff.mp (by omega)
      rw [this, List.append_nil] at e1
      rw [e1] at hw
      exact I.q k hw hx
@[simp] theorem sAugIx_ap (f : S → R → R → Option R) (o i e : Me) (s : S) : sAugIx f o i e s = (o s).bind fun ro s1 => (i s1).bind fun ri s2 => match ri, s2.lv ro with
  | .d (.int k), some l => (match atD l k with
    | some x => (e s2).bind fun r s3 => (match f s3 (.d x) r with
      | some z => (match z.toD with
        | some d => (match chg s3 ro (setAt k d) with
          | some s4 => .ok .nx s4
          | none => .st)
        | none => .st)
      | none => .st)
    | none => .st)
  | _, _ => .st := rfl
theorem setI {l : List Int} {t : Nat} (x : Int) (h : t < l.length) : setAt (t : Int) (.int x) (intsD l) = some (intsD (l.set t x)) := by
  rw [setAt_ok (by omega) (by simp; omega), Int.toNat_natCast]
  unfold intsD
  rw [List.map_set]
theorem setB {l : List Bool} {t : Nat} (x : Bool) (h : t < l.length) : setAt (t : Int) (.bl x) (boolsD l) = some (boolsD (l.set t x)) := by
  rw [setAt_ok (by omega) (by simp; omega), Int.toNat_natCast]
  unfold boolsD
  rw [List.map_set]
theorem boolsD_at (l : List Bool) (k : Nat) : atD (boolsD l) (k : Int) = (l[k]?).map D.bl := by rw [atD_nat, boolsD, List.getElem?_map]
theorem natsD_at (l : List Nat) (k : Nat) : atD (natsD l) (k : Int) = (l[k]?).map fun (j : Nat) => D.int (j : Int) := by rw [atD_nat, natsD, List.getElem?_map]
/-- the frame of least_of -/
def frL (rs : List Row) (W : Int) (ls left : List Int) (js : List Bool) (wt sq : List Nat) (x7 x8 : Sl) (m : List (List D)) : S :=
  ⟨[.val (.lst (rowsD rs)), .own (intsD ls), .own (intsD left), .own (boolsD js), .own (natsD wt), .val (.int W), .own (natsD sq), x7, x8, .un], m⟩
theorem inner_ok (n : Nat) (rs : List Row) (hg : Good rs) (hl : rs.length + 1 < LIM) (W : Int) (ls : List Int) (hs : Shape rs ls) (far : Nat) (g b a f : Int) (hr : rs[far]? = some (.jump g b a f)) (hx : ls[far]? = some 1) (hf : 2 ≤ f) (lo t : Nat) (hlo : lo ≤ t) (ht : t < rs.length) (sq : List Nat) (left : List Int) (js : List Bool) (wt : List Nat)
    (I : Inn rs W ls (ls.set far f) lo t sq left js wt) (m : List (List D)) : ∃ left' js' wt', Inn rs W ls (ls.set far f) lo (t + 1) sq left' js' wt' ∧
      lb_least_of_4 (FF tab (n + 1)) (frL rs W (ls.set far f) left js wt sq (.val (.int far)) (.val (.int t)) m) = .ok .nx (frL rs W (ls.set far f) left' js' wt' sq (.val (.int far)) (.val (.int t)) m) := by
  obtain ⟨jt, hj⟩ : ∃ jt, js[t]? = some jt := ⟨_, List.getElem?_eq_getElem (by rw [I.l2]; exact ht)⟩
  have ej : atD (boolsD js) (t : Int) = some (.bl jt) := by rw [boolsD_at, hj]; rfl
  have efar : atD (rowsD rs) (far : Int) = some (encR (.jump g b a f)) := by rw [rowsD_at, hr]; rfl
  have stay : ∀ left' : List Int, (∀ k : Nat, k ≠ t → left'[k]? = left[k]?) → (js[t]? = some true → ∃ g b a f0, rs[t]? = some (.jump g b a f0) ∧ left'[t]? = some (distR (ls.set far f) t (.jump g b a f0)) ∧ distR (ls.set far f) t (.jump g b a f0) ≤ reachR t (.jump g b a f0)) → left'.length = rs.length → Inn rs W ls (ls.set far f) lo (t + 1) sq left' js wt := by
    intro left' h1 h2 h3
    refine ⟨h3, I.l2, fun k hk => ?_, I.b, I.d, I.e, I.n, I.c, I.s, I.q, I.r⟩
    obtain ⟨g2, b2, a2, f2, q1, q2, q3, q4, q5⟩ := I.a k hk
    refine ⟨g2, b2, a2, f2, q1, q2, q3, ?_⟩
    by_cases hkt : k = t
    · subst hkt
      obtain ⟨g3, b3, a3, f3, p1, p2, p3⟩ := h2 hk
      rw [q1] at p1
      injection p1 with p1
      rw [← p1] at p2 p3
      rw [if_pos ⟨hlo, Nat.lt_succ_self _⟩]
      exact ⟨p2, p3⟩
    · rw [h1 k hkt]
      have : (lo ≤ k ∧ k < t + 1) = (lo ≤ k ∧ k < t) := propext ⟨fun h => ⟨h.1, by omega⟩, fun h => ⟨h.1, by omega⟩⟩
      simp only [this]
      exact ⟨q4, q5⟩
  cases jt with
  | false =>
    refine ⟨left, js, wt, stay left (fun _ _ => rfl) (fun z => by rw [hj] at z; cases z) I.l1, ?_⟩
    simp [lb_least_of_4, frL, ej]
  | true =>
    obtain ⟨g2, b2, a2, f2, q1, q2, q3, q4, q5⟩ := I.a t hj
    rw [if_neg (by omega)] at q4 q5
    have hgr := hg _ (List.mem_of_getElem? q1)
    have et : atD (rowsD rs) (t : Int) = some (encR (.jump g2 b2 a2 f2)) := by rw [rowsD_at, q1]; rfl
    have e12 := jump_spans_ok n g2 b2 a2 f2 t far m
    have e11 := jump_reach_ok n t g2 b2 a2 f2 m
    rw [← reachR_jump t g2 b2 a2 f2] at e11
    have ed := dist_set (k := t) (g := g2) (b := b2) (a := a2) (f0 := f2) (shape_nn hg hs) hgr.1.1 hx hf
    have el : atD (intsD left) (t : Int) = some (.int (distR ls t (.jump g2 b2 a2 f2))) := by rw [intsD_at, q4]; rfl
    have htl : t < left.length := by rw [I.l1]; exact ht
    have htj : t < js.length := by rw [I.l2]; exact ht
    simp only [encR] at et e11 e12 efar
    cases hsp : spans g2 t far with
    | false =>
      rw [hsp] at e12 ed
      rw [if_neg (by decide), Int.add_zero] at ed
      refine ⟨left, js, wt, stay left (fun _ _ => rfl) (fun z => ⟨g2, b2, a2, f2, q1, by rw [ed]; exact q4, by rw [ed]; exact q5⟩) I.l1, ?_⟩
      simp [lb_least_of_4, frL, ej, et, e12]
    | true =>
      rw [hsp] at e12 ed
      rw [if_pos rfl] at ed
      have es := setI (l := left) (distR ls t (.jump g2 b2 a2 f2) + (f - 1)) htl
      have el2 : atD (intsD (left.set t (distR ls t (.jump g2 b2 a2 f2) + (f - 1)))) (t : Int) = some (.int (distR ls t (.jump g2 b2 a2 f2) + (f - 1))) := by
        rw [intsD_at, List.getElem?_set_self htl]
        rfl
      obtain ⟨dd, hdd⟩ : ∃ dd, distR ls t (.jump g2 b2 a2 f2) = dd := ⟨_, rfl⟩
      obtain ⟨rr, hrr⟩ : ∃ rr, reachR t (.jump g2 b2 a2 f2) = rr := ⟨_, rfl⟩
      rw [hdd] at es el el2 ed q5
      rw [hrr] at e11 q5
      by_cases hlt : rr < dd + (f - 1)
      · have esb := setB (l := js) false htj
        have hwl : (natsD wt).length < LIM := by
          have := I.c
          simp
          omega
        have hbad : badAt rs (ls.set far f) t = true := by
          refine badAt_of q1 q3 ?_
          rw [reach_dist (f := f2) (shape_nn hg I.s) hgr.1.1 hgr.2.1.1 hgr.2.2.1.1, ed, hrr]
          exact decide_eq_false (by omega)
        refine ⟨left.set t (dd + (f - 1)), js.set t false, wt ++ [t], ⟨by simpa using I.l1, by simpa using I.l2, fun k hk => ?_, fun k g b a f hk => ?_, fun k hk => ?_, ?_, ?_, ?_, I.s, I.q, I.r⟩, ?_⟩
        · have hkt : t ≠ k := fun z => by
            rw [← z, List.getElem?_set_self htj] at hk
            cases hk
          rw [List.getElem?_set_ne hkt] at hk
          obtain ⟨g3, b3, a3, f3, p1, p2, p3, p4, p5⟩ := I.a k hk
          refine ⟨g3, b3, a3, f3, p1, p2, p3, ?_⟩
          rw [List.getElem?_set_ne hkt]
          have : (lo ≤ k ∧ k < t + 1) = (lo ≤ k ∧ k < t) := propext ⟨fun h => ⟨h.1, by omega⟩, fun h => ⟨h.1, by omega⟩⟩
          simp only [this]
          exact ⟨p4, p5⟩
        · by_cases hkt : t = k
          · exact .inr (by rw [hkt]; simp)
          · rw [List.getElem?_set_ne hkt]
            rcases I.b k g b a f hk with h | h
            · exact .inl h
            · exact .inr (by simp [h])
        · by_cases hkt : t = k
          · rw [← hkt, List.getElem?_set_self htj]
          · rw [List.getElem?_set_ne hkt]
            rcases List.mem_append.mp hk with h | h
            · exact I.d k h
            · exact absurd (List.mem_singleton.mp h).symm hkt
        · obtain ⟨rest, e1, e2⟩ := I.e
          refine ⟨rest ++ [t], by rw [e1]; simp, fun k hk => ?_⟩
          rcases List.mem_append.mp hk with h | h
          · exact e2 k h
          · rw [List.mem_singleton.mp h]
            exact hbad
        · rw [List.nodup_append]
          refine ⟨I.n, by simp, fun x hx y hy => ?_⟩
          rw [List.mem_singleton.mp hy]
          intro z
          have := I.d x hx
          rw [z, hj] at this
          cases this
        · have := I.c
          have := cnt_set js t hj
          simp
          omega
        · simp at hwl
          simp [lb_least_of_4, frL, ej, et, e12, efar, el, es, el2, e11, hlt, esb, hwl, natsD_snoc]
      · refine ⟨left.set t (dd + (f - 1)), js, wt, stay _ (fun k hk => by rw [List.getElem?_set_ne (Ne.symm hk)]) (fun z => ⟨g2, b2, a2, f2, q1, by rw [ed, List.getElem?_set_self htl], by rw [ed, hrr]; omega⟩) (by simpa using I.l1), ?_⟩
        simp [lb_least_of_4, frL, ej, et, e12, efar, el, es, el2, e11, hlt]
end K78

set_option Elab.async false
set_option linter.all false
set_option maxRecDepth 100000
set_option maxHeartbeats 4000000
/-! K78MJ: least_of, least_lengths -/
namespace K78
open PySem Pm
@[simp] theorem iR2_ap (a b : Me) (s : S) : iR2 a b s = (a s).bind fun x s1 => liftI (b s1) fun y _ => match x, y with
  | .d (.int i), .d (.int j) => if (j ≤ 100000000 ∧ -100000000 ≤ j) ∧ (i ≤ 100000000 ∧ -100000000 ≤ i) then some (ivs i (j - i).toNat) else none
  | _, _ => none := rfl
@[simp] theorem bMax2_ap (s : S) (i j : Int) : bMax2 s [.d (.int i), .d (.int j)] = some (.d (.int (if j > i then j else i))) := rfl
@[simp] theorem bMin2_ap (s : S) (i j : Int) : bMin2 s [.d (.int i), .d (.int j)] = some (.d (.int (if j < i then j else i))) := rfl
theorem ivs_at (lo n j : Nat) (x : D) (h : (ivs (lo : Int) n)[j]? = some x) : j < n ∧ x = .int ((lo + j : Nat) : Int) := by
  unfold ivs at h
  rw [List.getElem?_map] at h
  by_cases hj : j < n
  · rw [List.getElem?_range hj] at h
    injection h with h
    exact ⟨hj, by rw [← h]; rfl⟩
  · rw [List.getElem?_eq_none (by simp; omega)] at h
    cases h
theorem ivs_len (lo : Int) (n : Nat) : (ivs lo n).length = n := by simp [ivs]
theorem outer_ok (n : Nat) (rs : List Row) (hg : Good rs) (hl : rs.length + 1 < LIM) (W : Int) (hW : 0 ≤ W) (ls left : List Int) (js : List Bool) (wt sq : List Nat) (x y : Nat) (I : Inn rs W ls ls x y sq left js wt) (hlt : sq.length < wt.length) (x7 x8 : Sl) (m : List (List D)) :
    ∃ ls' left' js' wt' sq' x7' x8', sq'.length = sq.length + 1 ∧ Inn rs W ls' ls' 0 0 sq' left' js' wt' ∧
      lb_least_of_3 (FF tab (n + 1)) (frL rs W ls left js wt sq x7 x8 m) = .ok .nx (frL rs W ls' left' js' wt' sq' x7' x8' m) := by
  obtain ⟨far, g, b, a, f, ew, hr, hx, hf, I2⟩ := I.far (lo := 0) hg hlt
  have hL : LIM = 1000000 := rfl
  have hfr : far < rs.length := (List.getElem?_eq_some_iff.mp hr).1
  have hfl : far < ls.length := (List.getElem?_eq_some_iff.mp hx).1
  obtain ⟨lo, hlo⟩ : ∃ lo : Nat, (if (far : Int) - W > 0 then (far : Int) - W else 0) = (lo : Int) := ⟨(if (far : Int) - W > 0 then (far : Int) - W else 0).toNat, by split <;> omega⟩
  obtain ⟨hi, hhi⟩ : ∃ hi : Nat, (if (far : Int) + W + 1 < rs.length then (far : Int) + W + 1 else rs.length) = (hi : Int) := ⟨(if (far : Int) + W + 1 < rs.length then (far : Int) + W + 1 else rs.length).toNat, by split <;> omega⟩
  have b1 : lo ≤ far := by split at hlo <;> omega
  have b2 : far < hi := by split at hhi <;> omega
  have b3 : hi ≤ rs.length := by split at hhi <;> omega
  have b4 : (lo : Int) ≤ far - W ∨ lo = 0 := by split at hlo <;> omega
  have b5 : (far : Int) + W + 1 ≤ hi ∨ hi = rs.length := by split at hhi <;> omega
  have I2 : Inn rs W ls (ls.set far f) lo lo (sq ++ [far]) left js wt := ⟨I2.l1, I2.l2, fun k hk => by
    obtain ⟨g2, b2, a2, f2, q1, q2, q3, q4, q5⟩ := I2.a k hk
    rw [if_neg (by omega)] at q4 q5
    exact ⟨g2, b2, a2, f2, q1, q2, q3, by rw [if_neg (by omega)]; exact ⟨q4, q5⟩⟩, I2.b, I2.d, I2.e, I2.n, I2.c, I2.s, I2.q, I2.r⟩
  obtain ⟨s', h1, left', js', wt', x8', h2, h3⟩ := forL_ok (tg := .name 8) (b := lb_least_of_4 (FF tab (n + 1))) (fun j s => ∃ left js wt x8, s = frL rs W (ls.set far f) left js wt (sq ++ [far]) (.val (.int far)) x8 m ∧ Inn rs W ls (ls.set far f) lo (lo + j) (sq ++ [far]) left js wt)
    (ivs (lo : Int) (hi - lo)) 0 (frL rs W (ls.set far f) left js wt (sq ++ [far]) (.val (.int far)) x8 m) ⟨left, js, wt, x8, rfl, I2⟩ (fun j d s hd hI => by
      obtain ⟨left, js, wt, x8, rfl, hI⟩ := hI
      obtain ⟨hj, rfl⟩ := ivs_at lo (hi - lo) j d hd
      rw [Nat.zero_add] at hI
      obtain ⟨left', js', wt', p1, p2⟩ := inner_ok n rs hg hl W ls I.s far g b a f hr hx hf lo (lo + j) (by omega) (by omega) (sq ++ [far]) left js wt hI m
      exact ⟨_, _, .nx, rfl, p2, .inl rfl, left', js', wt', _, rfl, by rw [Nat.zero_add, ← Nat.add_assoc]; exact p1⟩)
  subst h2
  rw [ivs_len, Nat.zero_add, show lo + (hi - lo) = hi by omega] at h3
  refine ⟨ls.set far f, left', js', wt', sq ++ [far], .val (.int far), x8', by simp, h3.close hg hx hf I.s b4 b5, ?_⟩
  have ewt : atD (natsD wt) (sq.length : Int) = some (.int far) := by rw [natsD_at, ew]; rfl
  have efar : atD (rowsD rs) (far : Int) = some (encR (.jump g b a f)) := by rw [rowsD_at, hr]; rfl
  have es := setI (l := ls) f hfl
  have hsl : sq.length < LIM := by
    have := I.c
    omega
  have c1 : ((lo : Int) ≤ 100000000 ∧ -100000000 ≤ (lo : Int)) := by omega
  have c2 : ((hi : Int) ≤ 100000000 ∧ -100000000 ≤ (hi : Int)) := by omega
  have c3 : ((hi : Int) - (lo : Int)).toNat = hi - lo := by omega
  simp only [encR] at efar
  simp only [frL, lb_least_of_4] at h1
  simp only [natsD_snoc] at h1
  have hlo' : (if 0 < (far : Int) - W then (far : Int) - W else 0) = (lo : Int) := hlo
  simp [lb_least_of_3, frL, ewt, efar, es, hsl, natsD_snoc, -Int.sub_pos]
  rw [hlo, hhi, if_pos ⟨c2, c1⟩]
  simp [c3, h1]
/-- a loop that ends behind at most M turns -/
theorem whileL_ok {c : Mt} {b : Ms} (I : Nat → S → Prop) (Fin : S → Prop) (M : Nat) (h : ∀ p s, I p s → (c s = .ok false s ∧ Fin s) ∨ (p < M ∧ c s = .ok true s ∧ ∃ s', b s = .ok .nx s' ∧ I (p + 1) s')) : ∀ (fuel p : Nat) (s : S), I p s → M - p < fuel → ∃ s', whileL c b fuel s = .ok .nx s' ∧ Fin s'
  | 0, p, s, _, hf => by omega
  | fuel + 1, p, s, hI, hf => by
    rcases h p s hI with ⟨h1, h2⟩ | ⟨h0, h1, s', h2, h3⟩
    · refine ⟨s, ?_, h2⟩
      unfold whileL
      rw [h1]
      rfl
    · obtain ⟨s2, g1, g2⟩ := whileL_ok I Fin M h fuel (p + 1) s' h3 (by omega)
      refine ⟨s2, ?_, g2⟩
      unfold whileL
      rw [h1]
      show (b s).bind _ = _
      rw [h2]
      exact g1
theorem while_ok (n : Nat) (rs : List Row) (hg : Good rs) (hl : rs.length + 1 < LIM) (W : Int) (hW : 0 ≤ W) (ls left : List Int) (js : List Bool) (wt : List Nat) (x y : Nat) (I : Inn rs W ls ls x y [] left js wt) (m : List (List D)) :
    ∃ ls' left' js' wt' x7' x8', Closed rs ls' ∧ runO (stepC rs) (natsD wt') (nears rs) = some ls' ∧ wt'.length ≤ rs.length ∧ (∀ k ∈ wt', k < rs.length) ∧
      st_least_of_6 (FF tab (n + 1)) (frL rs W ls left js wt [] .un .un m) = .ok .nx (frL rs W ls' left' js' wt' wt' x7' x8' m) := by
  have hL : LIM = 1000000 := rfl
  obtain ⟨s', h1, ls', left', js', wt', x7', x8', q1, q2, q3, q4, q5⟩ := whileL_ok (c := lc_least_of_3 (FF tab (n + 1))) (b := lb_least_of_3 (FF tab (n + 1))) (fun p s => ∃ ls left js wt sq x7 x8, s = frL rs W ls left js wt sq x7 x8 m ∧ sq.length = p ∧ ∃ x y, Inn rs W ls ls x y sq left js wt)
    (fun s => ∃ ls' left' js' wt' x7' x8', s = frL rs W ls' left' js' wt' wt' x7' x8' m ∧ Closed rs ls' ∧ runO (stepC rs) (natsD wt') (nears rs) = some ls' ∧ wt'.length ≤ rs.length ∧ ∀ k ∈ wt', k < rs.length) rs.length (fun p s hI => by
      obtain ⟨ls, left, js, wt, sq, x7, x8, rfl, hp, x, y, hI⟩ := hI
      by_cases hlt : sq.length < wt.length
      · right
        obtain ⟨ls', left', js', wt', sq', x7', x8', g1, g2, g3⟩ := outer_ok n rs hg hl W hW ls left js wt sq x y hI hlt x7 x8 m
        have := hI.c
        refine ⟨by omega, by simp [lc_least_of_3, frL, hlt], _, g3, ls', left', js', wt', sq', x7', x8', rfl, by omega, 0, 0, g2⟩
      · left
        have hc := hI.done hg (by omega)
        obtain ⟨rest, e1, _⟩ := hI.e
        have hr0 : rest = [] := by
          rw [e1, List.length_append] at hlt
          exact List.length_eq_zero_iff.mp (by omega)
        rw [hr0, List.append_nil] at e1
        subst e1
        refine ⟨by simp [lc_least_of_3, frL], ls, left, js, wt, x7, x8, rfl, hc, hI.r, by have := hI.c; omega, fun k hk => ?_⟩
        have := (List.getElem?_eq_some_iff.mp (hI.d k hk)).1
        rw [hI.l2] at this
        exact this) FUEL 0 (frL rs W ls left js wt [] .un .un m) ⟨ls, left, js, wt, [], .un, .un, rfl, rfl, x, y, I⟩ (by unfold FUEL; omega)
  subst q1
  exact ⟨ls', left', js', wt', x7', x8', q2, q3, q4, q5, h1⟩
/-! ### what it begins with -/
def jsAt (rs : List Row) (ls : List Int) (k : Nat) : Bool := match rs[k]? with
  | some (.jump g b a f) => decide (distR ls k (.jump g b a f) ≤ reachR k (.jump g b a f))
  | _ => false
def isJ (rs : List Row) (k : Nat) : Bool := match rs[k]? with
  | some (.jump _ _ _ _) => true
  | _ => false
def jsL (rs : List Row) (ls : List Int) : List Bool := (List.range rs.length).map (jsAt rs ls)
def wtL (rs : List Row) (ls : List Int) : List Nat := (List.range rs.length).filter fun k => isJ rs k && !jsAt rs ls k
def absD (rs : List Row) (k : Nat) : Int := match rs[k]? with
  | some (.jump g _ _ _) => if g - k < 0 then -(g - k) else g - k
  | _ => 0
theorem cnt_le (p q : Nat → Bool) (h : ∀ k, p k = true → q k = false) : ∀ l : List Nat, (l.filter p).length + cntT (l.map q) ≤ l.length
  | [] => by simp [cntT]
  | a :: l => by
    have := cnt_le p q h l
    rw [List.filter_cons, List.map_cons]
    cases hp : p a with
    | true =>
      rw [h a hp]
      simp [cntT]
      omega
    | false =>
      cases q a <;> simp [cntT] <;> omega
theorem foldl_mx : ∀ (l : List Int) (a : Int), a ≤ l.foldl (fun a y => if a < y then y else a) a ∧ ∀ x ∈ l, x ≤ l.foldl (fun a y => if a < y then y else a) a
  | [], a => ⟨Int.le_refl _, fun x h => by cases h⟩
  | y :: l, a => by
    rw [List.foldl_cons]
    obtain ⟨c, hc⟩ : ∃ c, (if a < y then y else a) = c := ⟨_, rfl⟩
    have hc2 : a ≤ c ∧ y ≤ c := by rw [← hc]; split <;> omega
    rw [hc]
    obtain ⟨h1, h2⟩ := foldl_mx l c
    refine ⟨by omega, fun x hx => ?_⟩
    rcases List.mem_cons.mp hx with rfl | hx
    · omega
    · exact h2 x hx
theorem mxI_ge {l : List Int} {x d : Int} (h : x ∈ l) : x ≤ mxI l d := by
  cases l with
  | nil => cases h
  | cons y l =>
    unfold mxI
    obtain ⟨h1, h2⟩ := foldl_mx l y
    rcases List.mem_cons.mp h with rfl | h
    · exact h1
    · exact h2 x h
theorem mxI_nn {l : List Int} (h : ∀ x ∈ l, 0 ≤ x) : 0 ≤ mxI l 0 := by
  cases l with
  | nil => exact Int.le_refl _
  | cons y l =>
    have := mxI_ge (l := y :: l) (d := 0) List.mem_cons_self
    have := h y List.mem_cons_self
    omega
theorem absD_nn (rs : List Row) (k : Nat) : 0 ≤ absD rs k := by
  unfold absD
  split
  · split <;> omega
  · omega
def winL (rs : List Row) (ls : List Int) : Int := mxI (((List.range rs.length).filter (jsAt rs ls)).map (absD rs)) 0
theorem inn_start {rs : List Row} (hg : Good rs) : Inn rs (winL rs (nears rs)) (nears rs) (nears rs) 0 0 [] (distsL rs (nears rs)) (jsL rs (nears rs)) (wtL rs (nears rs)) := by
  have near1 : ∀ (k : Nat) (g b a f : Int), rs[k]? = some (.jump g b a f) → (nears rs)[k]? = some 1 := fun k g b a f h => by
    unfold nears
    rw [List.getElem?_map, h]
    rfl
  have jsk : ∀ k : Nat, k < rs.length → (jsL rs (nears rs))[k]? = some (jsAt rs (nears rs) k) := fun k hk => by
    unfold jsL
    rw [List.getElem?_map, List.getElem?_range hk]
    rfl
  refine ⟨by simp [distsL], by simp [jsL], fun k hk => ?_, fun k g b a f hr => ?_, fun k hk => ?_, ⟨wtL rs (nears rs), rfl, fun k hk => ?_⟩, ?_, ?_, shape_near, fun k hk => (by cases hk), rfl⟩
  · have hkl : k < rs.length := by
      have := (List.getElem?_eq_some_iff.mp hk).1
      simpa [jsL] using this
    rw [jsk k hkl] at hk
    injection hk with hk
    have hk0 := hk
    unfold jsAt at hk
    split at hk
    · rename_i g b a f hr
      have hd : (distsL rs (nears rs))[k]? = some (distR (nears rs) k (.jump g b a f)) := by
        unfold distsL
        rw [List.getElem?_map, List.getElem?_range hkl]
        show some (match rs[k]? with
          | some r => distR (nears rs) k r
          | none => 0) = _
        rw [hr]
      have hw : absD rs k ≤ winL rs (nears rs) := mxI_ge (List.mem_map.mpr ⟨k, List.mem_filter.mpr ⟨List.mem_range.mpr hkl, hk0⟩, rfl⟩)
      refine ⟨g, b, a, f, hr, ?_, near1 k g b a f hr, by rw [ite_self]; exact hd, by rw [ite_self]; exact of_decide_eq_true hk⟩
      unfold absD at hw
      rw [hr] at hw
      dsimp only at hw
      split at hw <;> omega
    · cases hk
  · have hkl : k < rs.length := (List.getElem?_eq_some_iff.mp hr).1
    cases hj : jsAt rs (nears rs) k with
    | true => exact .inl (by rw [jsk k hkl, hj])
    | false =>
      refine .inr (List.mem_filter.mpr ⟨List.mem_range.mpr hkl, ?_⟩)
      rw [hj]
      unfold isJ
      rw [hr]
      rfl
  · obtain ⟨h1, h2⟩ := List.mem_filter.mp hk
    rw [jsk k (List.mem_range.mp h1)]
    simp only [Bool.and_eq_true, Bool.not_eq_true'] at h2
    rw [h2.2]
  · obtain ⟨h1, h2⟩ := List.mem_filter.mp hk
    simp only [Bool.and_eq_true, Bool.not_eq_true'] at h2
    obtain ⟨h3, h4⟩ := h2
    unfold isJ at h3
    split at h3
    · rename_i g b a f hr
      have hgr := hg _ (List.mem_of_getElem? hr)
      refine badAt_of hr (near1 k g b a f hr) ?_
      rw [reach_dist (f := f) (shape_nn hg shape_near) hgr.1.1 hgr.2.1.1 hgr.2.2.1.1]
      unfold jsAt at h4
      rw [hr] at h4
      exact h4
    · cases h3
  · exact List.nodup_range.filter _
  · have := cnt_le (fun k => isJ rs k && !jsAt rs (nears rs) k) (jsAt rs (nears rs)) (fun k h => by
      simp only [Bool.and_eq_true, Bool.not_eq_true'] at h
      exact h.2) (List.range rs.length)
    rw [List.length_range] at this
    exact this
theorem intDs_map (f : Nat → Int) : ∀ l : List Nat, intDs (l.map fun k => D.int (f k)) = some (l.map f)
  | [] => rfl
  | a :: l => by
    rw [List.map_cons, List.map_cons]
    unfold intDs
    rw [intDs_map f l]
    rfl
@[simp] theorem mMaxD_ap (a b : Me) (s : S) : mMaxD a b s = (a s).bind fun x s1 => (b s1).bind fun y s2 => ofR (maxR s2 x y) s2 := rfl
theorem least_of_ok (n : Nat) (rs : List Row) (hg : Good rs) (hl : rs.length + 1 < LIM) (m : List (List D)) : ∃ L wt, Closed rs L ∧ runO (stepC rs) (natsD wt) (nears rs) = some L ∧ wt.length ≤ rs.length ∧ (∀ k ∈ wt, k < rs.length) ∧
    FF tab (n + 3) 13 [.val (.lst (rowsD rs))] m = .ok (.d (.tup [.lst (intsD L), .lst (natsD wt)])) m := by
  have hL : LIM = 1000000 := rfl
  have l0 : 0 ≤ LIM := Nat.zero_le _
  have l2 : 2 ≤ LIM := by decide
  obtain ⟨L, left', js', wt', x7', x8', h1, h2, h3, h4, h5⟩ := while_ok (n + 1) rs hg hl (winL rs (nears rs)) (mxI_nn fun x hx => by
    obtain ⟨k, _, rfl⟩ := List.mem_map.mp hx
    exact absD_nn rs k) (nears rs) (distsL rs (nears rs)) (jsL rs (nears rs)) (wtL rs (nears rs)) 0 0 (inn_start hg) m
  refine ⟨L, wt', h1, h2, h3, h4, ?_⟩
  rw [FF_at (fn := fn_least_of) rfl rfl (by decide)]
  show retOf (b_least_of (FF tab (n + 2)) ⟨[.val (.lst (rowsD rs)), .un, .un, .un, .un, .un, .un, .un, .un, .un], m⟩) = _
  rw [st_least_of]
  have e7 := near_ok (n + 1) rs (by omega) m
  have e10 := jump_distances_ok n rs (nears rs) hg (by simp [nears]) hl m
  have s0 : st_least_of_0 (FF tab (n + 2)) ⟨[.val (.lst (rowsD rs)), .un, .un, .un, .un, .un, .un, .un, .un, .un], m⟩ = .ok .nx ⟨[.val (.lst (rowsD rs)), .own (intsD (nears rs)), .un, .un, .un, .un, .un, .un, .un, .un], m⟩ := by
    simp [st_least_of_0, e7]
  have s1 : st_least_of_1 (FF tab (n + 2)) ⟨[.val (.lst (rowsD rs)), .own (intsD (nears rs)), .un, .un, .un, .un, .un, .un, .un, .un], m⟩ = .ok .nx ⟨[.val (.lst (rowsD rs)), .own (intsD (nears rs)), .own (intsD (distsL rs (nears rs))), .un, .un, .un, .un, .un, .un, .un], m⟩ := by
    simp [st_least_of_1, e10]
  have dk : ∀ (k : Nat) (r : Row), rs[k]? = some r → atD (intsD (distsL rs (nears rs))) (k : Int) = some (.int (distR (nears rs) k r)) := fun k r hr => by
    have hkl : k < rs.length := (List.getElem?_eq_some_iff.mp hr).1
    rw [intsD_at]
    unfold distsL
    rw [List.getElem?_map, List.getElem?_range hkl]
    show some (D.int (match rs[k]? with
      | some r => distR (nears rs) k r
      | none => 0)) = _
    rw [hr]
  have jk : ∀ (k : Nat), k < rs.length → atD (boolsD (jsL rs (nears rs))) (k : Int) = some (.bl (jsAt rs (nears rs) k)) := fun k hk => by
    rw [boolsD_at]
    unfold jsL
    rw [List.getElem?_map, List.getElem?_range hk]
    rfl
  have s2 : st_least_of_2 (FF tab (n + 2)) ⟨[.val (.lst (rowsD rs)), .own (intsD (nears rs)), .own (intsD (distsL rs (nears rs))), .un, .un, .un, .un, .un, .un, .un], m⟩ = .ok .nx ⟨[.val (.lst (rowsD rs)), .own (intsD (nears rs)), .own (intsD (distsL rs (nears rs))), .own (boolsD (jsL rs (nears rs))), .un, .un, .un, .un, .un, .un], m⟩ := by
    have ec := compE_ok (own := [8, 9]) (tg := .tup [8, 9]) (c := lc_least_of_0 (FF tab (n + 2))) (e := le_least_of_0 (FF tab (n + 2))) (s := ⟨[.val (.lst (rowsD rs)), .own (intsD (nears rs)), .own (intsD (distsL rs (nears rs))), .un, .un, .un, .un, .un, .un, .un], m⟩) rs (fun _ => true) (fun k => .bl (jsAt rs (nears rs) k)) (fun k r hr => by
      refine ⟨⟨[.val (.lst (rowsD rs)), .own (intsD (nears rs)), .own (intsD (distsL rs (nears rs))), .un, .un, .un, .un, .un, .val (.int k), .val (encR r)], m⟩, by simp, rfl, rfl, fun _ => ⟨.d (.bl (jsAt rs (nears rs) k)), ?_, rfl⟩⟩
      have ed := dk k r hr
      unfold jsAt
      rw [hr]
      cases r with
      | size s => simp [le_least_of_0, encR]
      | jump g b a f =>
        have e11 := jump_reach_ok (n + 1) k g b a f m
        rw [← reachR_jump k g b a f] at e11
        simp only [encR] at e11
        simp [le_least_of_0, encR, ed, e11]) (by omega)
    have ef : ∀ l : List Nat, l.filter (fun _ => true) = l := fun l => List.filter_eq_self.mpr fun _ _ => rfl
    rw [ef] at ec
    simp only [lc_least_of_0, le_least_of_0] at ec
    simp [st_least_of_2, ec]
    simp [jsL, boolsD]
  have s3 : st_least_of_3 (FF tab (n + 2)) ⟨[.val (.lst (rowsD rs)), .own (intsD (nears rs)), .own (intsD (distsL rs (nears rs))), .own (boolsD (jsL rs (nears rs))), .un, .un, .un, .un, .un, .un], m⟩ = .ok .nx ⟨[.val (.lst (rowsD rs)), .own (intsD (nears rs)), .own (intsD (distsL rs (nears rs))), .own (boolsD (jsL rs (nears rs))), .own (natsD (wtL rs (nears rs))), .un, .un, .un, .un, .un], m⟩ := by
    have ec := compE_ok (own := [8, 9]) (tg := .tup [8, 9]) (c := lc_least_of_1 (FF tab (n + 2))) (e := le_least_of_1 (FF tab (n + 2))) (s := ⟨[.val (.lst (rowsD rs)), .own (intsD (nears rs)), .own (intsD (distsL rs (nears rs))), .own (boolsD (jsL rs (nears rs))), .un, .un, .un, .un, .un, .un], m⟩) rs (fun k => isJ rs k && !jsAt rs (nears rs) k) (fun k => .int (k : Nat)) (fun k r hr => by
      have hkl : k < rs.length := (List.getElem?_eq_some_iff.mp hr).1
      have ej := jk k hkl
      refine ⟨⟨[.val (.lst (rowsD rs)), .own (intsD (nears rs)), .own (intsD (distsL rs (nears rs))), .own (boolsD (jsL rs (nears rs))), .un, .un, .un, .un, .val (.int k), .val (encR r)], m⟩, by simp, ?_, rfl, fun _ => ⟨.d (.int k), by simp [le_least_of_1], rfl⟩⟩
      unfold isJ
      rw [hr]
      cases r <;> simp [lc_least_of_1, encR, ej]) (by omega)
    simp only [lc_least_of_1, le_least_of_1] at ec
    simp [st_least_of_3, ec]
    simp [wtL, natsD]
  have s4 : st_least_of_4 (FF tab (n + 2)) ⟨[.val (.lst (rowsD rs)), .own (intsD (nears rs)), .own (intsD (distsL rs (nears rs))), .own (boolsD (jsL rs (nears rs))), .own (natsD (wtL rs (nears rs))), .un, .un, .un, .un, .un], m⟩ = .ok .nx ⟨[.val (.lst (rowsD rs)), .own (intsD (nears rs)), .own (intsD (distsL rs (nears rs))), .own (boolsD (jsL rs (nears rs))), .own (natsD (wtL rs (nears rs))), .val (.int (winL rs (nears rs))), .un, .un, .un, .un], m⟩ := by
    have ec := compE_ok (own := [8, 9]) (tg := .tup [8, 9]) (c := lc_least_of_2 (FF tab (n + 2))) (e := le_least_of_2 (FF tab (n + 2))) (s := ⟨[.val (.lst (rowsD rs)), .own (intsD (nears rs)), .own (intsD (distsL rs (nears rs))), .own (boolsD (jsL rs (nears rs))), .own (natsD (wtL rs (nears rs))), .un, .un, .un, .un, .un], m⟩) rs (jsAt rs (nears rs)) (fun k => .int (absD rs k)) (fun k r hr => by
      have hkl : k < rs.length := (List.getElem?_eq_some_iff.mp hr).1
      have ej := jk k hkl
      refine ⟨⟨[.val (.lst (rowsD rs)), .own (intsD (nears rs)), .own (intsD (distsL rs (nears rs))), .own (boolsD (jsL rs (nears rs))), .own (natsD (wtL rs (nears rs))), .un, .un, .un, .val (.int k), .val (encR r)], m⟩, by simp, by simp [lc_least_of_2, ej], rfl, fun hj => ⟨.d (.int (absD rs k)), ?_, rfl⟩⟩
      unfold jsAt at hj
      rw [hr] at hj
      unfold absD
      rw [hr]
      cases r with
      | size s => cases hj
      | jump g b a f => simp [le_least_of_2, encR, bAbs, one]) (by omega)
    simp only [lc_least_of_2, le_least_of_2] at ec
    have em : maxR ⟨[.val (.lst (rowsD rs)), .own (intsD (nears rs)), .own (intsD (distsL rs (nears rs))), .own (boolsD (jsL rs (nears rs))), .own (natsD (wtL rs (nears rs))), .un, .un, .un, .un, .un], m⟩ (.fr (((List.range rs.length).filter (jsAt rs (nears rs))).map fun k => D.int (absD rs k))) (.d (.int 0)) = some (.d (.int (winL rs (nears rs)))) := by
      show ((some (((List.range rs.length).filter (jsAt rs (nears rs))).map fun k => D.int (absD rs k))).bind intDs).map (fun ns => R.d (.int (mxI ns 0))) = _
      rw [Option.bind_some, intDs_map]
      rfl
    simp [st_least_of_4, ec, em]
  have s5 : st_least_of_5 (FF tab (n + 2)) ⟨[.val (.lst (rowsD rs)), .own (intsD (nears rs)), .own (intsD (distsL rs (nears rs))), .own (boolsD (jsL rs (nears rs))), .own (natsD (wtL rs (nears rs))), .val (.int (winL rs (nears rs))), .un, .un, .un, .un], m⟩ = .ok .nx (frL rs (winL rs (nears rs)) (nears rs) (distsL rs (nears rs)) (jsL rs (nears rs)) (wtL rs (nears rs)) [] .un .un m) := by
    simp [st_least_of_5, frL, l0]
    rfl
  rw [sSeq_ap, s0]
  dsimp only [Ou.bind_ok]
  rw [sSeq_ap, s1]
  dsimp only [Ou.bind_ok]
  rw [sSeq_ap, s2]
  dsimp only [Ou.bind_ok]
  rw [sSeq_ap, s3]
  dsimp only [Ou.bind_ok]
  rw [sSeq_ap, s4]
  dsimp only [Ou.bind_ok]
  rw [sSeq_ap, s5]
  dsimp only [Ou.bind_ok]
  rw [sSeq_ap, h5]
  dsimp only [Ou.bind_ok]
  simp [st_least_of_7, frL, l2]
theorem least_lengths_ok (n : Nat) (rs : List Row) (hg : Good rs) (hl : rs.length ≤ 2000) (m : List (List D)) : ∃ L wt, Closed rs L ∧ runO (stepC rs) (natsD wt) (nears rs) = some L ∧ wt.length ≤ rs.length ∧ (∀ k ∈ wt, k < rs.length) ∧
    FF tab (n + 5) 14 [.val (.lst (rowsD rs))] m = .ok (.d (.tup [.lst (intsD L), .lst (natsD wt)])) m := by
  have hL : LIM = 1000000 := rfl
  obtain ⟨L, wt, h1, h2, h3, h4, h5⟩ := least_of_ok (n + 1) rs hg (by omega) m
  refine ⟨L, wt, h1, h2, h3, h4, ?_⟩
  have e6 := check_rows_ok n (.lst (rowsD rs)) (rowsD_ok rs) (by show (rowsD rs).length ≤ LIM; simp; omega) m
  rw [if_pos (rows_rowsOk hg)] at e6
  rw [FF_at (fn := fn_least_lengths) rfl rfl (by decide)]
  have hl2 : ¬ ((2000 : Int) < rs.length) := by omega
  simp [fn_least_lengths, b_least_lengths, startEnv, e6, hl2, h5]
end K78

set_option Elab.async false
set_option linter.all false
set_option maxRecDepth 100000
set_option maxHeartbeats 4000000
/-! K78MK: _law_sweep, _law_other_sequence, _law_other_fit -/
namespace K78
open PySem Pm
def setF (rs : List Row) (ls : List Int) (k : Nat) : List Int := match rs[k]? with
  | some (.jump _ _ _ f) => ls.set k f
  | _ => ls
theorem setF_jump {rs : List Row} {k : Nat} {g b a f : Int} (h : rs[k]? = some (.jump g b a f)) (ls : List Int) : setF rs ls k = ls.set k f := by
  unfold setF
  rw [h]
theorem shape_setF {rs : List Row} {ls : List Int} (h : Shape rs ls) (k : Nat) : Shape rs (setF rs ls k) := by
  unfold setF
  split
  · rename_i g b a f hr
    exact shape_set h hr
  · exact h
theorem shape_fold {rs : List Row} : ∀ (ks : List Nat) (ls : List Int), Shape rs ls → Shape rs (ks.foldl (setF rs) ls)
  | [], ls, h => h
  | k :: ks, ls, h => shape_fold ks _ (shape_setF h k)
/-- bad jumps, one after the other, are a chain -/
theorem chain_bad {rs : List Row} (hg : Good rs) : ∀ (ks : List Nat) (ls : List Int), Shape rs ls → ks.Nodup → (∀ k ∈ ks, badAt rs ls k = true) → runO (stepC rs) (natsD ks) ls = some (ks.foldl (setF rs) ls)
  | [], ls, _, _, _ => rfl
  | k :: ks, ls, hs, hn, hb => by
    obtain ⟨g, b, a, f, hr, hx, hrb⟩ := badAt_jump (hb k List.mem_cons_self)
    have hgr := hg _ (List.mem_of_getElem? hr)
    have hf : (2 : Int) ≤ f := hgr.2.2.2.1
    have hn2 := List.nodup_cons.mp hn
    show (stepC rs ls (.int (k : Int))).bind (runO (stepC rs) (natsD ks)) = _
    rw [step_of hr hx hrb]
    show runO (stepC rs) (natsD ks) (ls.set k f) = _
    rw [List.foldl_cons, setF_jump hr]
    refine chain_bad hg ks (ls.set k f) (shape_set hs hr) hn2.2 fun j hj => ?_
    obtain ⟨g2, b2, a2, f2, q1, q2, q3⟩ := badAt_jump (hb j (List.mem_cons_of_mem _ hj))
    have hne : k ≠ j := fun z => hn2.1 (by rw [z]; exact hj)
    have hgk := hg _ (List.mem_of_getElem? q1)
    refine badAt_of q1 (by rw [List.getElem?_set_ne hne]; exact q2) ?_
    cases hc : reachB (ls.set k f) j g2 b2 a2 with
    | false => rfl
    | true =>
      have := reach_anti (shape_nn hg hs) (le_set hx (by omega)) hgk.1.1 hgk.2.1.1 hgk.2.2.1.1 hc
      rw [this] at q3
      cases q3
theorem runO_app {σ : Type} (step : σ → D → Option σ) : ∀ (l l2 : List D) (a : σ), runO step (l ++ l2) a = (runO step l a).bind (runO step l2)
  | [], l2, a => rfl
  | y :: l, l2, a => by
    rw [List.cons_append]
    unfold runO
    cases step a y with
    | none => rfl
    | some b => exact runO_app step l l2 b
/-- a loop that may break -/
theorem forL_brk {tg : Tg} {b : Ms} (I : Nat → S → Prop) (Fin : S → Prop) : ∀ (items : List D) (k : Nat) (s : S), I k s → (∀ (j : Nat) (x : D) (s : S), items[j]? = some x → I (k + j) s → ∃ s1 s2, tg.put x s = some s1 ∧ ((b s1 = .ok .nx s2 ∧ I (k + j + 1) s2) ∨ (b s1 = .ok .bk s2 ∧ Fin s2))) →
    ∃ s', forL tg b items s = .ok .nx s' ∧ (Fin s' ∨ I (k + items.length) s')
  | [], k, s, h, _ => ⟨s, rfl, .inr h⟩
  | x :: xs, k, s, h, hb => by
    obtain ⟨s1, s2, h1, h2⟩ := hb 0 x s rfl h
    unfold forL
    rw [h1]
    dsimp only
    rcases h2 with ⟨h2, h3⟩ | ⟨h2, h3⟩
    · obtain ⟨s', h5, h6⟩ := forL_brk I Fin xs (k + 1) s2 h3 (fun j y s hy hI => by
        have := hb (j + 1) y s hy (by rw [show k + (j + 1) = k + 1 + j by omega]; exact hI)
        rw [show k + (j + 1) + 1 = k + 1 + j + 1 by omega] at this
        exact this)
      refine ⟨s', ?_, by rw [List.length_cons, show k + (xs.length + 1) = k + 1 + xs.length by omega]; exact h6⟩
      rw [h2]
      exact h5
    · refine ⟨s2, ?_, .inl h3⟩
      rw [h2]
      rfl
def frS (rs : List Row) (fd : D) (ls : List Int) (x3 x4 x5 x6 : Sl) (m : List (List D)) : S := ⟨[.val (.lst (rowsD rs)), .val fd, .own (intsD ls), x3, x4, x5, x6, .un], m⟩
theorem setAll_ok (F : Fns) (rs : List Row) (fd : D) (ls : List Int) (hs : Shape rs ls) (ks : List Nat) (hk : ∀ k ∈ ks, isJ rs k = true) (x3 x4 x5 x6 : Sl) (h3 : notOwn (some x3) = true) (m : List (List D)) : ∃ x3', notOwn (some x3') = true ∧
    forL (.name 3) (lb__law_sweep_1 F) (natsD ks) (frS rs fd ls x3 x4 x5 x6 m) = .ok .nx (frS rs fd (ks.foldl (setF rs) ls) x3' x4 x5 x6 m) := by
  obtain ⟨s', h1, x3', h2, h4⟩ := forL_ok (tg := .name 3) (b := lb__law_sweep_1 F) (fun j s => ∃ x3, s = frS rs fd ((ks.take j).foldl (setF rs) ls) x3 x4 x5 x6 m ∧ notOwn (some x3) = true) (natsD ks) 0 (frS rs fd ls x3 x4 x5 x6 m) ⟨x3, rfl, h3⟩ (fun j d s hd hI => by
    obtain ⟨x3, rfl, _⟩ := hI
    unfold natsD at hd
    rw [List.getElem?_map] at hd
    cases hq : ks[j]? with
    | none => rw [hq] at hd; cases hd
    | some k =>
      rw [hq] at hd
      injection hd with hd
      subst hd
      have hj := hk k (List.mem_of_getElem? hq)
      unfold isJ at hj
      split at hj
      · rename_i g b a f hr
        have er : atD (rowsD rs) (k : Int) = some (encR (.jump g b a f)) := by rw [rowsD_at, hr]; rfl
        have hsh := shape_fold (ks.take j) ls hs
        have es := setI (l := (ks.take j).foldl (setF rs) ls) f (by rw [hsh.1]; exact (List.getElem?_eq_some_iff.mp hr).1)
        have et : (ks.take (j + 1)).foldl (setF rs) ls = ((ks.take j).foldl (setF rs) ls).set k f := by
          rw [List.take_succ, hq]
          simp [setF_jump hr]
        refine ⟨_, frS rs fd ((ks.take (j + 1)).foldl (setF rs) ls) (.val (.int k)) x4 x5 x6 m, .nx, rfl, ?_, .inl rfl, .val (.int k), by rw [Nat.zero_add], rfl⟩
        rw [Nat.zero_add, et]
        simp only [encR] at er
        simp [lb__law_sweep_1, frS, er, es]
      · cases hj)
  subst h2
  rw [Nat.zero_add, natsD_len, List.take_length] at h1
  exact ⟨x3', h4, h1⟩
theorem badL_mem {rs : List Row} {ls : List Int} {k : Nat} (h : k ∈ badL rs ls) : badAt rs ls k = true := (List.mem_filter.mp h).2
theorem badL_isJ {rs : List Row} {ls : List Int} {k : Nat} (h : k ∈ badL rs ls) : isJ rs k = true := by
  obtain ⟨g, b, a, f, hr, _⟩ := badAt_jump (badL_mem h)
  unfold isJ
  rw [hr]
theorem closed_of {rs : List Row} {ls : List Int} (hs : Shape rs ls) (h : badL rs ls = []) : Closed rs ls := by
  refine ⟨hs, fun k => ?_⟩
  cases hb : badAt rs ls k with
  | false => rfl
  | true =>
    obtain ⟨g, b, a, f, hr, _⟩ := badAt_jump hb
    have : k ∈ badL rs ls := List.mem_filter.mpr ⟨List.mem_range.mpr (List.getElem?_eq_some_iff.mp hr).1, hb⟩
    rw [h] at this
    cases this
theorem turn_ok (n : Nat) (rs : List Row) (hg : Good rs) (hl : rs.length + 1 < LIM) (fd : D) (ls : List Int) (hs : Shape rs ls) (x3 x4 x5 x6 : Sl) (h3 : notOwn (some x3) = true) (m : List (List D)) : ∃ x3' x5' x6', notOwn (some x3') = true ∧
    lb__law_sweep_2 (FF tab (n + 1)) (frS rs fd ls x3 x4 x5 x6 m) = if badL rs ls = [] then .ok .bk (frS rs fd ls x3' x4 x5' x6' m) else .ok .nx (frS rs fd ((badL rs ls).foldl (setF rs) ls) x3' x4 x5' x6' m) := by
  have hL : LIM = 1000000 := rfl
  have e30 := law_row_starts_ok n (.bor (intsD ls)) ls (.inr (.inl rfl)) (by rw [hs.1]; exact hl) m
  have h8 : (rs.length : Int) ≤ 100000000 := by omega
  have ec := compR_ok (own := [3]) (tg := .name 3) (c := lc__law_sweep_3 (FF tab (n + 1))) (e := le__law_sweep_3 (FF tab (n + 1))) (s := ⟨[.val (.lst (rowsD rs)), .val fd, .own (intsD ls), .un, x4, .val (.lst (intsD (startsL ls))), x6, .un], m⟩) rs.length (badAt rs ls) (fun k => .int (k : Nat)) (fun k hk => by
    obtain ⟨r, hr⟩ : ∃ r, rs[k]? = some r := ⟨_, List.getElem?_eq_getElem hk⟩
    obtain ⟨x, hx, hf⟩ := hs.2 k r hr
    have er : atD (rowsD rs) (k : Int) = some (encR r) := by rw [rowsD_at, hr]; rfl
    have ex : atD (intsD ls) (k : Int) = some (.int x) := by rw [intsD_at, hx]; rfl
    refine ⟨⟨[.val (.lst (rowsD rs)), .val fd, .own (intsD ls), .val (.int k), x4, .val (.lst (intsD (startsL ls))), x6, .un], m⟩, by simp, ?_, rfl, fun _ => ⟨.d (.int k), by simp [le__law_sweep_3], rfl⟩⟩
    rw [badAt_eq hr hx]
    cases r with
    | size s => simp only [encR] at er; simp [lc__law_sweep_3, er, badRow]
    | jump g b a' f =>
      have hgg := hg _ (List.mem_of_getElem? hr)
      have e31 := law_reach_ok n rs ls k g b a' f hr (by rw [hs.1]; omega) hgg.1.1 (by rw [hs.1]; have := hgg.1.2; omega) m
      simp only [encR] at er
      unfold badRow
      dsimp only
      by_cases hx1 : x = 1
      · cases hrb : reachB ls k g b a' <;> rw [hrb] at e31 <;> simp [lc__law_sweep_3, er, ex, hx1, e31]
      · simp [lc__law_sweep_3, er, ex, hx1]) (by omega)
  have enat : ((List.range rs.length).filter (badAt rs ls)).map (fun k => D.int ((k : Nat) : Int)) = natsD (badL rs ls) := rfl
  rw [enat] at ec
  simp only [lc__law_sweep_3, le__law_sweep_3] at ec
  by_cases hb : badL rs ls = []
  · refine ⟨x3, .val (.lst (intsD (startsL ls))), .val (.lst (natsD (badL rs ls))), h3, ?_⟩
    rw [if_pos hb]
    simp [lb__law_sweep_2, frS, e30, h8, ec, h3, hb]
  · obtain ⟨x3', g1, g2⟩ := setAll_ok (FF tab (n + 1)) rs fd ls hs (badL rs ls) (fun k hk => badL_isJ hk) x3 x4 (.val (.lst (intsD (startsL ls)))) (.val (.lst (natsD (badL rs ls)))) h3 m
    refine ⟨x3', .val (.lst (intsD (startsL ls))), .val (.lst (natsD (badL rs ls))), g1, ?_⟩
    rw [if_neg hb]
    simp only [lb__law_sweep_1, frS] at g2
    simp [lb__law_sweep_2, frS, e30, h8, ec, h3, hb, g2]
theorem iR1_int {a : Me} {s : S} {j : Int} (h : a s = .ok (.d (.int j)) s) (h1 : j ≤ 100000000) (h2 : -100000000 ≤ j) : iR1 a s = .ok (ivs 0 j.toNat) s := by
  rw [iR1_ap, h, liftI_ok]
  dsimp only
  rw [if_pos ⟨h1, h2⟩]
theorem longs_le (rs : List Row) (ls : List Int) : (longs rs ls).length ≤ rs.length := by
  unfold longs
  have := List.length_filter_le (longAt rs ls) (List.range rs.length)
  rw [List.length_range] at this
  exact this
theorem sw1 (F : Fns) : st__law_sweep_1 F = sFor (.name 3) (iLst (mVar 1)) (lb__law_sweep_1 F) := rfl
theorem sw2 (F : Fns) : st__law_sweep_2 F = sFor (.name 4) (iR1 (mBin opAdd (mB bLen (aCons (mVar 0) (aNil))) (mC (.int 1)))) (lb__law_sweep_2 F) := rfl
theorem sweep_loop (n : Nat) (rs : List Row) (hg : Good rs) (hl : rs.length + 1 < LIM) (fd : D) (ls0 : List Int) (hs0 : Shape rs ls0) (x3 : Sl) (g1 : notOwn (some x3) = true) (m : List (List D)) : ∃ M y3 y4 y5 y6, Closed rs M ∧ (∃ l, runO (stepC rs) l ls0 = some M) ∧
    forL (.name 4) (lb__law_sweep_2 (FF tab (n + 1))) (ivs 0 (rs.length + 1)) (frS rs fd ls0 x3 .un .un .un m) = .ok .nx (frS rs fd M y3 y4 y5 y6 m) := by
  obtain ⟨s', h1, h2⟩ := forL_brk (tg := .name 4) (b := lb__law_sweep_2 (FF tab (n + 1))) (fun t s => ∃ ls x3 x4 x5 x6, s = frS rs fd ls x3 x4 x5 x6 m ∧ Shape rs ls ∧ notOwn (some x3) = true ∧ (∃ l, runO (stepC rs) l ls0 = some ls) ∧ t ≤ (longs rs ls).length)
    (fun s => ∃ M x3 x4 x5 x6, s = frS rs fd M x3 x4 x5 x6 m ∧ Closed rs M ∧ ∃ l, runO (stepC rs) l ls0 = some M) (ivs 0 (rs.length + 1)) 0 (frS rs fd ls0 x3 .un .un .un m) ⟨ls0, x3, .un, .un, .un, rfl, hs0, g1, ⟨[], rfl⟩, Nat.zero_le _⟩ (fun j d s hd hI => by
      obtain ⟨ls, x3, x4, x5, x6, rfl, hs, h3, ⟨l, hl1⟩, ht⟩ := hI
      obtain ⟨x3', x5', x6', p1, p2⟩ := turn_ok n rs hg hl fd ls hs x3 (.val d) x5 x6 h3 m
      by_cases hb : badL rs ls = []
      · rw [if_pos hb] at p2
        exact ⟨_, _, rfl, .inr ⟨p2, ls, x3', .val d, x5', x6', rfl, closed_of hs hb, l, hl1⟩⟩
      · rw [if_neg hb] at p2
        have hc := chain_bad hg (badL rs ls) ls hs (List.nodup_range.filter _) (fun k hk => badL_mem hk)
        have hlg := run_longs hg _ ls _ hs hc
        have hpos : 0 < (badL rs ls).length := List.length_pos_iff.mpr hb
        refine ⟨_, _, rfl, .inl ⟨p2, _, x3', .val d, x5', x6', rfl, shape_fold _ ls hs, p1, ⟨l ++ natsD (badL rs ls), ?_⟩, ?_⟩⟩
        · rw [runO_app, hl1]
          exact hc
        · rw [hlg, natsD_len]
          omega)
  have hfin : ∃ M x3 x4 x5 x6, s' = frS rs fd M x3 x4 x5 x6 m ∧ Closed rs M ∧ ∃ l, runO (stepC rs) l ls0 = some M := by
    rcases h2 with h2 | ⟨ls, _, _, _, _, _, _, _, _, h4⟩
    · exact h2
    · exfalso
      have := longs_le rs ls
      rw [ivs_len] at h4
      omega
  obtain ⟨M, y3, y4, y5, y6, rfl, hc, l, hl1⟩ := hfin
  exact ⟨M, y3, y4, y5, y6, hc, ⟨l, hl1⟩, h1⟩
end K78

set_option Elab.async false
set_option linter.all false
set_option maxRecDepth 100000
set_option maxHeartbeats 4000000
/-! K78ML: _law_sweep, _law_other_sequence, _law_other_fit -/
namespace K78
open PySem Pm
theorem sw_s0 (F : Fns) (rs : List Row) (hl : rs.length + 1 < LIM) (fd : D) (m : List (List D)) : st__law_sweep_0 F ⟨[.val (.lst (rowsD rs)), .val fd, .un, .un, .un, .un, .un, .un], m⟩ = .ok .nx (frS rs fd (nears rs) .un .un .un .un m) := by
  have ec := compL_map (own := [7]) (tg := .name 7) (e := le__law_sweep_0 F) (s := ⟨[.val (.lst (rowsD rs)), .val fd, .un, .un, .un, .un, .un, .un], m⟩)
    (fun d => match d with
      | .tup [_, .int s] => .int s
      | _ => .int 1) (rowsD rs) (fun x hx => by
    obtain ⟨r, _, rfl⟩ := List.mem_map.mp hx
    refine ⟨⟨[.val (.lst (rowsD rs)), .val fd, .un, .un, .un, .un, .un, .val (encR r)], m⟩, rfl, rfl, ?_⟩
    cases r <;> simp [le__law_sweep_0, encR]) (by simp; omega)
  have en : (rowsD rs).map (fun d => match d with
      | .tup [_, .int s] => D.int s
      | _ => .int 1) = intsD (nears rs) := by
    unfold rowsD nears intsD
    rw [List.map_map, List.map_map]
    refine List.map_congr_left fun r _ => ?_
    cases r <;> rfl
  rw [en] at ec
  simp only [le__law_sweep_0] at ec
  simp [st__law_sweep_0, ec, frS]
theorem sw_s1 (F : Fns) (rs : List Row) (fc : List Nat) (ls : List Int) (x3 x4 x5 x6 : Sl) (m : List (List D)) (o : Ou Fl) (h : forL (.name 3) (lb__law_sweep_1 F) (natsD fc) (frS rs (.lst (natsD fc)) ls x3 x4 x5 x6 m) = o) : st__law_sweep_1 F (frS rs (.lst (natsD fc)) ls x3 x4 x5 x6 m) = o := by
  have e : iLst (mVar 1) (frS rs (.lst (natsD fc)) ls x3 x4 x5 x6 m) = .ok (natsD fc) (frS rs (.lst (natsD fc)) ls x3 x4 x5 x6 m) := by simp [frS]
  rw [sw1, sFor_ap, e, Ou.bind_ok]
  exact h
theorem sw_s2 (F : Fns) (rs : List Row) (hl : rs.length + 1 < LIM) (fd : D) (ls : List Int) (x3 x4 x5 x6 : Sl) (m : List (List D)) (o : Ou Fl) (h : forL (.name 4) (lb__law_sweep_2 F) (ivs 0 (rs.length + 1)) (frS rs fd ls x3 x4 x5 x6 m) = o) : st__law_sweep_2 F (frS rs fd ls x3 x4 x5 x6 m) = o := by
  have hL : LIM = 1000000 := rfl
  have h10 : ((rs.length : Int) + 1).toNat = rs.length + 1 := by omega
  have e : mBin opAdd (mB bLen (aCons (mVar 0) (aNil))) (mC (.int 1)) (frS rs fd ls x3 x4 x5 x6 m) = .ok (.d (.int ((rs.length : Int) + 1))) (frS rs fd ls x3 x4 x5 x6 m) := by
    simp [frS]
  have hit := iR1_int e (by omega) (by omega)
  rw [h10] at hit
  rw [sw2, sFor_ap, hit, Ou.bind_ok]
  exact h
theorem sw_all (F : Fns) (rs : List Row) (fd : D) (m : List (List D)) (s0 s1 : S) (M : List Int) (y3 y4 y5 y6 : Sl) (h0 : st__law_sweep_0 F ⟨[.val (.lst (rowsD rs)), .val fd, .un, .un, .un, .un, .un, .un], m⟩ = .ok .nx s0) (h1 : st__law_sweep_1 F s0 = .ok .nx s1) (h2 : st__law_sweep_2 F s1 = .ok .nx (frS rs fd M y3 y4 y5 y6 m)) :
    retOf (b__law_sweep F ⟨[.val (.lst (rowsD rs)), .val fd, .un, .un, .un, .un, .un, .un], m⟩) = .ok (.fr (intsD M)) m := by
  rw [st__law_sweep, sSeq_ap, h0]
  dsimp only [Ou.bind_ok]
  rw [sSeq_ap, h1]
  dsimp only [Ou.bind_ok]
  rw [sSeq_ap, h2]
  dsimp only [Ou.bind_ok]
  simp [st__law_sweep_3, frS]
theorem sweep_ok (n : Nat) (rs : List Row) (hg : Good rs) (hl : rs.length + 1 < LIM) (fc : List Nat) (hfc : ∀ k ∈ fc, isJ rs k = true) (m : List (List D)) : ∃ M, Closed rs M ∧ (fc = [] → Least rs M) ∧
    FF tab (n + 2) 32 [.val (.lst (rowsD rs)), .val (.lst (natsD fc))] m = .ok (.fr (intsD M)) m := by
  obtain ⟨x3, g1, g2⟩ := setAll_ok (FF tab (n + 1)) rs (.lst (natsD fc)) (nears rs) shape_near fc hfc .un .un .un .un rfl m
  have hs0 : Shape rs (fc.foldl (setF rs) (nears rs)) := shape_fold fc _ shape_near
  obtain ⟨M, y3, y4, y5, y6, hc, ⟨l, hl1⟩, h1⟩ := sweep_loop n rs hg hl (.lst (natsD fc)) (fc.foldl (setF rs) (nears rs)) hs0 x3 g1 m
  refine ⟨M, hc, fun h => ⟨hc, l, ?_⟩, ?_⟩
  · rw [h] at hl1
    exact hl1
  · rw [FF_at (fn := fn__law_sweep) rfl rfl (by decide)]
    exact sw_all (FF tab (n + 1)) rs (.lst (natsD fc)) m _ _ M y3 y4 y5 y6 (sw_s0 _ rs hl _ m) (sw_s1 _ rs fc _ _ _ _ _ m _ g2) (sw_s2 _ rs hl _ _ _ _ _ _ m _ h1)
/-! ### a sequence of the law's own -/
def frO (rs : List Row) (ls : List Int) (sq : List Nat) (x4 x5 x7 : Sl) (m : List (List D)) : S := ⟨[.val (.hnd 0), .val (.lst (rowsD rs)), .own (intsD ls), .own (natsD sq), x4, x5, .un, x7], m⟩
theorem other_seq_ok {ns : List Int} (n : Nat) (rs : List Row) (hg : Good rs) (hl : rs.length + 1 < LIM) (m : List (List D)) (hS : Strm ns m) : ∃ (ls : List Int) (sq : List Nat) (m' : List (List D)), Strm ns m' ∧ ls.length = rs.length ∧ sq.length ≤ rs.length ∧
    FF tab (n + 3) 38 [.val (.hnd 0), .val (.lst (rowsD rs))] m = .ok (.d (.tup [.lst (intsD ls), .lst (natsD sq)])) m' := by
  have hL : LIM = 1000000 := rfl
  have l0 : 0 ≤ LIM := Nat.zero_le _
  have l2 : 2 ≤ LIM := by decide
  have h8 : (rs.length : Int) ≤ 100000000 := by omega
  have ec := compL_map (own := [6]) (tg := .name 6) (e := le__law_other_sequence_0 (FF tab (n + 2))) (s := ⟨[.val (.hnd 0), .val (.lst (rowsD rs)), .un, .un, .un, .un, .un, .un], m⟩)
    (fun d => match d with
      | .tup [_, .int s] => .int s
      | _ => .int 1) (rowsD rs) (fun x hx => by
    obtain ⟨r, _, rfl⟩ := List.mem_map.mp hx
    refine ⟨⟨[.val (.hnd 0), .val (.lst (rowsD rs)), .un, .un, .un, .un, .val (encR r), .un], m⟩, rfl, rfl, ?_⟩
    cases r <;> simp [le__law_other_sequence_0, encR]) (by simp; omega)
  have en : (rowsD rs).map (fun d => match d with
      | .tup [_, .int s] => D.int s
      | _ => .int 1) = intsD (nears rs) := by
    unfold rowsD nears intsD
    rw [List.map_map, List.map_map]
    refine List.map_congr_left fun r _ => ?_
    cases r <;> rfl
  rw [en] at ec
  simp only [le__law_other_sequence_0] at ec
  obtain ⟨s', h1, ls, sq, x4, x5, x7, m', h2, h3, h4, h5⟩ := forL_ok (tg := .name 4) (b := lb__law_other_sequence_1 (FF tab (n + 2))) (fun j s => ∃ ls sq x4 x5 x7 m, s = frO rs ls sq x4 x5 x7 m ∧ Shape rs ls ∧ sq.length ≤ j ∧ Strm ns m) (ivs 0 rs.length) 0 (frO rs (nears rs) [] .un .un .un m) ⟨nears rs, [], .un, .un, .un, m, rfl, shape_near, Nat.le_refl _, hS⟩ (fun j d s hd hI => by
    obtain ⟨ls, sq, x4, x5, x7, m, rfl, hs, hq, hS⟩ := hI
    have hj : j < rs.length := by
      have := (List.getElem?_eq_some_iff.mp hd).1
      rw [ivs_len] at this
      exact this
    have e36 := law_out_ok n rs hg ls hs (.bor (intsD ls)) (.inr (.inl rfl)) hl m
    by_cases hb : badL rs ls = []
    · refine ⟨_, frO rs ls sq (.val d) (.val (.lst (natsD (badL rs ls)))) x7 m, .nx, rfl, ?_, .inl rfl, ls, sq, _, _, _, m, rfl, hs, by omega, hS⟩
      simp [lb__law_other_sequence_1, frO, e36, hb]
    · have hpos : 0 < (badL rs ls).length := List.length_pos_iff.mpr hb
      have hle : (badL rs ls).length ≤ rs.length := by
        have := List.length_filter_le (badAt rs ls) (List.range rs.length)
        rw [List.length_range] at this
        exact this
      obtain ⟨dk, m2, hS2, hdk, e20⟩ := pickS hS n (natsD (badL rs ls)) (by simpa using hpos) (by simp; omega)
      obtain ⟨k, hk, rfl⟩ := List.mem_map.mp hdk
      obtain ⟨g, b, a, f, hr, hx, hrb⟩ := badAt_jump (badL_mem hk)
      have er : atD (rowsD rs) (k : Int) = some (encR (.jump g b a f)) := by rw [rowsD_at, hr]; rfl
      have es := setI (l := ls) f (List.getElem?_eq_some_iff.mp hx).1
      have hsl : sq.length < LIM := by omega
      refine ⟨_, frO rs (ls.set k f) (sq ++ [k]) (.val d) (.val (.lst (natsD (badL rs ls)))) (.val (.int k)) m2, .nx, rfl, ?_, .inl rfl, ls.set k f, sq ++ [k], _, _, _, m2, rfl, shape_set hs hr, by simp; omega, hS2⟩
      have hp0 : (0 : Int) < (badL rs ls).length := by omega
      simp only [encR] at er
      simp [lb__law_other_sequence_1, frO, e36, hb, e20, hsl, er, es, natsD_snoc])
  subst h2
  rw [ivs_len, Nat.zero_add] at h4
  refine ⟨ls, sq, m', h5, h3.1, h4, ?_⟩
  rw [FF_at (fn := fn__law_other_sequence) rfl rfl (by decide)]
  simp only [frO, lb__law_other_sequence_1] at h1
  rw [show natsD [] = [] from rfl] at h1
  simp [fn__law_other_sequence, b__law_other_sequence, startEnv, ec, l0, h8, h1, l2]
/-- a comprehension whose condition draws -/
theorem compS_ok {own : List Nat} {tg : Tg} {c : Mt} {e : Me} {ns : List Int} {E : List Sl} (P : D → Prop) : ∀ (items acc : List D) (m : List (List D)), Strm ns m →
    (∀ x ∈ items, ∀ m, Strm ns m → ∃ E1 m2 b, tg.put x ⟨E, m⟩ = some ⟨E1, m⟩ ∧ c ⟨E1, m⟩ = .ok b ⟨E1, m2⟩ ∧ Strm ns m2 ∧ wipeE E1 own = E ∧ (b = true → ∃ r d, e ⟨E1, m2⟩ = .ok r ⟨E1, m2⟩ ∧ r.toD = some d ∧ P d)) →
    acc.length + items.length ≤ LIM → ∃ l m', Strm ns m' ∧ l.length ≤ items.length ∧ (∀ d ∈ l, P d) ∧ compL own tg c e items ⟨E, m⟩ acc = .ok (acc ++ l) ⟨E, m'⟩
  | [], acc, m, hS, _, _ => ⟨[], m, hS, Nat.le_refl _, (fun d h => nomatch h), by simp [compL]⟩
  | x :: xs, acc, m, hS, h, hl => by
    have hl2 : acc.length + xs.length + 1 ≤ LIM := by simpa [Nat.add_assoc] using hl
    obtain ⟨E1, m2, b, h1, h2, h3, h4, h5⟩ := h x List.mem_cons_self m hS
    unfold compL
    rw [h1]
    dsimp only
    rw [h2]
    simp only [Ou.bind_ok]
    cases b with
    | true =>
      obtain ⟨r, d, q1, q2, q3⟩ := h5 rfl
      obtain ⟨l, m', g1, g2, g3, g4⟩ := compS_ok P xs (acc ++ [d]) m2 h3 (fun y hy => h y (List.mem_cons_of_mem _ hy)) (by simp; omega)
      refine ⟨d :: l, m', g1, by simp; omega, fun z hz => ?_, ?_⟩
      · rcases List.mem_cons.mp hz with rfl | hz
        · exact q3
        · exact g3 z hz
      · rw [if_pos rfl, q1]
        simp only [Ou.bind_ok, q2]
        rw [if_pos (by omega), wipe_ap, h4, g4]
        simp
    | false =>
      obtain ⟨l, m', g1, g2, g3, g4⟩ := compS_ok P xs acc m2 h3 (fun y hy => h y (List.mem_cons_of_mem _ hy)) (by omega)
      refine ⟨l, m', g1, by simp; omega, g3, ?_⟩
      rw [if_neg (by simp), wipe_ap, h4, g4]
theorem other_fit_ok {ns : List Int} (n : Nat) (rs : List Row) (hg : Good rs) (hl : rs.length + 1 < LIM) (ls : List Int) (hs : Shape rs ls) (m : List (List D)) (hS : Strm ns m) : ∃ (M : List Int) (m' : List (List D)), Strm ns m' ∧ Closed rs M ∧
    FF tab (n + 3) 39 [.val (.hnd 0), .val (.lst (rowsD rs)), .val (.lst (intsD ls))] m = .ok (.fr (intsD M)) m' := by
  have hL : LIM = 1000000 := rfl
  have h8 : (rs.length : Int) ≤ 100000000 := by omega
  obtain ⟨l, m', g1, g2, g3, g4⟩ := compS_ok (own := [3]) (tg := .name 3) (c := lc__law_other_fit_0 (FF tab (n + 2))) (e := le__law_other_fit_0 (FF tab (n + 2))) (E := [.val (.hnd 0), .val (.lst (rowsD rs)), .val (.lst (intsD ls)), .un]) (fun d => ∃ k : Nat, d = .int k ∧ isJ rs k = true) (ivs 0 rs.length) [] m hS (fun x hx m hS => by
    rw [ivs_eq] at hx
    obtain ⟨k, hk, rfl⟩ := List.mem_map.mp hx
    have hk := List.mem_range.mp hk
    obtain ⟨r, hr⟩ : ∃ r, rs[k]? = some r := ⟨_, List.getElem?_eq_getElem hk⟩
    obtain ⟨x, hx, hf⟩ := hs.2 k r hr
    have er : atD (rowsD rs) (k : Int) = some (encR r) := by rw [rowsD_at, hr]; rfl
    have ex : atD (intsD ls) (k : Int) = some (.int x) := by rw [intsD_at, hx]; rfl
    cases r with
    | size s =>
      simp only [encR] at er
      exact ⟨[.val (.hnd 0), .val (.lst (rowsD rs)), .val (.lst (intsD ls)), .val (.int k)], m, false, rfl, by simp [lc__law_other_fit_0, er], hS, rfl, fun z => by cases z⟩
    | jump g b a f =>
      simp only [encR] at er
      have hj : isJ rs k = true := by unfold isJ; rw [hr]
      by_cases h1 : 1 < x
      · exact ⟨[.val (.hnd 0), .val (.lst (rowsD rs)), .val (.lst (intsD ls)), .val (.int k)], m, true, rfl, by simp [lc__law_other_fit_0, er, ex, h1], hS, rfl, fun _ => ⟨.d (.int k), .int k, by simp [le__law_other_fit_0], rfl, k, rfl, hj⟩⟩
      · obtain ⟨q, m2, hS2, q1, q2, q3⟩ := nextS hS (n + 1) 4 (by omega) (by omega)
        exact ⟨[.val (.hnd 0), .val (.lst (rowsD rs)), .val (.lst (intsD ls)), .val (.int k)], m2, decide (q = 0), rfl, by simp [lc__law_other_fit_0, er, ex, h1, q3], hS2, rfl, fun _ => ⟨.d (.int k), .int k, by simp [le__law_other_fit_0], rfl, k, rfl, hj⟩⟩) (by rw [ivs_len]; simp; omega)
  obtain ⟨fc, hfc, hfj⟩ : ∃ fc : List Nat, l = natsD fc ∧ ∀ k ∈ fc, isJ rs k = true := by
    clear g2 g4
    induction l with
    | nil => exact ⟨[], rfl, fun k h => by cases h⟩
    | cons d l ih =>
      obtain ⟨fc, rfl, h⟩ := ih fun e he => g3 e (List.mem_cons_of_mem _ he)
      obtain ⟨k, rfl, hk⟩ := g3 d List.mem_cons_self
      exact ⟨k :: fc, rfl, fun j hj => by
        rcases List.mem_cons.mp hj with rfl | hj
        · exact hk
        · exact h j hj⟩
  subst hfc
  obtain ⟨M, p1, _, p2⟩ := sweep_ok n rs hg hl fc hfj m'
  refine ⟨M, m', g1, p1, ?_⟩
  rw [FF_at (fn := fn__law_other_fit) rfl rfl (by decide)]
  simp only [lc__law_other_fit_0, le__law_other_fit_0, List.nil_append] at g4
  simp [fn__law_other_fit, b__law_other_fit, startEnv, h8, g4, p2]
end K78

set_option Elab.async false
set_option linter.all false
set_option maxRecDepth 100000
set_option maxHeartbeats 4000000
/-! K78MM: drawn rows -/
namespace K78
open PySem Pm
theorem facing_ok {ns : List Int} (n : Nat) (m : List (List D)) (hS : Strm ns m) : ∃ (rs : List Row) (m' : List (List D)), Strm ns m' ∧ Good rs ∧ rs.length ≤ 40 ∧
    FF tab (n + 2) 34 [.val (.hnd 0)] m = .ok (.fr (rowsD rs)) m' := by
  have l5 : 5 ≤ LIM := by decide
  have l2 : 2 ≤ LIM := by decide
  obtain ⟨gap, m1, hS1, a1, a2, a3⟩ := nextS hS n 4 (by omega) (by omega)
  obtain ⟨far, m2, hS2, b1, b2, b3⟩ := nextS hS1 n 7 (by omega) (by omega)
  obtain ⟨s0, m3, hS3, c1, c2, c3⟩ := nextS hS2 n 3 (by omega) (by omega)
  refine ⟨[.size s0, .jump 4 0 (2 + gap) (2 + far), .size gap, .jump 1 (1 + gap) 0 (2 + far), .size 1], m3, hS3, ?_, by simp, ?_⟩
  · intro r hr
    simp only [List.mem_cons, List.not_mem_nil, or_false] at hr
    rcases hr with rfl | rfl | rfl | rfl | rfl <;> simp [Row.good] <;> omega
  · have es : setAt 1 (encR (.jump 4 0 (2 + gap) (2 + far))) [encR (.size s0), encR (.jump 3 0 (2 + gap) (2 + far)), encR (.size gap), encR (.jump 1 (1 + gap) 0 (2 + far)), encR (.size 1)] = some [encR (.size s0), encR (.jump 4 0 (2 + gap) (2 + far)), encR (.size gap), encR (.jump 1 (1 + gap) 0 (2 + far)), encR (.size 1)] := setAt_ok (by omega) (by simp)
    simp only [encR] at es
    rw [FF_at (fn := fn__law_facing) rfl rfl (by decide)]
    simp [fn__law_facing, b__law_facing, startEnv, a3, b3, c3, l2, l5, es, rowsD, encR]
def fallR (many : Nat) (far : Int) (tl : List Row) : List Row := (List.range many).map (fun (k : Nat) => Row.jump ((k : Int) + 2) 0 2 far) ++ tl
theorem fallR_len (many : Nat) (far : Int) (tl : List Row) : (fallR many far tl).length = many + tl.length := by simp [fallR]
theorem fallR_good {many : Nat} {far : Int} {tl : List Row} (h1 : 2 ≤ far) (h2 : far ≤ 8) (h3 : 2 ≤ tl.length) (h4 : ∀ r ∈ tl, ∃ s, r = .size s ∧ 0 ≤ s ∧ s ≤ 1000) : Good (fallR many far tl) := by
  intro r hr
  rw [fallR_len]
  rcases List.mem_append.mp hr with hr | hr
  · obtain ⟨k, hk, rfl⟩ := List.mem_map.mp hr
    have := List.mem_range.mp hk
    exact ⟨⟨by omega, by omega⟩, ⟨by omega, by omega⟩, ⟨by omega, by omega⟩, h1, h2⟩
  · obtain ⟨s, rfl, h5, h6⟩ := h4 r hr
    exact ⟨h5, h6⟩
theorem fall_comp (E : List Sl) (e : Me) (far : Int) (many : Nat) (hm : many ≤ LIM) (tg : Tg) (own : List Nat) (m : List (List D)) (h : ∀ k, k < many → ∃ s1, tg.put (.int (k : Nat)) ⟨E, m⟩ = some s1 ∧ wipe s1 own = ⟨E, m⟩ ∧ e s1 = .ok (.d (encR (.jump ((k : Int) + 2) 0 2 far))) s1) :
    compL own tg Pm.tYes e (ivs 0 many) ⟨E, m⟩ [] = .ok (rowsD (fallR many far [])) ⟨E, m⟩ := by
  have := compR_ok (own := own) (tg := tg) (c := Pm.tYes) (e := e) (s := ⟨E, m⟩) many (fun _ => true) (fun k => encR (.jump ((k : Int) + 2) 0 2 far)) (fun k hk => by
    obtain ⟨s1, h1, h2, h3⟩ := h k hk
    exact ⟨s1, h1, rfl, h2, fun _ => ⟨_, h3, rfl⟩⟩) hm
  rw [this, List.filter_eq_self.mpr (fun _ _ => rfl)]
  simp [rowsD, fallR]
theorem falling_ok {ns : List Int} (n : Nat) (m : List (List D)) (hS : Strm ns m) : ∃ (rs : List Row) (m' : List (List D)), Strm ns m' ∧ Good rs ∧ rs.length ≤ 40 ∧
    FF tab (n + 2) 35 [.val (.hnd 0)] m = .ok (.fr (rowsD rs)) m' := by
  have hL : LIM = 1000000 := rfl
  have l5 : 5 ≤ LIM := by decide
  have l2 : 2 ≤ LIM := by decide
  have l3 : 3 ≤ LIM := by decide
  obtain ⟨mi, m1, hS1, a1, a2, a3⟩ := nextS hS n 9 (by omega) (by omega)
  obtain ⟨far, m2, hS2, b1, b2, b3⟩ := nextS hS1 n 3 (by omega) (by omega)
  obtain ⟨c, m3, hS3, c1, c2, c3⟩ := nextS hS2 n 4 (by omega) (by omega)
  obtain ⟨many, hmany⟩ : ∃ many : Nat, 2 + mi = (many : Int) := ⟨(2 + mi).toNat, by omega⟩
  have ec := fall_comp [.val (.hnd 0), .val (.int many), .val (.int (2 + far)), .un, .un] (le__law_falling_0 (FF tab (n + 1))) (2 + far) many (by omega) (.name 4) [4] m2 (fun k hk => ⟨⟨[.val (.hnd 0), .val (.int many), .val (.int (2 + far)), .un, .val (.int k)], m2⟩, rfl, rfl, by simp [le__law_falling_0, l5, encR]⟩)
  simp only [le__law_falling_0] at ec
  have m8 : (many : Int) ≤ 100000000 := by omega
  obtain ⟨X, hX, hXl⟩ : ∃ X, rowsD (fallR many (2 + far) []) = X ∧ X.length = many := ⟨_, rfl, by simp [fallR_len]⟩
  rw [hX] at ec
  have happ : ∀ tl : List Row, X ++ rowsD tl = rowsD (fallR many (2 + far) tl) := fun tl => by
    rw [← hX]
    simp [rowsD, fallR]
  by_cases hc : 0 < c
  · obtain ⟨d, m4, hS4, d1, d2, d3⟩ := nextS hS3 n 2 (by omega) (by omega)
    refine ⟨fallR many (2 + far) [.size (1 + d), .size 1, .size 0], m4, hS4, fallR_good (by omega) (by omega) (by simp) (fun r hr => ?_), by rw [fallR_len]; simp; omega, ?_⟩
    · simp only [List.mem_cons, List.not_mem_nil, or_false] at hr
      rcases hr with rfl | rfl | rfl
      · exact ⟨_, rfl, by omega, by omega⟩
      · exact ⟨_, rfl, by omega, by omega⟩
      · exact ⟨_, rfl, by omega, by omega⟩
    · have hlen : X.length + 3 ≤ LIM := by omega
      have h2 := happ [.size (1 + d), .size 1, .size 0]
      simp only [rowsD, List.map_cons, List.map_nil, encR] at h2
      rw [FF_at (fn := fn__law_falling) rfl rfl (by decide)]
      simp [fn__law_falling, b__law_falling, startEnv, a3, b3, c3, d3, l2, l3, hmany, m8, ec, hc, hlen, h2]
      simp only [rowsD]
  · refine ⟨fallR many (2 + far) [.size 1, .size 1], m3, hS3, fallR_good (by omega) (by omega) (by simp) (fun r hr => ?_), by rw [fallR_len]; simp; omega, ?_⟩
    · simp only [List.mem_cons, List.not_mem_nil, or_false] at hr
      rcases hr with rfl | rfl
      · exact ⟨_, rfl, by omega, by omega⟩
      · exact ⟨_, rfl, by omega, by omega⟩
    · have hlen : X.length + 2 ≤ LIM := by omega
      have h2 := happ [.size 1, .size 1]
      simp only [rowsD, List.map_cons, List.map_nil, encR] at h2
      rw [FF_at (fn := fn__law_falling) rfl rfl (by decide)]
      simp [fn__law_falling, b__law_falling, startEnv, a3, b3, c3, l2, l3, hmany, m8, ec, hc, hlen, h2]
      simp only [rowsD]
theorem rowsD_snoc (rs : List Row) (r : Row) : rowsD (rs ++ [r]) = rowsD rs ++ [encR r] := by simp [rowsD]
theorem some0 {ns : List Int} (n M at_ : Nat) (hM : at_ < M) (hM2 : M ≤ 40) (rs : List Row) (hl : rs.length < LIM) (x7 : Sl) (m : List (List D)) (hS : Strm ns m) : ∃ (r : Row) (x7' : Sl) (m' : List (List D)), Strm ns m' ∧ r.good M ∧
    lb__law_some_rows_0 (FF tab (n + 2)) ⟨[.val (.hnd 0), .val (.int M), .own (rowsD rs), .val (.int at_), .un, .un, .un, x7, .un, .un, .un, .un, .un], m⟩ = .ok .nx ⟨[.val (.hnd 0), .val (.int M), .own (rowsD (rs ++ [r])), .val (.int at_), .un, .un, .un, x7', .un, .un, .un, .un, .un], m'⟩ := by
  have l6 : 6 ≤ LIM := by decide
  have l5 : 5 ≤ LIM := by decide
  have l2 : 2 ≤ LIM := by decide
  obtain ⟨q, m1, hS1, a1, a2, a3⟩ := nextS hS (n + 1) 5 (by omega) (by omega)
  by_cases hq : q < 2
  · obtain ⟨d, m2, hS2, ⟨v, rfl, v1, v2⟩, b3⟩ := pickP hS1 n [D.int 0, .int 1, .int 1, .int 2, .int 3, .int (if (M : Int) < 9 then 1000 else 7)] (by simp) (by simp) (fun d => ∃ v, d = .int v ∧ 0 ≤ v ∧ v ≤ 1000) (fun d hd => by
      simp only [List.mem_cons, List.not_mem_nil, or_false] at hd
      rcases hd with rfl | rfl | rfl | rfl | rfl | rfl <;> refine ⟨_, rfl, ?_, ?_⟩ <;> first | omega | (split <;> omega))
    refine ⟨.size v, x7, m2, hS2, ⟨v1, v2⟩, ?_⟩
    rw [rowsD_snoc]
    by_cases h9 : (M : Int) < 9
    · rw [if_pos h9] at b3
      simp [lb__law_some_rows_0, a3, hq, l6, l2, h9, b3, encR, hl]
    · rw [if_neg h9] at b3
      simp [lb__law_some_rows_0, a3, hq, l6, l2, h9, b3, encR, hl]
  · obtain ⟨q2, m2, hS2, b1, b2, b3⟩ := nextS hS1 (n + 1) 3 (by omega) (by omega)
    have tail : ∀ (goal : Int) (m3 : List (List D)), Strm ns m3 → 0 ≤ goal → goal < M → ∃ (f : Int) (m4 : List (List D)), Strm ns m4 ∧ 2 ≤ f ∧ f ≤ 8 ∧ FF tab (n + 2) 20 [.val (.hnd 0), .val (.lst [D.int 2, .int 2, .int 3, .int 3, .int 8])] m3 = .ok (.d (.int f)) m4 := by
      intro goal m3 hS3 _ _
      obtain ⟨d, m4, hS4, ⟨f, rfl, f1, f2⟩, c3⟩ := pickP hS3 n [D.int 2, .int 2, .int 3, .int 3, .int 8] (by simp) (by simp) (fun d => ∃ v, d = .int v ∧ 2 ≤ v ∧ v ≤ 8) (fun d hd => by
        simp only [List.mem_cons, List.not_mem_nil, or_false] at hd
        rcases hd with rfl | rfl | rfl | rfl | rfl <;> exact ⟨_, rfl, by omega, by omega⟩)
      exact ⟨f, m4, hS4, f1, f2, c3⟩
    by_cases h0 : q2 = 0
    · obtain ⟨goal, m3, hS3, c1, c2, c3⟩ := nextS hS2 (n + 1) M (by omega) (by omega)
      obtain ⟨f, m4, hS4, d1, d2, d3⟩ := tail goal m3 hS3 c1 c2
      refine ⟨.jump goal 0 0 f, .val (.int goal), m4, hS4, ⟨⟨c1, c2⟩, ⟨by omega, by omega⟩, ⟨by omega, by omega⟩, d1, d2⟩, ?_⟩
      rw [rowsD_snoc]
      simp [lb__law_some_rows_0, a3, hq, l5, b3, h0, c3, d3, encR, hl]
    · obtain ⟨w, m3, hS3, c1, c2, c3⟩ := fromS hS2 n (-4) 4 (by omega) (by omega)
      obtain ⟨goal, hgoal⟩ : ∃ goal, ((at_ : Int) + w) % (M : Int) = goal := ⟨_, rfl⟩
      have g1 : 0 ≤ goal := by rw [← hgoal]; exact Int.emod_nonneg _ (by omega)
      have g2 : goal < M := by rw [← hgoal]; exact Int.emod_lt_of_pos _ (by omega)
      have hMpos : 0 < M := by omega
      obtain ⟨f, m4, hS4, d1, d2, d3⟩ := tail goal m3 hS3 g1 g2
      refine ⟨.jump goal 0 0 f, .val (.int goal), m4, hS4, ⟨⟨g1, g2⟩, ⟨by omega, by omega⟩, ⟨by omega, by omega⟩, d1, d2⟩, ?_⟩
      rw [rowsD_snoc]
      simp [lb__law_some_rows_0, a3, hq, l5, b3, h0, c3, bInt, one, opMod, opI, hMpos, hgoal, d3, encR, hl]
def frM (M : Nat) (rs : List Row) (st : List Int) (fd : List Row) (x3 x6 x7 x8 x9 x10 x11 x12 : Sl) (m : List (List D)) : S := ⟨[.val (.hnd 0), .val (.int M), .val (.lst (rowsD rs)), x3, .val (.lst (intsD (startsL st))), .own (rowsD fd), x6, x7, x8, x9, x10, x11, x12], m⟩
theorem some2 {ns : List Int} (n M at_ : Nat) (rs : List Row) (hlen : rs.length = M) (hat : at_ < M) (hM2 : M ≤ 40) (hg : ∀ r ∈ rs, r.good M) (fd : List Row) (hl : fd.length < LIM) (x6 x7 x8 x9 x10 x11 x12 : Sl) (m : List (List D)) (hS : Strm ns m) : ∃ (r : Row) (y6 y8 y9 y10 y11 y12 : Sl) (m' : List (List D)), Strm ns m' ∧ r.good M ∧
    lb__law_some_rows_2 (FF tab (n + 2)) (frM M rs (nears rs) fd (.val (.int at_)) x6 x7 x8 x9 x10 x11 x12 m) = .ok .nx (frM M rs (nears rs) (fd ++ [r]) (.val (.int at_)) y6 x7 y8 y9 y10 y11 y12 m') := by
  have l12 : 12 ≤ LIM := by decide
  have l5 : 5 ≤ LIM := by decide
  have l2 : 2 ≤ LIM := by decide
  obtain ⟨r, hr⟩ : ∃ r, rs[at_]? = some r := ⟨_, List.getElem?_eq_getElem (by omega)⟩
  have er : atD (rowsD rs) (at_ : Int) = some (encR r) := by rw [rowsD_at, hr]; rfl
  have hgr := hg r (List.mem_of_getElem? hr)
  cases r with
  | size s =>
    refine ⟨.size s, .val (encR (.size s)), x8, x9, x10, x11, x12, m, hS, hgr, ?_⟩
    unfold frM
    rw [rowsD_snoc]
    simp only [encR] at er ⊢
    simp [lb__law_some_rows_2, er, hl]
  | jump g b a f =>
    have hnl : (nears rs).length = M := by simp [nears, hlen]
    have e1 := startsD_at (nears rs) g hgr.1.1 (by rw [hnl]; have := hgr.1.2; omega)
    have e2 := startsD_at (nears rs) at_ (by omega) (by rw [hnl]; omega)
    rw [Int.toNat_natCast] at e2
    obtain ⟨wy, hwy⟩ : ∃ wy, ((nears rs).take g.toNat).sum - ((nears rs).take at_).sum = wy := ⟨_, rfl⟩
    obtain ⟨d, m2, hS2, ⟨more, rfl⟩, b3⟩ := pickP hS n [D.int (-1), .int 0, .int 0, .int 1, .int 1, .int 2, .int 2, .int 3, .int 4, .int 6, .int 9, .int 100000] (by simp) (by simp) (fun d => ∃ v, d = .int v) (fun d hd => by
      simp only [List.mem_cons, List.not_mem_nil, or_false] at hd
      rcases hd with rfl | rfl | rfl | rfl | rfl | rfl | rfl | rfl | rfl | rfl | rfl | rfl <;> exact ⟨_, rfl⟩)
    obtain ⟨oth, m3, hS3, c1, c2, c3⟩ := nextS hS2 (n + 1) 5 (by omega) (by omega)
    have clip : ∀ x : Int, ∃ y, (if 0 < (if x < 100000 then x else 100000) then (if x < 100000 then x else 100000) else 0) = y ∧ 0 ≤ y ∧ y ≤ 100000 := fun x => ⟨_, rfl, by split <;> split <;> omega, by split <;> split <;> omega⟩
    by_cases hw : 0 ≤ wy
    · obtain ⟨y, hy, y1, y2⟩ := clip (wy + more)
      refine ⟨.jump g oth y f, .val (encR (.jump g oth y f)), .val (.int wy), .val (.int more), .val (.int oth), .val (.int oth), .val (.int y), m3, hS3, ⟨hgr.1, ⟨by omega, by omega⟩, ⟨y1, y2⟩, hgr.2.2.2⟩, ?_⟩
      unfold frM
      rw [rowsD_snoc]
      simp only [encR] at er ⊢
      simp [lb__law_some_rows_2, er, e1, e2, hwy, l12, b3, c3, hw, l2, l5, hl]
      rw [hy]
    · obtain ⟨y, hy, y1, y2⟩ := clip (more - wy)
      refine ⟨.jump g y oth f, .val (encR (.jump g y oth f)), .val (.int wy), .val (.int more), .val (.int oth), .val (.int y), .val (.int oth), m3, hS3, ⟨hgr.1, ⟨y1, y2⟩, ⟨by omega, by omega⟩, hgr.2.2.2⟩, ?_⟩
      unfold frM
      rw [rowsD_snoc]
      simp only [encR] at er ⊢
      simp [lb__law_some_rows_2, er, e1, e2, hwy, l12, b3, c3, hw, l2, l5, hl]
      rw [hy]
end K78

set_option Elab.async false
set_option linter.all false
set_option maxRecDepth 100000
set_option maxHeartbeats 4000000
/-! K78MN: _law_some_rows; _law_row_ok, _law_rows_ok -/
namespace K78
open PySem Pm
theorem sr2 (F : Fns) : st__law_some_rows_2 F = sFor (.name 3) (iR1 (mVar 1)) (lb__law_some_rows_0 F) := rfl
def srA (F : Fns) : Ms := sSet 4 (mCall F 30 (aCons (mComp [6] (.name 6) (iLst (mVar 2)) (Pm.tYes) (le__law_some_rows_1 F)) (aNil)))
theorem sr3 (F : Fns) : st__law_some_rows_3 F = sFrz [2] (sSeq (srA F) (sSeq (sOwn 5 (mLst (aNil))) (sSeq (sFor (.name 3) (iR1 (mVar 1)) (lb__law_some_rows_2 F)) (sRet (mVar 5))))) := rfl
theorem srA_ok (F : Fns) (M : Nat) (rs : List Row) (hl : rs.length + 1 < LIM) (x3 x7 : Sl) (m : List (List D)) (e30 : F 30 [.val (.lst (intsD (nears rs)))] m = .ok (.fr (intsD (startsL (nears rs)))) m) :
    srA F ⟨[.val (.hnd 0), .val (.int M), .val (.lst (rowsD rs)), x3, .un, .un, .un, x7, .un, .un, .un, .un, .un], m⟩ = .ok .nx ⟨[.val (.hnd 0), .val (.int M), .val (.lst (rowsD rs)), x3, .val (.lst (intsD (startsL (nears rs)))), .un, .un, x7, .un, .un, .un, .un, .un], m⟩ := by
  have ec := compL_map (own := [6]) (tg := .name 6) (e := le__law_some_rows_1 F) (s := ⟨[.val (.hnd 0), .val (.int M), .val (.lst (rowsD rs)), x3, .un, .un, .un, x7, .un, .un, .un, .un, .un], m⟩)
    (fun d => match d with
      | .tup [_, .int s] => .int s
      | _ => .int 1) (rowsD rs) (fun x hx => by
    obtain ⟨r, _, rfl⟩ := List.mem_map.mp hx
    refine ⟨⟨[.val (.hnd 0), .val (.int M), .val (.lst (rowsD rs)), x3, .un, .un, .val (encR r), x7, .un, .un, .un, .un, .un], m⟩, rfl, rfl, ?_⟩
    cases r <;> simp [le__law_some_rows_1, encR]) (by simp; omega)
  have en : (rowsD rs).map (fun d => match d with
      | .tup [_, .int s] => D.int s
      | _ => .int 1) = intsD (nears rs) := by
    unfold rowsD nears intsD
    rw [List.map_map, List.map_map]
    refine List.map_congr_left fun r _ => ?_
    cases r <;> rfl
  rw [en] at ec
  simp [srA, ec, e30]
theorem some_rows_ok {ns : List Int} (n : Nat) (m : List (List D)) (hS : Strm ns m) : ∃ (rs : List Row) (m' : List (List D)), Strm ns m' ∧ Good rs ∧ rs.length ≤ 40 ∧
    FF tab (n + 3) 33 [.val (.hnd 0)] m = .ok (.fr (rowsD rs)) m' := by
  have hL : LIM = 1000000 := rfl
  have l0 : 0 ≤ LIM := Nat.zero_le _
  have l10 : 10 ≤ LIM := by decide
  obtain ⟨d, m1, hS1, ⟨M, rfl, hM⟩, b3⟩ := pickP hS n [D.int 0, .int 1, .int 2, .int 3, .int 5, .int 8, .int 13, .int 20, .int 30, .int 40] (by simp) (by simp) (fun d => ∃ v : Nat, d = .int (v : Int) ∧ v ≤ 40) (fun d hd => by
    simp only [List.mem_cons, List.not_mem_nil, or_false] at hd
    rcases hd with rfl | rfl | rfl | rfl | rfl | rfl | rfl | rfl | rfl | rfl
    · exact ⟨0, rfl, by omega⟩
    · exact ⟨1, rfl, by omega⟩
    · exact ⟨2, rfl, by omega⟩
    · exact ⟨3, rfl, by omega⟩
    · exact ⟨5, rfl, by omega⟩
    · exact ⟨8, rfl, by omega⟩
    · exact ⟨13, rfl, by omega⟩
    · exact ⟨20, rfl, by omega⟩
    · exact ⟨30, rfl, by omega⟩
    · exact ⟨40, rfl, by omega⟩)
  obtain ⟨s', h1, rs, x3, x7, m2, rfl, hS2, hlen, hg⟩ := forL_ok (tg := .name 3) (b := lb__law_some_rows_0 (FF tab (n + 2))) (fun j s => ∃ rs x3 x7 m, s = ⟨[.val (.hnd 0), .val (.int M), .own (rowsD rs), x3, .un, .un, .un, x7, .un, .un, .un, .un, .un], m⟩ ∧ Strm ns m ∧ rs.length = j ∧ ∀ r ∈ rs, r.good M) (ivs 0 M) 0
    ⟨[.val (.hnd 0), .val (.int M), .own (rowsD []), .un, .un, .un, .un, .un, .un, .un, .un, .un, .un], m1⟩ ⟨[], .un, .un, m1, rfl, hS1, rfl, fun r h => by cases h⟩ (fun j d s hd hI => by
      obtain ⟨rs, x3, x7, m, rfl, hS, hlen, hg⟩ := hI
      obtain ⟨hj, rfl⟩ := ivs_at 0 M j d hd
      obtain ⟨r, x7', m', hS', hr, e⟩ := some0 n M (0 + j) (by omega) hM rs (by omega) x7 m hS
      refine ⟨_, _, .nx, rfl, e, .inl rfl, rs ++ [r], _, x7', m', rfl, hS', by simp; omega, fun q hq => ?_⟩
      rcases List.mem_append.mp hq with hq | hq
      · exact hg q hq
      · rw [List.mem_singleton.mp hq]
        exact hr)
  rw [ivs_len, Nat.zero_add] at hlen
  have e30 := law_row_starts_ok (n + 1) (.val (.lst (intsD (nears rs)))) (nears rs) (.inl rfl) (by simp [nears]; omega) m2
  have eA := srA_ok (FF tab (n + 2)) M rs (by omega) x3 x7 m2 e30
  obtain ⟨s2, h2, fd, y3, y6, y8, y9, y10, y11, y12, m3, rfl, hS3, hlen3, hg3⟩ := forL_ok (tg := .name 3) (b := lb__law_some_rows_2 (FF tab (n + 2))) (fun j s => ∃ fd x3 x6 x8 x9 x10 x11 x12 m, s = frM M rs (nears rs) fd x3 x6 x7 x8 x9 x10 x11 x12 m ∧ Strm ns m ∧ fd.length = j ∧ ∀ r ∈ fd, r.good M) (ivs 0 M) 0
    (frM M rs (nears rs) [] x3 .un x7 .un .un .un .un .un m2) ⟨[], x3, .un, .un, .un, .un, .un, .un, m2, rfl, hS2, rfl, fun r h => by cases h⟩ (fun j d s hd hI => by
      obtain ⟨fd, x3, x6, x8, x9, x10, x11, x12, m, rfl, hS, hlf, hgf⟩ := hI
      obtain ⟨hj, rfl⟩ := ivs_at 0 M j d hd
      obtain ⟨r, y6, y8, y9, y10, y11, y12, m', hS', hr, e⟩ := some2 n M (0 + j) rs hlen (by omega) hM hg fd (by omega) x6 x7 x8 x9 x10 x11 x12 m hS
      refine ⟨_, _, .nx, rfl, e, .inl rfl, fd ++ [r], _, y6, y8, y9, y10, y11, y12, m', rfl, hS', by simp; omega, fun q hq => ?_⟩
      rcases List.mem_append.mp hq with hq | hq
      · exact hgf q hq
      · rw [List.mem_singleton.mp hq]
        exact hr)
  rw [ivs_len, Nat.zero_add] at hlen3
  refine ⟨fd, m3, hS3, by unfold Good; rw [hlen3]; exact hg3, by omega, ?_⟩
  rw [FF_at (fn := fn__law_some_rows) rfl rfl (by decide)]
  show retOf (b__law_some_rows (FF tab (n + 2)) ⟨[.val (.hnd 0), .un, .un, .un, .un, .un, .un, .un, .un, .un, .un, .un, .un], m⟩) = _
  have s0 : st__law_some_rows_0 (FF tab (n + 2)) ⟨[.val (.hnd 0), .un, .un, .un, .un, .un, .un, .un, .un, .un, .un, .un, .un], m⟩ = .ok .nx ⟨[.val (.hnd 0), .val (.int M), .un, .un, .un, .un, .un, .un, .un, .un, .un, .un, .un], m1⟩ := by
    simp [st__law_some_rows_0, l10, b3]
  have s1 : st__law_some_rows_1 (FF tab (n + 2)) ⟨[.val (.hnd 0), .val (.int M), .un, .un, .un, .un, .un, .un, .un, .un, .un, .un, .un], m1⟩ = .ok .nx ⟨[.val (.hnd 0), .val (.int M), .own (rowsD []), .un, .un, .un, .un, .un, .un, .un, .un, .un, .un], m1⟩ := by
    simp [st__law_some_rows_1, l0, rowsD]
  have it1 : ∀ (x2 x3 x4 x5 x6 x7 x8 x9 x10 x11 x12 : Sl) (m : List (List D)), iR1 (mVar 1) ⟨[.val (.hnd 0), .val (.int M), x2, x3, x4, x5, x6, x7, x8, x9, x10, x11, x12], m⟩ = .ok (ivs 0 M) ⟨[.val (.hnd 0), .val (.int M), x2, x3, x4, x5, x6, x7, x8, x9, x10, x11, x12], m⟩ := fun x2 x3 x4 x5 x6 x7 x8 x9 x10 x11 x12 m => by
    have := iR1_int (a := mVar 1) (s := ⟨[.val (.hnd 0), .val (.int M), x2, x3, x4, x5, x6, x7, x8, x9, x10, x11, x12], m⟩) (j := (M : Int)) (by simp) (by omega) (by omega)
    rw [Int.toNat_natCast] at this
    exact this
  rw [st__law_some_rows, sSeq_ap, s0]
  dsimp only [Ou.bind_ok]
  rw [sSeq_ap, s1]
  dsimp only [Ou.bind_ok]
  rw [sSeq_ap, sr2, sFor_ap, it1, Ou.bind_ok, h1]
  dsimp only [Ou.bind_ok]
  rw [sr3, sFrz_ap]
  have fz : [2].foldl frz ⟨[.val (.hnd 0), .val (.int M), .own (rowsD rs), x3, .un, .un, .un, x7, .un, .un, .un, .un, .un], m2⟩ = (⟨[.val (.hnd 0), .val (.int M), .val (.lst (rowsD rs)), x3, .un, .un, .un, x7, .un, .un, .un, .un, .un], m2⟩ : S) := rfl
  rw [fz, sSeq_ap, eA]
  dsimp only [Ou.bind_ok]
  have s5 : (sOwn 5 (mLst aNil)) ⟨[.val (.hnd 0), .val (.int M), .val (.lst (rowsD rs)), x3, .val (.lst (intsD (startsL (nears rs)))), .un, .un, x7, .un, .un, .un, .un, .un], m2⟩ = .ok .nx (frM M rs (nears rs) [] x3 .un x7 .un .un .un .un .un m2) := by
    simp [frM, l0, rowsD]
  rw [sSeq_ap, s5]
  dsimp only [Ou.bind_ok]
  have it2 : iR1 (mVar 1) (frM M rs (nears rs) [] x3 .un x7 .un .un .un .un .un m2) = .ok (ivs 0 M) (frM M rs (nears rs) [] x3 .un x7 .un .un .un .un .un m2) := it1 _ _ _ _ _ _ _ _ _ _ _ m2
  rw [sSeq_ap, sFor_ap, it2, Ou.bind_ok, h2]
  dsimp only [Ou.bind_ok]
  simp [frM]
/-! ### the law's own look at rows -/
theorem nin25 (s : S) (i : Int) : opNin s (.d (.int i)) (.d (.tup [.int 2, .int 5])) = some (.d (.bl (!(decide (i = 2) || decide (i = 5))))) := by
  show some (R.d (.bl (!(L2.eqV (.int 2) (.int i) || (L2.eqV (.int 5) (.int i) || false))))) = _
  have e : ∀ k : Int, L2.eqV (.int k) (.int i) = decide (i = k) := fun k => by
    show (k == i) = _
    by_cases h : i = k
    · subst h; simp
    · have : ¬ (k = i) := fun z => h z.symm
      simp [h, this]
  rw [e, e, Bool.or_false]
theorem row_ok_ok (n : Nat) (d : D) (h : okD d = true) (many : Int) (m : List (List D)) : FF tab (n + 2) 40 [.val d, .val (.int many)] m = .ok (.d (.bl (rowOk d many))) m := by
  rw [FF_at (fn := fn__law_row_ok) rfl rfl (by decide)]
  have l2 : 2 ≤ LIM := by decide
  by_cases ht : isTup d = false
  · cases d <;> simp [fn__law_row_ok, b__law_row_ok, startEnv, isTup, okD, rowOk] at h ht ⊢
  obtain ⟨l, rfl⟩ : ∃ l, d = .tup l := by
    cases d with
    | tup l => exact ⟨l, rfl⟩
    | _ => exact absurd rfl ht
  have hl := okDs_mem (show okDs l = true from h)
  match l, hl with
  | [], _ => simp [fn__law_row_ok, b__law_row_ok, startEnv, rowOk, l2, nin25]
  | [a], _ => simp [fn__law_row_ok, b__law_row_ok, startEnv, rowOk, l2, nin25]
  | [a, b], hl =>
    have hb := okD_plain (hl b (by simp))
    have ha := okD_plain (hl a (by simp))
    have e1 := law_number_ok n b hb 0 1000 m
    cases a with
    | str x =>
      by_cases hx : x = "size"
      · subst hx
        simp [fn__law_row_ok, b__law_row_ok, startEnv, rowOk, l2, nin25, e1]
      · by_cases hj : x = "jump"
        · subst hj
          simp [fn__law_row_ok, b__law_row_ok, startEnv, rowOk, l2, nin25]
        · simp [fn__law_row_ok, b__law_row_ok, startEnv, rowOk, l2, nin25, hx, hj]
    | hnd i => simp [plainD] at ha
    | ty i => simp [plainD] at ha
    | _ => simp [fn__law_row_ok, b__law_row_ok, startEnv, rowOk, l2, nin25]
  | [a, b, c], _ => simp [fn__law_row_ok, b__law_row_ok, startEnv, rowOk, l2, nin25]
  | [a, b, c, e], _ => simp [fn__law_row_ok, b__law_row_ok, startEnv, rowOk, l2, nin25]
  | [a, b, c, e, f], hl =>
    have ha := okD_plain (hl a (by simp))
    have e1 := law_number_ok n b (okD_plain (hl b (by simp))) 0 (many - 1) m
    have e2 := law_number_ok n f (okD_plain (hl f (by simp))) 2 8 m
    have e3 := law_number_ok n c (okD_plain (hl c (by simp))) 0 100000 m
    have e4 := law_number_ok n e (okD_plain (hl e (by simp))) 0 100000 m
    obtain ⟨x1, g1⟩ : ∃ y, betwD b 0 (many - 1) = y := ⟨_, rfl⟩
    obtain ⟨x2, g2⟩ : ∃ y, betwD f 2 8 = y := ⟨_, rfl⟩
    obtain ⟨x3, g3⟩ : ∃ y, betwD c 0 100000 = y := ⟨_, rfl⟩
    obtain ⟨x4, g4⟩ : ∃ y, betwD e 0 100000 = y := ⟨_, rfl⟩
    rw [g1] at e1
    rw [g2] at e2
    rw [g3] at e3
    rw [g4] at e4
    cases a with
    | str x =>
      by_cases hx : x = "size"
      · subst hx
        simp [fn__law_row_ok, b__law_row_ok, startEnv, rowOk, l2, nin25]
      · by_cases hj : x = "jump"
        · subst hj
          cases x1 <;> cases x2 <;> cases x3 <;> simp [fn__law_row_ok, b__law_row_ok, startEnv, rowOk, l2, nin25, e1, e2, e3, e4, g1, g2, g3, g4]
        · simp [fn__law_row_ok, b__law_row_ok, startEnv, rowOk, l2, nin25, hx, hj]
    | hnd i => simp [plainD] at ha
    | ty i => simp [plainD] at ha
    | _ => simp [fn__law_row_ok, b__law_row_ok, startEnv, rowOk, l2, nin25]
  | b :: c :: e :: f :: g :: k :: l, _ =>
    have l1 : ¬ ((l.length : Int) + 1 + 1 + 1 + 1 + 1 + 1 = 5) := by omega
    have l3 : ¬ ((l.length : Int) + 1 + 1 + 1 + 1 + 1 + 1 = 2) := by omega
    simp [fn__law_row_ok, b__law_row_ok, startEnv, rowOk, l2, nin25, l1, l3]
theorem rows_ok_ok (n : Nat) (d : D) (h : okD d = true) (hl : lenOk d) (m : List (List D)) : FF tab (n + 3) 41 [.val d] m = .ok (.d (.bl (rowsOk d))) m := by
  rw [FF_at (fn := fn__law_rows_ok) rfl rfl (by decide)]
  by_cases hd : isLst d = true
  case neg => cases d <;> simp [fn__law_rows_ok, b__law_rows_ok, startEnv, isLst, okD, rowsOk] at h hd ⊢
  obtain ⟨l, rfl⟩ : ∃ l, d = .lst l := by
    cases d <;> simp [isLst] at hd
    exact ⟨_, rfl⟩
  have hm := okDs_mem (show okDs l = true from h)
  have ec := compL_ok (own := [1]) (tg := .name 1) (s := ⟨[.val (.lst l), .un], m⟩) (c := lc__law_rows_ok_0 (FF tab (n + 2))) (e := le__law_rows_ok_0 (FF tab (n + 2))) (fun r => !rowOk r l.length) id l [] (fun x hx => by
    have e := row_ok_ok n x (hm x hx) l.length m
    exact ⟨⟨[.val (.lst l), .val x], m⟩, rfl, by simp [lc__law_rows_ok_0, e], rfl, fun _ => ⟨.d x, by simp [le__law_rows_ok_0], rfl⟩⟩) (by rw [List.length_nil, Nat.zero_add]; exact hl)
  rw [List.map_id, List.nil_append] at ec
  simp only [lc__law_rows_ok_0, le__law_rows_ok_0] at ec
  have hr : decide (((l.filter fun r => !rowOk r l.length).length : Int) = 0) = rowsOk (.lst l) := by
    unfold rowsOk
    dsimp only
    cases ha : l.all fun r => rowOk r l.length with
    | true =>
      refine decide_eq_true ?_
      have : (l.filter fun r => !rowOk r l.length) = [] := List.filter_eq_nil_iff.mpr fun x hx => by
        rw [List.all_eq_true.mp ha x hx]
        simp
      rw [this]
      rfl
    | false =>
      refine decide_eq_false fun z => ?_
      have z2 : (l.filter fun r => !rowOk r l.length) = [] := List.length_eq_zero_iff.mp (by omega)
      have : (l.all fun r => rowOk r l.length) = true := List.all_eq_true.mpr fun x hx => by
        have := List.filter_eq_nil_iff.mp z2 x hx
        simpa using this
      rw [this] at ha
      cases ha
  obtain ⟨N, hN⟩ : ∃ N, (l.filter fun r => !rowOk r l.length) = N := ⟨_, rfl⟩
  rw [hN] at ec hr
  rw [← hr]
  simp [fn__law_rows_ok, b__law_rows_ok, startEnv, ec]
end K78

set_option Elab.async false
set_option linter.all false
set_option maxRecDepth 100000
set_option maxHeartbeats 4000000
/-! K78MO: _law_told, _law_judged -/
namespace K78
open PySem Pm
theorem encR_sm (r : Row) {B k : Nat} {W : Bool} (hB : 5 ≤ B) : sm W B (k + 1) (encR r) = true := by
  cases r with
  | size s =>
    refine sm_tup.mpr ⟨by simp; omega, fun d hd => ?_⟩
    simp only [List.mem_cons, List.not_mem_nil, or_false] at hd
    have e : decide ((("size" : Str)).length ≤ 100) = true := by decide
    rcases hd with rfl | rfl <;> simp only [sm, e, Bool.or_true]
  | jump g b a f =>
    refine sm_tup.mpr ⟨by simp; omega, fun d hd => ?_⟩
    simp only [List.mem_cons, List.not_mem_nil, or_false] at hd
    have e : decide ((("jump" : Str)).length ≤ 100) = true := by decide
    rcases hd with rfl | rfl | rfl | rfl | rfl <;> simp only [sm, e, Bool.or_true]
theorem rowsD_sm {rs : List Row} {B k : Nat} {W : Bool} (hB : 5 ≤ B) (h : rs.length ≤ B) : sm W B (k + 2) (.lst (rowsD rs)) = true := by
  refine sm_lst.mpr ⟨by simpa using h, fun d hd => ?_⟩
  obtain ⟨r, _, rfl⟩ := List.mem_map.mp hd
  exact encR_sm r hB
theorem encR_nodes (r : Row) : nodes (encR r) ≤ 6 := by
  cases r <;> simp [encR, nodes, nodesL]
theorem nodesL_le (c : Nat) : ∀ l : List D, (∀ d ∈ l, nodes d ≤ c) → nodesL l ≤ c * l.length
  | [], _ => by simp [nodesL]
  | d :: l, h => by
    have h1 := h d List.mem_cons_self
    have h2 := nodesL_le c l fun e he => h e (List.mem_cons_of_mem _ he)
    simp only [nodesL, List.length_cons]
    rw [Nat.mul_succ]
    omega
theorem rowsD_nodes (rs : List Row) : nodes (.lst (rowsD rs)) ≤ 1 + 6 * rs.length := by
  have := nodesL_le 6 (rowsD rs) fun d hd => by
    obtain ⟨r, _, rfl⟩ := List.mem_map.mp hd
    exact encR_nodes r
  rw [rowsD_len] at this
  simp only [nodes]
  omega
/-- x = _law_copy(y) -/
theorem copy_set {W : Bool} {B : Nat} (hB : B ≤ LIM) {k : Nat} {d : D} (h : sm W B k d = true) (n i j : Nat) (s : S) (hj : s.env[j]? = some (.val d)) : sSet i (mCall (FF tab (n + k + 1)) 26 (aCons (mVar j) (aNil))) s = .ok .nx (setVal s i (.val d)) := by
  obtain ⟨r, h1, h2, h3⟩ := copy_ok W B hB k n d h s.mem
  cases r with
  | slt i => exact absurd rfl (h3 i)
  | d y =>
    injection h2 with h2
    subst h2
    simp [hj, h1]
    rfl
  | fr y =>
    injection h2 with h2
    subst h2
    simp [hj, h1]
    rfl
@[simp] theorem sTry_ap (ie : Nat) (h : Xn → Ms) (body : Ms) (s : S) : sTry ie h body s = (match body s with
  | .ex x s' => if isU s'.env[ie]? = true then (match h x s' with
    | .ok f s2 => if isU s2.env[ie]? = true then (match f with
      | .rt (.slt _) => .st
      | f => .ok f s2) else .st
    | _ => .st) else .st
  | o => o) := rfl
theorem least_lengths_bad (n : Nat) (d : D) (h : okD d = true) (hl : lenOk d) (hr : rowsOk d = false) (m : List (List D)) : FF tab (n + 5) 14 [.val d] m = .ex ⟨10, [("name", .str "rows")]⟩ m := by
  have e6 := check_rows_ok n d h hl m
  rw [hr, if_neg (by decide)] at e6
  rw [FF_at (fn := fn_least_lengths) rfl rfl (by decide)]
  simp [fn_least_lengths, b_least_lengths, startEnv, e6]
theorem least_lengths_many (n : Nat) (rs : List Row) (hg : Good rs) (h1 : 2000 < rs.length) (h2 : rs.length ≤ LIM) (m : List (List D)) : FF tab (n + 5) 14 [.val (.lst (rowsD rs))] m = .ex ⟨13, [("word", .str "rows")]⟩ m := by
  have e6 := check_rows_ok n (.lst (rowsD rs)) (rowsD_ok rs) (by show (rowsD rs).length ≤ LIM; simpa using h2) m
  rw [if_pos (rows_rowsOk hg)] at e6
  rw [FF_at (fn := fn_least_lengths) rfl rfl (by decide)]
  have hl2 : (2000 : Int) < rs.length := by omega
  simp [fn_least_lengths, b_least_lengths, startEnv, e6, hl2, sRaise]
theorem is_least_bad (n : Nat) (d v : D) (h : okD d = true) (hl : lenOk d) (hr : rowsOk d = false) (m : List (List D)) : FF tab (n + 5) 17 [.val d, .val v] m = .ex ⟨10, [("name", .str "rows")]⟩ m := by
  have e6 := check_rows_ok n d h hl m
  rw [hr, if_neg (by decide)] at e6
  rw [FF_at (fn := fn_is_least) rfl rfl (by decide)]
  simp [fn_is_least, b_is_least, startEnv, e6]
theorem hT_10 (ina : Nat) (s : S) (h : ina < s.env.length) (ie : Nat) (hu : isU s.env[ie]? = true) : hT clsName clsFld ie ina ⟨10, [("name", .str "rows")]⟩ s = .ok (.rt (.fr [.str "raised", .str "BadValue", .tup [.str "rows"]])) { s with env := s.env.set ina (.val (.str "BadValue")) } := by
  show (if [("name" : Str)] = clsFld 10 ∧ ina < s.env.length ∧ isU s.env[ie]? = true then _ else _) = _
  rw [if_pos ⟨rfl, h, hu⟩]
  rfl
theorem hT_13 (ina : Nat) (s : S) (h : ina < s.env.length) (ie : Nat) (hu : isU s.env[ie]? = true) : hT clsName clsFld ie ina ⟨13, [("word", .str "rows")]⟩ s = .ok (.rt (.fr [.str "raised", .str "TooMany", .tup [.str "rows"]])) { s with env := s.env.set ina (.val (.str "TooMany")) } := by
  show (if [("word" : Str)] = clsFld 13 ∧ ina < s.env.length ∧ isU s.env[ie]? = true then _ else _) = _
  rw [if_pos ⟨rfl, h, hu⟩]
  rfl
@[simp] theorem isU_un : isU (some .un) = true := rfl
theorem FF_cast {a b : Nat} (h : a = b) {j : Nat} {as : List Pm.Arg} {m : List (List D)} {o : Fo} (e : FF tab a j as m = o) : FF tab b j as m = o := by
  rw [← h]
  exact e
/-- what told is built of -/
theorem told_of {W : Bool} {B : Nat} (hB : B ≤ LIM) (n k : Nat) (d : D) (h : sm W B k d = true) (m : List (List D)) (o : Fo)
    (ho : ∀ F : Fns, FF tab (n + k + 5) = F → retOf ((sTry 2 (hT clsName clsFld 2 4) (sSet 3 (mCall F 14 (aCons (mVar 1) (aNil))))  ⟨[.val d, .val d, .un, .un, .un], m⟩).bind fun f s1 => match f with
      | .nx => st__law_told_2 F s1
      | f => .ok f s1) = o) : FF tab (n + k + 6) 42 [.val d] m = o := by
  rw [FF_at (fn := fn__law_told) rfl rfl (by decide)]
  have ec := copy_set hB h (n + 4) 1 0 ⟨[.val d, .un, .un, .un, .un], m⟩ rfl
  rw [show n + 4 + k + 1 = n + k + 5 by omega] at ec
  show retOf (b__law_told (FF tab (n + k + 5)) ⟨[.val d, .un, .un, .un, .un], m⟩) = _
  have e0 : st__law_told_0 (FF tab (n + k + 5)) ⟨[.val d, .un, .un, .un, .un], m⟩ = .ok .nx ⟨[.val d, .val d, .un, .un, .un], m⟩ := ec
  rw [st__law_told, sSeq_ap, e0]
  exact ho _ rfl
theorem told_good (n : Nat) (rs : List Row) (hg : Good rs) (hl : rs.length ≤ 2000) (m : List (List D)) : ∃ L wt, Closed rs L ∧ runO (stepC rs) (natsD wt) (nears rs) = some L ∧ wt.length ≤ rs.length ∧ (∀ k ∈ wt, k < rs.length) ∧
    FF tab (n + 8) 42 [.val (.lst (rowsD rs))] m = .ok (.fr [.str "told", .tup [.lst (intsD L), .lst (natsD wt)]]) m := by
  have hL : LIM = 1000000 := rfl
  have l2 : 2 ≤ LIM := by decide
  obtain ⟨L, wt, h1, h2, h3, h4, h5⟩ := least_lengths_ok (n + 2) rs hg hl m
  refine ⟨L, wt, h1, h2, h3, h4, ?_⟩
  refine FF_cast (a := n + 2 + 6) (by omega) (told_of (W := true) (B := 3000) (by omega) n 2 _ (rowsD_sm (by omega) (by omega)) m _ fun F hF => ?_)
  have es := same_ok (n + 6) (.lst (rowsD rs)) (rowsD_ok rs) (by have := rowsD_nodes rs; omega) m
  have es := FF_cast (b := n + 2 + 5) (by omega) es
  have h5 := FF_cast (b := n + 2 + 5) (by omega) h5
  rw [hF] at es h5
  simp [h5, st__law_told_2, es, l2]
theorem told_many (n : Nat) (rs : List Row) (hg : Good rs) (h1 : 2000 < rs.length) (h2 : rs.length ≤ 3000) (m : List (List D)) :
    FF tab (n + 8) 42 [.val (.lst (rowsD rs))] m = .ok (.fr [.str "raised", .str "TooMany", .tup [.str "rows"]]) m := by
  have hL : LIM = 1000000 := rfl
  have h5 := least_lengths_many (n + 2) rs hg h1 (by omega) m
  refine FF_cast (a := n + 2 + 6) (by omega) (told_of (W := true) (B := 3000) (by omega) n 2 _ (rowsD_sm (by omega) (by omega)) m _ fun F hF => ?_)
  have h5 := FF_cast (b := n + 2 + 5) (by omega) h5
  rw [hF] at h5
  have ht := hT_13 4 ⟨[.val (.lst (rowsD rs)), .val (.lst (rowsD rs)), .un, .un, .un], m⟩ (by simp) 2 rfl
  simp [h5, ht]
theorem told_bad {W : Bool} {B : Nat} (hB : B ≤ LIM) (n k : Nat) (d : D) (h : sm W B k d = true) (hl : lenOk d) (hr : rowsOk d = false) (m : List (List D)) :
    FF tab (n + k + 6) 42 [.val d] m = .ok (.fr [.str "raised", .str "BadValue", .tup [.str "rows"]]) m := by
  have h5 := least_lengths_bad (n + k) d (sm_ok h) hl hr m
  refine told_of hB n k d h m _ fun F hF => ?_
  rw [hF] at h5
  have ht := hT_10 4 ⟨[.val d, .val d, .un, .un, .un], m⟩ (by simp) 2 rfl
  simp [h5, ht]
theorem judged_of {W W2 : Bool} {B : Nat} (hB : B ≤ LIM) (n k : Nat) (d v : D) (h : sm W B k d = true) (hv : sm W2 B k v = true) (m : List (List D)) (o : Fo)
    (ho : ∀ F : Fns, FF tab (n + k + 5) = F → retOf ((sTry 4 (hT clsName clsFld 4 6) (sSet 5 (mCall F 17 (aCons (mVar 3) (aCons (mVar 2) (aNil)))))  ⟨[.val d, .val v, .val v, .val d, .un, .un, .un], m⟩).bind fun f s1 => match f with
      | .nx => st__law_judged_3 F s1
      | f => .ok f s1) = o) : FF tab (n + k + 6) 43 [.val d, .val v] m = o := by
  rw [FF_at (fn := fn__law_judged) rfl rfl (by decide)]
  have ec := copy_set hB hv (n + 4) 2 1 ⟨[.val d, .val v, .un, .un, .un, .un, .un], m⟩ rfl
  have ec2 := copy_set hB h (n + 4) 3 0 ⟨[.val d, .val v, .val v, .un, .un, .un, .un], m⟩ rfl
  rw [show n + 4 + k + 1 = n + k + 5 by omega] at ec ec2
  show retOf (b__law_judged (FF tab (n + k + 5)) ⟨[.val d, .val v, .un, .un, .un, .un, .un], m⟩) = _
  have e0 : st__law_judged_0 (FF tab (n + k + 5)) ⟨[.val d, .val v, .un, .un, .un, .un, .un], m⟩ = .ok .nx ⟨[.val d, .val v, .val v, .un, .un, .un, .un], m⟩ := ec
  have e1 : st__law_judged_1 (FF tab (n + k + 5)) ⟨[.val d, .val v, .val v, .un, .un, .un, .un], m⟩ = .ok .nx ⟨[.val d, .val v, .val v, .val d, .un, .un, .un], m⟩ := ec2
  rw [st__law_judged, sSeq_ap, e0, Ou.bind_ok]
  dsimp only
  rw [sSeq_ap, e1]
  exact ho _ rfl
theorem judged_good {W2 : Bool} {B : Nat} (hB5 : 5 ≤ B) (hB : B ≤ 100000) (n k : Nat) (rs : List Row) (hg : Good rs) (hl : rs.length ≤ B) (v : D) (hv : sm W2 B (k + 2) v = true) (hn : nodes v ≤ 900000) (m : List (List D)) :
    FF tab (n + k + 8) 43 [.val (.lst (rowsD rs)), .val v] m = .ok (.fr [.str "told", .bl (leastB rs v)]) m := by
  have hL : LIM = 1000000 := rfl
  have l2 : 2 ≤ LIM := by decide
  have h5 := is_least_ok (n + k + 2) rs hg (by omega) v (sm_ok hv) m
  refine FF_cast (a := n + (k + 2) + 6) (by omega) (judged_of (W := true) (by omega : B ≤ LIM) n (k + 2) _ v (rowsD_sm hB5 hl) hv m _ fun F hF => ?_)
  have es := FF_cast (b := n + (k + 2) + 5) (by omega) (same_ok (n + k + 6) (.lst (rowsD rs)) (rowsD_ok rs) (by have := rowsD_nodes rs; omega) m)
  have es2 := FF_cast (b := n + (k + 2) + 5) (by omega) (same_ok (n + k + 6) v (sm_ok hv) hn m)
  have h5 := FF_cast (b := n + (k + 2) + 5) (by omega) h5
  rw [hF] at es es2 h5
  simp [h5, st__law_judged_3, es, es2, l2]
theorem judged_bad {W W2 : Bool} {B : Nat} (hB : B ≤ LIM) (n k : Nat) (d v : D) (h : sm W B k d = true) (hv : sm W2 B k v = true) (hl : lenOk d) (hr : rowsOk d = false) (m : List (List D)) :
    FF tab (n + k + 6) 43 [.val d, .val v] m = .ok (.fr [.str "raised", .str "BadValue", .tup [.str "rows"]]) m := by
  have h5 := is_least_bad (n + k) d v (sm_ok h) hl hr m
  refine judged_of hB n k d v h hv m _ fun F hF => ?_
  rw [hF] at h5
  have ht := hT_10 6 ⟨[.val d, .val v, .val v, .val d, .un, .un, .un], m⟩ (by simp) 4 rfl
  simp [h5, ht]
end K78

set_option Elab.async false
set_option linter.all false
set_option maxRecDepth 100000
set_option maxHeartbeats 4000000
/-! K78MP: the defs as one that calls them knows them -/
namespace K78
open PySem Pm
/-- deep enough -/
def Lv (F : Fns) : Prop := ∃ n, F = FF tab (n + 12)
section
variable {F : Fns} {ns : List Int} {m : List (List D)}
theorem Lv.next (h : Lv F) (hS : Strm ns m) (many : Int) (hm : 0 < many) (hm2 : many < 1073741824) : ∃ (d : Int) (m' : List (List D)), Strm ns m' ∧ 0 ≤ d ∧ d < many ∧ F 19 [.val (.hnd 0), .val (.int many)] m = .ok (.d (.int d)) m' := by
  obtain ⟨n, rfl⟩ := h
  exact nextS hS (n + 11) many hm hm2
theorem Lv.pick (h : Lv F) (hS : Strm ns m) (l : List D) (h0 : 0 < l.length) (hl : l.length ≤ 100) (P : D → Prop) (hP : ∀ d ∈ l, P d) : ∃ (d : D) (m' : List (List D)), Strm ns m' ∧ P d ∧ F 20 [.val (.hnd 0), .val (.lst l)] m = .ok (.d d) m' := by
  obtain ⟨n, rfl⟩ := h
  exact pickP hS (n + 10) l h0 hl P hP
theorem Lv.shuffled (h : Lv F) (hS : Strm ns m) (l : List D) (hl : l.length ≤ LIM) : ∃ (l' : List D) (m' : List (List D)), Strm ns m' ∧ l'.length = l.length ∧ (∀ d ∈ l', d ∈ l) ∧ F 22 [.val (.hnd 0), .val (.lst l)] m = .ok (.fr l') m' := by
  obtain ⟨n, rfl⟩ := h
  exact shuffledS hS (n + 10) l hl
theorem Lv.same (h : Lv F) (d : D) (hd : okD d = true) (hn : nodes d ≤ 900000) (m : List (List D)) : F 25 [.val d, .val d] m = .ok (.d (.bl true)) m := by
  obtain ⟨n, rfl⟩ := h
  exact same_ok (n + 11) d hd hn m
theorem Lv.spoilt (h : Lv F) (hS : Strm ns m) (B : Nat) (hB : 4 ≤ B) (hB2 : B ≤ 900000) (k : Nat) (hk : k ≤ 9) (d : D) (hd : sm false B k d = true) : ∃ (d' : D) (m' : List (List D)), Strm ns m' ∧ SpR B k (nodes d) d' ∧ F 29 [.val (.hnd 0), .val d] m = .ok (.d d') m' := by
  obtain ⟨n, rfl⟩ := h
  obtain ⟨d', m', h1, h2, h3⟩ := spoilt_ok ns B hB hB2 k (n + 9 - k) d hd m hS
  exact ⟨d', m', h1, h2, FF_cast (by omega) h3⟩
theorem Lv.sweep (h : Lv F) (rs : List Row) (hg : Good rs) (hl : rs.length + 1 < LIM) (m : List (List D)) : ∃ M, Least rs M ∧ F 32 [.val (.lst (rowsD rs)), .val (.lst [])] m = .ok (.fr (intsD M)) m := by
  obtain ⟨n, rfl⟩ := h
  obtain ⟨M, _, h2, h3⟩ := sweep_ok (n + 10) rs hg hl [] (fun k hk => by cases hk) m
  exact ⟨M, h2 rfl, h3⟩
theorem Lv.some_rows (h : Lv F) (hS : Strm ns m) : ∃ (rs : List Row) (m' : List (List D)), Strm ns m' ∧ Good rs ∧ rs.length ≤ 40 ∧ F 33 [.val (.hnd 0)] m = .ok (.fr (rowsD rs)) m' := by
  obtain ⟨n, rfl⟩ := h
  exact some_rows_ok (n + 9) m hS
theorem Lv.facing (h : Lv F) (hS : Strm ns m) : ∃ (rs : List Row) (m' : List (List D)), Strm ns m' ∧ Good rs ∧ rs.length ≤ 40 ∧ F 34 [.val (.hnd 0)] m = .ok (.fr (rowsD rs)) m' := by
  obtain ⟨n, rfl⟩ := h
  exact facing_ok (n + 10) m hS
theorem Lv.falling (h : Lv F) (hS : Strm ns m) : ∃ (rs : List Row) (m' : List (List D)), Strm ns m' ∧ Good rs ∧ rs.length ≤ 40 ∧ F 35 [.val (.hnd 0)] m = .ok (.fr (rowsD rs)) m' := by
  obtain ⟨n, rfl⟩ := h
  exact falling_ok (n + 10) m hS
theorem Lv.least (h : Lv F) (rs : List Row) (hg : Good rs) (hl : rs.length + 1 < LIM) (v : D) (hv : okD v = true) (m : List (List D)) : F 37 [.val (.lst (rowsD rs)), .val v] m = .ok (.d (.bl (leastB rs v))) m := by
  obtain ⟨n, rfl⟩ := h
  exact law_least_ok (n + 8) rs hg hl v hv m
theorem Lv.other_seq (h : Lv F) (hS : Strm ns m) (rs : List Row) (hg : Good rs) (hl : rs.length + 1 < LIM) : ∃ (ls : List Int) (sq : List Nat) (m' : List (List D)), Strm ns m' ∧ ls.length = rs.length ∧ sq.length ≤ rs.length ∧
    F 38 [.val (.hnd 0), .val (.lst (rowsD rs))] m = .ok (.d (.tup [.lst (intsD ls), .lst (natsD sq)])) m' := by
  obtain ⟨n, rfl⟩ := h
  exact other_seq_ok (n + 9) rs hg hl m hS
theorem Lv.other_fit (h : Lv F) (hS : Strm ns m) (rs : List Row) (hg : Good rs) (hl : rs.length + 1 < LIM) (ls : List Int) (hs : Shape rs ls) : ∃ (M : List Int) (m' : List (List D)), Strm ns m' ∧ Closed rs M ∧
    F 39 [.val (.hnd 0), .val (.lst (rowsD rs)), .val (.lst (intsD ls))] m = .ok (.fr (intsD M)) m' := by
  obtain ⟨n, rfl⟩ := h
  exact other_fit_ok (n + 9) rs hg hl ls hs m hS
theorem Lv.rows_ok (h : Lv F) (d : D) (hd : okD d = true) (hl : lenOk d) (m : List (List D)) : F 41 [.val d] m = .ok (.d (.bl (rowsOk d))) m := by
  obtain ⟨n, rfl⟩ := h
  exact rows_ok_ok (n + 9) d hd hl m
theorem Lv.told (h : Lv F) (rs : List Row) (hg : Good rs) (hl : rs.length ≤ 2000) (m : List (List D)) : ∃ L wt, Closed rs L ∧ runO (stepC rs) (natsD wt) (nears rs) = some L ∧ wt.length ≤ rs.length ∧ (∀ k ∈ wt, k < rs.length) ∧
    F 42 [.val (.lst (rowsD rs))] m = .ok (.fr [.str "told", .tup [.lst (intsD L), .lst (natsD wt)]]) m := by
  obtain ⟨n, rfl⟩ := h
  exact told_good (n + 4) rs hg hl m
theorem Lv.told_many (h : Lv F) (rs : List Row) (hg : Good rs) (h1 : 2000 < rs.length) (h2 : rs.length ≤ 3000) (m : List (List D)) : F 42 [.val (.lst (rowsD rs))] m = .ok (.fr [.str "raised", .str "TooMany", .tup [.str "rows"]]) m := by
  obtain ⟨n, rfl⟩ := h
  exact K78.told_many (n + 4) rs hg h1 h2 m
theorem Lv.told_bad (h : Lv F) {W : Bool} {B : Nat} (hB : B ≤ LIM) (k : Nat) (hk : k ≤ 6) (d : D) (hd : sm W B k d = true) (hl : lenOk d) (hr : rowsOk d = false) (m : List (List D)) : F 42 [.val d] m = .ok (.fr [.str "raised", .str "BadValue", .tup [.str "rows"]]) m := by
  obtain ⟨n, rfl⟩ := h
  exact FF_cast (by omega) (K78.told_bad hB (n + 6 - k) k d hd hl hr m)
theorem Lv.judged (h : Lv F) {W2 : Bool} {B : Nat} (hB5 : 5 ≤ B) (hB : B ≤ 100000) (rs : List Row) (hg : Good rs) (hl : rs.length ≤ B) (v : D) (hv : sm W2 B 5 v = true) (hn : nodes v ≤ 900000) (m : List (List D)) :
    F 43 [.val (.lst (rowsD rs)), .val v] m = .ok (.fr [.str "told", .bl (leastB rs v)]) m := by
  obtain ⟨n, rfl⟩ := h
  exact FF_cast (by omega) (judged_good hB5 hB (n + 1) 3 rs hg hl v hv hn m)
theorem Lv.judged_bad (h : Lv F) {W W2 : Bool} {B : Nat} (hB : B ≤ LIM) (k : Nat) (hk : k ≤ 6) (d v : D) (hd : sm W B k d = true) (hv : sm W2 B k v = true) (hl : lenOk d) (hr : rowsOk d = false) (m : List (List D)) :
    F 43 [.val d, .val v] m = .ok (.fr [.str "raised", .str "BadValue", .tup [.str "rows"]]) m := by
  obtain ⟨n, rfl⟩ := h
  exact FF_cast (by omega) (K78.judged_bad hB (n + 6 - k) k d v hd hv hl hr m)
end
end K78

set_option Elab.async false
set_option linter.all false
set_option maxRecDepth 100000
set_option maxHeartbeats 4000000
/-! K78MQ: _law_answers -/
namespace K78
open PySem Pm
def allI (l : List D) : Prop := ∀ d ∈ l, ∃ i, d = D.int i
theorem allI_ints (l : List Int) : allI (intsD l) := fun d hd => by
  obtain ⟨i, _, rfl⟩ := List.mem_map.mp hd
  exact ⟨i, rfl⟩
theorem allI_nats (l : List Nat) : allI (natsD l) := fun d hd => by
  obtain ⟨i, _, rfl⟩ := List.mem_map.mp hd
  exact ⟨_, rfl⟩
theorem allI_sm {W : Bool} {B k : Nat} {l : List D} (h : allI l) (hl : l.length ≤ B) : sm W B (k + 1) (.lst l) = true := by
  refine sm_lst.mpr ⟨hl, fun d hd => ?_⟩
  obtain ⟨i, rfl⟩ := h d hd
  simp [sm]
theorem allI_nodes {l : List D} (h : allI l) : nodesL l ≤ l.length := by
  have := nodesL_le 1 l fun d hd => by
    obtain ⟨i, rfl⟩ := h d hd
    simp [nodes]
  omega
theorem pairV {W : Bool} {B : Nat} {a b : List D} (ha : allI a) (hb : allI b) (la : a.length ≤ B) (lb : b.length ≤ B) (hB : 2 ≤ B) : (sm W B 2 (.tup [.lst a, .lst b]) = true ∧ nodes (.tup [.lst a, .lst b]) ≤ 2 * B + 3) ∧ (sm W B 2 (.lst [.lst a, .lst b]) = true ∧ nodes (.lst [.lst a, .lst b]) ≤ 2 * B + 3) := by
  have h1 := allI_nodes ha
  have h2 := allI_nodes hb
  have h3 : ∀ d ∈ [D.lst a, .lst b], sm W B 1 d = true := fun d hd => by
    simp only [List.mem_cons, List.not_mem_nil, or_false] at hd
    rcases hd with rfl | rfl
    · exact allI_sm ha la
    · exact allI_sm hb lb
  refine ⟨⟨sm_tup.mpr ⟨by simpa using hB, h3⟩, by simp only [nodes, nodesL]; omega⟩, ⟨sm_lst.mpr ⟨by simpa using hB, h3⟩, by simp only [nodes, nodesL]; omega⟩⟩
/-- a value that the judges are asked about -/
def VV (v : D) : Prop := sm true 201 5 v = true ∧ nodes v ≤ 2000
theorem pairVV {a b : List D} (ha : allI a) (hb : allI b) (la : a.length ≤ 200) (lb : b.length ≤ 200) : VV (.tup [.lst a, .lst b]) ∧ VV (.lst [.lst a, .lst b]) := by
  have h := pairV (W := true) (B := 200) ha hb la lb (by omega)
  exact ⟨⟨sm_mono (fun h => h) (by omega) (by omega) h.1.1, by have := h.1.2; omega⟩, ⟨sm_mono (fun h => h) (by omega) (by omega) h.2.1, by have := h.2.2; omega⟩⟩
theorem spVV {N : Nat} {d : D} (h : SpR 200 2 N d) (hN : N ≤ 1000) : VV d := ⟨sm_mono (fun h => h) (by omega) (by omega) h.1, by have := h.2; omega⟩
theorem VV_ok {v : D} (h : VV v) : okD v = true := sm_ok h.1
section
variable {F : Fns} {ns : List Int} {m : List (List D)}
/-- frames of _law_answers -/
def frW (rs : List Row) (a2 a3 a4 a5 a6 a7 a8 a9 a10 : Sl) (m : List (List D)) : S := ⟨[.val (.hnd 0), .val (.lst (rowsD rs)), a2, a3, a4, a5, a6, a7, a8, a9, a10, .un, .un], m⟩
theorem ans2 (rs : List Row) (L : List Int) (T : D) (wt : List Nat) (hT : T = .tup [.lst (intsD L), .lst (natsD wt)]) (e37 : F 37 [.val (.lst (rowsD rs)), .val T] m = .ok (.d (.bl true)) m) (e25 : F 25 [.val (.lst (intsD L)), .val (.lst (intsD L))] m = .ok (.d (.bl true)) m) :
    st__law_answers_2 F (frW rs (.val (.lst [.str "told", T])) (.val (.lst (intsD L))) .un .un .un .un .un .un .un m) = .ok .nx (frW rs (.val (.lst [.str "told", T])) (.val (.lst (intsD L))) .un .un .un .un .un .un .un m) := by
  subst hT
  simp [st__law_answers_2, frW, e37, e25]
theorem ans4 (rs : List Row) (hl : rs.length + 1 < LIM) (a2 a3 a4 : Sl) : st__law_answers_4 F (frW rs a2 a3 a4 .un .un .un .un .un .un m) = .ok .nx (frW rs a2 a3 a4 (.val (.lst (natsD ((List.range rs.length).filter (isJ rs))))) .un .un .un .un .un m) := by
  have hL : LIM = 1000000 := rfl
  have h8 : (rs.length : Int) ≤ 100000000 := by omega
  have ec := compR_ok (own := [11]) (tg := .name 11) (c := lc__law_answers_0 F) (e := le__law_answers_0 F) (s := frW rs a2 a3 a4 .un .un .un .un .un .un m) rs.length (isJ rs) (fun k => .int (k : Nat)) (fun k hk => by
    obtain ⟨r, hr⟩ : ∃ r, rs[k]? = some r := ⟨_, List.getElem?_eq_getElem hk⟩
    have er : atD (rowsD rs) (k : Int) = some (encR r) := by rw [rowsD_at, hr]; rfl
    refine ⟨⟨[.val (.hnd 0), .val (.lst (rowsD rs)), a2, a3, a4, .un, .un, .un, .un, .un, .un, .val (.int k), .un], m⟩, rfl, ?_, rfl, fun _ => ⟨.d (.int k), by simp [le__law_answers_0], rfl⟩⟩
    unfold isJ
    rw [hr]
    cases r <;> simp only [encR] at er <;> simp [lc__law_answers_0, er]) (by omega)
  simp only [lc__law_answers_0, le__law_answers_0, frW] at ec
  simp [st__law_answers_4, frW, h8, ec]
  rfl
theorem ans6 (rs : List Row) (T : D) (L ls : List Int) (sq : List Nat) (sh : List D) (m' : List (List D)) (a5 a6 : Sl) (hsq : sq.length ≤ 100) (e22 : F 22 [.val (.hnd 0), .val (.lst (natsD sq))] m = .ok (.fr sh) m') :
    st__law_answers_6 F (frW rs (.val (.lst [.str "told", T])) (.val (.lst (intsD L))) (.val (.tup [.lst (intsD ls), .lst (natsD sq)])) a5 a6 .un .un .un .un m) =
      .ok .nx (frW rs (.val (.lst [.str "told", T])) (.val (.lst (intsD L))) (.val (.tup [.lst (intsD ls), .lst (natsD sq)])) a5 a6 (.val (.lst [T, .tup [.lst (intsD ls), .lst (natsD sq)], .tup [.lst (intsD ls), .lst sh], .tup [.lst (intsD L), .lst (cutD (natsD sq) none (some (-1)))], .tup [.lst (intsD ls), .lst (natsD sq ++ cutD (natsD sq) none (some 1))]])) .un .un .un m') := by
  have hL : LIM = 1000000 := rfl
  have l2 : 2 ≤ LIM := by decide
  have l5 : 5 ≤ LIM := by decide
  have hc := (cut_sub (natsD sq) none (some 1)).length_le
  have h1 : (natsD sq).length + (cutD (natsD sq) none (some 1)).length ≤ LIM := by
    rw [natsD_len] at hc ⊢
    omega
  have e9 : opAdd ⟨[.val (.hnd 0), .val (.lst (rowsD rs)), .val (.lst [.str "told", T]), .val (.lst (intsD L)), .val (.tup [.lst (intsD ls), .lst (natsD sq)]), a5, a6, .un, .un, .un, .un, .un, .un], m'⟩ (.d (.lst (natsD sq))) (.fr (cutD (natsD sq) none (some 1))) = some (.fr (natsD sq ++ cutD (natsD sq) none (some 1))) := by
    rw [opAdd_lf, if_pos h1]
  simp [st__law_answers_6, frW, e22, l2, l5, e9, -opAdd_lf]
def farF (d : D) : D := match d with
  | .tup [_, .int s] => .int s
  | .tup [_, _, _, _, .int f] => .int f
  | _ => .non
def nearF (d : D) : D := match d with
  | .tup [_, .int s] => .int s
  | _ => .int 1
theorem ans7 (rs : List Row) (hl : rs.length + 1 < LIM) (a2 a3 a4 a5 a6 a7 : Sl) : st__law_answers_7 F (frW rs a2 a3 a4 a5 a6 a7 .un .un .un m) = .ok .nx (frW rs a2 a3 a4 a5 a6 a7 (.val (.lst ((rowsD rs).map farF))) .un .un m) := by
  have ec := compL_map (own := [12]) (tg := .name 12) (e := le__law_answers_1 F) (s := frW rs a2 a3 a4 a5 a6 a7 .un .un .un m) farF (rowsD rs) (fun x hx => by
    obtain ⟨r, _, rfl⟩ := List.mem_map.mp hx
    refine ⟨⟨[.val (.hnd 0), .val (.lst (rowsD rs)), a2, a3, a4, a5, a6, a7, .un, .un, .un, .un, .val (encR r)], m⟩, rfl, rfl, ?_⟩
    cases r <;> simp [le__law_answers_1, encR, farF]) (by simp; omega)
  simp only [le__law_answers_1, frW] at ec
  simp [st__law_answers_7, frW, ec, -List.map_map]
theorem ans8 (rs : List Row) (hl : rs.length + 1 < LIM) (a2 a3 a4 a5 a6 a7 a8 : Sl) : st__law_answers_8 F (frW rs a2 a3 a4 a5 a6 a7 a8 .un .un m) = .ok .nx (frW rs a2 a3 a4 a5 a6 a7 a8 (.val (.lst ((rowsD rs).map nearF))) .un m) := by
  have ec := compL_map (own := [12]) (tg := .name 12) (e := le__law_answers_2 F) (s := frW rs a2 a3 a4 a5 a6 a7 a8 .un .un m) nearF (rowsD rs) (fun x hx => by
    obtain ⟨r, _, rfl⟩ := List.mem_map.mp hx
    refine ⟨⟨[.val (.hnd 0), .val (.lst (rowsD rs)), a2, a3, a4, a5, a6, a7, a8, .un, .un, .un, .val (encR r)], m⟩, rfl, rfl, ?_⟩
    cases r <;> simp [le__law_answers_2, encR, nearF]) (by simp; omega)
  simp only [le__law_answers_2, frW] at ec
  simp [st__law_answers_8, frW, ec, -List.map_map]
theorem allI_far (rs : List Row) : allI ((rowsD rs).map farF) := fun d hd => by
  obtain ⟨x, hx, rfl⟩ := List.mem_map.mp hd
  obtain ⟨r, _, rfl⟩ := List.mem_map.mp hx
  cases r with
  | size s => exact ⟨s, rfl⟩
  | jump g b a f => exact ⟨f, rfl⟩
theorem allI_near (rs : List Row) : allI ((rowsD rs).map nearF) := fun d hd => by
  obtain ⟨x, hx, rfl⟩ := List.mem_map.mp hd
  obtain ⟨r, _, rfl⟩ := List.mem_map.mp hx
  cases r with
  | size s => exact ⟨s, rfl⟩
  | jump g b a f => exact ⟨1, rfl⟩
theorem ans9 (rs : List Row) (M : List Int) (jl : List Nat) (hjl : ∀ k ∈ jl, k < M.length) (hj2 : jl.length ≤ 100) (AF AN V5 : List D) (hV : V5.length = 5) (O0 O1 : List D) (a2 a3 : Sl) : ∃ X : List D, allI X ∧ X.length ≤ jl.length ∧
    st__law_answers_9 F (frW rs a2 a3 (.val (.tup [.lst O0, .lst O1])) (.val (.lst (natsD jl))) (.val (.lst (intsD M))) (.val (.lst V5)) (.val (.lst AF)) (.val (.lst AN)) .un m) =
      .ok .nx (frW rs a2 a3 (.val (.tup [.lst O0, .lst O1])) (.val (.lst (natsD jl))) (.val (.lst (intsD M))) (.val (.lst (V5 ++ [.tup [.lst (intsD M), .lst X], .tup [.lst (intsD M), .lst O1], .tup [.lst AF, .lst (natsD jl)], .tup [.lst AN, .lst []]]))) (.val (.lst AF)) (.val (.lst AN)) .un m) := by
  have hL : LIM = 1000000 := rfl
  have l0 : 0 ≤ LIM := Nat.zero_le _
  have l2 : 2 ≤ LIM := by decide
  have l4 : 4 ≤ LIM := by decide
  have ec := compL_ok (own := [11]) (tg := .name 11) (s := frW rs a2 a3 (.val (.tup [.lst O0, .lst O1])) (.val (.lst (natsD jl))) (.val (.lst (intsD M))) (.val (.lst V5)) (.val (.lst AF)) (.val (.lst AN)) .un m) (c := lc__law_answers_3 F) (e := le__law_answers_3 F) (fun d => match d with
    | .int k => decide (1 < M.getD k.toNat 0)
    | _ => false) id (natsD jl) [] (fun x hx => by
    obtain ⟨k, hk, rfl⟩ := List.mem_map.mp hx
    have hkm := hjl k hk
    have ex : atD (intsD M) (k : Int) = some (.int (M.getD k 0)) := by
      rw [intsD_at, List.getElem?_eq_getElem hkm]
      simp [hkm]
    refine ⟨⟨[.val (.hnd 0), .val (.lst (rowsD rs)), a2, a3, .val (.tup [.lst O0, .lst O1]), .val (.lst (natsD jl)), .val (.lst (intsD M)), .val (.lst V5), .val (.lst AF), .val (.lst AN), .un, .val (.int k), .un], m⟩, rfl, ?_, rfl, fun _ => ⟨.d (.int k), by simp [le__law_answers_3], rfl⟩⟩
    simp only [Int.toNat_natCast]
    simp [lc__law_answers_3, ex]) (by rw [List.length_nil, natsD_len]; omega)
  rw [List.map_id, List.nil_append] at ec
  obtain ⟨X, hX⟩ : ∃ X, (natsD jl).filter (fun d => match d with
    | .int k => decide (1 < M.getD k.toNat 0)
    | _ => false) = X := ⟨_, rfl⟩
  rw [hX] at ec
  simp only [lc__law_answers_3, le__law_answers_3, frW] at ec
  refine ⟨X, fun d hd => ?_, ?_, ?_⟩
  · rw [← hX] at hd
    exact allI_nats jl d (List.mem_filter.mp hd).1
  · rw [← hX]
    have := List.length_filter_le (fun d => match d with
      | .int k => decide (1 < M.getD k.toNat 0)
      | _ => false) (natsD jl)
    rw [natsD_len] at this
    exact this
  · have h9 : V5.length + 4 ≤ LIM := by omega
    simp [st__law_answers_9, frW, ec, l0, l2, l4, h9]
theorem ans10 (rs : List Row) (T : D) (V9 : List D) (hV : V9.length = 9) (O0 O1 : List D) (a3 a5 a6 a8 a9 : Sl) (d1 d2 : D) (m1 m2 : List (List D)) (e1 : F 29 [.val (.hnd 0), .val (.tup [.lst O0, .lst O1])] m = .ok (.d d1) m1) (e2 : F 29 [.val (.hnd 0), .val T] m1 = .ok (.d d2) m2) :
    st__law_answers_10 F (frW rs (.val (.lst [.str "told", T])) a3 (.val (.tup [.lst O0, .lst O1])) a5 a6 (.val (.lst V9)) a8 a9 .un m) =
      .ok .nx (frW rs (.val (.lst [.str "told", T])) a3 (.val (.tup [.lst O0, .lst O1])) a5 a6 (.val (.lst (V9 ++ [d1, d2, .lst [.lst O0, .lst O1]]))) a8 a9 .un m2) := by
  have hL : LIM = 1000000 := rfl
  have l2 : 2 ≤ LIM := by decide
  have l3 : 3 ≤ LIM := by decide
  have h9 : V9.length + 3 ≤ LIM := by omega
  simp [st__law_answers_10, frW, e1, e2, l2, l3, h9]
end
end K78

set_option Elab.async false
set_option linter.all false
set_option maxRecDepth 100000
set_option maxHeartbeats 4000000
/-! K78MR: _law_answers, joined -/
namespace K78
open PySem Pm
theorem told_nodes (b : Bool) : okD (.lst [.str "told", .bl b]) = true ∧ nodes (.lst [.str "told", .bl b]) ≤ 900000 := by
  refine ⟨by simp [okD, okDs], by simp [nodes, nodesL]⟩
theorem ansB {F : Fns} (hF : Lv F) (rs : List Row) (hg : Good rs) (hl : rs.length ≤ 100) (v : D) (hv : VV v) (a2 a3 a4 a5 a6 a7 a8 a9 : Sl) (m : List (List D)) :
    lb__law_answers_4 F (frW rs a2 a3 a4 a5 a6 a7 a8 a9 (.val v) m) = .ok .nx (frW rs a2 a3 a4 a5 a6 a7 a8 a9 (.val v) m) := by
  have hL : LIM = 1000000 := rfl
  have l2 : 2 ≤ LIM := by decide
  have e43 := hF.judged (W2 := true) (B := 201) (by omega) (by omega) rs hg (by omega) v hv.1 (by have := hv.2; omega) m
  have e37 := hF.least rs hg (by omega) v (VV_ok hv) m
  have e25 := hF.same (.lst [.str "told", .bl (leastB rs v)]) (told_nodes _).1 (told_nodes _).2 m
  simp [lb__law_answers_4, frW, e43, e37, e25, l2]
def srcA (F : Fns) : Mi := iLst (mBin opAdd (mLst (aCons (mBin opIx (mVar 2) (mC (.int 1))) (aCons (mVar 4) (aNil)))) (mSl (mCall F 22 (aCons (mVar 0) (aCons (mVar 7) (aNil)))) (oNone) (oSome (mC (.int 6)))))
theorem an11 (F : Fns) : st__law_answers_11 F = sFor (.name 10) (srcA F) (lb__law_answers_4 F) := rfl
theorem ans11 {F : Fns} {ns : List Int} (hF : Lv F) (rs : List Row) (hg : Good rs) (hl : rs.length ≤ 100) (T O : D) (V : List D) (hT : VV T) (hO : VV O) (hV : ∀ v ∈ V, VV v) (hVl : V.length ≤ 100) (a3 a5 a6 a8 a9 : Sl) (m : List (List D)) (hS : Strm ns m) : ∃ (a10 : Sl) (m' : List (List D)), Strm ns m' ∧
    st__law_answers_11 F (frW rs (.val (.lst [.str "told", T])) a3 (.val O) a5 a6 (.val (.lst V)) a8 a9 .un m) = .ok .nx (frW rs (.val (.lst [.str "told", T])) a3 (.val O) a5 a6 (.val (.lst V)) a8 a9 a10 m') := by
  have hL : LIM = 1000000 := rfl
  have l2 : 2 ≤ LIM := by decide
  obtain ⟨sh, m', hS', h1, h2, h3⟩ := hF.shuffled hS V (by omega)
  have hc := cut_sub sh none (some 6)
  have hcl := hc.length_le
  have hlen : (cutD sh none (some 6)).length + 2 ≤ LIM := by omega
  have e : srcA F (frW rs (.val (.lst [.str "told", T])) a3 (.val O) a5 a6 (.val (.lst V)) a8 a9 .un m) = .ok ([T, O] ++ cutD sh none (some 6)) (frW rs (.val (.lst [.str "told", T])) a3 (.val O) a5 a6 (.val (.lst V)) a8 a9 .un m') := by
    have hlen2 : 2 + (cutD sh none (some 6)).length ≤ LIM := by omega
    simp [srcA, frW, l2, h3, hlen, hlen2]
  obtain ⟨s', g1, a10, rfl⟩ := forL_ok (tg := .name 10) (b := lb__law_answers_4 F) (fun j s => ∃ a10, s = frW rs (.val (.lst [.str "told", T])) a3 (.val O) a5 a6 (.val (.lst V)) a8 a9 a10 m') ([T, O] ++ cutD sh none (some 6)) 0 (frW rs (.val (.lst [.str "told", T])) a3 (.val O) a5 a6 (.val (.lst V)) a8 a9 .un m') ⟨.un, rfl⟩ (fun j d s hd hI => by
    obtain ⟨a10, rfl⟩ := hI
    have hvd : VV d := by
      have hm := List.mem_of_getElem? hd
      rcases List.mem_append.mp hm with hm | hm
      · simp only [List.mem_cons, List.not_mem_nil, or_false] at hm
        rcases hm with rfl | rfl
        · exact hT
        · exact hO
      · exact hV d (h2 d (hc.subset hm))
    exact ⟨_, _, .nx, rfl, ansB hF rs hg hl d hvd _ a3 _ a5 a6 _ a8 a9 m', .inl rfl, .val d, rfl⟩)
  refine ⟨a10, m', hS', ?_⟩
  rw [an11, sFor_ap, e, Ou.bind_ok]
  exact g1
theorem ans12 (F : Fns) (rs : List Row) (hl : rs.length + 1 < LIM) (L M : List Int) (hL1 : L.length = rs.length) (hM1 : M.length = rs.length) (hle : Le L M) (W2 : D) (a3 a4 a5 a7 a8 a9 a10 : Sl) (m : List (List D)) :
    retOf (st__law_answers_12 F (frW rs (.val (.lst [.str "told", .tup [.lst (intsD L), W2]])) a3 a4 a5 (.val (.lst (intsD M))) a7 a8 a9 a10 m)) = .ok (.d (.bl true)) m := by
  have hL : LIM = 1000000 := rfl
  have h8 : (rs.length : Int) ≤ 100000000 := by omega
  have ec := compR_ok (own := [11]) (tg := .name 11) (c := lc__law_answers_5 F) (e := le__law_answers_5 F) (s := frW rs (.val (.lst [.str "told", .tup [.lst (intsD L), W2]])) a3 a4 a5 (.val (.lst (intsD M))) a7 a8 a9 a10 m) rs.length (fun _ => false) (fun k => .int (k : Nat)) (fun k hk => by
    have e1 : atD (intsD L) (k : Int) = some (.int (L.getD k 0)) := by
      rw [intsD_at, List.getElem?_eq_getElem (by omega)]
      simp [hL1, hk]
    have e2 : atD (intsD M) (k : Int) = some (.int (M.getD k 0)) := by
      rw [intsD_at, List.getElem?_eq_getElem (by omega)]
      simp [hM1, hk]
    have h := hle k
    obtain ⟨x, hx⟩ : ∃ x, L.getD k 0 = x := ⟨_, rfl⟩
    obtain ⟨y, hy⟩ : ∃ y, M.getD k 0 = y := ⟨_, rfl⟩
    rw [hx] at e1 h
    rw [hy] at e2 h
    have hn : ¬ y < x := by omega
    refine ⟨⟨[.val (.hnd 0), .val (.lst (rowsD rs)), .val (.lst [.str "told", .tup [.lst (intsD L), W2]]), a3, a4, a5, .val (.lst (intsD M)), a7, a8, a9, a10, .val (.int k), .un], m⟩, rfl, ?_, rfl, fun z => by cases z⟩
    simp [lc__law_answers_5, e1, e2, hn]) (by omega)
  have ef : (List.range rs.length).filter (fun _ => false) = [] := List.filter_eq_nil_iff.mpr fun _ _ => by simp
  rw [ef] at ec
  simp only [lc__law_answers_5, le__law_answers_5, frW, List.map_nil] at ec
  simp [st__law_answers_12, frW, h8, ec]
theorem answers_ok {F : Fns} {ns : List Int} (hF : Lv F) (rs : List Row) (hg : Good rs) (hl : rs.length ≤ 100) (m : List (List D)) (hS : Strm ns m) : ∃ m', Strm ns m' ∧
    retOf (b__law_answers F ⟨[.val (.hnd 0), .val (.lst (rowsD rs)), .un, .un, .un, .un, .un, .un, .un, .un, .un, .un, .un], m⟩) = .ok (.d (.bl true)) m' := by
  have hLM : LIM = 1000000 := rfl
  have l0 : 0 ≤ LIM := Nat.zero_le _
  obtain ⟨L, wt, hc, hr, hwl, hwm, e42⟩ := hF.told rs hg (by omega) m
  have hLeast : Least rs L := ⟨hc, _, hr⟩
  obtain ⟨L2, hL2, e32⟩ := hF.sweep rs hg (by omega) m
  have hLL : L2 = L := least_unique hg hL2 hLeast
  subst hLL
  have hlenL : L2.length = rs.length := hc.1.1
  have hTV := (pairVV (allI_ints L2) (allI_nats wt) (by simp; omega) (by simp; omega)).1
  have hTV2 := (pairV (W := false) (B := 200) (allI_ints L2) (allI_nats wt) (by simp; omega) (by simp; omega) (by omega)).1
  obtain ⟨T, hT⟩ : ∃ T, D.tup [.lst (intsD L2), .lst (natsD wt)] = T := ⟨_, rfl⟩
  have hlB := least_B hg hc hr
  rw [hT] at e42 hTV hTV2 hlB
  have e37 := hF.least rs hg (by omega) T (VV_ok hTV) m
  rw [hlB] at e37
  have hLn := allI_nodes (allI_ints L2)
  have e25 := hF.same (.lst (intsD L2)) (sm_ok (allI_sm (W := true) (B := 200) (k := 0) (allI_ints L2) (by simp; omega))) (by simp only [nodes]; simp at hLn; omega) m
  have s0 : st__law_answers_0 F (frW rs .un .un .un .un .un .un .un .un .un m) = .ok .nx (frW rs (.val (.lst [.str "told", T])) .un .un .un .un .un .un .un .un m) := by
    simp [st__law_answers_0, frW, e42]
  have s1 : st__law_answers_1 F (frW rs (.val (.lst [.str "told", T])) .un .un .un .un .un .un .un .un m) = .ok .nx (frW rs (.val (.lst [.str "told", T])) (.val (.lst (intsD L2))) .un .un .un .un .un .un .un m) := by
    simp [st__law_answers_1, frW, l0, e32]
  have s2 := ans2 (F := F) rs L2 T wt hT.symm e37 e25
  obtain ⟨ls, sq, m3, hS3, hls, hsq, e38⟩ := hF.other_seq hS rs hg (by omega)
  obtain ⟨O, hO⟩ : ∃ O, D.tup [.lst (intsD ls), .lst (natsD sq)] = O := ⟨_, rfl⟩
  have s3 : st__law_answers_3 F (frW rs (.val (.lst [.str "told", T])) (.val (.lst (intsD L2))) .un .un .un .un .un .un .un m) = .ok .nx (frW rs (.val (.lst [.str "told", T])) (.val (.lst (intsD L2))) (.val O) .un .un .un .un .un .un m3) := by
    rw [hO] at e38
    simp [st__law_answers_3, frW, e38]
  have s4 := ans4 (F := F) (m := m3) rs (by omega) (.val (.lst [.str "told", T])) (.val (.lst (intsD L2))) (.val O)
  obtain ⟨jl, hjl⟩ : ∃ jl, (List.range rs.length).filter (isJ rs) = jl := ⟨_, rfl⟩
  have hjm : ∀ k ∈ jl, k < rs.length := fun k hk => by
    rw [← hjl] at hk
    exact List.mem_range.mp (List.mem_filter.mp hk).1
  have hjlen : jl.length ≤ rs.length := by
    rw [← hjl]
    have := List.length_filter_le (isJ rs) (List.range rs.length)
    rw [List.length_range] at this
    exact this
  rw [hjl] at s4
  obtain ⟨M, m5, hS5, hcM, e39⟩ := hF.other_fit hS3 rs hg (by omega) L2 hc.1
  have hlenM : M.length = rs.length := hcM.1.1
  have s5 : st__law_answers_5 F (frW rs (.val (.lst [.str "told", T])) (.val (.lst (intsD L2))) (.val O) (.val (.lst (natsD jl))) .un .un .un .un .un m3) = .ok .nx (frW rs (.val (.lst [.str "told", T])) (.val (.lst (intsD L2))) (.val O) (.val (.lst (natsD jl))) (.val (.lst (intsD M))) .un .un .un .un m5) := by
    simp [st__law_answers_5, frW, e39]
  obtain ⟨sh, m6, hS6, hsh1, hsh2, e22⟩ := hF.shuffled hS5 (natsD sq) (by simp; omega)
  have s6 := ans6 (F := F) rs T L2 ls sq sh m6 (.val (.lst (natsD jl))) (.val (.lst (intsD M))) (by omega) e22
  rw [hO] at s6
  have s7 := ans7 (F := F) (m := m6) rs (by omega) (.val (.lst [.str "told", T])) (.val (.lst (intsD L2))) (.val O) (.val (.lst (natsD jl))) (.val (.lst (intsD M))) (.val (.lst [T, O, .tup [.lst (intsD ls), .lst sh], .tup [.lst (intsD L2), .lst (cutD (natsD sq) none (some (-1)))], .tup [.lst (intsD ls), .lst (natsD sq ++ cutD (natsD sq) none (some 1))]]))
  have s8 := ans8 (F := F) (m := m6) rs (by omega) (.val (.lst [.str "told", T])) (.val (.lst (intsD L2))) (.val O) (.val (.lst (natsD jl))) (.val (.lst (intsD M))) (.val (.lst [T, O, .tup [.lst (intsD ls), .lst sh], .tup [.lst (intsD L2), .lst (cutD (natsD sq) none (some (-1)))], .tup [.lst (intsD ls), .lst (natsD sq ++ cutD (natsD sq) none (some 1))]])) (.val (.lst ((rowsD rs).map farF)))
  have aS : allI sh := fun d hd => allI_nats sq d (hsh2 d hd)
  have c1 := cut_sub (natsD sq) none (some (-1))
  have c2 := cut_sub (natsD sq) none (some 1)
  have c1l := c1.length_le
  have c2l := c2.length_le
  rw [natsD_len] at c1l c2l hsh1
  have aC1 : allI (cutD (natsD sq) none (some (-1))) := fun d hd => allI_nats sq d (c1.subset hd)
  have aC2 : allI (natsD sq ++ cutD (natsD sq) none (some 1)) := fun d hd => by
    rcases List.mem_append.mp hd with hd | hd
    · exact allI_nats sq d hd
    · exact allI_nats sq d (c2.subset hd)
  have hOV : VV O := by rw [← hO]; exact (pairVV (allI_ints ls) (allI_nats sq) (by simp; omega) (by simp; omega)).1
  have hOV2 := (pairV (W := false) (B := 200) (allI_ints ls) (allI_nats sq) (by simp; omega) (by simp; omega) (by omega)).1
  rw [hO] at hOV2
  have hV5 : ∀ v ∈ [T, O, D.tup [.lst (intsD ls), .lst sh], .tup [.lst (intsD L2), .lst (cutD (natsD sq) none (some (-1)))], .tup [.lst (intsD ls), .lst (natsD sq ++ cutD (natsD sq) none (some 1))]], VV v := fun v hv => by
    simp only [List.mem_cons, List.not_mem_nil, or_false] at hv
    rcases hv with rfl | rfl | rfl | rfl | rfl
    · exact hTV
    · exact hOV
    · exact (pairVV (allI_ints ls) aS (by simp; omega) (by omega)).1
    · exact (pairVV (allI_ints L2) aC1 (by simp; omega) (by omega)).1
    · exact (pairVV (allI_ints ls) aC2 (by simp; omega) (by simp; omega)).1
  obtain ⟨V5, hV5e⟩ : ∃ V5, [T, O, D.tup [.lst (intsD ls), .lst sh], .tup [.lst (intsD L2), .lst (cutD (natsD sq) none (some (-1)))], .tup [.lst (intsD ls), .lst (natsD sq ++ cutD (natsD sq) none (some 1))]] = V5 := ⟨_, rfl⟩
  have hV5l : V5.length = 5 := by rw [← hV5e]; rfl
  rw [hV5e] at s6 s7 s8 hV5
  obtain ⟨X, aX, hXl, s9⟩ := ans9 (F := F) (m := m6) rs M jl (fun k hk => by rw [hlenM]; exact hjm k hk) (by omega) ((rowsD rs).map farF) ((rowsD rs).map nearF) V5 hV5l (intsD ls) (natsD sq) (.val (.lst [.str "told", T])) (.val (.lst (intsD L2)))
  rw [hO] at s9
  have hV9 : ∀ v ∈ V5 ++ [D.tup [.lst (intsD M), .lst X], .tup [.lst (intsD M), .lst (natsD sq)], .tup [.lst ((rowsD rs).map farF), .lst (natsD jl)], .tup [.lst ((rowsD rs).map nearF), .lst []]], VV v := fun v hv => by
    rcases List.mem_append.mp hv with hv | hv
    · exact hV5 v hv
    · simp only [List.mem_cons, List.not_mem_nil, or_false] at hv
      rcases hv with rfl | rfl | rfl | rfl
      · exact (pairVV (allI_ints M) aX (by simp; omega) (by omega)).1
      · exact (pairVV (allI_ints M) (allI_nats sq) (by simp; omega) (by simp; omega)).1
      · exact (pairVV (allI_far rs) (allI_nats jl) (by simp; omega) (by simp; omega)).1
      · exact (pairVV (allI_near rs) (fun d hd => by cases hd) (by simp; omega) (by simp)).1
  obtain ⟨V9, hV9e⟩ : ∃ V9, V5 ++ [D.tup [.lst (intsD M), .lst X], .tup [.lst (intsD M), .lst (natsD sq)], .tup [.lst ((rowsD rs).map farF), .lst (natsD jl)], .tup [.lst ((rowsD rs).map nearF), .lst []]] = V9 := ⟨_, rfl⟩
  have hV9l : V9.length = 9 := by rw [← hV9e, List.length_append, hV5l]; rfl
  rw [hV9e] at s9 hV9
  obtain ⟨d1, m7, hS7, hd1, e29⟩ := hF.spoilt hS6 200 (by omega) (by omega) 2 (by omega) O hOV2.1
  obtain ⟨d2, m8, hS8, hd2, e29b⟩ := hF.spoilt hS7 200 (by omega) (by omega) 2 (by omega) T hTV2.1
  have s10 := ans10 (F := F) (m := m6) rs T V9 hV9l (intsD ls) (natsD sq) (.val (.lst (intsD L2))) (.val (.lst (natsD jl))) (.val (.lst (intsD M))) (.val (.lst ((rowsD rs).map farF))) (.val (.lst ((rowsD rs).map nearF))) d1 d2 m7 m8 (by rw [hO]; exact e29) e29b
  rw [hO] at s10
  have hV12 : ∀ v ∈ V9 ++ [d1, d2, D.lst [.lst (intsD ls), .lst (natsD sq)]], VV v := fun v hv => by
    rcases List.mem_append.mp hv with hv | hv
    · exact hV9 v hv
    · simp only [List.mem_cons, List.not_mem_nil, or_false] at hv
      rcases hv with rfl | rfl | rfl
      · exact spVV hd1 (by have := hOV2.2; omega)
      · exact spVV hd2 (by have := hTV2.2; omega)
      · exact (pairVV (allI_ints ls) (allI_nats sq) (by simp; omega) (by simp; omega)).2
  obtain ⟨a10, m9, hS9, s11⟩ := ans11 hF rs hg hl T O (V9 ++ [d1, d2, D.lst [.lst (intsD ls), .lst (natsD sq)]]) hTV hOV hV12 (by rw [List.length_append, hV9l]; simp) (.val (.lst (intsD L2))) (.val (.lst (natsD jl))) (.val (.lst (intsD M))) (.val (.lst ((rowsD rs).map farF))) (.val (.lst ((rowsD rs).map nearF))) m8 hS8
  have s12 := ans12 F rs (by omega) L2 M hlenL hlenM (least_le hg hLeast hcM) (.lst (natsD wt)) (.val (.lst (intsD L2))) (.val O) (.val (.lst (natsD jl))) (.val (.lst (V9 ++ [d1, d2, D.lst [.lst (intsD ls), .lst (natsD sq)]]))) (.val (.lst ((rowsD rs).map farF))) (.val (.lst ((rowsD rs).map nearF))) a10 m9
  rw [hT] at s12
  refine ⟨m9, hS9, ?_⟩
  show retOf (b__law_answers F (frW rs .un .un .un .un .un .un .un .un .un m)) = _
  rw [st__law_answers, sSeq_ap, s0]
  dsimp only [Ou.bind_ok]
  rw [sSeq_ap, s1]
  dsimp only [Ou.bind_ok]
  rw [sSeq_ap, s2]
  dsimp only [Ou.bind_ok]
  rw [sSeq_ap, s3]
  dsimp only [Ou.bind_ok]
  rw [sSeq_ap, s4]
  dsimp only [Ou.bind_ok]
  rw [sSeq_ap, s5]
  dsimp only [Ou.bind_ok]
  rw [sSeq_ap, s6]
  dsimp only [Ou.bind_ok]
  rw [sSeq_ap, s7]
  dsimp only [Ou.bind_ok]
  rw [sSeq_ap, s8]
  dsimp only [Ou.bind_ok]
  rw [sSeq_ap, s9]
  dsimp only [Ou.bind_ok]
  rw [sSeq_ap, s10]
  dsimp only [Ou.bind_ok]
  rw [sSeq_ap, s11]
  dsimp only [Ou.bind_ok]
  exact s12
end K78

set_option Elab.async false
set_option linter.all false
set_option maxRecDepth 100000
set_option maxHeartbeats 4000000
/-! K78MS: the falling chain; no program here -/
namespace K78
open PySem Pm
/-- the rows: so many jumps over the next one, a size z, sizes of 1 -/
def chR (many : Nat) (z : Int) (q : Nat) : List Row := fallR many 2 (.size z :: .size 1 :: List.replicate q (.size 1))
def tlI (z : Int) (q : Nat) : List Int := z :: 1 :: List.replicate q 1
/-- the lengths behind j steps -/
def lsJ (many : Nat) (z : Int) (q j : Nat) : List Int := (List.range many).map (fun k => if many ≤ k + j then (2 : Int) else 1) ++ tlI z q
def seqJ (many j : Nat) : List D := (List.range (many - j)).map fun (i : Nat) => D.int ((many : Int) - 1 - j - i)
variable {many : Nat} {z : Int} {q j : Nat}
theorem chR_len : (chR many z q).length = many + (q + 2) := by simp [chR, fallR_len]
theorem chR_good (h1 : 0 ≤ z) (h2 : z ≤ 1000) : Good (chR many z q) := fallR_good (by omega) (by omega) (by simp) fun r hr => by
  simp only [List.mem_cons] at hr
  rcases hr with rfl | rfl | hr
  · exact ⟨z, rfl, h1, h2⟩
  · exact ⟨1, rfl, by omega, by omega⟩
  · obtain ⟨_, rfl⟩ := List.mem_replicate.mp hr
    exact ⟨1, rfl, by omega, by omega⟩
theorem chR_at {k : Nat} (h : k < many) : (chR many z q)[k]? = some (.jump ((k : Int) + 2) 0 2 2) := by
  unfold chR fallR
  rw [List.getElem?_append_left (by simpa using h), List.getElem?_map, List.getElem?_range h]
  rfl
theorem chR_tl {k : Nat} (h : many ≤ k) : ∀ g b a f, (chR many z q)[k]? ≠ some (.jump g b a f) := by
  intro g b a f e
  unfold chR fallR at e
  rw [List.getElem?_append_right (by simpa using h)] at e
  have := List.mem_of_getElem? e
  simp only [List.mem_cons] at this
  rcases this with h | h | h
  · cases h
  · cases h
  · obtain ⟨_, h⟩ := List.mem_replicate.mp h
    cases h
theorem lsJ_at {k : Nat} (h : k < many) : (lsJ many z q j)[k]? = some (if many ≤ k + j then 2 else 1) := by
  unfold lsJ
  rw [List.getElem?_append_left (by simpa using h), List.getElem?_map, List.getElem?_range h]
  rfl
theorem lsJ_tl {k : Nat} (h : many ≤ k) : (lsJ many z q j)[k]? = (tlI z q)[k - many]? := by
  unfold lsJ
  rw [List.getElem?_append_right (by simpa using h)]
  simp
theorem lsJ_len : (lsJ many z q j).length = many + (q + 2) := by simp [lsJ, tlI]
theorem lsJ_0 : lsJ many z q 0 = nears (chR many z q) := by
  unfold lsJ nears chR fallR
  rw [List.map_append, List.map_map]
  congr 1
  · refine List.map_congr_left fun k hk => ?_
    have := List.mem_range.mp hk
    rw [if_neg (by omega)]
    rfl
  · simp [tlI, Row.near]
theorem way_2 (ls : List Int) (k : Nat) : way ls k ((k : Int) + 2) = ls.getD k 0 + ls.getD (k + 1) 0 := by
  rw [way_S, show ((k : Int) + 2).toNat = k + 1 + 1 by omega, Sm_succ, Sm_succ]
  omega
/-- which jump is bad -/
theorem top_J : (lsJ many z q j).getD many 0 = z := getD_some (by rw [lsJ_tl (Nat.le_refl _), Nat.sub_self]; rfl)
theorem bad_J (hz : 1 ≤ z) (k : Nat) : badAt (chR many z q) (lsJ many z q j) k = decide (k < many ∧ ¬ many ≤ k + j ∧ 1 < (lsJ many z q j).getD (k + 1) 0) := by
  by_cases hk : k < many
  · have hr := chR_at (z := z) (q := q) hk
    have hx := lsJ_at (z := z) (q := q) (j := j) hk
    rw [badAt_eq hr hx]
    unfold badRow reachB
    dsimp only
    rw [way_2, getD_some hx]
    by_cases h2 : many ≤ k + j
    · rw [if_pos h2]
      symm
      rw [decide_eq_false (by omega)]
      rfl
    · rw [if_neg h2]
      by_cases h3 : 1 < (lsJ many z q j).getD (k + 1) 0
      · rw [decide_eq_true (show k < many ∧ ¬ many ≤ k + j ∧ 1 < (lsJ many z q j).getD (k + 1) 0 from ⟨hk, h2, h3⟩)]
        have : decide (1 + (lsJ many z q j).getD (k + 1) 0 ≤ 2) = false := decide_eq_false (by omega)
        rw [this, Bool.and_false]
        rfl
      · rw [decide_eq_false (show ¬ (k < many ∧ ¬ many ≤ k + j ∧ 1 < (lsJ many z q j).getD (k + 1) 0) from fun h => h3 h.2.2)]
        have h0 : 0 ≤ (lsJ many z q j).getD (k + 1) 0 ∨ (lsJ many z q j).getD (k + 1) 0 < 0 := by omega
        have hn : -1 ≤ (lsJ many z q j).getD (k + 1) 0 := by
          by_cases h4 : k + 1 < many
          · rw [getD_some (lsJ_at h4)]
            split <;> omega
          · rw [show k + 1 = many by omega, top_J]
            omega
        rw [decide_eq_true (by omega : -0 ≤ 1 + (lsJ many z q j).getD (k + 1) 0), decide_eq_true (by omega : 1 + (lsJ many z q j).getD (k + 1) 0 ≤ 2)]
        rfl
  · rw [decide_eq_false (by omega)]
    cases hb : badAt (chR many z q) (lsJ many z q j) k with
    | false => rfl
    | true =>
      obtain ⟨g, b, a, f, hr, _⟩ := badAt_jump hb
      exact absurd hr (chR_tl (by omega) g b a f)
theorem bad_2 (k : Nat) : badAt (chR many 2 q) (lsJ many 2 q j) k = decide (k + j + 1 = many) := by
  rw [bad_J (by omega)]
  refine decide_eq_decide.mpr ⟨fun ⟨h1, h2, h3⟩ => ?_, fun h => ⟨by omega, by omega, ?_⟩⟩
  · by_cases h4 : k + 1 < many
    · rw [getD_some (lsJ_at h4)] at h3
      split at h3 <;> omega
    · omega
  · by_cases h4 : k + 1 < many
    · rw [getD_some (lsJ_at h4), if_pos (by omega)]
      omega
    · rw [show k + 1 = many by omega, top_J]
      omega
theorem bad_1 (k : Nat) : badAt (chR many 1 q) (lsJ many 1 q 0) k = false := by
  rw [bad_J (by omega)]
  refine decide_eq_false fun ⟨h1, h2, h3⟩ => ?_
  by_cases h4 : k + 1 < many
  · rw [getD_some (lsJ_at h4), if_neg (by omega)] at h3
    omega
  · rw [show k + 1 = many by omega, top_J] at h3
    omega
theorem set_J (h : j < many) : (lsJ many z q j).set (many - 1 - j) 2 = lsJ many z q (j + 1) := by
  apply List.ext_getElem?
  intro i
  by_cases hi : many - 1 - j = i
  · rw [hi, List.getElem?_set_self (by rw [lsJ_len]; omega), lsJ_at (by omega), if_pos (by omega)]
  · rw [List.getElem?_set_ne hi]
    by_cases h2 : i < many
    · rw [lsJ_at h2, lsJ_at h2]
      by_cases h3 : many ≤ i + j
      · rw [if_pos h3, if_pos (by omega)]
      · rw [if_neg h3, if_neg (by omega)]
    · rw [lsJ_tl (by omega), lsJ_tl (by omega)]
theorem seqJ_cons (h : j < many) : seqJ many j = .int ((many - 1 - j : Nat) : Int) :: seqJ many (j + 1) := by
  unfold seqJ
  rw [show many - j = (many - (j + 1)) + 1 by omega, List.range_succ_eq_map, List.map_cons, List.map_map]
  congr 1
  · congr 1
    omega
  · refine List.map_congr_left fun i _ => ?_
    show D.int _ = D.int _
    congr 1
    simp
    omega
theorem seqJ_end : seqJ many many = [] := by simp [seqJ]
theorem step_J (h : j < many) : stepC (chR many 2 q) (lsJ many 2 q j) (.int ((many - 1 - j : Nat) : Int)) = some (lsJ many 2 q (j + 1)) := by
  have hb := bad_2 (q := q) (j := j) (many := many) (many - 1 - j)
  rw [decide_eq_true (by omega)] at hb
  obtain ⟨g, b, a, f, hr, hx, hrb⟩ := badAt_jump hb
  have hr2 := chR_at (z := 2) (q := q) (show many - 1 - j < many by omega)
  rw [hr2] at hr
  injection hr with hr
  injection hr with e1 e2 e3 e4
  rw [← e1, ← e2, ← e3] at hrb
  rw [step_of hr2 hx hrb, set_J h]
theorem chain_J : ∀ (d j : Nat), j + d = many → runO (stepC (chR many 2 q)) (seqJ many j) (lsJ many 2 q j) = some (lsJ many 2 q many)
  | 0, j, h => by
    rw [show j = many by omega, seqJ_end]
    rfl
  | d + 1, j, h => by
    rw [seqJ_cons (by omega)]
    unfold runO
    rw [step_J (by omega)]
    exact chain_J d (j + 1) (by omega)
theorem shape_run {rs : List Row} : ∀ (l : List D) (now L : List Int), Shape rs now → runO (stepC rs) l now = some L → Shape rs L
  | [], now, L, hs, e => by injection e with e; rw [← e]; exact hs
  | d :: l, now, L, hs, e => by
    unfold runO at e
    cases hst : stepC rs now d with
    | none => rw [hst] at e; cases e
    | some n1 =>
      rw [hst] at e
      exact shape_run l n1 L (shape_step hs hst) e
theorem closed_J : Closed (chR many 2 q) (lsJ many 2 q many) := by
  refine ⟨shape_run (seqJ many 0) _ _ shape_near (by rw [← lsJ_0]; exact chain_J many 0 (by omega)), fun k => ?_⟩
  rw [bad_2]
  exact decide_eq_false (by omega)
theorem closed_1 : Closed (chR many 1 q) (lsJ many 1 q 0) := by
  refine ⟨by rw [lsJ_0]; exact shape_near, fun k => bad_1 k⟩
theorem forced_J : ∀ (l : List D) (j : Nat) (L : List Int), j ≤ many → runO (stepC (chR many 2 q)) l (lsJ many 2 q j) = some L → Closed (chR many 2 q) L → l = seqJ many j ∧ L = lsJ many 2 q many
  | [], j, L, hj, e, hc => by
    injection e with e
    subst e
    have : j = many := by
      by_cases h : j = many
      · exact h
      · exfalso
        have hb := hc.2 (many - 1 - j)
        rw [bad_2, decide_eq_true (by omega)] at hb
        cases hb
    subst this
    exact ⟨seqJ_end.symm, rfl⟩
  | d :: l, j, L, hj, e, hc => by
    unfold runO at e
    cases hst : stepC (chR many 2 q) (lsJ many 2 q j) d with
    | none => rw [hst] at e; cases e
    | some n1 =>
      rw [hst] at e
      obtain ⟨k, g, b, a, f, rfl, hr, hx, hb, rfl⟩ := step_inv hst
      have hbad := bad_2 (many := many) (q := q) (j := j) k
      rw [badAt_of hr hx hb] at hbad
      have hk : k + j + 1 = many := of_decide_eq_true hbad.symm
      have hk2 : k = many - 1 - j := by omega
      subst hk2
      rw [step_J (by omega)] at hst
      injection hst with hst
      rw [← hst] at e
      obtain ⟨h1, h2⟩ := forced_J l (j + 1) L (by omega) e hc
      exact ⟨by rw [seqJ_cons (by omega), h1], h2⟩
theorem forced_1 (l : List D) (L : List Int) (e : runO (stepC (chR many 1 q)) l (lsJ many 1 q 0) = some L) : l = [] ∧ L = lsJ many 1 q 0 := by
  cases l with
  | nil => injection e with e; exact ⟨rfl, e.symm⟩
  | cons d l =>
    exfalso
    unfold runO at e
    cases hst : stepC (chR many 1 q) (lsJ many 1 q 0) d with
    | none => rw [hst] at e; cases e
    | some n1 =>
      obtain ⟨k, g, b, a, f, rfl, hr, hx, hb, rfl⟩ := step_inv hst
      have := bad_1 (many := many) (q := q) k
      rw [badAt_of hr hx hb] at this
      cases this
/-- from the wrong end -/
theorem rev_J (h : 2 ≤ many) (l : List D) : runO (stepC (chR many 2 q)) (.int 0 :: l) (nears (chR many 2 q)) = none := by
  rw [← lsJ_0]
  unfold runO
  cases hst : stepC (chR many 2 q) (lsJ many 2 q 0) (.int 0) with
  | none => rfl
  | some n1 =>
    exfalso
    obtain ⟨k, g, b, a, f, hk, hr, hx, hb, rfl⟩ := step_inv hst
    injection hk with hk
    have hk : k = 0 := by omega
    subst hk
    have hbad := bad_2 (many := many) (q := q) (j := 0) 0
    rw [badAt_of hr hx hb] at hbad
    have := of_decide_eq_true hbad.symm
    omega
theorem ints_J : intsD (lsJ many z q many) = List.replicate many (.int 2) ++ intsD (tlI z q) := by
  unfold lsJ intsD
  rw [List.map_append, List.map_map]
  congr 1
  apply List.ext_getElem?
  intro i
  rw [List.getElem?_map, List.getElem?_replicate]
  by_cases hi : i < many
  · rw [List.getElem?_range hi, if_pos hi]
    show some (D.int (if many ≤ i + many then 2 else 1)) = _
    rw [if_pos (by omega)]
  · rw [if_neg hi, List.getElem?_eq_none (by simp; omega)]
    rfl
theorem ints_0 : intsD (lsJ many z q 0) = List.replicate many (.int 1) ++ intsD (tlI z q) := by
  unfold lsJ intsD
  rw [List.map_append, List.map_map]
  congr 1
  apply List.ext_getElem?
  intro i
  rw [List.getElem?_map, List.getElem?_replicate]
  by_cases hi : i < many
  · rw [List.getElem?_range hi, if_pos hi]
    show some (D.int (if many ≤ i + 0 then 2 else 1)) = _
    rw [if_neg (by omega)]
  · rw [if_neg hi, List.getElem?_eq_none (by simp; omega)]
    rfl
end K78

set_option Elab.async false
set_option linter.all false
set_option maxRecDepth 100000
set_option maxHeartbeats 4000000
/-! K78MT: _law_great -/
namespace K78
open PySem Pm
theorem flat_rep (x : D) : ∀ n : Nat, (List.replicate n [x]).flatten = List.replicate n x
  | 0 => rfl
  | n + 1 => by
    rw [List.replicate_succ, List.flatten_cons, flat_rep x n]
    rfl
theorem mul_rep (s : S) (x : D) (j : Int) (k : Nat) (h : j = (k : Int)) (hk : k ≤ 1000000) : opMul s (.fr [x]) (.d (.int j)) = some (.fr (List.replicate k x)) := by
  subst h
  have hL : LIM = 1000000 := rfl
  show (if [x].length * (k : Int).toNat ≤ LIM ∧ -1000000 ≤ (k : Int) ∧ (k : Int) ≤ 1000000 then some (R.fr (List.replicate (k : Int).toNat [x]).flatten) else none) = _
  rw [Int.toNat_natCast, flat_rep, if_pos ⟨by rw [List.length_singleton]; omega, by omega, by omega⟩]
theorem rows_app (rs tl : List Row) : rowsD (rs ++ tl) = rowsD rs ++ rowsD tl := by simp [rowsD]
theorem chR_rows (many : Nat) (z : Int) (q : Nat) : rowsD (chR many z q) = rowsD (fallR many 2 [.size z, .size 1]) ++ List.replicate q (encR (.size 1)) := by
  have e : chR many z q = fallR many 2 [.size z, .size 1] ++ List.replicate q (.size 1) := by simp [chR, fallR]
  rw [e, rows_app]
  congr 1
  unfold rowsD
  rw [List.map_replicate]
def frG (a1 a2 a3 a4 a5 a6 a7 a8 : Sl) (m : List (List D)) : S := ⟨[.val (.hnd 0), a1, a2, a3, a4, a5, a6, a7, a8, .un, .un, .un], m⟩
section
variable {F : Fns} {m m2 : List (List D)}
theorem gr1 (many : Nat) (hm : many ≤ 2000) (d : Int) (e : F 19 [.val (.hnd 0), .val (.int 2)] m = .ok (.d (.int d)) m2) : st__law_great_1 F (frG (.val (.int many)) .un .un .un .un .un .un .un m) = .ok .nx (frG (.val (.int many)) (.val (.lst (rowsD (fallR many 2 [.size (1 + d), .size 1])))) .un .un .un .un .un .un m2) := by
  have hL : LIM = 1000000 := rfl
  have l2 : 2 ≤ LIM := by decide
  have l5 : 5 ≤ LIM := by decide
  have ec := fall_comp [.val (.hnd 0), .val (.int many), .un, .un, .un, .un, .un, .un, .un, .un, .un, .un] (le__law_great_0 F) 2 many (by omega) (.name 9) [9] m (fun k hk => ⟨⟨[.val (.hnd 0), .val (.int many), .un, .un, .un, .un, .un, .un, .un, .val (.int k), .un, .un], m⟩, rfl, rfl, by simp [le__law_great_0, l5, encR]⟩)
  simp only [le__law_great_0] at ec
  have m8 : (many : Int) ≤ 100000000 := by omega
  obtain ⟨X, hX, hXl⟩ : ∃ X, rowsD (fallR many 2 []) = X ∧ X.length = many := ⟨_, rfl, by simp [fallR_len]⟩
  rw [hX] at ec
  have happ : X ++ [encR (.size (1 + d)), encR (.size 1)] = rowsD (fallR many 2 [.size (1 + d), .size 1]) := by
    rw [← hX]
    simp [rowsD, fallR]
  rw [← happ]
  have hlen : X.length + 2 ≤ LIM := by omega
  simp [st__law_great_1, frG, m8, ec, l2, e, hlen, encR]
theorem gr2 (many q : Nat) (z : Int) (hq : many + 2 + q = 2000) : st__law_great_2 F (frG (.val (.int many)) (.val (.lst (rowsD (fallR many 2 [.size z, .size 1])))) .un .un .un .un .un .un m) = .ok .nx (frG (.val (.int many)) (.val (.lst (rowsD (chR many z q)))) .un .un .un .un .un .un m) := by
  have hL : LIM = 1000000 := rfl
  have l1 : 1 ≤ LIM := by decide
  have l2 : 2 ≤ LIM := by decide
  rw [chR_rows]
  obtain ⟨X, hX, hXl⟩ : ∃ X, rowsD (fallR many 2 [.size z, .size 1]) = X ∧ X.length = many + 2 := ⟨_, rfl, by simp [fallR_len]⟩
  rw [hX]
  have hm : ∀ s x, opMul s (.fr [x]) (.d (.int (2000 - ((X.length : Nat) : Int)))) = some (.fr (List.replicate q x)) := fun s x => mul_rep s x _ q (by omega) (by omega)
  have hlen : X.length + q ≤ LIM := by omega
  simp [st__law_great_2, frG, l1, l2, hm, hlen, encR]
theorem chR_top (many : Nat) (z : Int) (q : Nat) : atD (rowsD (chR many z q)) (many : Int) = some (encR (.size z)) := by
  rw [rowsD_at]
  unfold chR fallR
  rw [List.getElem?_append_right (by simp)]
  simp
theorem gr4 (many q : Nat) (z : Int) (a3 : Sl) : st__law_great_4 F (frG (.val (.int many)) (.val (.lst (rowsD (chR many z q)))) a3 .un .un .un .un .un m) = .ok .nx (frG (.val (.int many)) (.val (.lst (rowsD (chR many z q)))) a3 (.val (.int (if z = 2 then 2 else 1))) .un .un .un .un m) := by
  have e := chR_top many z q
  simp only [encR] at e
  by_cases hz : z = 2
  · simp [st__law_great_4, frG, e, hz]
    subst hz
    simp [e]
  · simp [st__law_great_4, frG, e, hz]
theorem seqJ_0 (many : Nat) : seqJ many 0 = (List.range many).map fun (k : Nat) => D.int ((many : Int) - 1 - k) := by
  unfold seqJ
  rw [Nat.sub_zero]
  refine List.map_congr_left fun k _ => ?_
  congr 1
  simp
theorem gr5 (many : Nat) (hm : many ≤ 2000) (due : Int) (a2 a3 : Sl) : st__law_great_5 F (frG (.val (.int many)) a2 a3 (.val (.int due)) .un .un .un .un m) = .ok .nx (frG (.val (.int many)) a2 a3 (.val (.int due)) (.val (.lst (if due = 2 then seqJ many 0 else []))) .un .un .un m) := by
  have hL : LIM = 1000000 := rfl
  have l0 : 0 ≤ LIM := Nat.zero_le _
  have m8 : (many : Int) ≤ 100000000 := by omega
  by_cases hd : due = 2
  · have ec := compR_ok (own := [10]) (tg := .name 10) (c := Pm.tYes) (e := le__law_great_1 F) (s := frG (.val (.int many)) a2 a3 (.val (.int due)) .un .un .un .un m) many (fun _ => true) (fun k => .int ((many : Int) - 1 - k)) (fun k hk => ⟨⟨[.val (.hnd 0), .val (.int many), a2, a3, .val (.int due), .un, .un, .un, .un, .un, .val (.int k), .un], m⟩, rfl, rfl, rfl, fun _ => ⟨_, by simp [le__law_great_1]; rfl, rfl⟩⟩) (by omega)
    have ef : ∀ l : List Nat, l.filter (fun _ => true) = l := fun l => List.filter_eq_self.mpr fun _ _ => rfl
    rw [ef, ← seqJ_0] at ec
    simp only [le__law_great_1, frG] at ec
    rw [if_pos hd]
    simp [st__law_great_5, frG, m8, ec, hd]
    subst hd
    simp [ec]
  · rw [if_neg hd]
    simp [st__law_great_5, frG, hd, l0]
theorem cut_from (l : List D) (k : Nat) (h : k ≤ l.length) : cutD l (some (k : Int)) none = l.drop k := by
  unfold cutD
  rw [HT.sIx_nat, HT.sIx_none, Nat.min_eq_left h]
  exact List.take_of_length_le (by simp)
theorem chR_drop (many : Nat) (z : Int) (q : Nat) : (rowsD (chR many z q)).drop many = rowsD (.size z :: .size 1 :: List.replicate q (.size 1)) := by
  unfold chR fallR
  rw [rows_app, List.drop_append_of_le_length (by simp), List.drop_of_length_le (by simp)]
  rfl
def oneF (d : D) : D := match d with
  | .tup [_, .int s] => .int s
  | _ => .non
theorem tl_map (z : Int) (q : Nat) : (rowsD (.size z :: .size 1 :: List.replicate q (.size 1))).map oneF = intsD (tlI z q) := by
  unfold rowsD intsD tlI
  simp only [List.map_cons, List.map_replicate]
  rfl
theorem gr6 (many q : Nat) (z : Int) (hm : many ≤ 2000) (hq : q ≤ 2000) (due : Int) (Sq : List D) (T : D) (hT : T = .tup [.lst (List.replicate many (.int due) ++ intsD (tlI z q)), .lst Sq]) (e25 : F 25 [.val T, .val T] m = .ok (.d (.bl true)) m) :
    st__law_great_6 F (frG (.val (.int many)) (.val (.lst (rowsD (chR many z q)))) (.val (.lst [.str "told", T])) (.val (.int due)) (.val (.lst Sq)) .un .un .un m) = .ok .nx (frG (.val (.int many)) (.val (.lst (rowsD (chR many z q)))) (.val (.lst [.str "told", T])) (.val (.int due)) (.val (.lst Sq)) .un .un .un m) := by
  have hL : LIM = 1000000 := rfl
  have l1 : 1 ≤ LIM := by decide
  have l2 : 2 ≤ LIM := by decide
  have ec := compL_map (own := [11]) (tg := .name 11) (e := le__law_great_2 F) (s := frG (.val (.int many)) (.val (.lst (rowsD (chR many z q)))) (.val (.lst [.str "told", T])) (.val (.int due)) (.val (.lst Sq)) .un .un .un m) oneF (rowsD (.size z :: .size 1 :: List.replicate q (.size 1))) (fun x hx => by
    obtain ⟨r, hr, rfl⟩ := List.mem_map.mp hx
    obtain ⟨s, rfl⟩ : ∃ s, r = .size s := by
      simp only [List.mem_cons] at hr
      rcases hr with h | h | h
      · exact ⟨_, h⟩
      · exact ⟨_, h⟩
      · exact ⟨_, (List.mem_replicate.mp h).2⟩
    exact ⟨⟨[.val (.hnd 0), .val (.int many), .val (.lst (rowsD (chR many z q))), .val (.lst [.str "told", T]), .val (.int due), .val (.lst Sq), .un, .un, .un, .un, .un, .val (encR (.size s))], m⟩, rfl, rfl, .d (.int s), by simp [le__law_great_2, encR], rfl⟩) (by simp; omega)
  rw [tl_map] at ec
  have ed : cutD (rowsD (chR many z q)) (some (many : Int)) none = rowsD (.size z :: .size 1 :: List.replicate q (.size 1)) := by
    rw [cut_from _ _ (by rw [rowsD_len, chR_len]; omega), chR_drop]
  have hmu : ∀ s x, opMul s (.fr [x]) (.d (.int (many : Int))) = some (.fr (List.replicate many x)) := fun s x => mul_rep s x _ many rfl (by omega)
  obtain ⟨Y, hY, hYl⟩ : ∃ Y, intsD (tlI z q) = Y ∧ Y.length = q + 2 := ⟨_, rfl, by simp [tlI]⟩
  rw [hY] at ec hT
  obtain ⟨X, hX⟩ : ∃ X, rowsD (.size z :: .size 1 :: List.replicate q (.size 1)) = X := ⟨_, rfl⟩
  rw [hX] at ec ed
  obtain ⟨Z, hZ⟩ : ∃ Z, rowsD (chR many z q) = Z := ⟨_, rfl⟩
  rw [hZ] at ec ed ⊢
  have hlen : many + Y.length ≤ LIM := by omega
  simp only [le__law_great_2, frG] at ec
  simp [st__law_great_6, frG, l1, l2, hmu, ed, ec, hlen, ← hT, e25]
theorem chR_more (many : Nat) (z : Int) (q : Nat) : rowsD (chR many z q) ++ [encR (.size 0)] = rowsD (fallR many 2 (.size z :: .size 1 :: (List.replicate q (.size 1) ++ [.size 0]))) := by
  simp [chR, fallR, rowsD]
theorem gr7 (many q : Nat) (z : Int) (hq : many + 2 + q = 2000) (h42 : F 42 [.val (.lst (rowsD (fallR many 2 (.size z :: .size 1 :: (List.replicate q (.size 1) ++ [.size 0])))))] m = .ok (.fr [.str "raised", .str "TooMany", .tup [.str "rows"]]) m)
    (e25 : F 25 [.val (.lst [.str "raised", .str "TooMany", .tup [.str "rows"]]), .val (.lst [.str "raised", .str "TooMany", .tup [.str "rows"]])] m = .ok (.d (.bl true)) m) (a3 a4 a5 : Sl) :
    st__law_great_7 F (frG (.val (.int many)) (.val (.lst (rowsD (chR many z q)))) a3 a4 a5 .un .un .un m) = .ok .nx (frG (.val (.int many)) (.val (.lst (rowsD (chR many z q)))) a3 a4 a5 .un .un .un m) := by
  have hL : LIM = 1000000 := rfl
  have l1 : 1 ≤ LIM := by decide
  have l2 : 2 ≤ LIM := by decide
  have l3 : 3 ≤ LIM := by decide
  rw [← chR_more] at h42
  simp only [encR] at h42
  obtain ⟨X, hX, hXl⟩ : ∃ X, rowsD (chR many z q) = X ∧ X.length = 2000 := ⟨_, rfl, by rw [rowsD_len, chR_len]; omega⟩
  rw [hX] at h42 ⊢
  have hlen : X.length + 1 ≤ LIM := by omega
  simp [st__law_great_7, frG, l1, l2, l3, hlen, h42, e25]
theorem gr8 (P : Nat) (hP : P = 40) (i40 : ∀ s, iR1 (mC (.int 40)) s = .ok (ivs 0 P) s) (a1 a2 a3 a4 a5 : Sl) : st__law_great_8 F (frG a1 a2 a3 a4 a5 .un .un .un m) = .ok .nx (frG a1 a2 a3 a4 a5 (.val (.lst (rowsD (fallR P 2 [.size 2, .size 1])))) .un .un m) := by
  have hL : LIM = 1000000 := rfl
  have l2 : 2 ≤ LIM := by decide
  have l5 : 5 ≤ LIM := by decide
  have ec := fall_comp [.val (.hnd 0), a1, a2, a3, a4, a5, .un, .un, .un, .un, .un, .un] (le__law_great_3 F) 2 P (by omega) (.name 9) [9] m (fun k hk => ⟨⟨[.val (.hnd 0), a1, a2, a3, a4, a5, .un, .un, .un, .val (.int k), .un, .un], m⟩, rfl, rfl, by simp [le__law_great_3, l5, encR]⟩)
  simp only [le__law_great_3] at ec
  obtain ⟨X, hX, hXl⟩ : ∃ X, rowsD (fallR P 2 []) = X ∧ X.length = P := ⟨_, rfl, by simp [fallR_len]⟩
  rw [hX] at ec
  have happ : X ++ [encR (.size 2), encR (.size 1)] = rowsD (fallR P 2 [.size 2, .size 1]) := by
    rw [← hX]
    simp [rowsD, fallR]
  rw [← happ]
  have hlen : X.length + 2 ≤ LIM := by omega
  simp [st__law_great_8, frG, i40, -iR1_ap, ec, l2, hlen, encR]
theorem gr9 (P Q : Nat) (hP : P = 40) (hQ : Q = 1990) (a1 a2 a3 a4 a5 : Sl) : st__law_great_9 F (frG a1 a2 a3 a4 a5 (.val (.lst (rowsD (fallR P 2 [.size 2, .size 1])))) .un .un m) = .ok .nx (frG a1 a2 a3 a4 a5 (.val (.lst (rowsD (fallR P 2 [.size 2, .size 1])))) (.val (.lst (rowsD (chR P 2 Q)))) .un m) := by
  have hL : LIM = 1000000 := rfl
  have l1 : 1 ≤ LIM := by decide
  have l2 : 2 ≤ LIM := by decide
  rw [chR_rows]
  obtain ⟨X, hX, hXl⟩ : ∃ X, rowsD (fallR P 2 [.size 2, .size 1]) = X ∧ X.length = P + 2 := ⟨_, rfl, by simp [fallR_len]⟩
  rw [hX]
  have hm : ∀ s x, opMul s (.fr [x]) (.d (.int 1990)) = some (.fr (List.replicate Q x)) := fun s x => mul_rep s x _ Q (by omega) (by omega)
  have hlen : X.length + Q ≤ LIM := by omega
  simp [st__law_great_9, frG, l1, l2, hm, hlen, encR]
theorem gr10 (P Q : Nat) (hP : P = 40) (hQ : Q = 1990) (i40 : ∀ s, iR1 (mC (.int 40)) s = .ok (ivs 0 P) s) (a1 a2 a3 a4 a5 a6 a7 : Sl) : st__law_great_10 F (frG a1 a2 a3 a4 a5 a6 a7 .un m) = .ok .nx (frG a1 a2 a3 a4 a5 a6 a7 (.val (.tup [.lst (List.replicate P (.int 2) ++ intsD (tlI 2 Q)), .lst (seqJ P 0)])) m) := by
  have hL : LIM = 1000000 := rfl
  have l1 : 1 ≤ LIM := by decide
  have l2 : 2 ≤ LIM := by decide
  have ec := compR_ok (own := [10]) (tg := .name 10) (c := Pm.tYes) (e := le__law_great_4 F) (s := frG a1 a2 a3 a4 a5 a6 a7 .un m) P (fun _ => true) (fun k => .int (39 - (k : Int))) (fun k hk => ⟨⟨[.val (.hnd 0), a1, a2, a3, a4, a5, a6, a7, .un, .un, .val (.int k), .un], m⟩, rfl, rfl, rfl, fun _ => ⟨_, by simp [le__law_great_4]; rfl, rfl⟩⟩) (by omega)
  have ef : ∀ l : List Nat, l.filter (fun _ => true) = l := fun l => List.filter_eq_self.mpr fun _ _ => rfl
  have e39 : (List.range P).map (fun (k : Nat) => D.int (39 - (k : Int))) = seqJ P 0 := by
    rw [seqJ_0]
    refine List.map_congr_left fun k _ => ?_
    rw [show (P : Int) - 1 = 39 by omega]
  rw [ef, e39] at ec
  simp only [le__law_great_4, frG] at ec
  have hm : ∀ s x, opMul s (.fr [x]) (.d (.int 1990)) = some (.fr (List.replicate Q x)) := fun s x => mul_rep s x _ Q (by omega) (by omega)
  have hm2 : ∀ s x, opMul s (.fr [x]) (.d (.int 40)) = some (.fr (List.replicate P x)) := fun s x => mul_rep s x _ P (by omega) (by omega)
  have hlen : P + 2 ≤ LIM := by omega
  have hlen2 : P + 2 + Q ≤ LIM := by omega
  have e1 : intsD (tlI 2 Q) = .int 2 :: .int 1 :: List.replicate Q (.int 1) := by
    unfold intsD tlI
    rw [List.map_cons, List.map_cons, List.map_replicate]
  rw [e1]
  obtain ⟨A, hA, hAl⟩ : ∃ A, List.replicate P (D.int 2) = A ∧ A.length = P := ⟨_, rfl, by simp⟩
  obtain ⟨C, hC, hCl⟩ : ∃ C, List.replicate Q (D.int 1) = C ∧ C.length = Q := ⟨_, rfl, by simp⟩
  have hlen3 : A.length + 2 ≤ LIM := by omega
  have hlen4 : A.length + 2 + C.length ≤ LIM := by omega
  have hlen5 : A.length + (2 + C.length) ≤ LIM := by omega
  have hlen6 : A.length + (C.length + 1 + 1) ≤ LIM := by omega
  simp [st__law_great_10, frG, l1, l2, hm, hm2, hA, hC, hlen3, hlen4, hlen5, hlen6, i40, -iR1_ap, ec]
@[simp] theorem opRev_lst (s : S) (l : List D) : opRev s (.d (.lst l)) = some (.fr l.reverse) := rfl
theorem gr11 (rs : List Row) (A Sq : List D) (h1 : F 43 [.val (.lst (rowsD rs)), .val (.tup [.lst A, .lst Sq])] m = .ok (.fr [.str "told", .bl true]) m) (h2 : F 43 [.val (.lst (rowsD rs)), .val (.tup [.lst A, .lst Sq.reverse])] m = .ok (.fr [.str "told", .bl false]) m)
    (h3 : F 25 [.val (.lst [.str "told", .bl true]), .val (.lst [.str "told", .bl true])] m = .ok (.d (.bl true)) m) (h4 : F 25 [.val (.lst [.str "told", .bl false]), .val (.lst [.str "told", .bl false])] m = .ok (.d (.bl true)) m) (a1 a2 a3 a4 a5 a6 : Sl) :
    retOf (st__law_great_11 F (frG a1 a2 a3 a4 a5 a6 (.val (.lst (rowsD rs))) (.val (.tup [.lst A, .lst Sq])) m)) = .ok (.d (.bl true)) m := by
  have l2 : 2 ≤ LIM := by decide
  simp [st__law_great_11, frG, l2, h1, h2, h3, h4]
end
end K78

set_option Elab.async false
set_option linter.all false
set_option maxRecDepth 100000
set_option maxHeartbeats 4000000
/-! K78MU: _law_great -/
namespace K78
open PySem Pm
theorem allI_seqJ (many : Nat) : allI (seqJ many 0) := fun d hd => by
  obtain ⟨i, _, rfl⟩ := List.mem_map.mp hd
  exact ⟨_, rfl⟩
theorem allI_A (many : Nat) (v z : Int) (q : Nat) : allI (List.replicate many (.int v) ++ intsD (tlI z q)) := fun d hd => by
  rcases List.mem_append.mp hd with hd | hd
  · exact ⟨v, (List.mem_replicate.mp hd).2⟩
  · exact allI_ints _ d hd
theorem tlI_len (z : Int) (q : Nat) : (intsD (tlI z q)).length = q + 2 := by simp [tlI]
theorem seqJ_len (many : Nat) : (seqJ many 0).length = many := by simp [seqJ]
theorem seqJ_rev (n : Nat) : ∃ l, (seqJ (n + 1) 0).reverse = .int 0 :: l := by
  rw [seqJ_0, List.range_succ, List.map_append, List.reverse_append]
  refine ⟨((List.range n).map fun (k : Nat) => D.int (((n + 1 : Nat) : Int) - 1 - k)).reverse, ?_⟩
  show D.int _ :: _ = _
  congr 2
  simp
theorem gr_told {F : Fns} (hF : Lv F) (many q : Nat) (z : Int) (hz : z = 1 ∨ z = 2) (hq : many + 2 + q = 2000) (m : List (List D)) : ∃ T, T = D.tup [.lst (List.replicate many (.int (if z = 2 then 2 else 1)) ++ intsD (tlI z q)), .lst (if (if z = 2 then (2 : Int) else 1) = 2 then seqJ many 0 else [])] ∧
    F 42 [.val (.lst (rowsD (chR many z q)))] m = .ok (.fr [.str "told", T]) m := by
  have hg : Good (chR many z q) := chR_good (by omega) (by omega)
  obtain ⟨L, wt, hc, hr, _, _, e42⟩ := hF.told (chR many z q) hg (by rw [chR_len]; omega) m
  rw [← lsJ_0] at hr
  refine ⟨_, rfl, ?_⟩
  rw [e42]
  rcases hz with rfl | rfl
  · obtain ⟨h1, h2⟩ := forced_1 _ L hr
    rw [h1, h2, ints_0]
    rfl
  · obtain ⟨h1, h2⟩ := forced_J _ 0 L (Nat.zero_le _) hr hc
    rw [h1, h2, ints_J]
    rfl
theorem gr_long {F : Fns} (hF : Lv F) (P Q : Nat) (hP : P = 40) (hQ : Q = 1990) (m : List (List D)) :
    F 43 [.val (.lst (rowsD (chR P 2 Q))), .val (.tup [.lst (List.replicate P (.int 2) ++ intsD (tlI 2 Q)), .lst (seqJ P 0)])] m = .ok (.fr [.str "told", .bl true]) m ∧
    F 43 [.val (.lst (rowsD (chR P 2 Q))), .val (.tup [.lst (List.replicate P (.int 2) ++ intsD (tlI 2 Q)), .lst (seqJ P 0).reverse])] m = .ok (.fr [.str "told", .bl false]) m := by
  have hg : Good (chR P 2 Q) := chR_good (by omega) (by omega)
  have hAl : (List.replicate P (D.int 2) ++ intsD (tlI 2 Q)).length ≤ 3000 := by
    rw [List.length_append, List.length_replicate, tlI_len]
    omega
  have hSl : (seqJ P 0).length ≤ 3000 := by
    rw [seqJ_len]
    omega
  have aR : allI (seqJ P 0).reverse := fun d hd => allI_seqJ P d (List.mem_reverse.mp hd)
  have v1 := (pairV (W := true) (B := 3000) (allI_A P 2 2 Q) (allI_seqJ P) hAl hSl (by omega)).1
  have v2 := (pairV (W := true) (B := 3000) (allI_A P 2 2 Q) aR hAl (by rw [List.length_reverse]; exact hSl) (by omega)).1
  have e1 := hF.judged (B := 3000) (by omega) (by omega) (chR P 2 Q) hg (by rw [chR_len]; omega) _ (sm_mono (fun h => h) (Nat.le_refl _) (by omega) v1.1) (by have := v1.2; omega) m
  have e2 := hF.judged (B := 3000) (by omega) (by omega) (chR P 2 Q) hg (by rw [chR_len]; omega) _ (sm_mono (fun h => h) (Nat.le_refl _) (by omega) v2.1) (by have := v2.2; omega) m
  have hch := chain_J (q := Q) (many := P) P 0 (by omega)
  rw [lsJ_0] at hch
  have b1 := least_B hg closed_J hch
  rw [ints_J] at b1
  have b2 : leastB (chR P 2 Q) (.tup [.lst (List.replicate P (.int 2) ++ intsD (tlI 2 Q)), .lst (seqJ P 0).reverse]) = false := by
    unfold leastB
    dsimp only
    rw [lst_seq hg, seqB_lst]
    obtain ⟨n, rfl⟩ : ∃ n, P = n + 1 := ⟨39, by omega⟩
    obtain ⟨l, hl⟩ := seqJ_rev n
    rw [hl, rev_J (by omega)]
    simp
  rw [b1] at e1
  rw [b2] at e2
  exact ⟨e1, e2⟩
theorem great_ok {F : Fns} {ns : List Int} (hF : Lv F) (m : List (List D)) (hS : Strm ns m) : ∃ m', Strm ns m' ∧
    retOf (b__law_great F ⟨[.val (.hnd 0), .un, .un, .un, .un, .un, .un, .un, .un, .un, .un, .un], m⟩) = .ok (.d (.bl true)) m' := by
  obtain ⟨d0, m1, hS1, a1, a2, a3⟩ := hF.next hS 200 (by omega) (by omega)
  obtain ⟨many, hmany⟩ : ∃ many : Nat, 1700 + d0 = (many : Int) := ⟨(1700 + d0).toNat, by omega⟩
  have s0 : st__law_great_0 F (frG .un .un .un .un .un .un .un .un m) = .ok .nx (frG (.val (.int many)) .un .un .un .un .un .un .un m1) := by
    simp [st__law_great_0, frG, a3, hmany]
  obtain ⟨d, m2, hS2, b1, b2, b3⟩ := hF.next hS1 2 (by omega) (by omega)
  have s1 := gr1 (F := F) many (by omega) d b3
  obtain ⟨z, hz⟩ : ∃ z, 1 + d = z := ⟨_, rfl⟩
  rw [hz] at s1
  obtain ⟨q, hq⟩ : ∃ q : Nat, many + 2 + q = 2000 := ⟨1998 - many, by omega⟩
  have s2 := gr2 (F := F) (m := m2) many q z hq
  obtain ⟨T, hT, e42⟩ := gr_told hF many q z (by omega) hq m2
  have s3 : st__law_great_3 F (frG (.val (.int many)) (.val (.lst (rowsD (chR many z q)))) .un .un .un .un .un .un m2) = .ok .nx (frG (.val (.int many)) (.val (.lst (rowsD (chR many z q)))) (.val (.lst [.str "told", T])) .un .un .un .un .un m2) := by
    simp [st__law_great_3, frG, e42]
  have s4 := gr4 (F := F) (m := m2) many q z (.val (.lst [.str "told", T]))
  obtain ⟨due, hdue⟩ : ∃ due : Int, (if z = 2 then (2 : Int) else 1) = due := ⟨_, rfl⟩
  rw [hdue] at hT s4
  have s5 := gr5 (F := F) (m := m2) many (by omega) due (.val (.lst (rowsD (chR many z q)))) (.val (.lst [.str "told", T]))
  obtain ⟨Sq, hSq⟩ : ∃ Sq, (if due = 2 then seqJ many 0 else []) = Sq := ⟨_, rfl⟩
  rw [hSq] at hT s5
  have aSq : allI Sq ∧ Sq.length ≤ 3000 := by
    rw [← hSq]
    split
    · exact ⟨allI_seqJ many, by rw [seqJ_len]; omega⟩
    · exact ⟨(fun d hd => nomatch hd), by simp⟩
  have vT := (pairV (W := true) (B := 3000) (allI_A many due z q) aSq.1 (by rw [List.length_append, List.length_replicate, tlI_len]; omega) aSq.2 (by omega)).1
  rw [← hT] at vT
  have s6 := gr6 (F := F) (m := m2) many q z (by omega) (by omega) due Sq T hT (hF.same T (sm_ok vT.1) (by have := vT.2; omega) m2)
  have hgm : Good (fallR many 2 (.size z :: .size 1 :: (List.replicate q (.size 1) ++ [.size 0]))) := fallR_good (by omega) (by omega) (by simp) fun r hr => by
    simp only [List.mem_cons, List.mem_append, List.not_mem_nil, or_false] at hr
    rcases hr with rfl | rfl | hr | rfl
    · exact ⟨z, rfl, by omega, by omega⟩
    · exact ⟨1, rfl, by omega, by omega⟩
    · obtain ⟨_, rfl⟩ := List.mem_replicate.mp hr
      exact ⟨1, rfl, by omega, by omega⟩
    · exact ⟨0, rfl, by omega, by omega⟩
  have hlm : (fallR many 2 (.size z :: .size 1 :: (List.replicate q (.size 1) ++ [.size 0]))).length = 2001 := by
    rw [fallR_len]
    simp
    omega
  have s7 := gr7 (F := F) (m := m2) many q z hq (hF.told_many _ hgm (by rw [hlm]; omega) (by rw [hlm]; omega) m2) (hF.same _ (by simp [okD, okDs]) (by simp [nodes, nodesL]) m2) (.val (.lst [.str "told", T])) (.val (.int due)) (.val (.lst Sq))
  obtain ⟨P, hP⟩ : ∃ P : Nat, P = 40 := ⟨40, rfl⟩
  obtain ⟨Q, hQ⟩ : ∃ Q : Nat, Q = 1990 := ⟨1990, rfl⟩
  have i40 : ∀ s, iR1 (mC (.int 40)) s = .ok (ivs 0 P) s := fun s => by
    have := iR1_int (a := mC (.int (P : Int))) (s := s) (j := (P : Int)) rfl (by omega) (by omega)
    rw [Int.toNat_natCast, show (P : Int) = 40 by omega] at this
    exact this
  have s8 := gr8 (F := F) (m := m2) P hP i40 (.val (.int many)) (.val (.lst (rowsD (chR many z q)))) (.val (.lst [.str "told", T])) (.val (.int due)) (.val (.lst Sq))
  have s9 := gr9 (F := F) (m := m2) P Q hP hQ (.val (.int many)) (.val (.lst (rowsD (chR many z q)))) (.val (.lst [.str "told", T])) (.val (.int due)) (.val (.lst Sq))
  have s10 := gr10 (F := F) (m := m2) P Q hP hQ i40 (.val (.int many)) (.val (.lst (rowsD (chR many z q)))) (.val (.lst [.str "told", T])) (.val (.int due)) (.val (.lst Sq)) (.val (.lst (rowsD (fallR P 2 [.size 2, .size 1])))) (.val (.lst (rowsD (chR P 2 Q))))
  obtain ⟨j1, j2⟩ := gr_long hF P Q hP hQ m2
  have s11 := gr11 (F := F) (m := m2) (chR P 2 Q) _ _ j1 j2 (hF.same _ (told_nodes true).1 (told_nodes true).2 m2) (hF.same _ (told_nodes false).1 (told_nodes false).2 m2) (.val (.int many)) (.val (.lst (rowsD (chR many z q)))) (.val (.lst [.str "told", T])) (.val (.int due)) (.val (.lst Sq)) (.val (.lst (rowsD (fallR P 2 [.size 2, .size 1]))))
  refine ⟨m2, hS2, ?_⟩
  show retOf (b__law_great F (frG .un .un .un .un .un .un .un .un m)) = _
  rw [st__law_great, sSeq_ap, s0]
  dsimp only [Ou.bind_ok]
  rw [sSeq_ap, s1]
  dsimp only [Ou.bind_ok]
  rw [sSeq_ap, s2]
  dsimp only [Ou.bind_ok]
  rw [sSeq_ap, s3]
  dsimp only [Ou.bind_ok]
  rw [sSeq_ap, s4]
  dsimp only [Ou.bind_ok]
  rw [sSeq_ap, s5]
  dsimp only [Ou.bind_ok]
  rw [sSeq_ap, s6]
  dsimp only [Ou.bind_ok]
  rw [sSeq_ap, s7]
  dsimp only [Ou.bind_ok]
  rw [sSeq_ap, s8]
  dsimp only [Ou.bind_ok]
  rw [sSeq_ap, s9]
  dsimp only [Ou.bind_ok]
  rw [sSeq_ap, s10]
  dsimp only [Ou.bind_ok]
  exact s11
end K78

set_option Elab.async false
set_option linter.all false
set_option maxRecDepth 100000
set_option maxHeartbeats 4000000
/-! K78MV: law -/
namespace K78
open PySem Pm
def DEPTH : Nat := 30
/-- rows of a drawn kind -/
def RowsD (d : D) : Prop := ∃ rs, d = .lst (rowsD rs) ∧ Good rs ∧ rs.length ≤ 40
/-- what law knows of the defs that it calls -/
structure Lw (F : Fns) (ns : List Int) : Prop where
  lv : Lv F
  great : ∀ m, Strm ns m → ∃ m', Strm ns m' ∧ F 45 [.val (.hnd 0)] m = .ok (.d (.bl true)) m'
  answers : ∀ rs m, Good rs → rs.length ≤ 100 → Strm ns m → ∃ m', Strm ns m' ∧ F 44 [.val (.hnd 0), .val (.lst (rowsD rs))] m = .ok (.d (.bl true)) m'
theorem lw_of (ns : List Int) (n : Nat) : Lw (FF tab (n + 13)) ns := by
  have hF : Lv (FF tab (n + 12)) := ⟨n, rfl⟩
  refine ⟨⟨n + 1, rfl⟩, fun m hS => ?_, fun rs m hg hl hS => ?_⟩
  · obtain ⟨m', h1, h2⟩ := great_ok hF m hS
    refine ⟨m', h1, ?_⟩
    rw [FF_at (fn := fn__law_great) rfl rfl (by decide)]
    exact h2
  · obtain ⟨m', h1, h2⟩ := answers_ok hF rs hg hl m hS
    refine ⟨m', h1, ?_⟩
    rw [FF_at (fn := fn__law_answers) rfl rfl (by decide)]
    exact h2
section
variable {F : Fns} {ns : List Int}
def frE (ns : List Int) (a2 a3 a4 a5 a6 : Sl) (m : List (List D)) : S := ⟨[.ro (intsD ns), .val (.hnd 0), a2, a3, a4, a5, a6], m⟩
theorem lawB (h : Lw F ns) (a2 a5 : Sl) (m : List (List D)) (hS : Strm ns m) : ∃ rs m', Good rs ∧ rs.length ≤ 40 ∧ Strm ns m' ∧
    lb_law_0 F (frE ns a2 .un .un a5 .un m) = .ok .nx (frE ns a2 .un .un (.val (.lst (rowsD rs))) .un m') := by
  have l4 : 4 ≤ LIM := by decide
  obtain ⟨r1, m1, hS1, g1, n1, e1⟩ := h.lv.some_rows hS
  obtain ⟨r2, m2, hS2, g2, n2, e2⟩ := h.lv.some_rows hS1
  obtain ⟨r3, m3, hS3, g3, n3, e3⟩ := h.lv.facing hS2
  obtain ⟨r4, m4, hS4, g4, n4, e4⟩ := h.lv.falling hS3
  obtain ⟨d, m5, hS5, ⟨rs, rfl, hg, hl⟩, e5⟩ := h.lv.pick hS4 [D.lst (rowsD r1), .lst (rowsD r2), .lst (rowsD r3), .lst (rowsD r4)] (by simp) (by simp) RowsD (fun d hd => by
    simp only [List.mem_cons, List.not_mem_nil, or_false] at hd
    rcases hd with rfl | rfl | rfl | rfl
    · exact ⟨r1, rfl, g1, n1⟩
    · exact ⟨r2, rfl, g2, n2⟩
    · exact ⟨r3, rfl, g3, n3⟩
    · exact ⟨r4, rfl, g4, n4⟩)
  obtain ⟨m6, hS6, e6⟩ := h.answers rs m5 hg (by omega) hS5
  refine ⟨rs, m6, hg, hl, hS6, ?_⟩
  simp [lb_law_0, frE, e1, e2, e3, e4, l4, e5, e6]
theorem la2 (F : Fns) : st_law_2 F = sFor (.name 2) (iR1 (mC (.int 2))) (lb_law_0 F) := rfl
theorem law2 (h : Lw F ns) (m : List (List D)) (hS : Strm ns m) : ∃ rs a2 m', Good rs ∧ rs.length ≤ 40 ∧ Strm ns m' ∧
    st_law_2 F (frE ns .un .un .un .un .un m) = .ok .nx (frE ns a2 .un .un (.val (.lst (rowsD rs))) .un m') := by
  obtain ⟨N, hN⟩ : ∃ N : Nat, N = 2 := ⟨2, rfl⟩
  have i2 : ∀ s, iR1 (mC (.int 2)) s = .ok (ivs 0 N) s := fun s => by
    have := iR1_int (a := mC (.int (N : Int))) (s := s) (j := (N : Int)) rfl (by omega) (by omega)
    rw [Int.toNat_natCast, show (N : Int) = 2 by omega] at this
    exact this
  obtain ⟨s', h1, a2, a5, m', h2, hS', h3⟩ := forL_ok (tg := .name 2) (b := lb_law_0 F) (fun j s => ∃ a2 a5 m, s = frE ns a2 .un .un a5 .un m ∧ Strm ns m ∧ (0 < j → ∃ rs, a5 = .val (.lst (rowsD rs)) ∧ Good rs ∧ rs.length ≤ 40)) (ivs 0 N) 0 (frE ns .un .un .un .un .un m) ⟨.un, .un, m, rfl, hS, fun z => by omega⟩ (fun j d s hd hI => by
    obtain ⟨a2, a5, m, rfl, hS, _⟩ := hI
    obtain ⟨rs, m', hg, hl, hS', e⟩ := lawB h (.val d) a5 m hS
    exact ⟨_, _, .nx, rfl, e, .inl rfl, .val d, _, m', rfl, hS', fun _ => ⟨rs, rfl, hg, hl⟩⟩)
  subst h2
  rw [ivs_len, Nat.zero_add] at h3
  obtain ⟨rs, rfl, hg, hl⟩ := h3 (by omega)
  refine ⟨rs, a2, m', hg, hl, hS', ?_⟩
  rw [la2, sFor_ap, i2, Ou.bind_ok]
  exact h1
/-- spoilt rows -/
def Odd (d : D) : Prop := sm true 61 3 d = true ∧ nodes d ≤ 1000
theorem law4 (h : Lw F ns) (rs : List Row) (hl : rs.length ≤ 40) (od : D) (ho : Odd od) (a2 : Sl) (m : List (List D)) (hS : Strm ns m) : ∃ od' a6 m', Odd od' ∧ Strm ns m' ∧
    st_law_4 F (frE ns a2 (.val od) .un (.val (.lst (rowsD rs))) .un m) = .ok .nx (frE ns a2 (.val od') .un (.val (.lst (rowsD rs))) a6 m') := by
  have hL : LIM = 1000000 := rfl
  have l1 : 1 ≤ LIM := by decide
  have l2 : 2 ≤ LIM := by decide
  have l5 : 5 ≤ LIM := by decide
  have l6 : 6 ≤ LIM := by decide
  obtain ⟨q, m1, hS1, a1, a2', a3⟩ := h.lv.next hS 4 (by omega) (by omega)
  by_cases hq : q = 0
  · have good : ∀ d, (∃ l, d = D.tup l ∧ l.length ≤ 5 ∧ ∀ e ∈ l, (∃ i, e = .int i) ∨ ∃ z, e = .str z) ∨ (∃ l, d = D.lst l ∧ l.length ≤ 5 ∧ ∀ e ∈ l, (∃ i, e = .int i) ∨ ∃ z, e = .str z) → sm true 61 2 d = true ∧ nodes d ≤ 6 := by
      intro d hd
      have flat : ∀ l : List D, (∀ e ∈ l, (∃ i, e = .int i) ∨ ∃ z, e = .str z) → (∀ e ∈ l, sm true 61 1 e = true) ∧ nodesL l ≤ l.length := fun l hl => ⟨fun e he => by
        rcases hl e he with ⟨i, rfl⟩ | ⟨z, rfl⟩ <;> simp [sm], by
        have := nodesL_le 1 l fun e he => by
          rcases hl e he with ⟨i, rfl⟩ | ⟨z, rfl⟩ <;> simp [nodes]
        omega⟩
      rcases hd with ⟨l, rfl, h1, h2⟩ | ⟨l, rfl, h1, h2⟩
      · exact ⟨sm_tup.mpr ⟨by omega, (flat l h2).1⟩, by have := (flat l h2).2; simp only [nodes]; omega⟩
      · exact ⟨sm_lst.mpr ⟨by omega, (flat l h2).1⟩, by have := (flat l h2).2; simp only [nodes]; omega⟩
    have tp : ∀ l : List D, l.length ≤ 5 → (∀ e ∈ l, (∃ i, e = D.int i) ∨ ∃ z, e = D.str z) → sm true 61 2 (D.tup l) = true ∧ nodes (D.tup l) ≤ 6 := fun l h1 h2 => good _ (.inl ⟨l, rfl, h1, h2⟩)
    have ip : ∀ e : D, ∀ i, e = .int i → (∃ i, e = D.int i) ∨ ∃ z, e = D.str z := fun e i h => .inl ⟨i, h⟩
    obtain ⟨d1, m2, hS2, hd1, e1⟩ := h.lv.pick hS1 [D.tup [.str "jump", .int ((rs.length : Int) + 1), .int 0, .int 0, .int 2], .tup [.str "jump", .int (rs.length : Int), .int 0, .int 0, .int 2], .tup [.str "size", .int 1001], .tup [.str "jump", .int 0, .int 100001, .int 0, .int 8], .tup [.str "jump", .int 0, .int 0, .int 0, .int 9]] (by simp) (by simp) (fun d => sm true 61 2 d = true ∧ nodes d ≤ 6) (fun d hd => by
      simp only [List.mem_cons, List.not_mem_nil, or_false] at hd
      rcases hd with rfl | rfl | rfl | rfl | rfl <;> exact tp _ (by simp) (fun e he => by
        simp only [List.mem_cons, List.not_mem_nil, or_false] at he
        rcases he with rfl | he
        · exact .inr ⟨_, rfl⟩
        · left
          first
          | (rcases he with rfl | rfl | rfl | rfl <;> exact ⟨_, rfl⟩)
          | (exact ⟨_, he⟩)))
    obtain ⟨d2, m3, hS3, hd2, e2⟩ := h.lv.pick hS2 [d1, d1, D.tup [.str "size", .int (-1)], .tup [.str "jump", .int 0, .int 1, .int 1, .int 1], .lst [.str "size", .int 1], .tup [.str "jump", .int (-1), .int 9, .int 9, .int 2]] (by simp) (by simp) (fun d => sm true 61 2 d = true ∧ nodes d ≤ 6) (fun d hd => by
      simp only [List.mem_cons, List.not_mem_nil, or_false] at hd
      rcases hd with rfl | rfl | rfl | rfl | rfl | rfl
      · exact hd1
      · exact hd1
      · exact tp _ (by simp) (fun e he => by
          simp only [List.mem_cons, List.not_mem_nil, or_false] at he
          rcases he with rfl | rfl
          · exact .inr ⟨_, rfl⟩
          · exact .inl ⟨_, rfl⟩)
      · exact tp _ (by simp) (fun e he => by
          simp only [List.mem_cons, List.not_mem_nil, or_false] at he
          rcases he with rfl | rfl | rfl | rfl | rfl
          · exact .inr ⟨_, rfl⟩
          · exact .inl ⟨_, rfl⟩
          · exact .inl ⟨_, rfl⟩
          · exact .inl ⟨_, rfl⟩
          · exact .inl ⟨_, rfl⟩)
      · exact good _ (.inr ⟨_, rfl, by simp, fun e he => by
          simp only [List.mem_cons, List.not_mem_nil, or_false] at he
          rcases he with rfl | rfl
          · exact .inr ⟨_, rfl⟩
          · exact .inl ⟨_, rfl⟩⟩)
      · exact tp _ (by simp) (fun e he => by
          simp only [List.mem_cons, List.not_mem_nil, or_false] at he
          rcases he with rfl | rfl | rfl | rfl | rfl
          · exact .inr ⟨_, rfl⟩
          · exact .inl ⟨_, rfl⟩
          · exact .inl ⟨_, rfl⟩
          · exact .inl ⟨_, rfl⟩
          · exact .inl ⟨_, rfl⟩))
    refine ⟨.lst (rowsD rs ++ [d2]), .val d1, m3, ⟨sm_lst.mpr ⟨by simp; omega, fun d hd => ?_⟩, ?_⟩, hS3, ?_⟩
    · rcases List.mem_append.mp hd with hd | hd
      · obtain ⟨r, _, rfl⟩ := List.mem_map.mp hd
        exact encR_sm r (by omega)
      · rw [List.mem_singleton.mp hd]
        exact hd2.1
    · have h1 := rowsD_nodes rs
      have h2 := hd2.2
      simp only [nodes] at h1 ⊢
      rw [nodesL_app]
      simp only [nodesL]
      omega
    · have hlen : rs.length + 1 ≤ LIM := by omega
      simp [st_law_4, frE, a3, hq, l1, l2, l5, l6, e1, e2, hlen]
  · refine ⟨od, .un, m1, ho, hS1, ?_⟩
    simp [st_law_4, frE, a3, hq]
def dueD : List D := [.str "raised", .str "BadValue", .tup [.str "rows"]]
theorem law_run (h : Lw F ns) (h18 : F 18 [.ro (intsD ns)] [] = .ok (.d (.hnd 0)) (strm ns 0 0)) : ∃ m', retOf (b_law F ⟨[.ro (intsD ns), .un, .un, .un, .un, .un, .un], []⟩) = .ok (.d (.bl true)) m' := by
  have hL : LIM = 1000000 := rfl
  have l0 : 0 ≤ LIM := Nat.zero_le _
  have l1 : 1 ≤ LIM := by decide
  have l2 : 2 ≤ LIM := by decide
  have l3 : 3 ≤ LIM := by decide
  have s0 : st_law_0 F ⟨[.ro (intsD ns), .un, .un, .un, .un, .un, .un], []⟩ = .ok .nx (frE ns .un .un .un .un .un (strm ns 0 0)) := by
    simp [st_law_0, frE, h18]
  have hS0 : Strm ns (strm ns 0 0) := ⟨0, 0, rfl⟩
  obtain ⟨d, m1, hS1, a1, a2, a3⟩ := h.lv.next hS0 30 (by omega) (by omega)
  by_cases hd : d = 7
  · obtain ⟨m2, hS2, e45⟩ := h.great m1 hS1
    refine ⟨m2, ?_⟩
    rw [st_law, sSeq_ap, s0]
    dsimp only [Ou.bind_ok]
    rw [sSeq_ap]
    have s1 : st_law_1 F (frE ns .un .un .un .un .un (strm ns 0 0)) = .ok (.rt (.d (.bl true))) (frE ns .un .un .un .un .un m2) := by
      simp [st_law_1, frE, a3, hd, e45]
    rw [s1]
    rfl
  · have s1 : st_law_1 F (frE ns .un .un .un .un .un (strm ns 0 0)) = .ok .nx (frE ns .un .un .un .un .un m1) := by
      simp [st_law_1, frE, a3, hd]
    obtain ⟨rs, x2, m2, hg, hl, hS2, s2⟩ := law2 h m1 hS1
    obtain ⟨od, m3, hS3, ho, e29⟩ := h.lv.spoilt hS2 60 (by omega) (by omega) 2 (by omega) (.lst (rowsD rs)) (rowsD_sm (by omega) (by omega))
    have s3 : st_law_3 F (frE ns x2 .un .un (.val (.lst (rowsD rs))) .un m2) = .ok .nx (frE ns x2 (.val od) .un (.val (.lst (rowsD rs))) .un m3) := by
      simp [st_law_3, frE, e29]
    obtain ⟨od', a6, m4, ho', hS4, s4⟩ := law4 h rs hl od ⟨ho.1, by have := ho.2; have := rowsD_nodes rs; omega⟩ x2 m3 hS3
    have hlen : lenOk od' := by
      cases od' with
      | lst l =>
        have := (sm_lst.mp ho'.1).1
        show l.length ≤ LIM
        omega
      | _ => trivial
    have e41 := h.lv.rows_ok od' (sm_ok ho'.1) hlen m4
    cases hr : rowsOk od' with
    | true =>
      rw [hr] at e41
      obtain ⟨rs', rfl, hg'⟩ := rowsOk_rows hr
      have hl' : rs'.length ≤ 100 := by
        have := (sm_lst.mp ho'.1).1
        rw [rowsD_len] at this
        omega
      obtain ⟨m5, hS5, e44⟩ := h.answers rs' m4 hg' hl' hS4
      have s5 : st_law_5 F (frE ns x2 (.val (.lst (rowsD rs'))) .un (.val (.lst (rowsD rs))) a6 m4) = .ok (.rt (.d (.bl true))) (frE ns x2 (.val (.lst (rowsD rs'))) .un (.val (.lst (rowsD rs))) a6 m5) := by
        simp [st_law_5, frE, e41, e44]
      refine ⟨m5, ?_⟩
      rw [st_law, sSeq_ap, s0]
      dsimp only [Ou.bind_ok]
      rw [sSeq_ap, s1]
      dsimp only [Ou.bind_ok]
      rw [sSeq_ap, s2]
      dsimp only [Ou.bind_ok]
      rw [sSeq_ap, s3]
      dsimp only [Ou.bind_ok]
      rw [sSeq_ap, s4]
      dsimp only [Ou.bind_ok]
      rw [sSeq_ap, s5]
      rfl
    | false =>
      rw [hr] at e41
      have s5 : st_law_5 F (frE ns x2 (.val od') .un (.val (.lst (rowsD rs))) a6 m4) = .ok .nx (frE ns x2 (.val od') .un (.val (.lst (rowsD rs))) a6 m4) := by
        simp [st_law_5, frE, e41]
      have s6 : st_law_6 F (frE ns x2 (.val od') .un (.val (.lst (rowsD rs))) a6 m4) = .ok .nx (frE ns x2 (.val od') (.val (.lst dueD)) (.val (.lst (rowsD rs))) a6 m4) := by
        simp [st_law_6, frE, l1, l3, dueD]
      have e42 := h.lv.told_bad (W := true) (B := 61) (by omega) 3 (by omega) od' ho'.1 hlen hr m4
      have e43 := h.lv.judged_bad (W := true) (W2 := true) (B := 61) (by omega) 3 (by omega) od' (.tup [.lst [], .lst []]) ho'.1 (sm_tup.mpr ⟨by simp, fun d hd => by
        simp only [List.mem_cons, List.not_mem_nil, or_false] at hd
        rcases hd with rfl | rfl <;> exact sm_lst.mpr ⟨by simp, fun d hd => by cases hd⟩⟩) hlen hr m4
      have e25 := h.lv.same (.lst dueD) (by simp [okD, okDs, dueD]) (by simp [nodes, nodesL, dueD]) m4
      have s7 : retOf (st_law_7 F (frE ns x2 (.val od') (.val (.lst dueD)) (.val (.lst (rowsD rs))) a6 m4)) = .ok (.d (.bl true)) m4 := by
        simp only [dueD] at e25 ⊢
        simp [st_law_7, frE, e42, e43, e25, l0, l2]
      refine ⟨m4, ?_⟩
      rw [st_law, sSeq_ap, s0]
      dsimp only [Ou.bind_ok]
      rw [sSeq_ap, s1]
      dsimp only [Ou.bind_ok]
      rw [sSeq_ap, s2]
      dsimp only [Ou.bind_ok]
      rw [sSeq_ap, s3]
      dsimp only [Ou.bind_ok]
      rw [sSeq_ap, s4]
      dsimp only [Ou.bind_ok]
      rw [sSeq_ap, s5]
      dsimp only [Ou.bind_ok]
      rw [sSeq_ap, s6]
      dsimp only [Ou.bind_ok]
      exact s7
end
theorem law_deep (ns : List Int) (n : Nat) : ∃ m', FF tab (n + 14) 46 [.ro (intsD ns)] [] = .ok (.d (.bl true)) m' := by
  obtain ⟨m', h⟩ := law_run (lw_of ns n) (stream_ok (n + 12) ns)
  refine ⟨m', ?_⟩
  rw [FF_at (fn := fn_law) rfl rfl (by decide)]
  exact h
theorem math (ns : List Int) (h : ns.length ≤ 63) : ∃ m', FF tab (DEPTH + 1) 46 [.ro (intsD ns)] [] = .ok (.d (.bl true)) m' := by
  obtain ⟨m', h⟩ := law_deep ns 17
  exact ⟨m', FF_cast (by decide) h⟩
end K78

set_option Elab.async false
set_option linter.all false
set_option maxRecDepth 100000
set_option maxHeartbeats 0
/-! K78Fin: the claim -/
namespace K78
open PySem PySem.Spec PySem.W PySem.Calls PyProof.Rows L2 Pm
theorem facts {w : World} {K : PySem.W.Frag} {h : Heap} {mg : PySem.Str → Option Value} {f : Addr} (X : K.In h) (G : h.Ns mainGlobals mg) (hfa : mg ("law" : PySem.Str) = some (.ref f)) (c : SaysQ testB faL fnL K) :
    ∃ fd : FuncData, (∀ (s : Shared) (v : Value), BindsTo s fd ⟨[v], []⟩ [("script", v)]) ∧ ∀ base : Heap, K.In base → base.Ns mainGlobals mg → FnOk (PySem.Challenge.rw_wellrun_k78_whole_least_lengths).prog w K mg base CX0 (DEPTH + 3) f fd ["script"] (fun vs H Q _ => spF K (CAof K) (FF tab (DEPTH + 1)) 46 1 vs H Q fun _ _ _ => False) := by
  obtain ⟨t, c⟩ := c
  obtain ⟨fd, F⟩ := c.def_ 46 (d := d_law) rfl
  have e := hfa.symm.trans (He.glo_ok X G (c.fact 46 (f := .glo "law") rfl))
  cases e
  have b := FunD.bindsA (ps := ["script"]) F fun _ _ _ _ _ _ us hl => match us, hl with | [_], _ => rfl
  exact ⟨fd, fun s v => b s [v] rfl, fun base _ _ => calm_ok (ok_law (txOk X G t c) (csOk X G (txOk X G t c) (hotC X G t c) c DEPTH) (by decide) F fun _ _ => rfl)⟩
end K78
open PySem PySem.W PySem.Calls PyProof.Rows
theorem PySem.Challenge.cw_wellrun_k78_whole_least_lengths_holds : PySem.Challenge.rw_wellrun_k78_whole_least_lengths.Holds := by
  w_on; o_law
  refine HandSHeadRun.head_any (r := K78.Rw) (q := view K78.Rw.prog [70]) (H := K78.hkQ) (ob := K78.obQ) (M := 20000) (loose := K78.loose) (d := HandSHeadRun.topDef K78.Rw.prog 70) (kwd := []) K78.obQ_eq
    (by kernel_rfl) (fun s => by kernel_rfl) K78.run (by kernel_rfl) (by kernel_rfl) (by kernel_rfl) (by rfl) (by first | assumption | decide +kernel) (by decide +kernel) ⟨rfl, rfl, rfl, rfl, rfl, by decide +kernel⟩ ?hw ?hc
  case hw => w_witness2
  case hc =>
    refine L2.walk_ofE (l := PySem.Challenge.rw_wellrun_k78_whole_least_lengths) (n := 63) (k := K78.DEPTH + 3) (x := "script") (CX := L2.CX0) rfl (by decide) (by kernel_rfl) ⟨rfl, by decide, by decide⟩ ?F (fun _ _ _ _ z => z)
    intro w mg fa h Y G hmg0
    obtain ⟨K, KX, c⟩ := Y
    have hmg : mg ("law" : PySem.Str) = some (.ref fa) := by
      have e : (HandSHeadRun.topDef K78.Rw.prog 70).name = ("law" : PySem.Str) := by kernel_rfl
      rw [← e]
      exact hmg0
    obtain ⟨fd, hb, hF⟩ := K78.facts (w := w) KX G hmg c
    exact ⟨K, fd, fun vs H Q _ => Pm.spF K (K78.CAof K) (Pm.FF K78.tab (K78.DEPTH + 1)) 46 1 vs H Q fun _ _ _ => False, KX, hb, fun H a ns hl _ hS => Pm.law_sp hS (K78.math ns hl), hF⟩
