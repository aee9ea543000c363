import PyProof.Rows.All
import Wide.All
import OpenK.AllK
import Wide.FinOn
import HandS.ForMost
import HandS.Exc
import HandS.CallSlots
import HandS.TryMany
import HandS.WordsExc
import HandS.List
import HandS.Text
import HandS.Deep
import HandS.IsInst
import HandS.Steps
import HandS.Conv
import HandS.Rev
import HandS.TupAny
import HandS.Style
import HandS.SetFor
import KE.KExcSuper
import KE.KSuper
import HandS.ExcInit
import HandS.ExcOwn
import HandS.Defaults
import HandS.HeadHook2
import HandS.HeadEnd
import HandS.ExcIs
import HandS.RevRange
import HandS.Head0
import HandS.Head1
import HandS.Head2
import HandS.HeadHook1
import PySem.Challenge.RW_graftbook_k20_steps_run
set_option Elab.async false
set_option linter.all false
set_option maxRecDepth 100000
/-! G1: a small semantics of the fragment: data are trees; a local list or dict is owned by its slot. -/
namespace Gr
open PySem
/-- frozen data -/
inductive P where
  | non | bl (b : Bool) | int (i : Int) | str (s : List Nat)
  | tup (xs : List P) | lst (xs : List P) | dct (ks vs : List P) | inp (ns : List Int)
/-- what a slot holds: frozen data, an owned list, an owned dict, a caught error -/
inductive D where
  | pure (p : P) | ols (xs : List P) | odc (ks vs : List P) | exn (c : Nat) (fs : List (Nat × P))
abbrev Sl := Option D
abbrev Ev := List Sl
inductive Rv where
  | val (d : D) | slot (i : Nat)
inductive Res where
  | ok (r : D) (ws : List D) | rs (c : Nat) (fs : List (Nat × P)) (ws : List D) | stk
structure Ct where
  call : Nat → List D → Res
  lk : List Nat
inductive Out (α : Type) where
  | ok (a : α) (e : Ev) | rs (c : Nat) (fs : List (Nat × P)) (e : Ev) | stk
abbrev M (α : Type) := Ct → Ev → Out α
inductive Flow where
  | nx | rt (d : D) | bk | ct
abbrev MI := M (List P × List Nat)

/-- the number of items that a list, the letters that a text may have here -/
def line : Nat := 16000000

def D.pv : D → Option P
  | .pure p => some p
  | .ols xs => some (.lst xs)
  | .odc ks vs => some (.dct ks vs)
  | .exn _ _ => none
def D.flat : D → Bool
  | .exn _ _ => false
  | _ => true
def getS (e : Ev) (i : Nat) : Sl := (e[i]?).getD none
def Rv.pv (e : Ev) : Rv → Option P
  | .val d => d.pv
  | .slot i => (getS e i).bind D.pv
def Rv.lks : Rv → List Nat
  | .val _ => []
  | .slot i => [i]
def Ct.lock (c : Ct) (l : List Nat) : Ct := { c with lk := l ++ c.lk }
def Out.andThen {α β : Type} (o : Out α) (k : α → Ev → Out β) : Out β := match o with
  | .ok a e => k a e
  | .rs c f e => .rs c f e
  | .stk => .stk
def ofOpt {α : Type} (o : Option α) (e : Ev) : Out α := match o with
  | some a => .ok a e
  | none => .stk

/-! ### expressions -/
def mStk {α : Type} : M α := fun _ _ => .stk
def mC (p : P) : M Rv := fun _ e => .ok (.val (.pure p)) e
def mV (i : Nat) : M Rv := fun _ e => match getS e i with
  | some (.pure p) => .ok (.val (.pure p)) e
  | some (.ols _) => .ok (.slot i) e
  | some (.odc _ _) => .ok (.slot i) e
  | _ => .stk
/-- what is stored elsewhere is frozen -/
def leakR (r : Rv) (c : Ct) (e : Ev) : Out P := match r with
  | .val d => ofOpt d.pv e
  | .slot i => if c.lk.contains i then .stk else match (getS e i).bind D.pv with
    | some p => .ok p (e.set i (some (.pure p)))
    | none => .stk
def mLeak (m : M Rv) : M P := fun c e => (m c e).andThen fun r e1 => leakR r c e1
def mP (m : M P) : M Rv := fun c e => (m c e).andThen fun p e1 => .ok (.val (.pure p)) e1
/-- operators by contents -/
def mOp1 (f : P → Option D) (a : M Rv) : M Rv := fun c e => (a c e).andThen fun r e1 => match r.pv e1 with
  | some x => (match f x with
    | some d => .ok (.val d) e1
    | none => .stk)
  | none => .stk
def mOp2 (f : P → P → Option D) (a b : M Rv) : M Rv := fun c e => (a c e).andThen fun r e1 => (b (c.lock r.lks) e1).andThen fun s e2 => match r.pv e2, s.pv e2 with
  | some x, some y => (match f x y with
    | some d => .ok (.val d) e2
    | none => .stk)
  | _, _ => .stk
/-- items that are stored -/
def mLs : List (M Rv) → M (List P)
  | [] => fun _ e => .ok [] e
  | m :: ms => fun c e => (mLeak m c e).andThen fun p e1 => (mLs ms c e1).andThen fun ps e2 => .ok (p :: ps) e2
def mTup (ms : List (M Rv)) : M Rv := fun c e => (mLs ms c e).andThen fun ps e1 => .ok (.val (.pure (.tup ps))) e1
def mLst (ms : List (M Rv)) : M Rv := fun c e => (mLs ms c e).andThen fun ps e1 => .ok (.val (.ols ps)) e1
/-! truth -/
def truP : P → Option Bool
  | .non => some false
  | .bl b => some b
  | .int i => some (i != 0)
  | .str s => if s.length < line then some (!s.isEmpty) else none
  | .tup xs => some (!xs.isEmpty)
  | .lst xs => some (!xs.isEmpty)
  | .inp ns => some (!ns.isEmpty)
  | .dct _ _ => none
def mTr (m : M Rv) : M Bool := fun c e => (m c e).andThen fun r e1 => match r.pv e1 with
  | some x => ofOpt (truP x) e1
  | none => .stk
def mNotT (t : M Bool) : M Bool := fun c e => (t c e).andThen fun b e1 => .ok (!b) e1
def mAndT (t u : M Bool) : M Bool := fun c e => (t c e).andThen fun b e1 => if b = true then u c e1 else .ok false e1
def mOrT (t u : M Bool) : M Bool := fun c e => (t c e).andThen fun b e1 => if b = true then .ok true e1 else u c e1
/-- a truth as a value; values that must be truths -/
def blP : P → Option Bool
  | .bl b => some b
  | _ => none
def mNotV (m : M Rv) : M Rv := fun c e => (m c e).andThen fun r e1 => match r.pv e1 with
  | some (.bl b) => .ok (.val (.pure (.bl (!b)))) e1
  | _ => .stk
def mAndV (a b : M Rv) : M Rv := fun c e => (a c e).andThen fun r e1 => match r.pv e1 with
  | some (.bl true) => b c e1
  | some (.bl false) => .ok (.val (.pure (.bl false))) e1
  | _ => .stk
def mOrV (a b : M Rv) : M Rv := fun c e => (a c e).andThen fun r e1 => match r.pv e1 with
  | some (.bl true) => .ok (.val (.pure (.bl true))) e1
  | some (.bl false) => b c e1
  | _ => .stk
def mIfE (t : M Bool) (a b : M Rv) : M Rv := fun c e => (t c e).andThen fun k e1 => if k = true then a c e1 else b c e1
/-- a < b < c -/
def mChain (f g : P → P → Option D) (a b d : M Rv) : M Rv := fun c e => (a c e).andThen fun r e1 => (b (c.lock r.lks) e1).andThen fun s e2 => match r.pv e2, s.pv e2 with
  | some x, some y => (match f x y with
    | some (.pure (.bl true)) => (d ((c.lock r.lks).lock s.lks) e2).andThen fun t e3 => (match s.pv e3, t.pv e3 with
      | some y, some z => (match g y z with
        | some (.pure (.bl k)) => .ok (.val (.pure (.bl k))) e3
        | _ => .stk)
      | _, _ => .stk)
    | some (.pure (.bl false)) => .ok (.val (.pure (.bl false))) e2
    | _ => .stk)
  | _, _ => .stk
/-! calls -/
/-- arguments: (is it changed, what it is); pr: what comes back holds no list -/
def evAs (pr : Bool) : List (Bool × M Rv) → M (List Rv)
  | [] => fun _ e => .ok [] e
  | (mp, m) :: ms => fun c e => (m c e).andThen fun r e1 =>
    if (mp || pr) = true then (evAs pr ms (c.lock r.lks) e1).andThen fun rs e2 => .ok (r :: rs) e2
    else (leakR r c e1).andThen fun p e2 => (evAs pr ms c e2).andThen fun rs e3 => .ok (.val (.pure p) :: rs) e3
/-- the data handed over: what is changed as it is, all else frozen -/
def argD (e : Ev) : List Bool → List Rv → Option (List D)
  | [], [] => some []
  | true :: fl, .val d :: rs => (argD e fl rs).map (d :: ·)
  | true :: fl, .slot i :: rs => match getS e i with
    | some d => (argD e fl rs).map (d :: ·)
    | none => none
  | false :: fl, r :: rs => match r.pv e with
    | some p => (argD e fl rs).map (.pure p :: ·)
    | none => none
  | _, _ => none
/-- the slots that are changed -/
def mpS : List Bool → List Rv → List Nat
  | true :: fl, .slot i :: rs => i :: mpS fl rs
  | _ :: fl, _ :: rs => mpS fl rs
  | _, _ => []
/-- the slots that are only read -/
def seenS : List Bool → List Rv → List Nat
  | false :: fl, .slot i :: rs => i :: seenS fl rs
  | _ :: fl, _ :: rs => seenS fl rs
  | _, _ => []
def backW : List Bool → List Rv → List D → Ev → Ev
  | true :: fl, .slot i :: rs, w :: ws, e => backW fl rs ws (e.set i (some w))
  | true :: fl, .val _ :: rs, _ :: ws, e => backW fl rs ws e
  | false :: fl, _ :: rs, ws, e => backW fl rs ws e
  | _, _, _, e => e
def noDup : List Nat → Bool
  | [] => true
  | a :: l => !l.contains a && noDup l
def agOk (lk : List Nat) (pr : Bool) (fl : List Bool) (rs : List Rv) : Bool := (pr || (seenS fl rs).isEmpty) && noDup (mpS fl rs) && (mpS fl rs).all fun i => !lk.contains i && !(seenS fl rs).contains i
def argFit : List Bool → List D → Bool
  | [], [] => true
  | true :: mp, .ols _ :: ds => argFit mp ds
  | true :: mp, .odc _ _ :: ds => argFit mp ds
  | false :: mp, .pure _ :: ds => argFit mp ds
  | _, _ => false
def callR (f : Nat) (pr : Bool) (fl : List Bool) (c : Ct) (rs : List Rv) (e1 : Ev) : Out Rv :=
  if agOk c.lk pr fl rs = true then (match argD e1 fl rs with
    | some ds => if argFit fl ds = true then (match c.call f ds with
      | .ok r ws => .ok (.val r) (backW fl rs ws e1)
      | .rs x fs ws => .rs x fs (backW fl rs ws e1)
      | .stk => .stk) else .stk
    | none => .stk)
  else .stk
def mCall (f : Nat) (pr : Bool) (as : List (Bool × M Rv)) : M Rv := fun c e => (evAs pr as c e).andThen fun rs e1 => callR f pr (as.map (·.1)) c rs e1
/-- by keywords: ix: where the parameters stand among them -/
def pick {α : Type} (ix : List Nat) (l : List α) : List α := ix.filterMap fun i => l[i]?
def mCallK (f : Nat) (pr : Bool) (ix : List Nat) (as : List (Bool × M Rv)) : M Rv := fun c e => (evAs pr as c e).andThen fun rs e1 => callR f pr (pick ix (as.map (·.1))) c (pick ix rs) e1
/-! targets -/
inductive Tg where
  | nm (i : Nat) | tp (ts : List Nat)
def bindN (c : Ct) (i : Nat) (d : D) (e : Ev) : Option Ev := if (c.lk.contains i || decide (e.length ≤ i)) = true then none else some (e.set i (some d))
def bindNs (c : Ct) : List Nat → List P → Ev → Option Ev
  | [], [], e => some e
  | i :: is, p :: ps, e => (bindN c i (.pure p) e).bind (bindNs c is ps)
  | _, _, _ => none
def bindT (c : Ct) : Tg → P → Ev → Option Ev
  | .nm i, p, e => bindN c i (.pure p) e
  | .tp is, .tup ps, e => bindNs c is ps e
  | .tp _, _, _ => none
/-! what is walked -/
def itemsOf : P → Option (List P)
  | .inp ns => some (ns.map .int)
  | .lst xs => some xs
  | .tup xs => some xs
  | .str s => some (s.map fun c => .str [c])
  | _ => none
def iVal (m : M Rv) : MI := fun c e => (m c e).andThen fun r e1 => match (r.pv e1).bind itemsOf with
  | some xs => .ok (xs, r.lks) e1
  | none => .stk
def b62 : Int := 4611686018427387904
def okR (i : Int) : Bool := decide (-b62 ≤ i) && decide (i < b62)
def upTo (lo : Int) : Nat → List P
  | 0 => []
  | n + 1 => .int lo :: upTo (lo + 1) n
def stepTo (lo c : Int) : Nat → List P
  | 0 => []
  | n + 1 => .int lo :: stepTo (lo + c) c n
def intP : P → Option Int
  | .int i => some i
  | _ => none
def iR1 (m : M Rv) : MI := fun c e => (m c e).andThen fun r e1 => match r.pv e1 with
  | some (.int j) => if okR j = true then .ok (upTo 0 j.toNat, []) e1 else .stk
  | _ => .stk
def iR2 (a b : M Rv) : MI := fun c e => (a c e).andThen fun r e1 => (b (c.lock r.lks) e1).andThen fun s e2 => match r.pv e2, s.pv e2 with
  | some (.int i), some (.int j) => if (okR i && okR j) = true then .ok (upTo i (j - i).toNat, []) e2 else .stk
  | _, _ => .stk
/-- downwards by ones -/
def downTo (i : Int) : Nat → List P
  | 0 => []
  | n + 1 => .int i :: downTo (i - 1) n
def iRd (a b : M Rv) : MI := fun c e => (a c e).andThen fun r e1 => (b (c.lock r.lks) e1).andThen fun s e2 => match r.pv e2, s.pv e2 with
  | some (.int i), some (.int j) => if (okR i && okR j) = true then .ok (downTo i (i - j).toNat, []) e2 else .stk
  | _, _ => .stk
def enumFrom (k : Int) : List P → List P
  | [] => []
  | x :: xs => .tup [.int k, x] :: enumFrom (k + 1) xs
def iEnum (m : M Rv) : MI := fun c e => (m c e).andThen fun r e1 => match r.pv e1 with
  | some (.lst xs) => .ok (enumFrom 0 xs, r.lks) e1
  | some (.tup xs) => .ok (enumFrom 0 xs, r.lks) e1
  | _ => .stk
def zipP : List P → List P → List P
  | x :: xs, y :: ys => .tup [x, y] :: zipP xs ys
  | _, _ => []
def seqP : P → Option (List P)
  | .lst xs => some xs
  | .tup xs => some xs
  | _ => none
def iZip (a b : M Rv) : MI := fun c e => (a c e).andThen fun r e1 => (b (c.lock r.lks) e1).andThen fun s e2 => match (r.pv e2).bind seqP, (s.pv e2).bind seqP with
  | some xs, some ys => .ok (zipP xs ys, r.lks ++ s.lks) e2
  | _, _ => .stk
/-! comprehensions -/
def wipeE (e : Ev) : List Nat → Ev
  | [] => e
  | i :: is => (wipeE e is).set i none
def compF (tg : Tg) (t : M Bool) (elt : M Rv) (own : List Nat) (c : Ct) : List P → Ev → Out (List P)
  | [], e => .ok [] e
  | x :: xs, e => match bindT c tg x e with
    | some e1 => (match t c e1 with
      | .ok true e2 => (match mLeak elt c e2 with
        | .ok p e3 => (match compF tg t elt own c xs (wipeE e3 own) with
          | .ok ps e4 => .ok (p :: ps) e4
          | _ => .stk)
        | _ => .stk)
      | .ok false e2 => compF tg t elt own c xs (wipeE e2 own)
      | _ => .stk)
    | none => .stk
def mYes : M Bool := fun _ e => .ok true e
def mComp (own : List Nat) (tg : Tg) (it : MI) (t : M Bool) (elt : M Rv) : M Rv := fun c e => (it c e).andThen fun xl e1 =>
  if (decide (xl.1.length ≤ line) && own.all fun i => !(xl.2 ++ c.lk).contains i) = true then (match compF tg t elt own (c.lock xl.2) xl.1 (wipeE e1 own) with
    | .ok ps e2 => .ok (.val (.ols ps)) e2
    | _ => .stk) else .stk

/-! ### statements -/
def mSeq (a b : M Flow) : M Flow := fun c e => (a c e).andThen fun f e1 => match f with
  | .nx => b c e1
  | f => .ok f e1
def mNx : M Flow := fun _ e => .ok .nx e
def mBk : M Flow := fun _ e => .ok .bk e
def mCt : M Flow := fun _ e => .ok .ct e
def mEx (m : M Rv) : M Flow := fun c e => (m c e).andThen fun _ e1 => .ok .nx e1
/-- return: the value as it is; a slot's own list goes along, but a parameter's that is changed (mps) -/
def mRt (mps : List Nat) (m : M Rv) : M Flow := fun c e => (m c e).andThen fun r e1 => match r with
  | .val d => .ok (.rt d) e1
  | .slot i => if mps.contains i then (leakR (.slot i) c e1).andThen fun p e2 => .ok (.rt (.pure p)) e2
    else if c.lk.contains i then .stk else match getS e1 i with
    | some d => .ok (.rt d) (e1.set i none)
    | none => .stk
def mIf (t : M Bool) (a b : M Flow) : M Flow := fun c e => (t c e).andThen fun k e1 => if k = true then a c e1 else b c e1
def mSet (i : Nat) (m : M Rv) : M Flow := fun c e => (m c e).andThen fun r e1 => match r with
  | .val d => (match bindN c i d e1 with
    | some e2 => .ok .nx e2
    | none => .stk)
  | .slot j => (leakR (.slot j) c e1).andThen fun p e2 => (match bindN c i (.pure p) e2 with
    | some e3 => .ok .nx e3
    | none => .stk)
def mSetT (is : List Nat) (m : M Rv) : M Flow := fun c e => (mLeak m c e).andThen fun p e1 => match p with
  | .tup ps => (match bindNs c is ps e1 with
    | some e2 => .ok .nx e2
    | none => .stk)
  | _ => .stk
/-- a, b = x, y: no tuple is made -/
def mPar (i j : Nat) (a b : M Rv) : M Flow := fun c e => (mLs [a, b] c e).andThen fun ps e1 => match bindNs c [i, j] ps e1 with
  | some e2 => .ok .nx e2
  | none => .stk
/-- x op= e -/
def mAug (f : P → P → Option D) (i : Nat) (m : M Rv) : M Flow := fun c e => match getS e i with
  | some (.pure x) => (m c e).andThen fun r e1 => (match r.pv e1 with
    | some y => (match f x y with
      | some d => (match bindN c i d e1 with
        | some e2 => .ok .nx e2
        | none => .stk)
      | none => .stk)
    | none => .stk)
  | _ => .stk
/-- place of an index in so many items -/
def ixOf (n : Nat) (k : Int) : Option Nat := if 0 ≤ k then (if k < n then some k.toNat else none) else (if 0 ≤ k + n then some (k + n).toNat else none)
/-- x[k] = v, x a slot -/
def mPut (i : Nat) (k v : M Rv) : M Flow := fun c e => (mLeak v c e).andThen fun p e1 => match getS e1 i with
  | some (.ols _) => (k (c.lock [i]) e1).andThen fun r e2 => (if c.lk.contains i then .stk else match getS e2 i, r.pv e2 with
    | some (.ols xs), some (.int j) => (match ixOf xs.length j with
      | some n => .ok .nx (e2.set i (some (.ols (xs.set n p))))
      | none => .stk)
    | _, _ => .stk)
  | _ => .stk
/-- x.append(v) -/
def mApp (i : Nat) (v : M Rv) : M Rv := fun c e => match getS e i with
  | some (.ols _) => (mLeak v (c.lock [i]) e).andThen fun p e1 => (if c.lk.contains i then .stk else match getS e1 i with
    | some (.ols xs) => if xs.length < line then .ok (.val (.pure .non)) (e1.set i (some (.ols (xs ++ [p])))) else .stk
    | _ => .stk)
  | _ => .stk
/-- x.pop() -/
def mPop (i : Nat) : M Rv := fun c e => if c.lk.contains i then .stk else match getS e i with
  | some (.ols xs) => (match xs.getLast? with
    | some p => .ok (.val (.pure p)) (e.set i (some (.ols xs.dropLast)))
    | none => .stk)
  | _ => .stk
/-- x.extend(ys) -/
def mExt (i : Nat) (v : M Rv) : M Rv := fun c e => match getS e i with
  | some (.ols _) => (v (c.lock [i]) e).andThen fun r e1 => (if c.lk.contains i then .stk else match getS e1 i, r.pv e1 with
    | some (.ols xs), some (.lst ys) => if xs.length + ys.length ≤ line then .ok (.val (.pure .non)) (e1.set i (some (.ols (xs ++ ys)))) else .stk
    | _, _ => .stk)
  | _ => .stk
/-- x.insert(k, v) -/
def insAt (xs : List P) (k : Nat) (p : P) : List P := xs.take k ++ p :: xs.drop k
def mIns (i : Nat) (k v : M Rv) : M Rv := fun c e => match getS e i with
  | some (.ols _) => (k (c.lock [i]) e).andThen fun r e1 => match r.pv e1 with
    | some (.int j) => (mLeak v (c.lock [i]) e1).andThen fun p e2 => (if (c.lk.contains i || !(decide (0 ≤ j) && okR j)) = true then .stk else match getS e2 i with
      | some (.ols xs) => if xs.length < line then .ok (.val (.pure .non)) (e2.set i (some (.ols (insAt xs j.toNat p)))) else .stk
      | _ => .stk)
    | _ => .stk
  | _ => .stk
/-- for -/
def forF (tg : Tg) (body : M Flow) (c : Ct) : List P → Ev → Out Flow
  | [], e => .ok .nx e
  | x :: xs, e => match bindT c tg x e with
    | some e1 => (body c e1).andThen fun f e2 => (match f with
      | .nx => forF tg body c xs e2
      | .ct => forF tg body c xs e2
      | .bk => .ok .nx e2
      | .rt d => .ok (.rt d) e2)
    | none => .stk
def mFor (tg : Tg) (it : MI) (body : M Flow) : M Flow := fun c e => (it c e).andThen fun xl e1 => forF tg body (c.lock xl.2) xl.1 e1
/-- while; so many turns at most -/
def most : Nat := 1000000
def whF (t : M Bool) (body : M Flow) (c : Ct) : Nat → Ev → Out Flow
  | 0, _ => .stk
  | n + 1, e => (t c e).andThen fun k e1 => if k = true then (body c e1).andThen fun f e2 => (match f with
      | .nx => whF t body c n e2
      | .ct => whF t body c n e2
      | .bk => .ok .nx e2
      | .rt d => .ok (.rt d) e2) else .ok .nx e1
def mWh (t : M Bool) (body : M Flow) : M Flow := fun c e => whF t body c most e
/-- raise X(..): ats: its fields, in order -/
def mRs (x : Nat) (ats : List Nat) (ms : List (M Rv)) : M Flow := fun c e => (mLs ms c e).andThen fun ps e1 => .rs x (ats.zip ps).reverse e1
/-- e.f of a caught error -/
def mAt (i f : Nat) : M Rv := fun _ e => match getS e i with
  | some (.exn _ fs) => (match fs.lookup f with
    | some p => .ok (.val (.pure p)) e
    | none => .stk)
  | _ => .stk
/-- an except clause: the classes that it takes, the slot of its name, its suite -/
structure Hd where
  takes : Nat → Option Bool
  slot : Option Nat
  suite : M Flow
def noRs {α : Type} : Out α → Out α
  | .rs _ _ _ => .stk
  | o => o
def noExn : Ev → Bool
  | [] => true
  | some (.exn _ _) :: _ => false
  | _ :: e => noExn e
def Flow.flat : Flow → Bool
  | .rt d => d.flat
  | _ => true
/-- an except clause's suite, its name's slot -/
def suiF (x : Nat) (fs : List (Nat × P)) (i : Nat) (m : M Flow) : M Flow := fun c e => if (c.lk.contains i || decide (e.length ≤ i)) = true then .stk else (noRs (m c (e.set i (some (.exn x fs))))).andThen fun f e1 => if (noExn (e1.set i none) && f.flat) = true then .ok f (e1.set i none) else .stk
def hdF (x : Nat) (fs : List (Nat × P)) : List Hd → M Flow
  | [] => fun _ e => .rs x fs e
  | h :: hs => fun c e => match h.takes x with
    | some true => (match h.slot with
      | none => (noRs (h.suite c e)).andThen fun f e1 => if (noExn e1 && f.flat) = true then .ok f e1 else .stk
      | some i => suiF x fs i h.suite c e)
    | some false => hdF x fs hs c e
    | none => .stk
def mTry (body : M Flow) (hs : List Hd) : M Flow := fun c e => match body c e with
  | .rs x fs e1 => hdF x fs hs c e1
  | o => o

/-! ### a def -/
/-! no list, no dict stands in it -/
mutual
def P.bare : P → Bool
  | .tup xs => P.bares xs
  | .lst _ => false
  | .dct _ _ => false
  | .inp _ => false
  | _ => true
def P.bares : List P → Bool
  | [] => true
  | x :: xs => x.bare && P.bares xs
end
def D.bare : D → Bool
  | .pure p => p.bare
  | _ => false
def D.bareIn : D → Bool
  | .pure p => p.bare
  | .ols xs => P.bares xs
  | _ => false
/-- a def: parameters, which of them are changed, how many slots, whether what comes back is bare, the body -/
structure Df where
  mp : List Bool
  n : Nat
  pr : Bool
  body : M Flow
/-- the parameters that are changed, at the end -/
def wsOf (mp : List Bool) (e : Ev) : Option (List D) := match mp, e with
  | [], _ => some []
  | true :: mp, some d :: e => if d.flat = true then (wsOf mp e).map (d :: ·) else none
  | false :: mp, _ :: e => wsOf mp e
  | _, _ => none
def Df.end_ (f : Df) (r : D) (e : Ev) : Res := match wsOf f.mp e with
  | some ws => if (r.flat && (!f.pr || (r.bare && ws.all D.bareIn))) = true then .ok r ws else .stk
  | none => .stk
def runD (f : Df) (call : Nat → List D → Res) (ds : List D) : Res :=
  if (argFit f.mp ds && decide (ds.length ≤ f.n)) = true then
    match f.body ⟨call, []⟩ (ds.map some ++ List.replicate (f.n - ds.length) none) with
    | .ok (.rt d) e => f.end_ d e
    | .ok .nx e => f.end_ (.pure .non) e
    | .ok _ _ => .stk
    | .rs x fs e => (match wsOf f.mp e with
      | some ws => if (!f.pr || ((fs.all fun q => q.2.bare) && ws.all D.bareIn)) = true then .rs x fs ws else .stk
      | none => .stk)
    | .stk => .stk
  else .stk
def callN (T : List Df) : Nat → Nat → List D → Res
  | 0 => fun _ _ => .stk
  | n + 1 => fun f ds => match T[f]? with
    | some d => runD d (callN T n) ds
    | none => .stk
end Gr
set_option Elab.async false
set_option linter.all false
set_option maxRecDepth 100000
/-! G2: how data stand in the abstract heap; the world of a frame. -/
namespace Gr
open PySem PySem.Spec L2

/-- a list of the written part -/
def KL (K : PySem.W.Frag) (a : Addr) (vs : List V) : Prop :=
  ∃ (o : Obj) (its : Array Value) (n : Nat), K.lookup a = some o ∧ o.cls = .type "list" ∧ o.dict = none ∧ o.data = .seq its n ∧ its.size ≤ sizeLine ∧ Vals vs its.toList
def kP : Key → P
  | .inl i => .int i
  | .inr x => .str x.cps.toList
def kT (k : List Key) : P := .tup (k.map kP)
section
variable (K : PySem.W.Frag) (H : Hp) (bad : Addr → Prop)
mutual
/-- v stands for p: frozen lists are not at bad places -/
def RF : P → V → Prop
  | .non, v => v = .non
  | .bl b, v => v = .bl b
  | .int i, v => v = .int i
  | .str s, v => ∃ x : Str, v = .str x ∧ x.cps.toList = s ∧ x.cps.all (· < 0x110000) = true
  | .tup xs, v => ∃ a vs, v = .ref a ∧ SqT K H a vs ∧ RFs xs vs
  | .inp ns, v => ∃ a, v = .ref a ∧ ((Rd H a (.lst (ns.map V.int)) ∧ ¬ bad a) ∨ KL K a (ns.map V.int))
  | .lst xs, v => ∃ a vs, v = .ref a ∧ H a = some (.lst vs) ∧ ¬ bad a ∧ RFs xs vs
  | .dct ks xs, v => ∃ a, v = .ref a ∧ ¬ bad a ∧ ((∃ kvs, H a = some (.dK kvs) ∧ ks = kvs.map (fun q => kP q.1) ∧ RFs xs (kvs.map (·.2))) ∨
      (∃ kvs, H a = some (.dT kvs) ∧ ks = kvs.map (fun q => kT q.1) ∧ RFs xs (kvs.map (·.2))))
def RFs : List P → List V → Prop
  | [], vs => vs = []
  | x :: xs, vs => ∃ v r, vs = v :: r ∧ RF x v ∧ RFs xs r
end
end
def isC : HO → Prop
  | .lst _ => True
  | .dK _ => True
  | .dT _ => True
  | _ => False
section
variable {K : PySem.W.Frag} {H H' : Hp} {bad bad' : Addr → Prop}
theorem rd_keep {a : Addr} {u : HO} (hH : ∀ a o, H a = some o → (bad a → ¬ isC o) → H' a = some o) (h : Rd H a u) (hn : bad a → ¬ isC u) : Rd H' a u := by
  rcases h with h | ⟨o, h⟩
  · exact .inl (hH a u h hn)
  · exact .inr ⟨o, hH a _ h fun _ z => z⟩
theorem rd_some {a : Addr} {u : HO} (h : Rd H a u) : ∃ o, H a = some o := by
  rcases h with h | ⟨o, h⟩
  · exact ⟨_, h⟩
  · exact ⟨_, h⟩
theorem sqT_keep {a : Addr} {vs : List V} (hH : ∀ a o, H a = some o → (bad a → ¬ isC o) → H' a = some o) (h : SqT K H a vs) : SqT K H' a vs := by
  rcases h with h | h
  · exact .inl (rd_keep hH h fun _ z => z)
  · exact .inr h
mutual
theorem RF.mono (hH : ∀ a o, H a = some o → (bad a → ¬ isC o) → H' a = some o) (hb : ∀ a, bad' a → bad a ∨ H a = none) : ∀ {p : P} {v : V}, RF K H bad p v → RF K H' bad' p v
  | .non, _, h => by simpa [RF] using h
  | .bl b, _, h => by simpa [RF] using h
  | .int i, _, h => by simpa [RF] using h
  | .str s, _, h => by simpa [RF] using h
  | .tup xs, _, h => by
    simp only [RF] at h ⊢
    obtain ⟨a, vs, rfl, q, r⟩ := h
    exact ⟨a, vs, rfl, sqT_keep hH q, RFs.mono hH hb r⟩
  | .inp ns, _, h => by
    simp only [RF] at h ⊢
    obtain ⟨a, rfl, q⟩ := h
    refine ⟨a, rfl, ?_⟩
    rcases q with ⟨q, n⟩ | q
    · refine .inl ⟨rd_keep hH q fun z => absurd z n, fun z => ?_⟩
      rcases hb a z with z | z
      · exact n z
      · obtain ⟨o, e⟩ := rd_some q
        rw [e] at z; cases z
    · exact .inr q
  | .lst xs, _, h => by
    simp only [RF] at h ⊢
    obtain ⟨a, vs, rfl, q, n, r⟩ := h
    refine ⟨a, vs, rfl, hH _ _ q fun z => absurd z n, fun z => ?_, RFs.mono hH hb r⟩
    rcases hb a z with z | z
    · exact n z
    · rw [q] at z; cases z
  | .dct ks xs, _, h => by
    simp only [RF] at h ⊢
    obtain ⟨a, rfl, n, q⟩ := h
    have key : ∀ u, H a = some u → ¬ bad' a := fun u q z => by
      rcases hb a z with z | z
      · exact n z
      · rw [q] at z; cases z
    rcases q with ⟨kvs, q, e, r⟩ | ⟨kvs, q, e, r⟩
    · exact ⟨a, rfl, key _ q, .inl ⟨kvs, hH _ _ q fun z => absurd z n, e, RFs.mono hH hb r⟩⟩
    · exact ⟨a, rfl, key _ q, .inr ⟨kvs, hH _ _ q fun z => absurd z n, e, RFs.mono hH hb r⟩⟩
theorem RFs.mono (hH : ∀ a o, H a = some o → (bad a → ¬ isC o) → H' a = some o) (hb : ∀ a, bad' a → bad a ∨ H a = none) : ∀ {xs : List P} {vs : List V}, RFs K H bad xs vs → RFs K H' bad' xs vs
  | [], _, h => by simpa [RFs] using h
  | x :: xs, _, h => by
    simp only [RFs] at h ⊢
    obtain ⟨v, r, rfl, h1, h2⟩ := h
    exact ⟨v, r, rfl, RF.mono hH hb h1, RFs.mono hH hb h2⟩
end
theorem RFs.length : ∀ {xs : List P} {vs : List V}, RFs K H bad xs vs → xs.length = vs.length
  | [], _, h => by
    simp only [RFs] at h
    subst h; rfl
  | x :: xs, _, h => by
    simp only [RFs] at h
    obtain ⟨v, r, rfl, h1, h2⟩ := h
    simp [RFs.length h2]
theorem RFs.nil : RFs K H bad [] [] := by simp [RFs]
theorem RFs.cons {x : P} {v : V} {xs : List P} {vs : List V} (h : RF K H bad x v) (t : RFs K H bad xs vs) : RFs K H bad (x :: xs) (v :: vs) := by
  simp only [RFs]
  exact ⟨v, vs, rfl, h, t⟩
theorem RFs.cons_of {x : P} {xs : List P} {vs : List V} (h : RFs K H bad (x :: xs) vs) : ∃ v r, vs = v :: r ∧ RF K H bad x v ∧ RFs K H bad xs r := by
  simpa only [RFs] using h
theorem RFs.nil_of {vs : List V} (h : RFs K H bad [] vs) : vs = [] := by simpa only [RFs] using h
theorem RFs.get : ∀ {xs : List P} {vs : List V} {i : Nat} {x : P}, RFs K H bad xs vs → xs[i]? = some x → ∃ v, vs[i]? = some v ∧ RF K H bad x v
  | [], _, _, _, _, e => by simp at e
  | x :: xs, _, 0, _, h, e => by
    obtain ⟨v, r, rfl, h1, _⟩ := h.cons_of
    simp at e; subst e
    exact ⟨v, rfl, h1⟩
  | x :: xs, _, i + 1, y, h, e => by
    obtain ⟨v, r, rfl, _, h2⟩ := h.cons_of
    obtain ⟨u, a, b⟩ := RFs.get (i := i) (x := y) h2 (by simpa using e)
    exact ⟨u, by simpa using a, b⟩
theorem RFs.getV : ∀ {xs : List P} {vs : List V} {i : Nat} {v : V}, RFs K H bad xs vs → vs[i]? = some v → ∃ x, xs[i]? = some x ∧ RF K H bad x v
  | [], _, _, _, h, e => by
    have := h.nil_of; subst this; simp at e
  | x :: xs, _, 0, _, h, e => by
    obtain ⟨v, r, rfl, h1, _⟩ := h.cons_of
    simp at e; subst e
    exact ⟨x, rfl, h1⟩
  | x :: xs, _, i + 1, y, h, e => by
    obtain ⟨v, r, rfl, _, h2⟩ := h.cons_of
    obtain ⟨u, a, b⟩ := RFs.getV (i := i) (v := y) h2 (by simpa using e)
    exact ⟨u, by simpa using a, b⟩
theorem RFs.append : ∀ {xs ys : List P} {vs us : List V}, RFs K H bad xs vs → RFs K H bad ys us → RFs K H bad (xs ++ ys) (vs ++ us)
  | [], _, _, _, h, k => by
    have := h.nil_of; subst this; exact k
  | x :: xs, ys, _, us, h, k => by
    obtain ⟨v, r, rfl, h1, h2⟩ := h.cons_of
    exact .cons h1 (RFs.append h2 k)
theorem RFs.take : ∀ {xs : List P} {vs : List V} (n : Nat), RFs K H bad xs vs → RFs K H bad (xs.take n) (vs.take n)
  | _, _, 0, _ => by simp only [List.take_zero]; exact .nil
  | [], _, n + 1, h => by have := h.nil_of; subst this; exact .nil
  | x :: xs, _, n + 1, h => by
    obtain ⟨v, r, rfl, h1, h2⟩ := h.cons_of
    exact .cons h1 (RFs.take n h2)
theorem RFs.drop : ∀ {xs : List P} {vs : List V} (n : Nat), RFs K H bad xs vs → RFs K H bad (xs.drop n) (vs.drop n)
  | _, _, 0, h => by simpa using h
  | [], _, n + 1, h => by have := h.nil_of; subst this; exact .nil
  | x :: xs, _, n + 1, h => by
    obtain ⟨v, r, rfl, h1, h2⟩ := h.cons_of
    exact RFs.drop n h2
theorem RFs.set {y : P} {u : V} (hy : RF K H bad y u) : ∀ {xs : List P} {vs : List V} (n : Nat), RFs K H bad xs vs → RFs K H bad (xs.set n y) (vs.set n u)
  | [], _, _, h => by have := h.nil_of; subst this; exact .nil
  | x :: xs, _, 0, h => by
    obtain ⟨v, r, rfl, h1, h2⟩ := h.cons_of
    exact .cons hy h2
  | x :: xs, _, n + 1, h => by
    obtain ⟨v, r, rfl, h1, h2⟩ := h.cons_of
    exact .cons h1 (RFs.set hy n h2)
theorem RFs.reverse : ∀ {xs : List P} {vs : List V}, RFs K H bad xs vs → RFs K H bad xs.reverse vs.reverse
  | [], _, h => by have := h.nil_of; subst this; exact .nil
  | x :: xs, _, h => by
    obtain ⟨v, r, rfl, h1, h2⟩ := h.cons_of
    rw [List.reverse_cons, List.reverse_cons]
    exact (RFs.reverse h2).append (.cons h1 .nil)
theorem RFs.dropLast {xs : List P} {vs : List V} (h : RFs K H bad xs vs) : RFs K H bad xs.dropLast vs.dropLast := by
  rw [List.dropLast_eq_take, List.dropLast_eq_take, h.length]
  exact h.take _
end

/-! ### the world of a frame -/
/-- the written part; fields' names; where the classes and the defs stand -/
structure Kx where
  K : PySem.W.Frag
  ats : List Str
  ca : Nat → Addr
  fa : Nat → Addr
/-- ghost: the heap at the entry; the parameters that are changed and where they stand; what is not to be touched; the error of a suite: its address, class, dict -/
structure Wo where
  H0 : Hp
  ms : List (Nat × Addr)
  B : Addr → Prop
  xa : Option (Addr × Value × Option Addr)
def Wo.pa (w : Wo) : List Addr := w.ms.map (·.2)
/-- an error's dict -/
def Xrep (kx : Kx) (H : Hp) (bad : Addr → Prop) (c : Nat) (fs : List (Nat × P)) (cls : Value) (d : Option Addr) : Prop :=
  cls = .ref (kx.ca c) ∧ ∃ dd xs, d = some dd ∧ H dd = some (.xd xs) ∧ Paired (fun (q : Nat × P) (x : Str × V) => kx.ats[q.1]? = some x.1 ∧ RF kx.K H bad q.2 x.2) fs xs
def RD (kx : Kx) (w : Wo) (H : Hp) (bad : Addr → Prop) : D → V → Prop
  | .pure p, v => RF kx.K H bad p v
  | .ols xs, v => ∃ a vs, v = .ref a ∧ H a = some (.lst vs) ∧ RFs kx.K H bad xs vs
  | .odc ks xs, v => ∃ a, v = .ref a ∧ ((∃ kvs, H a = some (.dK kvs) ∧ ks = kvs.map (fun q => kP q.1) ∧ RFs kx.K H bad xs (kvs.map (·.2))) ∨
      (∃ kvs, H a = some (.dT kvs) ∧ ks = kvs.map (fun q => kT q.1) ∧ RFs kx.K H bad xs (kvs.map (·.2))))
  | .exn c fs, v => ∃ a cls d, v = .ref a ∧ w.xa = some (a, cls, d) ∧ Xrep kx H bad c fs cls d
def ownD : D → V → List Addr
  | .ols _, .ref a => [a]
  | .odc _ _, .ref a => [a]
  | _, _ => []
def ownE : Ev → St → List Addr
  | some d :: e, some v :: σ => ownD d v ++ ownE e σ
  | _ :: e, _ :: σ => ownE e σ
  | _, _ => []
/-- a temporary: a value; a locked slot's own thing, as it is -/
inductive Tk where
  | val (d : D) | slot (i : Nat) (d : D)
abbrev Tm := List (V × Tk)
def ownT : Tm → List Addr
  | [] => []
  | (v, .val d) :: T => ownD d v ++ ownT T
  | (_, .slot _ _) :: T => ownT T
def bad (w : Wo) (T : Tm) (e : Ev) (σ : St) (a : Addr) : Prop := w.B a ∨ a ∈ ownE e σ ++ ownT T
def isOwn : D → Prop
  | .ols _ => True
  | .odc _ _ => True
  | _ => False
def TmOk (kx : Kx) (w : Wo) (H : Hp) (b : Addr → Prop) (lk : List Nat) (e : Ev) (σ : St) (q : V × Tk) : Prop := match q.2 with
  | .val d => RD kx w H b d q.1
  | .slot i d => i ∈ lk ∧ σ[i]? = some (some q.1) ∧ e[i]? = some (some d) ∧ isOwn d
structure Wd (kx : Kx) (w : Wo) (T : Tm) (lk : List Nat) (e : Ev) (σ : St) (H : Hp) : Prop where
  len : e.length = σ.length
  nd : (ownE e σ ++ ownT T).Nodup
  sl : ∀ (i : Nat) (d : D), e[i]? = some (some d) → ∃ v, σ[i]? = some (some v) ∧ RD kx w H (bad w T e σ) d v
  tm : ∀ q ∈ T, TmOk kx w H (bad w T e σ) lk e σ q
  fr : ∀ a o, w.H0 a = some o → a ∉ w.pa → H a = some o
  nw : ∀ a ∈ ownE e σ ++ ownT T, a ∉ w.pa → w.H0 a = none
  bb : ∀ a, w.B a → a ∉ w.pa ∧ ∃ o, w.H0 a = some o
  ms : ∀ q ∈ w.ms, σ[q.1]? = some (some (.ref q.2))
  mt : ∀ q ∈ w.ms, ∃ o, H q.2 = some o
section
variable {kx : Kx} {w : Wo} {T S : Tm} {lk : List Nat} {e : Ev} {σ : St} {H H' : Hp} {b b' : Addr → Prop} {d : D} {v : V} {p : P} {i : Nat}
theorem Xrep.mono {c : Nat} {fs : List (Nat × P)} {cls : Value} {dd : Option Addr} (hH : ∀ a o, H a = some o → (b a → ¬ isC o) → H' a = some o) (hb : ∀ a, b' a → b a ∨ H a = none) (h : Xrep kx H b c fs cls dd) : Xrep kx H' b' c fs cls dd := by
  obtain ⟨h1, x, xs, h2, h3, h4⟩ := h
  exact ⟨h1, x, xs, h2, hH _ _ h3 fun _ z => z, Paired.mapP h4 fun _ _ z => ⟨z.1, z.2.mono hH hb⟩⟩
/-- what is owned is in a list's or dict's cell, so only frozen data are to be kept -/
theorem RD.pureMono (hH : ∀ a o, H a = some o → (b a → ¬ isC o) → H' a = some o) (hb : ∀ a, b' a → b a ∨ H a = none) (hk : ∀ a, a ∈ ownD d v → H' a = H a) (h : RD kx w H b d v) : RD kx w H' b' d v := by
  cases d with
  | pure p => exact RF.mono hH hb h
  | ols xs =>
    obtain ⟨a, vs, rfl, e, r⟩ := h
    exact ⟨a, vs, rfl, by rw [hk a (by simp [ownD])]; exact e, r.mono hH hb⟩
  | odc ks xs =>
    obtain ⟨a, rfl, h⟩ := h
    refine ⟨a, rfl, ?_⟩
    rcases h with ⟨kvs, e, e2, r⟩ | ⟨kvs, e, e2, r⟩
    · exact .inl ⟨kvs, by rw [hk a (by simp [ownD])]; exact e, e2, r.mono hH hb⟩
    · exact .inr ⟨kvs, by rw [hk a (by simp [ownD])]; exact e, e2, r.mono hH hb⟩
  | exn c fs =>
    obtain ⟨a, cls, dd, rfl, e, r⟩ := h
    exact ⟨a, cls, dd, rfl, e, r.mono hH hb⟩
theorem ownT_append : ∀ {T S : Tm}, ownT (T ++ S) = ownT T ++ ownT S
  | [], _ => rfl
  | (v, .val d) :: T, S => by
    show ownD d v ++ ownT (T ++ S) = (ownD d v ++ ownT T) ++ ownT S
    rw [ownT_append, List.append_assoc]
  | (_, .slot _ _) :: T, S => ownT_append (T := T)
theorem ownT_sub : ∀ {S T : Tm}, S.Sublist T → (ownT S).Sublist (ownT T)
  | _, _, .slnil => .slnil
  | _, (v, .val d) :: _, .cons _ h => (ownT_sub h).trans (List.sublist_append_right ..)
  | S, (_, .slot _ _) :: T, .cons _ h => show (ownT S).Sublist (ownT T) from ownT_sub (S := S) (T := T) h
  | (v, .val d) :: _, _, .cons_cons _ h => List.Sublist.append (List.Sublist.refl _) (ownT_sub h)
  | (_, .slot _ _) :: S, _ :: T, .cons_cons _ h => show (ownT S).Sublist (ownT T) from ownT_sub (S := S) (T := T) h
theorem mem_ownE : ∀ {e : Ev} {σ : St} {a : Addr}, a ∈ ownE e σ → ∃ (i : Nat) (d : D) (v : V), e[i]? = some (some d) ∧ σ[i]? = some (some v) ∧ a ∈ ownD d v
  | [], _, _, h => by simp [ownE] at h
  | some d :: e, [], _, h => by simp [ownE] at h
  | none :: e, [], _, h => by simp [ownE] at h
  | some d :: e, some v :: σ, a, h => by
    have h' : a ∈ ownD d v ++ ownE e σ := h
    rcases List.mem_append.mp h' with h | h
    · exact ⟨0, d, v, rfl, rfl, h⟩
    · obtain ⟨i, d, v, h1, h2, h3⟩ := mem_ownE h
      exact ⟨i + 1, d, v, by simpa using h1, by simpa using h2, h3⟩
  | some d :: e, none :: σ, a, h => by
    obtain ⟨i, d, v, h1, h2, h3⟩ := mem_ownE (show a ∈ ownE e σ from h)
    exact ⟨i + 1, d, v, by simpa using h1, by simpa using h2, h3⟩
  | none :: e, u :: σ, a, h => by
    have h' : a ∈ ownE e σ := by cases u <;> exact h
    obtain ⟨i, d, v, h1, h2, h3⟩ := mem_ownE h'
    exact ⟨i + 1, d, v, by simpa using h1, by simpa using h2, h3⟩
theorem ownE_mem : ∀ {e : Ev} {σ : St} {i : Nat} {d : D} {v : V} {a : Addr}, e[i]? = some (some d) → σ[i]? = some (some v) → a ∈ ownD d v → a ∈ ownE e σ
  | [], _, _, _, _, _, h, _, _ => by simp at h
  | _ :: _, [], _, _, _, _, _, h, _ => by simp at h
  | x :: e, y :: σ, 0, d, v, a, h1, h2, h3 => by
    simp at h1 h2; subst h1 h2
    exact List.mem_append_left _ h3
  | x :: e, y :: σ, i + 1, d, v, a, h1, h2, h3 => by
    have := ownE_mem (e := e) (σ := σ) (i := i) (by simpa using h1) (by simpa using h2) h3
    cases x <;> cases y <;> first | exact this | exact List.mem_append_right _ this
theorem mem_ownT : ∀ {T : Tm} {a : Addr}, a ∈ ownT T → ∃ v d, (v, Tk.val d) ∈ T ∧ a ∈ ownD d v
  | [], _, h => by simp [ownT] at h
  | (v, .val d) :: T, a, h => by
    rcases List.mem_append.mp (show a ∈ ownD d v ++ ownT T from h) with h | h
    · exact ⟨v, d, List.mem_cons_self, h⟩
    · obtain ⟨u, d', h1, h2⟩ := mem_ownT h
      exact ⟨u, d', List.mem_cons_of_mem _ h1, h2⟩
  | (_, .slot _ _) :: T, a, h => by
    obtain ⟨u, d', h1, h2⟩ := mem_ownT (show a ∈ ownT T from h)
    exact ⟨u, d', List.mem_cons_of_mem _ h1, h2⟩
theorem ownT_mem : ∀ {T : Tm} {v : V} {d : D} {a : Addr}, (v, Tk.val d) ∈ T → a ∈ ownD d v → a ∈ ownT T
  | (u, .val d') :: T, v, d, a, h, h3 => by
    rcases List.mem_cons.mp h with e | h
    · cases e; exact List.mem_append_left _ h3
    · exact List.mem_append_right _ (ownT_mem h h3)
  | (_, .slot _ _) :: T, v, d, a, h, h3 => by
    rcases List.mem_cons.mp h with e | h
    · cases e
    · exact ownT_mem (T := T) h h3
/-- what is owned is a list or a dict -/
theorem own_cell {a : Addr} (h : RD kx w H b d v) (ha : a ∈ ownD d v) : ∃ o, H a = some o ∧ isC o := by
  cases d with
  | pure p => simp [ownD] at ha
  | ols xs =>
    obtain ⟨c, vs, rfl, e, r⟩ := h
    have : a = c := by simpa [ownD] using ha
    subst this
    exact ⟨_, e, trivial⟩
  | odc ks xs =>
    obtain ⟨c, rfl, h⟩ := h
    have : a = c := by simpa [ownD] using ha
    subst this
    rcases h with ⟨kvs, e, _⟩ | ⟨kvs, e, _⟩
    · exact ⟨_, e, trivial⟩
    · exact ⟨_, e, trivial⟩
  | exn c fs =>
    obtain ⟨c, cls, dd, rfl, _⟩ := h
    simp [ownD] at ha
theorem Wd.cell (W : Wd kx w T lk e σ H) {a : Addr} (h : a ∈ ownE e σ ++ ownT T) : ∃ o, H a = some o ∧ isC o := by
  rcases List.mem_append.mp h with h | h
  · obtain ⟨i, d, v, h1, h2, h3⟩ := mem_ownE h
    obtain ⟨u, h4, r⟩ := W.sl i d h1
    rw [h2] at h4; cases h4
    exact own_cell r h3
  · obtain ⟨v, d, h1, h2⟩ := mem_ownT h
    exact own_cell (W.tm _ h1) h2
theorem Wd.badSome (W : Wd kx w T lk e σ H) {a : Addr} (h : bad w T e σ a) : ∃ o, H a = some o := by
  rcases h with h | h
  · obtain ⟨n, o, q⟩ := W.bb a h
    exact ⟨o, W.fr a o q n⟩
  · obtain ⟨o, q, _⟩ := W.cell h
    exact ⟨o, q⟩
/-- temporaries are forgotten -/
theorem Wd.sub (W : Wd kx w T lk e σ H) (h : S.Sublist T) : Wd kx w S lk e σ H := by
  have os := ownT_sub h
  have ss : ∀ a, a ∈ ownE e σ ++ ownT S → a ∈ ownE e σ ++ ownT T := fun a q => (List.Sublist.append (List.Sublist.refl _) os).subset q
  have hb : ∀ a, bad w S e σ a → bad w T e σ a ∨ H a = none := fun a q => .inl (q.imp id (ss a))
  refine ⟨W.len, W.nd.sublist (List.Sublist.append (List.Sublist.refl _) os), fun i d q => ?_, fun q hq => ?_, W.fr, fun a q => W.nw a (ss a q), W.bb, W.ms, W.mt⟩
  · obtain ⟨v, h1, h2⟩ := W.sl i d q
    exact ⟨v, h1, h2.pureMono (fun a o z _ => z) hb fun _ _ => rfl⟩
  · have z := W.tm q (h.subset hq)
    obtain ⟨v, r⟩ := q
    cases r with
    | val d => exact RD.pureMono (d := d) (fun a o z _ => z) hb (fun _ _ => rfl) z
    | slot i _ => exact z
theorem Wd.lkMono {lk' : List Nat} (W : Wd kx w T lk e σ H) (h : ∀ i ∈ lk, i ∈ lk') : Wd kx w T lk' e σ H :=
  ⟨W.len, W.nd, W.sl, fun q hq => by
    have z := W.tm q hq
    obtain ⟨v, r⟩ := q
    cases r with
    | val d => exact z
    | slot i _ => exact ⟨h i z.1, z.2⟩, W.fr, W.nw, W.bb, W.ms, W.mt⟩
/-- frozen data beside -/
theorem Wd.pushP (W : Wd kx w T lk e σ H) (h : RF kx.K H (bad w T e σ) p v) : Wd kx w (T ++ [(v, .val (.pure p))]) lk e σ H := by
  have eT : ownT (T ++ [(v, .val (.pure p))]) = ownT T := by rw [ownT_append]; simp [ownT, ownD]
  have eb : bad w (T ++ [(v, .val (.pure p))]) e σ = bad w T e σ := by funext a; simp only [bad, eT]
  refine ⟨W.len, by rw [eT]; exact W.nd, fun i d q => by rw [eb]; exact W.sl i d q, fun q hq => ?_, W.fr, by rw [eT]; exact W.nw, W.bb, W.ms, W.mt⟩
  rw [eb]
  rcases List.mem_append.mp hq with hq | hq
  · exact W.tm q hq
  · have := List.mem_singleton.mp hq
    subst this
    exact h
/-- .. an error's field etc.: any frozen data by monotony of the heap: a new object at a free place -/
theorem Wd.grow {a : Addr} {o : HO} (W : Wd kx w T lk e σ H) (ha : H a = none) : Wd kx w T lk e σ (upd H a o) := by
  have hH : ∀ c u, H c = some u → (bad w T e σ c → ¬ isC u) → upd H a o c = some u := fun c u q _ => by rw [upd_ne (ne_of_none q ha)]; exact q
  have hk : ∀ c, (∃ u, H c = some u) → upd H a o c = H c := fun c ⟨u, q⟩ => upd_ne (ne_of_none q ha)
  refine ⟨W.len, W.nd, fun i d q => ?_, fun q hq => ?_, fun c u q n => ?_, W.nw, W.bb, W.ms, fun q hq => ?_⟩
  · obtain ⟨v, h1, h2⟩ := W.sl i d q
    exact ⟨v, h1, h2.pureMono hH (fun _ z => .inl z) fun c hc => hk c (let ⟨u, q, _⟩ := own_cell h2 hc; ⟨u, q⟩)⟩
  · have z := W.tm q hq
    obtain ⟨v, r⟩ := q
    cases r with
    | val d => exact RD.pureMono (d := d) hH (fun _ z => .inl z) (fun c hc => hk c (let ⟨u, q, _⟩ := own_cell (d := d) z hc; ⟨u, q⟩)) z
    | slot i _ => exact z
  · have := W.fr c u q n
    rw [upd_ne (ne_of_none this ha)]; exact this
  · obtain ⟨u, q⟩ := W.mt q hq
    exact ⟨u, by rw [upd_ne (ne_of_none q ha)]; exact q⟩
theorem Wd.free0 {a : Addr} (W : Wd kx w T lk e σ H) (ha : H a = none) : a ∉ w.pa ∧ w.H0 a = none ∧ ¬ bad w T e σ a := by
  have n : a ∉ w.pa := fun h => by
    obtain ⟨q, hq, rfl⟩ := List.mem_map.mp h
    obtain ⟨o, z⟩ := W.mt q hq
    rw [ha] at z; cases z
  refine ⟨n, ?_, fun z => ?_⟩
  · cases q : w.H0 a with
    | none => rfl
    | some o =>
      have := W.fr a o q n
      rw [ha] at this; cases this
  · obtain ⟨o, q⟩ := W.badSome z
    rw [ha] at q; cases q
/-- a new list -/
theorem Wd.pushL {a : Addr} {vs : List V} {xs : List P} (W : Wd kx w T lk e σ H) (ha : H a = none) (h : RFs kx.K H (bad w T e σ) xs vs) : Wd kx w (T ++ [(.ref a, .val (.ols xs))]) lk e σ (upd H a (.lst vs)) := by
  obtain ⟨n1, n2, n3⟩ := W.free0 ha
  have W' := W.grow (o := .lst vs) ha
  have eT : ownT (T ++ [(.ref a, .val (.ols xs))]) = ownT T ++ [a] := by rw [ownT_append]; rfl
  have nb : a ∉ ownE e σ ++ ownT T := fun z => n3 (.inr z)
  have hH : ∀ c u, H c = some u → (bad w T e σ c → ¬ isC u) → upd H a (.lst vs) c = some u := fun c u q _ => by rw [upd_ne (ne_of_none q ha)]; exact q
  have hb : ∀ c, bad w (T ++ [(.ref a, .val (.ols xs))]) e σ c → bad w T e σ c ∨ c = a := fun c z => by
    rcases z with z | z
    · exact .inl (.inl z)
    · rw [eT, ← List.append_assoc] at z
      rcases List.mem_append.mp z with z | z
      · exact .inl (.inr z)
      · exact .inr (by simpa using z)
  have hb0 : ∀ c, bad w (T ++ [(.ref a, .val (.ols xs))]) e σ c → bad w T e σ c ∨ H c = none := fun c z => (hb c z).imp id fun z => by rw [z]; exact ha
  have hk : ∀ c, (∃ u, H c = some u) → upd H a (.lst vs) c = H c := fun c ⟨u, q⟩ => upd_ne (ne_of_none q ha)
  refine ⟨W.len, ?_, fun i d q => ?_, fun q hq => ?_, W'.fr, fun c hc hn => ?_, W.bb, W.ms, W'.mt⟩
  · rw [eT, ← List.append_assoc]
    refine List.nodup_append.mpr ⟨W.nd, by simp, fun x hx y hy z => ?_⟩
    have : y = a := by simpa using hy
    subst this; subst z
    exact nb hx
  · obtain ⟨v, h1, h2⟩ := W.sl i d q
    exact ⟨v, h1, h2.pureMono hH hb0 fun c hc => hk c (let ⟨u, q, _⟩ := own_cell h2 hc; ⟨u, q⟩)⟩
  · rcases List.mem_append.mp hq with hq | hq
    · have z := W.tm q hq
      obtain ⟨v, r⟩ := q
      cases r with
      | val d => exact RD.pureMono (d := d) hH hb0 (fun c hc => hk c (let ⟨u, q, _⟩ := own_cell (d := d) z hc; ⟨u, q⟩)) z
      | slot i _ => exact z
    · have := List.mem_singleton.mp hq
      subst this
      exact ⟨a, vs, rfl, upd_same, h.mono hH hb0⟩
  · rw [eT, ← List.append_assoc] at hc
    rcases List.mem_append.mp hc with hc | hc
    · exact W.nw c hc hn
    · have : c = a := by simpa using hc
      subst this; exact n2
/-- a new tuple -/
theorem Wd.pushT {a : Addr} {vs : List V} {xs : List P} (W : Wd kx w T lk e σ H) (ha : H a = none) (h : RFs kx.K H (bad w T e σ) xs vs) : Wd kx w (T ++ [(.ref a, .val (.pure (.tup xs)))]) lk e σ (upd H a (.tup vs)) := by
  refine (W.grow ha).pushP ?_
  show RF _ _ _ (.tup xs) (.ref a)
  simp only [RF]
  refine ⟨a, vs, rfl, .of upd_same, h.mono (fun c u q _ => by rw [upd_ne (ne_of_none q ha)]; exact q) fun _ z => .inl z⟩
end
end Gr
set_option Elab.async false
set_option linter.all false
set_option maxRecDepth 100000
/-! G3: the world's moves; readings. -/
namespace Gr
open PySem PySem.Spec L2
section
variable {kx : Kx} {w : Wo} {T S : Tm} {lk lk' : List Nat} {e : Ev} {σ : St} {H H' : Hp} {b b' : Addr → Prop} {d : D} {v : V} {p : P} {i : Nat}
/-- contents -/
def RC (kx : Kx) (H : Hp) (b : Addr → Prop) : P → V → Prop
  | .inp ns, v => ∃ a, v = .ref a ∧ SqL kx.K H a (ns.map V.int)
  | .lst xs, v => ∃ a vs, v = .ref a ∧ H a = some (.lst vs) ∧ RFs kx.K H b xs vs
  | .dct ks xs, v => ∃ a, v = .ref a ∧ ((∃ kvs, H a = some (.dK kvs) ∧ ks = kvs.map (fun q => kP q.1) ∧ RFs kx.K H b xs (kvs.map (·.2))) ∨
      (∃ kvs, H a = some (.dT kvs) ∧ ks = kvs.map (fun q => kT q.1) ∧ RFs kx.K H b xs (kvs.map (·.2))))
  | p, v => RF kx.K H b p v
theorem RF.content (h : RF kx.K H b p v) : RC kx H b p v := by
  cases p with
  | inp ns =>
    simp only [RF] at h
    obtain ⟨a, rfl, q⟩ := h
    refine ⟨a, rfl, ?_⟩
    rcases q with ⟨q, _⟩ | q
    · exact .inl q
    · exact .inr q
  | lst xs =>
    simp only [RF] at h
    obtain ⟨a, vs, rfl, q, _, r⟩ := h
    exact ⟨a, vs, rfl, q, r⟩
  | dct ks xs =>
    simp only [RF] at h
    obtain ⟨a, rfl, _, q⟩ := h
    exact ⟨a, rfl, q⟩
  | _ => exact h
theorem RD.content (h : RD kx w H b d v) (e : d.pv = some p) : RC kx H b p v := by
  cases d with
  | pure q =>
    have : q = p := by simpa [D.pv] using e
    subst this
    exact RF.content h
  | ols xs =>
    have : P.lst xs = p := by simpa [D.pv] using e
    subst this
    obtain ⟨a, vs, rfl, q, r⟩ := h
    exact ⟨a, vs, rfl, q, r⟩
  | odc ks xs =>
    have : P.dct ks xs = p := by simpa [D.pv] using e
    subst this
    obtain ⟨a, rfl, q⟩ := h
    refine ⟨a, rfl, ?_⟩
    rcases q with ⟨kvs, q, r⟩ | ⟨kvs, q, r⟩
    · exact .inl ⟨kvs, q, r⟩
    · exact .inr ⟨kvs, q, r⟩
  | exn c fs => simp [D.pv] at e
theorem getS_of {d : Sl} (h : e[i]? = some d) : getS e i = d := by simp [getS, h]
theorem of_getS {d : D} (h : getS e i = some d) : e[i]? = some (some d) := by
  unfold getS at h
  cases q : e[i]? with
  | none => rw [q] at h; cases h
  | some s => rw [q] at h; simpa using h
/-- a result as a temporary -/
def Rv.tk (e : Ev) : Rv → Tk
  | .val d => .val d
  | .slot i => .slot i ((getS e i).getD (.pure .non))
def Tk.D : Tk → D
  | .val d => d
  | .slot _ d => d
theorem Wd.pvT (W : Wd kx w T lk e σ H) {r : Tk} (hq : (v, r) ∈ T) (e1 : r.D.pv = some p) : RC kx H (bad w T e σ) p v := by
  have z := W.tm _ hq
  cases r with
  | val d => exact RD.content (d := d) z e1
  | slot i d =>
    obtain ⟨_, h2, h3, _⟩ := z
    obtain ⟨u, h4, h5⟩ := W.sl i d h3
    have h2 : σ[i]? = some (some v) := h2
    rw [h2] at h4; cases h4
    exact RD.content h5 e1
/-- what a temporary of a result holds, later too -/
theorem Wd.pv (W : Wd kx w T lk e σ H) {r : Rv} {e0 : Ev} (hq : (v, r.tk e0) ∈ T) (e1 : r.pv e = some p) : RC kx H (bad w T e σ) p v := by
  refine W.pvT hq ?_
  cases r with
  | val d => exact e1
  | slot i =>
    obtain ⟨_, h2, h3, _⟩ := W.tm _ hq
    have h3 : e[i]? = some (some ((getS e0 i).getD (.pure .non))) := h3
    simp only [Rv.pv, getS_of h3, Option.bind_some] at e1
    exact e1
/-- the slots among the temporaries are locked -/
def SlIn (T : Tm) (lk : List Nat) : Prop := ∀ q ∈ T, ∀ i d, q.2 = Tk.slot i d → i ∈ lk
theorem Wd.slin (W : Wd kx w T lk e σ H) : SlIn T lk := fun q hq i d hi => by
  have z := W.tm q hq
  obtain ⟨v, r⟩ := q
  have : r = .slot i d := hi
  subst this
  exact z.1
theorem Wd.lkDown (W : Wd kx w T lk' e σ H) (h : SlIn T lk) : Wd kx w T lk e σ H :=
  ⟨W.len, W.nd, W.sl, fun q hq => by
    have z := W.tm q hq
    obtain ⟨v, r⟩ := q
    cases r with
    | val d => exact z
    | slot i d => exact ⟨h _ hq i d rfl, z.2⟩, W.fr, W.nw, W.bb, W.ms, W.mt⟩
theorem Wd.back (W : Wd kx w (T ++ S) lk' e σ H) (h : SlIn T lk) : Wd kx w T lk e σ H := (W.sub (List.sublist_append_left T S)).lkDown h
theorem Wd.fin {d : D} (W : Wd kx w ((T ++ S) ++ [(v, .val d)]) lk' e σ H) (h : SlIn T lk) : Wd kx w (T ++ [(v, .val d)]) lk e σ H := by
  refine (W.sub (List.Sublist.append (List.sublist_append_left T S) (List.Sublist.refl _))).lkDown fun q hq i d' hi => ?_
  rcases List.mem_append.mp hq with hq | hq
  · exact h q hq i d' hi
  · have := List.mem_singleton.mp hq
    subst this; cases hi
theorem bad_sub {S : Tm} (h : S.Sublist T) : ∀ a, bad w S e σ a → bad w T e σ a := fun a q => q.imp id ((List.Sublist.append (List.Sublist.refl _) (ownT_sub h)).subset ·)
theorem Xrep.back {c : Nat} {fs : List (Nat × P)} {cls : Value} {dd : Option Addr} (h : Xrep kx H (bad w (T ++ S) e σ) c fs cls dd) : Xrep kx H (bad w T e σ) c fs cls dd :=
  h.mono (fun _ _ z _ => z) fun a q => .inl (bad_sub (List.sublist_append_left T S) a q)

/-! ### slots changed -/
def ownO : Sl → Option V → List Addr
  | some d, some v => ownD d v
  | _, _ => []
theorem ownE_split : ∀ {e : Ev} {σ : St} {i : Nat}, e.length = σ.length → i < e.length → ∃ l1 l2, ∀ (s : Sl) (u : Option V), ownE (e.set i s) (σ.set i u) = l1 ++ ownO s u ++ l2
  | [], _, _, _, h => by simp at h
  | _ :: _, [], _, h, _ => by simp at h
  | s0 :: e, u0 :: σ, 0, _, _ => ⟨[], ownE e σ, fun s u => by cases s <;> cases u <;> rfl⟩
  | s0 :: e, u0 :: σ, i + 1, hl, h => by
    obtain ⟨l1, l2, q⟩ := ownE_split (e := e) (σ := σ) (i := i) (by simpa using hl) (by simpa using h)
    refine ⟨ownO s0 u0 ++ l1, l2, fun s u => ?_⟩
    have z := q s u
    have : ownE ((s0 :: e).set (i + 1) s) ((u0 :: σ).set (i + 1) u) = ownO s0 u0 ++ ownE (e.set i s) (σ.set i u) := by
      cases s0 <;> cases u0 <;> rfl
    rw [this, z, List.append_assoc, List.append_assoc, List.append_assoc]
theorem set_self {α : Type} : ∀ {l : List α} {i : Nat} {x : α}, l[i]? = some x → l.set i x = l
  | [], _, _, h => by simp at h
  | y :: l, 0, x, h => by simp at h; subst h; rfl
  | y :: l, i + 1, x, h => by
    show y :: l.set i x = y :: l
    rw [set_self (by simpa using h)]
theorem lt_of_get {α : Type} {l : List α} {i : Nat} {x : α} (h : l[i]? = some x) : i < l.length := (List.getElem?_eq_some_iff.mp h).1
/-- a slot of an owned thing is locked while it is a temporary -/
theorem Wd.pushS (W : Wd kx w T lk e σ H) (h : e[i]? = some (some d)) (o : isOwn d) (hv : σ[i]? = some (some v)) : Wd kx w (T ++ [(v, .slot i d)]) (i :: lk) e σ H := by
  have eT : ownT (T ++ [(v, .slot i d)]) = ownT T := by rw [ownT_append]; simp [ownT]
  have eb : bad w (T ++ [(v, .slot i d)]) e σ = bad w T e σ := by funext a; simp only [bad, eT]
  refine ⟨W.len, by rw [eT]; exact W.nd, fun j d q => by rw [eb]; exact W.sl j d q, fun q hq => ?_, W.fr, by rw [eT]; exact W.nw, W.bb, W.ms, W.mt⟩
  rw [eb]
  rcases List.mem_append.mp hq with hq | hq
  · have z := W.tm q hq
    obtain ⟨u, r⟩ := q
    cases r with
    | val d => exact z
    | slot j _ => exact ⟨List.mem_cons_of_mem _ z.1, z.2⟩
  · have := List.mem_singleton.mp hq
    subst this
    exact ⟨List.mem_cons_self, hv, h, o⟩
theorem own_notB (W : Wd kx w T lk e σ H) {a : Addr} (h : a ∈ ownE e σ ++ ownT T) : ¬ w.B a := fun z => by
  obtain ⟨n, o, q⟩ := W.bb a z
  rw [W.nw a h n] at q; cases q
theorem RD.frozen {b' : Addr → Prop} (h : RD kx w H b d v) (e1 : d.pv = some p) (hb : ∀ a, b' a → b a) (n : ∀ a ∈ ownD d v, ¬ b' a) : RF kx.K H b' p v := by
  cases d with
  | pure q =>
    have : q = p := by simpa [D.pv] using e1
    subst this
    exact RF.mono (fun _ _ z _ => z) (fun a z => .inl (hb a z)) h
  | ols xs =>
    have : P.lst xs = p := by simpa [D.pv] using e1
    subst this
    obtain ⟨a, vs, rfl, q, r⟩ := h
    simp only [RF]
    exact ⟨a, vs, rfl, q, n a (by simp [ownD]), r.mono (fun _ _ z _ => z) (fun a z => .inl (hb a z))⟩
  | odc ks xs =>
    have : P.dct ks xs = p := by simpa [D.pv] using e1
    subst this
    obtain ⟨a, rfl, q⟩ := h
    simp only [RF]
    refine ⟨a, rfl, n a (by simp [ownD]), ?_⟩
    rcases q with ⟨kvs, q, e2, r⟩ | ⟨kvs, q, e2, r⟩
    · exact .inl ⟨kvs, q, e2, r.mono (fun _ _ z _ => z) (fun a z => .inl (hb a z))⟩
    · exact .inr ⟨kvs, q, e2, r.mono (fun _ _ z _ => z) (fun a z => .inl (hb a z))⟩
  | exn c fs => simp [D.pv] at e1
/-- a slot's thing is frozen -/
theorem Wd.freeze (W : Wd kx w T lk e σ H) (h : e[i]? = some (some d)) (e1 : d.pv = some p) (hn : i ∉ lk) (hv : σ[i]? = some (some v)) :
    Wd kx w T lk (e.set i (some (.pure p))) σ H ∧ RF kx.K H (bad w T (e.set i (some (.pure p))) σ) p v := by
  have hlt := lt_of_get h
  obtain ⟨l1, l2, q⟩ := ownE_split W.len hlt
  have q0 : ownE e σ = l1 ++ ownD d v ++ l2 := by
    have := q (some d) (some v)
    rwa [set_self h, set_self hv] at this
  have q1 : ownE (e.set i (some (.pure p))) σ = l1 ++ l2 := by
    have := q (some (.pure p)) (some v)
    rw [set_self hv] at this
    rw [this]
    simp [ownO, ownD]
  have sub : (ownE (e.set i (some (.pure p))) σ ++ ownT T).Sublist (ownE e σ ++ ownT T) := by
    rw [q0, q1]
    refine List.Sublist.append ?_ (List.Sublist.refl _)
    exact List.Sublist.append (List.sublist_append_left _ _) (List.Sublist.refl _)
  have hb : ∀ a, bad w T (e.set i (some (.pure p))) σ a → bad w T e σ a := fun a z => z.imp id (sub.subset ·)
  have out : ∀ a ∈ ownD d v, ¬ bad w T (e.set i (some (.pure p))) σ a := fun a ha z => by
    have mem : a ∈ ownE e σ ++ ownT T := List.mem_append_left _ (by rw [q0]; simp [ha])
    rcases z with z | z
    · exact own_notB W mem z
    · rw [q1] at z
      have nd := W.nd
      rw [q0] at nd
      have nd2 : (ownD d v ++ (l1 ++ l2 ++ ownT T)).Nodup := by
        refine nd.perm ?_
        rw [List.append_assoc, List.append_assoc, List.append_assoc]
        exact (List.perm_append_comm_assoc l1 (ownD d v) (l2 ++ ownT T))
      exact (List.nodup_append.mp nd2).2.2 a ha a z rfl
  obtain ⟨u, hu, r⟩ := W.sl i d h
  rw [hv] at hu; cases hu
  have fz := r.frozen e1 hb out
  refine ⟨⟨by rw [List.length_set]; exact W.len, W.nd.sublist sub, fun j d' hj => ?_, fun t ht => ?_, W.fr, fun a ha => W.nw a (sub.subset ha), W.bb, W.ms, W.mt⟩, fz⟩
  · by_cases hji : j = i
    · subst hji
      rw [List.getElem?_set_self hlt] at hj
      cases hj
      exact ⟨v, hv, fz⟩
    · rw [List.getElem?_set_ne (Ne.symm hji)] at hj
      obtain ⟨u, h1, h2⟩ := W.sl j d' hj
      exact ⟨u, h1, h2.pureMono (fun _ _ z _ => z) (fun a z => .inl (hb a z)) fun _ _ => rfl⟩
  · have z := W.tm t ht
    obtain ⟨u, r⟩ := t
    cases r with
    | val d' => exact RD.pureMono (d := d') (fun _ _ z _ => z) (fun a z => .inl (hb a z)) (fun _ _ => rfl) z
    | slot j d' =>
      obtain ⟨z1, z2, z3, z4⟩ := z
      have hji : j ≠ i := fun q => hn (q ▸ z1)
      exact ⟨z1, z2, by rw [List.getElem?_set_ne (Ne.symm hji)]; exact z3, z4⟩
/-- a temporary goes into a slot -/
theorem Wd.bind {d : D} (W : Wd kx w (T ++ [(v, .val d)]) lk e σ H) (hlt : i < e.length) (hn : i ∉ lk) (hm : i ∉ w.ms.map (·.1)) (hT : SlIn T lk) :
    Wd kx w T lk (e.set i (some d)) (σ.set i (some v)) H := by
  obtain ⟨l1, l2, q⟩ := ownE_split W.len hlt
  obtain ⟨s0, h0⟩ : ∃ s, e[i]? = some s := ⟨e[i], by simp [hlt]⟩
  obtain ⟨u0, k0⟩ : ∃ s, σ[i]? = some s := ⟨σ[i]'(by rw [← W.len]; exact hlt), by simp [← W.len, hlt]⟩
  have q0 : ownE e σ = l1 ++ ownO s0 u0 ++ l2 := by
    have := q s0 u0
    rwa [set_self h0, set_self k0] at this
  have q1 : ownE (e.set i (some d)) (σ.set i (some v)) = l1 ++ ownD d v ++ l2 := q (some d) (some v)
  have eT : ownT (T ++ [(v, .val d)]) = ownT T ++ ownD d v := by rw [ownT_append]; simp [ownT]
  have sub : ∀ a, a ∈ ownE (e.set i (some d)) (σ.set i (some v)) ++ ownT T → a ∈ ownE e σ ++ ownT (T ++ [(v, .val d)]) := fun a ha => by
    rw [q0, eT]
    rw [q1] at ha
    simp only [List.mem_append] at ha ⊢
    rcases ha with ((z | z) | z) | z
    · exact .inl (.inl (.inl z))
    · exact .inr (.inr z)
    · exact .inl (.inr z)
    · exact .inr (.inl z)
  have nd : (ownE (e.set i (some d)) (σ.set i (some v)) ++ ownT T).Nodup := by
    have n := W.nd
    rw [q0, eT] at n
    rw [q1]
    have n2 : (l1 ++ l2 ++ (ownT T ++ ownD d v)).Nodup := by
      refine n.sublist (List.Sublist.append ?_ (List.Sublist.refl _))
      exact List.Sublist.append (List.sublist_append_left _ _) (List.Sublist.refl _)
    refine n2.perm ?_
    have p1 : (l1 ++ l2 ++ (ownT T ++ ownD d v)).Perm (l1 ++ (l2 ++ (ownD d v ++ ownT T))) := by
      rw [List.append_assoc]
      exact ((List.perm_append_comm).append_left l2).append_left l1
    refine p1.trans ?_
    rw [List.append_assoc, List.append_assoc]
    refine List.Perm.append_left l1 ?_
    exact List.perm_append_comm_assoc l2 (ownD d v) (ownT T)
  have hb : ∀ a, bad w T (e.set i (some d)) (σ.set i (some v)) a → bad w (T ++ [(v, .val d)]) e σ a ∨ H a = none := fun a z => .inl (z.imp id (sub a))
  refine ⟨by rw [List.length_set, List.length_set]; exact W.len, nd, fun j d' hj => ?_, fun t ht => ?_, W.fr, fun a ha => W.nw a (sub a ha), W.bb, fun t ht => ?_, W.mt⟩
  · by_cases hji : j = i
    · subst hji
      rw [List.getElem?_set_self hlt] at hj
      cases hj
      refine ⟨v, by rw [List.getElem?_set_self (by rw [← W.len]; exact hlt)], ?_⟩
      have z := W.tm (v, .val d) (List.mem_append_right _ (List.mem_singleton.mpr rfl))
      exact RD.pureMono (d := d) (fun _ _ z _ => z) hb (fun _ _ => rfl) z
    · rw [List.getElem?_set_ne (Ne.symm hji)] at hj
      obtain ⟨u, h1, h2⟩ := W.sl j d' hj
      exact ⟨u, by rw [List.getElem?_set_ne (Ne.symm hji)]; exact h1, h2.pureMono (fun _ _ z _ => z) hb fun _ _ => rfl⟩
  · have z := W.tm t (List.mem_append_left _ ht)
    obtain ⟨u, r⟩ := t
    cases r with
    | val d' => exact RD.pureMono (d := d') (fun _ _ z _ => z) hb (fun _ _ => rfl) z
    | slot j d' =>
      obtain ⟨z1, z2, z3, z4⟩ := z
      have hji : j ≠ i := fun q => hn (q ▸ z1)
      exact ⟨z1, by rw [List.getElem?_set_ne (Ne.symm hji)]; exact z2, by rw [List.getElem?_set_ne (Ne.symm hji)]; exact z3, z4⟩
  · have hti : t.1 ≠ i := fun q => hm (q ▸ List.mem_map.mpr ⟨t, ht, rfl⟩)
    rw [List.getElem?_set_ne (Ne.symm hti)]
    exact W.ms t ht
/-- an owned thing in a slot changes where it stands -/
theorem Wd.write {a : Addr} {o : HO} {d' : D} (W : Wd kx w T lk e σ H) (hn : i ∉ lk) (h : e[i]? = some (some d)) (hv : σ[i]? = some (some (.ref a))) (ha : ownD d (.ref a) = [a]) (ha' : ownD d' (.ref a) = [a]) (ho : isOwn d') (hc : isC o)
    (hd : RD kx w (upd H a o) (bad w T e σ) d' (.ref a)) : Wd kx w T lk (e.set i (some d')) σ (upd H a o) := by
  have hlt := lt_of_get h
  obtain ⟨l1, l2, q⟩ := ownE_split W.len hlt
  have q0 : ownE e σ = l1 ++ [a] ++ l2 := by
    have := q (some d) (some (.ref a))
    rw [set_self h, set_self hv] at this
    rw [this]; simp [ownO, ha]
  have q1 : ownE (e.set i (some d')) σ = ownE e σ := by
    have := q (some d') (some (.ref a))
    rw [set_self hv] at this
    rw [this, q0]; simp [ownO, ha']
  have mem : a ∈ ownE e σ ++ ownT T := List.mem_append_left _ (by rw [q0]; simp)
  obtain ⟨oa, hoa, hca⟩ := W.cell mem
  have eb : bad w T (e.set i (some d')) σ = bad w T e σ := by funext c; simp only [bad, q1]
  have hH : ∀ c u, H c = some u → (bad w T e σ c → ¬ isC u) → upd H a o c = some u := fun c u hc' hn => by
    have : c ≠ a := fun z => by
      subst z
      rw [hoa] at hc'; cases hc'
      exact hn (.inr mem) hca
    rw [upd_ne this]; exact hc'
  have nd := W.nd
  rw [q0] at nd
  have out : ∀ c, c ∈ l1 ++ l2 ++ ownT T → c ≠ a := fun c hc' z => by
    subst z
    have nd2 : ([c] ++ (l1 ++ l2 ++ ownT T)).Nodup := by
      refine nd.perm ?_
      rw [List.append_assoc, List.append_assoc, List.append_assoc]
      exact List.perm_append_comm_assoc l1 [c] (l2 ++ ownT T)
    exact (List.nodup_append.mp nd2).2.2 c (by simp) c hc' rfl
  refine ⟨by rw [List.length_set]; exact W.len, by rw [q1]; exact W.nd, fun j d2 hj => ?_, fun t ht => ?_, fun c u hc' hn => ?_, by rw [q1]; exact W.nw, W.bb, W.ms, fun t ht => ?_⟩
  · rw [eb]
    by_cases hji : j = i
    · subst hji
      rw [List.getElem?_set_self hlt] at hj
      cases hj
      exact ⟨_, hv, hd⟩
    · rw [List.getElem?_set_ne (Ne.symm hji)] at hj
      obtain ⟨u, h1, h2⟩ := W.sl j d2 hj
      refine ⟨u, h1, h2.pureMono hH (fun _ z => .inl z) fun c hc' => upd_ne (out c ?_)⟩
      -- c is owned by another slot
      obtain ⟨m1, m2, qq⟩ := ownE_split (e := e.set i none) (σ := σ.set i none) (i := j) (by rw [List.length_set, List.length_set]; exact W.len) (by rw [List.length_set]; exact lt_of_get hj)
      have e2 : ownE (e.set i none) (σ.set i none) = l1 ++ l2 := by rw [q none none]; simp [ownO]
      have e3 := qq (some d2) (some u)
      have s1 : (e.set i none).set j (some d2) = e.set i none := set_self (by rw [List.getElem?_set_ne (Ne.symm hji)]; exact hj)
      have s2 : (σ.set i none).set j (some u) = σ.set i none := set_self (by rw [List.getElem?_set_ne (Ne.symm hji)]; exact h1)
      rw [s1, s2, e2] at e3
      refine List.mem_append_left _ ?_
      rw [e3]
      simp [ownO, hc']
  · rw [eb]
    have z := W.tm t ht
    obtain ⟨u, r⟩ := t
    cases r with
    | val d2 => exact RD.pureMono (d := d2) hH (fun _ z => .inl z) (fun c hc' => upd_ne (out c (List.mem_append_right _ (ownT_mem ht hc')))) z
    | slot j d2 =>
      obtain ⟨z1, z2, z3, z4⟩ := z
      have hji : j ≠ i := fun q => hn (q ▸ z1)
      exact ⟨z1, z2, by rw [List.getElem?_set_ne (Ne.symm hji)]; exact z3, z4⟩
  · have : c ≠ a := fun z => by
      subst z
      rw [W.nw c mem hn] at hc'; cases hc'
    rw [upd_ne this]
    exact W.fr c u hc' hn
  · by_cases hta : t.2 = a
    · exact ⟨o, by rw [hta]; exact upd_same⟩
    · obtain ⟨u, z⟩ := W.mt t ht
      exact ⟨u, by rw [upd_ne hta]; exact z⟩
end
end Gr
set_option Elab.async false
set_option linter.all false
set_option maxRecDepth 100000
/-! G4: readings of the small semantics; expressions. -/
namespace Gr
open PySem PySem.Spec L2

theorem PEimp {X : Cx} {e : Expr} {t t' : TE} (h : PE X e t) (k : ∀ σ H Q, t' σ H Q → t σ H Q) : PE X e t' := ⟨fun pins s σ H Q I q => h.run pins s σ H Q I (k σ H Q q)⟩
theorem PTimp {X : Cx} {e : Expr} {t t' : TT} (h : PT X e t) (k : ∀ σ H Q, t' σ H Q → t σ H Q) : PT X e t' := ⟨fun pins s σ H Q I q => h.run pins s σ H Q I (k σ H Q q)⟩
theorem PWimp {X : Cx} {e : Expr} {t t' : TT} (h : PW X e t) (k : ∀ σ H Q, t' σ H Q → t σ H Q) : PW X e t' := ⟨fun wh pins s σ H Q I q => h.run wh pins s σ H Q I (k σ H Q q)⟩
theorem PAimp {X : Cx} {e : List Expr} {t t' : TA} (h : PA X e t) (k : ∀ σ H Q, t' σ H Q → t σ H Q) : PA X e t' := ⟨fun pos pins s σ H Q I q => h.run pos pins s σ H Q I (k σ H Q q)⟩
theorem PSimp {X : Cx} {e : Stmt} {t t' : TS} (h : PS X e t) (k : ∀ D σ H, t' D σ H → t D σ H) : PS X e t' := ⟨fun pins s σ H D I q => h.run pins s σ H D I (k D σ H q)⟩
theorem PSsimp {X : Cx} {e : List Stmt} {t t' : TS} (h : PSs X e t) (k : ∀ D σ H, t' D σ H → t D σ H) : PSs X e t' := ⟨fun pins s σ H D I q => h.run pins s σ H D I (k D σ H q)⟩

/-- what a reading hangs on: the written part; the slots of changed parameters; calls; the wish about errors -/
structure Rc where
  kx : Kx
  mps : List Nat
  Φ : Nat → List D → Res
  W : WX
  xa : Option (Addr × Value × Option Addr) := none
/-- the world is such a one -/
def Rc.fits (R : Rc) (w : Wo) : Prop := w.ms.map (·.1) = R.mps ∧ w.xa = R.xa
/-- what is wanted of an outcome -/
def OutG {α : Type} (R : Rc) (w : Wo) (T : Tm) (lk : List Nat) (σ : St) (N : α → Ev → Prop) : Out α → Prop
  | .ok a e => N a e
  | .rs c fs e => ∀ cls d H', Wd R.kx w T lk e σ H' → Xrep R.kx H' (bad w T e σ) c fs cls d → R.W cls d σ H'
  | .stk => False
section
variable {R : Rc} {w : Wo} {T S : Tm} {lk lk' : List Nat} {σ : St} {α β : Type}
theorem OutG.mono {N N' : α → Ev → Prop} {o : Out α} (h : OutG R w T lk σ N o) (k : ∀ a e, N a e → N' a e) : OutG R w T lk σ N' o := by
  cases o with
  | ok a e => exact k a e h
  | rs c fs e => exact h
  | stk => exact h
theorem outG_andThen {N : β → Ev → Prop} {o : Out α} {k : α → Ev → Out β} (h : OutG R w T lk σ N (o.andThen k)) : OutG R w T lk σ (fun a e => OutG R w T lk σ N (k a e)) o := by
  cases o with
  | ok a e => exact h
  | rs c fs e => exact h
  | stk => exact h
/-- under more temporaries -/
theorem OutG.ext {N : α → Ev → Prop} {o : Out α} (h : OutG R w T lk σ N o) (hs : SlIn T lk) : OutG R w (T ++ S) lk' σ N o := by
  cases o with
  | ok a e => exact h
  | rs c fs e => exact fun cls d H' W X => h cls d H' (W.back hs) X.back
  | stk => exact h
end
/-- an expression's reading -/
def rdE (R : Rc) (m : M Rv) : TE := fun σ H Q => ∃ w T lk e, R.fits w ∧ Wd R.kx w T lk e σ H ∧
  OutG R w T lk σ (fun r e' => ∀ v H', Wd R.kx w (T ++ [(v, r.tk e')]) (r.lks ++ lk) e' σ H' → Q v H') (m ⟨R.Φ, lk⟩ e)
/-- a test's -/
def rdT (R : Rc) (m : M Bool) : TT := fun σ H Q => ∃ w T lk e, R.fits w ∧ Wd R.kx w T lk e σ H ∧
  OutG R w T lk σ (fun k e' => ∀ H', Wd R.kx w T lk e' σ H' → Q k H') (m ⟨R.Φ, lk⟩ e)
def valsOf (vs : List V) (ps : List P) : Tm := (vs.zip ps).map fun q => (q.1, Tk.val (.pure q.2))
/-- stored items' -/
def rdL (R : Rc) (m : M (List P)) : TA := fun σ H Q => ∃ w T lk e, R.fits w ∧ Wd R.kx w T lk e σ H ∧
  OutG R w T lk σ (fun ps e' => ∀ vs H', vs.length = ps.length → Wd R.kx w (T ++ valsOf vs ps) lk e' σ H' → Q vs H') (m ⟨R.Φ, lk⟩ e)
theorem lock_eq (Φ : Nat → List D → Res) (lk l : List Nat) : (Ct.mk Φ lk).lock l = ⟨Φ, l ++ lk⟩ := rfl

section
variable {X : Cx} {R : Rc} {pos : Pos} {a b c : Expr} {ma mb mc : M Rv} {w : Wo} {T S : Tm} {lk : List Nat} {e : Ev} {σ : St} {H : Hp}
theorem pe_stk : PE X a (rdE R mStk) := ⟨fun _ _ _ _ _ _ h => by obtain ⟨w, T, lk, e, _, _, h⟩ := h; exact False.elim h⟩
theorem pt_stk : PT X a (rdT R mStk) := ⟨fun _ _ _ _ _ _ h => by obtain ⟨w, T, lk, e, _, _, h⟩ := h; exact False.elim h⟩
theorem pw_stk : PW X a (rdT R mStk) := ⟨fun _ _ _ _ _ _ _ h => by obtain ⟨w, T, lk, e, _, _, h⟩ := h; exact False.elim h⟩
theorem pa_stk {es : List Expr} : PA X es (rdL R mStk) := ⟨fun _ _ _ _ _ _ _ h => by obtain ⟨w, T, lk, e, _, _, h⟩ := h; exact False.elim h⟩

/-- an address that is looked up -/
theorem slot_at (W : Wd R.kx w T lk e σ H) {i : Nat} {d : D} (h : getS e i = some d) : ∃ v, σ[i]? = some (some v) ∧ RD R.kx w H (bad w T e σ) d v := W.sl i d (of_getS h)
theorem s_var {i : Nat} {x : Str} (hN : X.N[i]? = some x) (hv : Vis X.env.scope x) (hd : (x == ("__debug__" : Str)) = false) (hcd : (x == ("__classdict__" : Str)) = false) : PE X (.Name x pos) (rdE R (mV i)) := by
  refine PEimp (pe_var (i := i) hN hv hd hcd) fun σ H Q h => ?_
  obtain ⟨w, T, lk, e, hm, W, h⟩ := h
  unfold mV at h
  cases q : getS e i with
  | none => rw [q] at h; exact h.elim
  | some d =>
    rw [q] at h
    obtain ⟨v, h1, r⟩ := slot_at W q
    refine ⟨v, h1, ?_⟩
    cases d with
    | pure p => exact h v H (W.pushP r)
    | ols xs => exact h v H (by simp only [Rv.tk, q, Option.getD_some]; exact W.pushS (of_getS q) trivial h1)
    | odc ks xs => exact h v H (by simp only [Rv.tk, q, Option.getD_some]; exact W.pushS (of_getS q) trivial h1)
    | exn c fs => exact h.elim
/-- a constant -/
theorem s_const {p : P} {v : V} (hp : PE X a (tC v)) (r : ∀ H b, RF R.kx.K H b p v) : PE X a (rdE R (mC p)) := by
  refine PEimp hp fun σ H Q h => ?_
  obtain ⟨w, T, lk, e, hm, W, h⟩ := h
  exact h v H (W.pushP (r H _))
theorem s_int {i : Int} {j : Nat} : PE X (.Constant (.int i) j pos) (rdE R (mC (.int i))) := s_const pe_int fun H b => by simp [RF]
theorem s_bl {i : Bool} {j : Nat} : PE X (.Constant (.bool i) j pos) (rdE R (mC (.bl i))) := s_const pe_bl fun H b => by simp [RF]
theorem s_non {j : Nat} : PE X (.Constant .none j pos) (rdE R (mC .non)) := s_const pe_non fun H b => by simp [RF]
theorem s_str {x : Str} {j : Nat} (hx : x.cps.all (· < 0x110000) = true) : PE X (.Constant (.str x) j pos) (rdE R (mC (.str x.cps.toList))) := s_const pe_str fun H b => by simp only [RF]; exact ⟨x, rfl, rfl, hx⟩

/-- two values and what is made of them -/
def Op2Ok (kx : Kx) (f : P → P → Option D) (r : R2) : Prop := ∀ (w : Wo) (T : Tm) (lk : List Nat) (e : Ev) (σ : St) (H : Hp) (x y : P) (v u : V) (d : D) (Q : VK),
  Wd kx w T lk e σ H → RC kx H (bad w T e σ) x v → RC kx H (bad w T e σ) y u → f x y = some d → (∀ v' H', Wd kx w (T ++ [(v', .val d)]) lk e σ H' → Q v' H') → r v u H Q
def Op1Ok (kx : Kx) (f : P → Option D) (r : V → Hp → VK → Prop) : Prop := ∀ (w : Wo) (T : Tm) (lk : List Nat) (e : Ev) (σ : St) (H : Hp) (x : P) (v : V) (d : D) (Q : VK),
  Wd kx w T lk e σ H → RC kx H (bad w T e σ) x v → f x = some d → (∀ v' H', Wd kx w (T ++ [(v', .val d)]) lk e σ H' → Q v' H') → r v H Q
theorem mem_snoc {α : Type} {T : List α} {x : α} : x ∈ T ++ [x] := List.mem_append_right _ (List.mem_singleton.mpr rfl)
theorem rd_op2 {f : P → P → Option D} {r : R2} (ho : Op2Ok R.kx f r) {Q : VK} (h : rdE R (mOp2 f ma mb) σ H Q) : tOp r (rdE R ma) (rdE R mb) σ H Q := by
  obtain ⟨w, T, lk, e, hm, W, h⟩ := h
  refine ⟨w, T, lk, e, hm, W, (outG_andThen h).mono fun r1 e1 h1 v1 H1 W1 => ?_⟩
  refine ⟨w, _, _, e1, hm, W1, ((outG_andThen h1).ext W.slin).mono fun r2 e2 h2 v2 H2 W2 => ?_⟩
  cases q1 : r1.pv e2 with
  | none => simp only [q1] at h2; exact h2.elim
  | some x =>
    cases q2 : r2.pv e2 with
    | none => simp only [q1, q2] at h2; exact h2.elim
    | some y =>
      simp only [q1, q2] at h2
      cases q3 : f x y with
      | none => simp only [q3] at h2; exact h2.elim
      | some d =>
        simp only [q3] at h2
        refine ho w _ _ e2 σ H2 x y v1 v2 d Q W2 (W2.pv (List.mem_append_left _ mem_snoc) q1) (W2.pv mem_snoc q2) q3 fun v' H' W' => h2 v' H' ?_
        rw [List.append_assoc T] at W'
        exact W'.fin W.slin
theorem rd_op1 {f : P → Option D} {r : V → Hp → VK → Prop} (ho : Op1Ok R.kx f r) {Q : VK} (h : rdE R (mOp1 f ma) σ H Q) : tUn r (rdE R ma) σ H Q := by
  obtain ⟨w, T, lk, e, hm, W, h⟩ := h
  refine ⟨w, T, lk, e, hm, W, (outG_andThen h).mono fun r1 e1 h1 v1 H1 W1 => ?_⟩
  cases q1 : r1.pv e1 with
  | none => simp only [q1] at h1; exact h1.elim
  | some x =>
    simp only [q1] at h1
    cases q3 : f x with
    | none => simp only [q3] at h1; exact h1.elim
    | some d =>
      simp only [q3] at h1
      exact ho w _ _ e1 σ H1 x v1 d Q W1 (W1.pv mem_snoc q1) q3 fun v' H' W' => h1 v' H' (W'.fin W.slin)
theorem s_bin {op : Operator} {f : P → P → Option D} {r : R2} (ho : OpR X (binaryOp op) r) (hf : Op2Ok R.kx f r) (ha : PE X a (rdE R ma)) (hb : PE X b (rdE R mb)) : PE X (.BinOp a op b pos) (rdE R (mOp2 f ma mb)) :=
  PEimp (pe_op ho ha hb) fun _ _ _ h => rd_op2 hf h
theorem s_cmp {op : CmpOp} {f : P → P → Option D} {r : R2} (ho : OpR X (compareOp op) r) (hf : Op2Ok R.kx f r) (ha : PE X a (rdE R ma)) (hb : PE X b (rdE R mb)) (hm : behindInMarks op b = false) : PE X (.Compare a [op] [b] pos) (rdE R (mOp2 f ma mb)) :=
  PEimp (pe_cmpR ho ha hb hm) fun _ _ _ h => rd_op2 hf h
theorem s_un {op : UnaryOp} {f : P → Option D} {r : V → Hp → VK → Prop} (ho : UnR X (unaryOp op) r) (hf : Op1Ok R.kx f r) (ha : PE X a (rdE R ma)) : PE X (.UnaryOp op a pos) (rdE R (mOp1 f ma)) :=
  PEimp (pe_un ho ha) fun _ _ _ h => rd_op1 hf h
theorem s_ix {f : P → P → Option D} {r : R2} (ho : IxR X r) (hf : Op2Ok R.kx f r) (ha : PE X a (rdE R ma)) (hb : PE X b (rdE R mb)) (hs : PlainIx b) : PE X (.Subscript a b pos) (rdE R (mOp2 f ma mb)) :=
  PEimp (pe_ix ho ha hb hs) fun _ _ _ h => rd_op2 hf h

/-! items that are stored -/
theorem rd_leak {Q : VK} {N : P → Ev → Prop} (W : Wd R.kx w T lk e σ H) {r : Rv} {v : V} {e' : Ev} (h : OutG R w T lk σ N (leakR r ⟨R.Φ, lk⟩ e')) {H' : Hp} (W1 : Wd R.kx w (T ++ [(v, r.tk e')]) (r.lks ++ lk) e' σ H') :
    ∃ p e2, N p e2 ∧ Wd R.kx w (T ++ [(v, .val (.pure p))]) lk e2 σ H' := by
  cases r with
  | val d =>
    cases d with
    | pure p => exact ⟨p, e', h, W1⟩
    | ols xs =>
      refine ⟨.lst xs, e', h, ?_⟩
      have nd := W1.nd
      have z := W1.tm _ (mem_snoc (T := T))
      have Wb : Wd R.kx w T lk e' σ H' := W1.back W.slin
      refine Wb.pushP (RD.frozen (d := .ols xs) (w := w) z rfl (fun a q => bad_sub (List.sublist_append_left T _) a q) fun a ha q => ?_)
      have mem : a ∈ ownT (T ++ [(v, Tk.val (.ols xs))]) := ownT_mem mem_snoc ha
      rcases q with q | q
      · exact own_notB W1 (List.mem_append_right _ mem) q
      · rw [ownT_append, ← List.append_assoc] at nd
        have hz : a ∈ ownT [(v, Tk.val (.ols xs))] := by simpa [ownT] using ha
        exact (List.nodup_append.mp nd).2.2 a q a hz rfl
    | odc ks xs =>
      refine ⟨.dct ks xs, e', h, ?_⟩
      have nd := W1.nd
      have z := W1.tm _ (mem_snoc (T := T))
      have Wb : Wd R.kx w T lk e' σ H' := W1.back W.slin
      refine Wb.pushP (RD.frozen (d := .odc ks xs) (w := w) z rfl (fun a q => bad_sub (List.sublist_append_left T _) a q) fun a ha q => ?_)
      have mem : a ∈ ownT (T ++ [(v, Tk.val (.odc ks xs))]) := ownT_mem mem_snoc ha
      rcases q with q | q
      · exact own_notB W1 (List.mem_append_right _ mem) q
      · rw [ownT_append, ← List.append_assoc] at nd
        have hz : a ∈ ownT [(v, Tk.val (.odc ks xs))] := by simpa [ownT] using ha
        exact (List.nodup_append.mp nd).2.2 a q a hz rfl
    | exn c fs => exact h.elim
  | slot i =>
    have h : OutG R w T lk σ N (if lk.contains i then .stk else match (getS e' i).bind D.pv with
      | some p => .ok p (e'.set i (some (.pure p)))
      | none => .stk) := h
    cases q : lk.contains i with
    | true => simp only [q, if_true] at h; exact h.elim
    | false =>
      simp only [q, Bool.false_eq_true, if_false] at h
      have hn : i ∉ lk := fun z => by simp [z] at q
      obtain ⟨_, h2, h3, ho⟩ := W1.tm _ (mem_snoc (T := T))
      obtain ⟨d, h3'⟩ : ∃ d, e'[i]? = some (some d) := ⟨_, h3⟩
      have h2 : σ[i]? = some (some v) := h2
      rw [getS_of h3'] at h
      cases q2 : d.pv with
      | none =>
        simp only [Option.bind_some, q2] at h
        exact h.elim
      | some p =>
        simp only [Option.bind_some, q2] at h
        have Wb : Wd R.kx w T lk e' σ H' := W1.back W.slin
        obtain ⟨W2, rf⟩ := Wb.freeze h3' q2 hn h2
        exact ⟨p, _, h, W2.pushP rf⟩
theorem rd_ls_cons {m : M Rv} {ms : List (M Rv)} {Q : List V → Hp → Prop} (h : rdL R (mLs (m :: ms)) σ H Q) : tCons (rdE R m) (rdL R (mLs ms)) σ H Q := by
  obtain ⟨w, T, lk, e, hm, W, h⟩ := h
  have h := outG_andThen h
  refine ⟨w, T, lk, e, hm, W, (outG_andThen h).mono fun r e1 h1 v1 H1 W1 => ?_⟩
  obtain ⟨p, e2, h2, W2⟩ := rd_leak (Q := fun _ _ => True) W h1 W1
  refine ⟨w, _, lk, e2, hm, W2, ((outG_andThen h2).ext W.slin).mono fun ps e3 h3 vs H3 hl W3 => ?_⟩
  refine h3 (v1 :: vs) H3 (by simp [hl]) ?_
  have : T ++ valsOf (v1 :: vs) (p :: ps) = (T ++ [(v1, .val (.pure p))]) ++ valsOf vs ps := by simp [valsOf]
  rw [this]; exact W3
/-- not a starred one -/
def unstar : Expr → Bool
  | .Starred .. => false
  | _ => true
theorem star_plain {x : Expr} {es : List Expr} {env : Env} (h : unstar x = true) : starEach (x :: es) env = (false, eval x env) :: starEach es env := by
  cases x <;> first | rfl | simp [unstar] at h
theorem s_ls_nil : PA X [] (rdL R (mLs [])) := PAimp pa_nil fun σ H Q h => by
  obtain ⟨w, T, lk, e, hm, W, h⟩ := h
  exact h [] H rfl (by simpa [valsOf] using W)
theorem s_ls_cons {m : M Rv} {ms : List (M Rv)} {x : Expr} {es : List Expr} (hx : PE X x (rdE R m)) (hr : PA X es (rdL R (mLs ms))) (hs : unstar x = true) : PA X (x :: es) (rdL R (mLs (m :: ms))) :=
  PAimp (pa_cons hx hr (star_plain hs)) fun _ _ _ h => rd_ls_cons h
theorem rfs_of_vals (W : Wd R.kx w (T ++ S) lk e σ H) : ∀ {vs : List V} {ps : List P}, vs.length = ps.length → (∀ q ∈ valsOf vs ps, q ∈ T ++ S) → RFs R.kx.K H (bad w (T ++ S) e σ) ps vs
  | [], [], _, _ => .nil
  | [], _ :: _, h, _ => by simp at h
  | _ :: _, [], h, _ => by simp at h
  | v :: vs, p :: ps, h, hs => by
    refine .cons ?_ (rfs_of_vals W (by simpa using h) fun q hq => hs q (List.mem_cons_of_mem _ hq))
    exact W.tm (v, .val (.pure p)) (hs _ List.mem_cons_self)
theorem lineOk {n : Nat} (h : n ≤ line) : n ≤ sizeLine := by rw [sizeLine_eq]; unfold line at h; omega
theorem lineLt {n : Nat} (h : n < line) : n < sizeLine := by rw [sizeLine_eq]; unfold line at h; omega
theorem mLs_len : ∀ {ms : List (M Rv)} {c : Ct} {e : Ev} {ps : List P} {e' : Ev}, mLs ms c e = .ok ps e' → ps.length = ms.length
  | [], _, _, _, _, h => by cases h; rfl
  | m :: ms, c, e, ps, e', h => by
    unfold mLs at h
    cases q : mLeak m c e with
    | ok p e1 =>
      simp only [q, Out.andThen] at h
      cases q2 : mLs ms c e1 with
      | ok qs e2 =>
        simp only [q2] at h
        cases h
        simp [mLs_len q2]
      | rs _ _ _ => simp only [q2] at h; cases h
      | stk => simp only [q2] at h; cases h
    | rs _ _ _ => simp only [q, Out.andThen] at h; cases h
    | stk => simp only [q, Out.andThen] at h; cases h
theorem OutG.withEq {α : Type} {N : α → Ev → Prop} {o : Out α} (h : OutG R w T lk σ N o) : OutG R w T lk σ (fun a e => o = .ok a e ∧ N a e) o := by
  cases o with
  | ok a e => exact ⟨rfl, h⟩
  | rs c fs e => exact h
  | stk => exact h
theorem s_tup {ms : List (M Rv)} {es : List Expr} {k : Nat} (h : PA X es (rdL R (mLs ms))) (hz : ms.length ≤ line) : PE X (.Tuple es k pos) (rdE R (mTup ms)) := by
  refine PEimp (pe_tup h) fun σ H Q h => ?_
  obtain ⟨w, T, lk, e, hm, W, h⟩ := h
  refine ⟨w, T, lk, e, hm, W, (outG_andThen h).withEq.mono fun ps e1 ⟨eq, h1⟩ vs H1 hl W1 => ⟨lineOk (by rw [hl, mLs_len eq]; exact hz), fun p hp => ?_⟩⟩
  exact h1 _ _ ((W1.pushT hp (rfs_of_vals W1 hl fun q hq => List.mem_append_right _ hq)).fin W.slin)
theorem s_lst {ms : List (M Rv)} {es : List Expr} (h : PA X es (rdL R (mLs ms))) (hz : ms.length ≤ line) : PE X (.List es pos) (rdE R (mLst ms)) := by
  refine PEimp (pe_lst h) fun σ H Q h => ?_
  obtain ⟨w, T, lk, e, hm, W, h⟩ := h
  refine ⟨w, T, lk, e, hm, W, (outG_andThen h).withEq.mono fun ps e1 ⟨eq, h1⟩ vs H1 hl W1 => ⟨lineOk (by rw [hl, mLs_len eq]; exact hz), fun p hp => ?_⟩⟩
  exact h1 _ _ ((W1.pushL hp (rfs_of_vals W1 hl fun q hq => List.mem_append_right _ hq)).fin W.slin)

/-! ### tests -/
theorem str_len (x : Str) : x.length = x.cps.toList.length := by simp [Str.length]
theorem tru_rep {b : Addr → Prop} {kx : Kx} {p : P} {v : V} {k : Bool} (h : RC kx H b p v) (e1 : truP p = some k) : TruV kx.K v H k := by
  cases p with
  | non =>
    have h : v = .non := by simpa [RC, RF] using h
    subst h; simpa [truP, TruV] using e1.symm
  | bl c =>
    have h : v = .bl c := by simpa [RC, RF] using h
    subst h; simpa [truP, TruV] using e1.symm
  | int i =>
    have h : v = .int i := by simpa [RC, RF] using h
    subst h; simpa [truP, TruV] using e1.symm
  | str s =>
    have h : ∃ x : Str, v = .str x ∧ x.cps.toList = s ∧ x.cps.all (· < 0x110000) = true := by simpa only [RC, RF] using h
    obtain ⟨x, rfl, rfl, _⟩ := h
    have e1 : (if x.cps.toList.length < line then some (!x.cps.toList.isEmpty) else none) = some k := e1
    by_cases hl : x.cps.toList.length < line
    · rw [if_pos hl] at e1
      refine ⟨by rw [str_len]; exact lineOk (Nat.le_of_lt hl), ?_⟩
      have e1 : (!x.cps.toList.isEmpty) = k := Option.some.inj e1
      rw [← e1, str_len]
      cases x.cps.toList with
      | nil => rfl
      | cons a l =>
        show true = (((a :: l).length : Int) != 0)
        have : (((a :: l).length : Int) == 0) = false := beq_eq_false_iff_ne.mpr (by simp only [List.length_cons]; omega)
        rw [bne, this]; rfl
    · rw [if_neg hl] at e1; cases e1
  | tup xs =>
    have h : ∃ a vs, v = .ref a ∧ SqT kx.K H a vs ∧ RFs kx.K H b xs vs := by simpa [RC, RF] using h
    obtain ⟨a, vs, rfl, q, r⟩ := h
    refine .inr (.inl ⟨vs, q, ?_⟩)
    have e1 : (!xs.isEmpty) = k := Option.some.inj e1
    rw [← e1]
    have := r.length
    cases xs <;> cases vs <;> simp at this ⊢
  | lst xs =>
    obtain ⟨a, vs, rfl, q, r⟩ := h
    refine .inl ⟨vs, .of q, ?_⟩
    have e1 : (!xs.isEmpty) = k := Option.some.inj e1
    rw [← e1]
    have := r.length
    cases xs <;> cases vs <;> simp at this ⊢
  | inp ns =>
    obtain ⟨a, rfl, q⟩ := h
    refine .inl ⟨_, q, ?_⟩
    have e1 : (!ns.isEmpty) = k := Option.some.inj e1
    rw [← e1]
    cases ns <;> simp
  | dct ks xs => cases e1

/-- an expression as a test -/
theorem s_tr {x : Expr} {m : M Rv} (hK : R.kx.K = X.K) (h : PE X x (rdE R m)) (he : ∀ whole, isTrue x X.env whole = (do let v ← whole; standAt x.pos; holding [v] (truthy v))) : PT X x (rdT R (mTr m)) := by
  refine PTimp (pt_truth h he) fun σ H Q h => ?_
  obtain ⟨w, T, lk, e, hm, W, h⟩ := h
  refine ⟨w, T, lk, e, hm, W, (outG_andThen h).mono fun r e1 h1 v1 H1 W1 => ?_⟩
  cases q1 : r.pv e1 with
  | none => simp only [q1] at h1; exact h1.elim
  | some x =>
    simp only [q1] at h1
    cases q2 : truP x with
    | none => simp only [q2] at h1; exact h1.elim
    | some k =>
      simp only [q2] at h1
      exact ⟨k, by rw [← hK]; exact tru_rep (W1.pv mem_snoc q1) q2, h1 H1 (W1.back W.slin)⟩
/-- a comparison as a test -/
theorem bl_of {v : V} {b : Bool} {kx : Kx} {bd : Addr → Prop} (h : RC kx H bd (.bl b) v) : v = .bl b := by simpa [RC, RF] using h
theorem rd_test {m : M Rv} {t : TE} {Q : Bool → Hp → Prop} (ht : ∀ σ H Q, rdE R m σ H Q → t σ H Q) (hb : ∀ c e r e', m c e = .ok r e' → ∃ k, r = .val (.pure (.bl k))) (h : rdT R (mTr m) σ H Q) : tTest t σ H Q := by
  obtain ⟨w, T, lk, e, hm, W, h⟩ := h
  refine ht σ H _ ⟨w, T, lk, e, hm, W, (outG_andThen h).withEq.mono fun r e1 ⟨eq, h1⟩ v1 H1 W1 => ?_⟩
  obtain ⟨k, rfl⟩ := hb _ _ _ _ eq
  have := W1.tm _ (mem_snoc (T := T))
  have z : v1 = .bl k := by simpa [TmOk, RD, RF, Rv.tk] using this
  exact ⟨k, z, h1 H1 (W1.back W.slin)⟩
/-- operators that give truths -/
def IsB2 (f : P → P → Option D) : Prop := ∀ x y d, f x y = some d → ∃ k, d = .pure (.bl k)
theorem op2_bl {f : P → P → Option D} (hf : IsB2 f) {c : Ct} {e : Ev} {r : Rv} {e' : Ev} (h : mOp2 f ma mb c e = .ok r e') : ∃ k, r = .val (.pure (.bl k)) := by
  unfold mOp2 at h
  cases q1 : ma c e with
  | ok r1 e1 =>
    simp only [q1, Out.andThen] at h
    cases q2 : mb (c.lock r1.lks) e1 with
    | ok r2 e2 =>
      simp only [q2] at h
      split at h
      · rename_i x y _ _
        cases q3 : f x y with
        | some d =>
          simp only [q3] at h
          obtain ⟨k, rfl⟩ := hf _ _ _ q3
          cases h
          exact ⟨k, rfl⟩
        | none => simp only [q3] at h; cases h
      · cases h
    | rs _ _ _ => simp only [q2] at h; cases h
    | stk => simp only [q2] at h; cases h
  | rs _ _ _ => simp only [q1, Out.andThen] at h; cases h
  | stk => simp only [q1, Out.andThen] at h; cases h
theorem s_cmpT {op : CmpOp} {f : P → P → Option D} {r : R2} (ho : OpR X (compareOp op) r) (hf : Op2Ok R.kx f r) (hB : IsB2 f) (ha : PE X a (rdE R ma)) (hb : PE X b (rdE R mb)) (hm : behindInMarks op b = false) : PT X (.Compare a [op] [b] pos) (rdT R (mTr (mOp2 f ma mb))) :=
  PTimp (pt_cmpR ho ha hb hm) fun _ _ _ h => rd_test (fun _ _ _ q => rd_op2 hf q) (fun _ _ _ _ q => op2_bl hB q) h
theorem s_notT {t : M Bool} (h : PT X a (rdT R t)) : PT X (.UnaryOp .Not a pos) (rdT R (mNotT t)) := by
  refine PTimp (pt_not h) fun σ H Q h => ?_
  obtain ⟨w, T, lk, e, hm, W, h⟩ := h
  exact ⟨w, T, lk, e, hm, W, (outG_andThen h).mono fun k e1 h1 H1 W1 => h1 H1 W1⟩
theorem s_and1 {t : M Bool} (h : PT X a (rdT R t)) : PW X (.BoolOp .And [a] pos) (rdT R t) := pw_and1 h
theorem s_or1 {t : M Bool} (h : PT X a (rdT R t)) : PW X (.BoolOp .Or [a] pos) (rdT R t) := pw_or1 h
theorem s_and {t u : M Bool} {rest : List Expr} (h : PT X a (rdT R t)) (k : PW X (.BoolOp .And (b :: rest) pos) (rdT R u)) : PW X (.BoolOp .And (a :: b :: rest) pos) (rdT R (mAndT t u)) := by
  refine PWimp (pw_and h k) fun σ H Q h => ?_
  obtain ⟨w, T, lk, e, hm, W, h⟩ := h
  refine ⟨w, T, lk, e, hm, W, (outG_andThen h).mono fun k e1 h1 H1 W1 => ?_⟩
  cases k with
  | true => exact ⟨w, T, lk, e1, hm, W1, h1⟩
  | false => exact h1 H1 W1
theorem s_or {t u : M Bool} {rest : List Expr} (h : PT X a (rdT R t)) (k : PW X (.BoolOp .Or (b :: rest) pos) (rdT R u)) : PW X (.BoolOp .Or (a :: b :: rest) pos) (rdT R (mOrT t u)) := by
  refine PWimp (pw_or h k) fun σ H Q h => ?_
  obtain ⟨w, T, lk, e, hm, W, h⟩ := h
  refine ⟨w, T, lk, e, hm, W, (outG_andThen h).mono fun k e1 h1 H1 W1 => ?_⟩
  cases k with
  | true => exact h1 H1 W1
  | false => exact ⟨w, T, lk, e1, hm, W1, h1⟩
theorem pv_bl (W : Wd R.kx w T lk e σ H) {v : V} {r : Rv} {e0 : Ev} {b : Bool} (hq : (v, r.tk e0) ∈ T) (e1 : r.pv e = some (.bl b)) : v = .bl b := bl_of (W.pv hq e1)
theorem s_notV (h : PE X a (rdE R ma)) : PE X (.UnaryOp .Not a pos) (rdE R (mNotV ma)) := by
  refine PEimp (pe_not h) fun σ H Q h => ?_
  obtain ⟨w, T, lk, e, hm, W, h⟩ := h
  refine ⟨w, T, lk, e, hm, W, (outG_andThen h).mono fun r e1 h1 v1 H1 W1 => ?_⟩
  split at h1
  · rename_i b q
    exact ⟨b, pv_bl W1 mem_snoc q, h1 _ _ ((W1.back W.slin).pushP (by simp [RF]))⟩
  · exact h1.elim
theorem s_oneV {op : BoolOp} (h : PE X a (rdE R ma)) : PE X (.BoolOp op [a] pos) (rdE R ma) := pe_one h
theorem s_andV {rest : List Expr} (h : PE X a (rdE R ma)) (k : PE X (.BoolOp .And (b :: rest) pos) (rdE R mb)) : PE X (.BoolOp .And (a :: b :: rest) pos) (rdE R (mAndV ma mb)) := by
  refine PEimp (pe_and h k) fun σ H Q h => ?_
  obtain ⟨w, T, lk, e, hm, W, h⟩ := h
  refine ⟨w, T, lk, e, hm, W, (outG_andThen h).mono fun r e1 h1 v1 H1 W1 => ?_⟩
  split at h1
  · rename_i q
    exact ⟨true, pv_bl W1 mem_snoc q, w, T, lk, e1, hm, W1.back W.slin, h1⟩
  · rename_i q
    exact ⟨false, pv_bl W1 mem_snoc q, h1 _ _ ((W1.back W.slin).pushP (by simp [RF]))⟩
  · exact h1.elim
theorem s_orV {rest : List Expr} (h : PE X a (rdE R ma)) (k : PE X (.BoolOp .Or (b :: rest) pos) (rdE R mb)) : PE X (.BoolOp .Or (a :: b :: rest) pos) (rdE R (mOrV ma mb)) := by
  refine PEimp (pe_or h k) fun σ H Q h => ?_
  obtain ⟨w, T, lk, e, hm, W, h⟩ := h
  refine ⟨w, T, lk, e, hm, W, (outG_andThen h).mono fun r e1 h1 v1 H1 W1 => ?_⟩
  split at h1
  · rename_i q
    exact ⟨true, pv_bl W1 mem_snoc q, h1 _ _ ((W1.back W.slin).pushP (by simp [RF]))⟩
  · rename_i q
    exact ⟨false, pv_bl W1 mem_snoc q, w, T, lk, e1, hm, W1.back W.slin, h1⟩
  · exact h1.elim
theorem s_ifE {t : M Bool} (ht : PT X c (rdT R t)) (ha : PE X a (rdE R ma)) (hb : PE X b (rdE R mb)) : PE X (.IfExp c a b pos) (rdE R (mIfE t ma mb)) := by
  refine PEimp (pe_ifExp ht ha hb) fun σ H Q h => ?_
  obtain ⟨w, T, lk, e, hm, W, h⟩ := h
  refine ⟨w, T, lk, e, hm, W, (outG_andThen h).mono fun k e1 h1 H1 W1 => ?_⟩
  cases k with
  | true => exact ⟨w, T, lk, e1, hm, W1, h1⟩
  | false => exact ⟨w, T, lk, e1, hm, W1, h1⟩
theorem rd_chain {f g : P → P → Option D} {r r' : R2} {md : M Rv} (hf : Op2Ok R.kx f r) (hg : Op2Ok R.kx g r') {Q : VK} (h : rdE R (mChain f g ma mb md) σ H Q) : tChain r r' (rdE R ma) (rdE R mb) (rdE R md) σ H Q := by
  obtain ⟨w, T, lk, e, hm, W, h⟩ := h
  refine ⟨w, T, lk, e, hm, W, (outG_andThen h).mono fun r1 e1 h1 v1 H1 W1 => ?_⟩
  refine ⟨w, _, _, e1, hm, W1, ((outG_andThen h1).ext W.slin).mono fun r2 e2 h2 v2 H2 W2 => ?_⟩
  cases q1 : r1.pv e2 with
  | none => simp only [q1] at h2; exact h2.elim
  | some x =>
    cases q2 : r2.pv e2 with
    | none => simp only [q1, q2] at h2; exact h2.elim
    | some y =>
      simp only [q1, q2] at h2
      have c1 := W2.pv (List.mem_append_left _ mem_snoc) q1
      have c2 := W2.pv mem_snoc q2
      split at h2
      · rename_i q3
        refine hf w _ _ e2 σ H2 x y v1 v2 _ _ W2 c1 c2 q3 fun z H3 W3 => ⟨true, ?_, ?_⟩
        · have := W3.tm _ mem_snoc
          simpa [TmOk, RD, RF] using this
        · rw [if_pos rfl]
          have W3' : Wd R.kx w (T ++ [(v1, r1.tk e1)] ++ [(v2, r2.tk e2)]) (r2.lks ++ (r1.lks ++ lk)) e2 σ H3 := W3.back W2.slin
          refine ⟨w, _, _, e2, hm, W3', (((outG_andThen h2).ext W.slin).ext W1.slin).mono fun r3 e3 h3 v3 H4 W4 => ?_⟩
          cases q4 : r2.pv e3 with
          | none => simp only [q4] at h3; exact h3.elim
          | some y' =>
            cases q5 : r3.pv e3 with
            | none => simp only [q4, q5] at h3; exact h3.elim
            | some z' =>
              simp only [q4, q5] at h3
              split at h3
              · rename_i k q6
                refine hg w _ _ e3 σ H4 y' z' v2 v3 _ _ W4 (W4.pv (List.mem_append_left _ mem_snoc) q4) (W4.pv mem_snoc q5) q6 fun v' H' W' => h3 v' H' ?_
                rw [List.append_assoc T, List.append_assoc T] at W'
                exact W'.fin W.slin
              · exact h3.elim
      · rename_i q3
        refine hf w _ _ e2 σ H2 x y v1 v2 _ _ W2 c1 c2 q3 fun z H3 W3 => ⟨false, ?_, ?_⟩
        · have := W3.tm _ mem_snoc
          simpa [TmOk, RD, RF] using this
        · rw [if_neg Bool.false_ne_true]
          rw [List.append_assoc T] at W3
          exact h2 _ _ (((W3.back (S := _) (T := T ++ _) (lk := r2.lks ++ (r1.lks ++ lk)) (by rw [← List.append_assoc]; exact W2.slin)).back W.slin).pushP (by simp [RF]))
      · exact h2.elim
theorem s_chain {op op' : CmpOp} {f g : P → P → Option D} {r r' : R2} {md : M Rv} {d : Expr} (ho : OpR X (compareOp op) r) (ho' : OpR X (compareOp op') r') (hf : Op2Ok R.kx f r) (hg : Op2Ok R.kx g r') (ha : PE X a (rdE R ma)) (hb : PE X b (rdE R mb)) (hd : PE X d (rdE R md))
    (h1 : lastMarks [op, op'] [b, d] = false) : PE X (.Compare a [op, op'] [b, d] pos) (rdE R (mChain f g ma mb md)) :=
  PEimp (pe_chain ho ho' ha hb hd h1) fun _ _ _ h => rd_chain hf hg h
theorem mChain_bl {f g : P → P → Option D} {md : M Rv} {c : Ct} {e : Ev} {r : Rv} {e' : Ev} (h : mChain f g ma mb md c e = .ok r e') : ∃ k, r = .val (.pure (.bl k)) := by
  unfold mChain at h
  cases q1 : ma c e with
  | ok r1 e1 =>
    simp only [q1, Out.andThen] at h
    cases q2 : mb (c.lock r1.lks) e1 with
    | ok r2 e2 =>
      simp only [q2] at h
      split at h
      · split at h
        · split at h
          · split at h
            · split at h
              · cases h; exact ⟨_, rfl⟩
              · cases h
            · cases h
          · cases h
          · cases h
        · cases h; exact ⟨_, rfl⟩
        · cases h
      · cases h
    | rs _ _ _ => simp only [q2] at h; cases h
    | stk => simp only [q2] at h; cases h
  | rs _ _ _ => simp only [q1, Out.andThen] at h; cases h
  | stk => simp only [q1, Out.andThen] at h; cases h
theorem s_chainT {op op' : CmpOp} {f g : P → P → Option D} {r r' : R2} {md : M Rv} {d : Expr} (ho : OpR X (compareOp op) r) (ho' : OpR X (compareOp op') r') (hf : Op2Ok R.kx f r) (hg : Op2Ok R.kx g r') (ha : PE X a (rdE R ma)) (hb : PE X b (rdE R mb)) (hd : PE X d (rdE R md))
    (h1 : lastMarks [op, op'] [b, d] = false) : PT X (.Compare a [op, op'] [b, d] pos) (rdT R (mTr (mChain f g ma mb md))) :=
  PTimp (pt_chain ho ho' ha hb hd h1) fun _ _ _ h => rd_test (fun _ _ _ q => rd_chain hf hg q) (fun _ _ _ _ q => mChain_bl q) h
end
end Gr
set_option Elab.async false
set_option linter.all false
set_option maxRecDepth 100000
/-! G5: statements, loops. -/
namespace Gr
open PySem PySem.Spec L2

def OutS {α : Type} (R : Rc) (w : Wo) (T : Tm) (lk : List Nat) (N : α → Ev → Prop) : Out α → Prop
  | .ok a e => N a e
  | .rs c fs e => ∀ cls d σ' H', Wd R.kx w T lk e σ' H' → Xrep R.kx H' (bad w T e σ') c fs cls d → R.W cls d σ' H'
  | .stk => False
/-- what a statement's end wants -/
def EndN (R : Rc) (w : Wo) (T : Tm) (lk : List Nat) (D' : Ends) (f : Flow) (e : Ev) : Prop := match f with
  | .nx => ∀ σ' H', Wd R.kx w T lk e σ' H' → D'.nx σ' H'
  | .bk => ∀ σ' H', Wd R.kx w T lk e σ' H' → D'.bk σ' H'
  | .ct => ∀ σ' H', Wd R.kx w T lk e σ' H' → D'.ct σ' H'
  | .rt d => ∀ v σ' H', Wd R.kx w (T ++ [(v, .val d)]) lk e σ' H' → D'.rt v H'
def rdS (R : Rc) (m : M Flow) : TS := fun D' σ H => ∃ w T lk e, R.fits w ∧ Wd R.kx w T lk e σ H ∧ OutS R w T lk (EndN R w T lk D') (m ⟨R.Φ, lk⟩ e)
section
variable {X : Cx} {R : Rc} {pos pos' : Pos} {a b c : Expr} {ma mb mc : M Rv} {w : Wo} {T S : Tm} {lk lk' : List Nat} {e : Ev} {σ : St} {H : Hp} {α β : Type} {D' : Ends}
theorem OutS.mono {N N' : α → Ev → Prop} {o : Out α} (h : OutS R w T lk N o) (k : ∀ a e, N a e → N' a e) : OutS R w T lk N' o := by
  cases o with
  | ok a e => exact k a e h
  | rs c fs e => exact h
  | stk => exact h
theorem OutS.g {N : α → Ev → Prop} {o : Out α} (h : OutS R w T lk N o) : OutG R w T lk σ N o := by
  cases o with
  | ok a e => exact h
  | rs c fs e => exact fun cls d H' => h cls d σ H'
  | stk => exact h
theorem outS_andThen {N : β → Ev → Prop} {o : Out α} {k : α → Ev → Out β} (h : OutS R w T lk N (o.andThen k)) : OutS R w T lk (fun a e => OutS R w T lk N (k a e)) o := by
  cases o with
  | ok a e => exact h
  | rs c fs e => exact h
  | stk => exact h
theorem OutS.ext {N : α → Ev → Prop} {o : Out α} (h : OutS R w T lk N o) (hs : SlIn T lk) : OutS R w (T ++ S) lk' N o := by
  cases o with
  | ok a e => exact h
  | rs c fs e => exact fun cls d σ' H' W X => h cls d σ' H' (W.back hs) X.back
  | stk => exact h
theorem OutS.withEq {N : α → Ev → Prop} {o : Out α} (h : OutS R w T lk N o) : OutS R w T lk (fun a e => o = .ok a e ∧ N a e) o := by
  cases o with
  | ok a e => exact ⟨rfl, h⟩
  | rs c fs e => exact h
  | stk => exact h
/-- ends under more temporaries -/
theorem EndN.ext {f : Flow} (h : EndN R w T lk D' f e) (hs : SlIn T lk) : EndN R w (T ++ S) lk' D' f e := by
  cases f with
  | nx => exact fun σ' H' W => h σ' H' (W.back hs)
  | bk => exact fun σ' H' W => h σ' H' (W.back hs)
  | ct => exact fun σ' H' W => h σ' H' (W.back hs)
  | rt d => exact fun v σ' H' W => h v σ' H' (W.fin hs)
theorem ps_stk {st : Stmt} : PS X st (rdS R mStk) := ⟨fun _ _ _ _ _ _ h => by obtain ⟨w, T, lk, e, _, _, h⟩ := h; exact False.elim h⟩
theorem pss_stk {st : List Stmt} : PSs X st (rdS R mStk) := ⟨fun _ _ _ _ _ _ h => by obtain ⟨w, T, lk, e, _, _, h⟩ := h; exact False.elim h⟩
theorem s_nil : PSs X [] (rdS R mNx) := PSsimp pss_nil fun D' σ H h => by
  obtain ⟨w, T, lk, e, hm, W, h⟩ := h
  exact h σ H W
theorem s_seq {st : Stmt} {rest : List Stmt} {m n : M Flow} (h1 : PS X st (rdS R m)) (h2 : PSs X rest (rdS R n)) : PSs X (st :: rest) (rdS R (mSeq m n)) := by
  refine PSsimp (pss_cons h1 h2) fun D' σ H h => ?_
  obtain ⟨w, T, lk, e, hm, W, h⟩ := h
  refine ⟨w, T, lk, e, hm, W, (outS_andThen h).mono fun f e1 h1 => ?_⟩
  cases f with
  | nx => exact fun σ' H' W1 => ⟨w, T, lk, e1, hm, W1, h1⟩
  | bk => exact h1
  | ct => exact h1
  | rt d => exact h1
theorem s_one {st : Stmt} {m : M Flow} (h1 : PS X st (rdS R m)) : PSs X [st] (rdS R m) := pss_one h1
theorem s_pass : PS X (.Pass pos) (rdS R mNx) := PSimp ps_pass fun D' σ H h => by
  obtain ⟨w, T, lk, e, hm, W, h⟩ := h
  exact h σ H W
theorem s_break : PS X (.Break pos) (rdS R mBk) := PSimp ps_break fun D' σ H h => by
  obtain ⟨w, T, lk, e, hm, W, h⟩ := h
  exact h σ H W
theorem s_cont : PS X (.Continue pos) (rdS R mCt) := PSimp ps_continue fun D' σ H h => by
  obtain ⟨w, T, lk, e, hm, W, h⟩ := h
  exact h σ H W
theorem s_expr (h : PE X a (rdE R ma)) (hs : swapsWith a none pos.line X.env = pure false) : PS X (.Expr a pos) (rdS R (mEx ma)) := PSimp (ps_expr h hs) fun D' σ H h => by
  obtain ⟨w, T, lk, e, hm, W, h⟩ := h
  refine ⟨w, T, lk, e, hm, W, (outS_andThen h).g.mono fun r e1 h1 v1 H1 W1 => h1 σ H1 (W1.back W.slin)⟩
theorem own_flat {d : D} (h : isOwn d) : ∃ p, d.pv = some p := by
  cases d <;> first | exact ⟨_, rfl⟩ | exact h.elim
/-- a slot's own thing is taken out -/
theorem Wd.take {kx : Kx} {d : D} {v : V} {i : Nat} (W : Wd kx w T lk e σ H) (h : e[i]? = some (some d)) (hn : i ∉ lk) (hv : σ[i]? = some (some v)) : Wd kx w (T ++ [(v, .val d)]) lk (e.set i none) σ H := by
  have hlt := lt_of_get h
  obtain ⟨l1, l2, q⟩ := ownE_split W.len hlt
  have q0 : ownE e σ = l1 ++ ownD d v ++ l2 := by
    have := q (some d) (some v)
    rwa [set_self h, set_self hv] at this
  have q1 : ownE (e.set i none) σ = l1 ++ l2 := by
    have := q none (some v)
    rw [set_self hv] at this
    rw [this]; simp [ownO]
  have eT : ownT (T ++ [(v, .val d)]) = ownT T ++ ownD d v := by rw [ownT_append]; simp [ownT]
  have perm : (ownE (e.set i none) σ ++ ownT (T ++ [(v, .val d)])).Perm (ownE e σ ++ ownT T) := by
    rw [q0, q1, eT]
    have p1 : (l1 ++ l2 ++ (ownT T ++ ownD d v)).Perm (l1 ++ (l2 ++ (ownD d v ++ ownT T))) := by
      rw [List.append_assoc]
      exact ((List.perm_append_comm).append_left l2).append_left l1
    refine p1.trans ?_
    rw [List.append_assoc, List.append_assoc]
    exact List.Perm.append_left l1 (List.perm_append_comm_assoc l2 (ownD d v) (ownT T))
  have hb : ∀ c, bad w (T ++ [(v, .val d)]) (e.set i none) σ c → bad w T e σ c := fun c z => z.imp id fun z => perm.mem_iff.mp z
  obtain ⟨u, hu, r⟩ := W.sl i d h
  rw [hv] at hu; cases hu
  refine ⟨by rw [List.length_set]; exact W.len, W.nd.perm perm.symm, fun j d' hj => ?_, fun t ht => ?_, W.fr, fun c hc => W.nw c (perm.mem_iff.mp hc), W.bb, W.ms, W.mt⟩
  · by_cases hji : j = i
    · subst hji
      rw [List.getElem?_set_self hlt] at hj; cases hj
    · rw [List.getElem?_set_ne (Ne.symm hji)] at hj
      obtain ⟨u, h1, h2⟩ := W.sl j d' hj
      exact ⟨u, h1, h2.pureMono (fun _ _ z _ => z) (fun c z => .inl (hb c z)) fun _ _ => rfl⟩
  · rcases List.mem_append.mp ht with ht | ht
    · have z := W.tm t ht
      obtain ⟨u, r'⟩ := t
      cases r' with
      | val d' => exact RD.pureMono (d := d') (fun _ _ z _ => z) (fun c z => .inl (hb c z)) (fun _ _ => rfl) z
      | slot j d' =>
        obtain ⟨z1, z2, z3, z4⟩ := z
        have hji : j ≠ i := fun q => hn (q ▸ z1)
        exact ⟨z1, z2, by rw [List.getElem?_set_ne (Ne.symm hji)]; exact z3, z4⟩
    · have := List.mem_singleton.mp ht
      subst this
      exact RD.pureMono (d := d) (fun _ _ z _ => z) (fun c z => .inl (hb c z)) (fun _ _ => rfl) r
theorem mem_of_contains {l : List Nat} {i : Nat} (h : l.contains i = false) : i ∉ l := fun z => by simp [z] at h
theorem s_ret (h : PE X a (rdE R ma)) : PS X (.Return (some a) pos) (rdS R (mRt R.mps ma)) := PSimp (ps_ret h) fun D' σ H h => by
  obtain ⟨w, T, lk, e, hm, W, h⟩ := h
  refine ⟨w, T, lk, e, hm, W, (outS_andThen h).g.mono fun r e1 h1 v1 H1 W1 => ?_⟩
  cases r with
  | val d => exact h1 v1 σ H1 W1
  | slot i =>
    have h1 : OutS R w T lk (EndN R w T lk D') (if R.mps.contains i then (leakR (.slot i) ⟨R.Φ, lk⟩ e1).andThen fun p e2 => .ok (.rt (.pure p)) e2
      else if lk.contains i then .stk else match getS e1 i with
        | some d => .ok (.rt d) (e1.set i none)
        | none => .stk) := h1
    cases q0 : R.mps.contains i with
    | true =>
      simp only [q0, if_true] at h1
      obtain ⟨p, e2, h2, W2⟩ := rd_leak (Q := fun _ _ => True) W ((outS_andThen h1).g (σ := σ)) W1
      exact h2 v1 σ H1 W2
    | false =>
      simp only [q0, Bool.false_eq_true, if_false] at h1
      cases q : lk.contains i with
      | true => simp only [q, if_true] at h1; exact h1.elim
      | false =>
        simp only [q, Bool.false_eq_true, if_false] at h1
        cases q2 : getS e1 i with
        | none => simp only [q2] at h1; exact h1.elim
        | some d =>
          simp only [q2] at h1
          obtain ⟨_, h2, h3, ho⟩ := W1.tm _ (mem_snoc (T := T))
          exact h1 v1 σ H1 ((W1.back W.slin).take (of_getS q2) (mem_of_contains q) h2)
theorem s_retN : PS X (.Return none pos) (rdS R (mRt R.mps (mC .non))) := PSimp ps_retN fun D' σ H h => by
  obtain ⟨w, T, lk, e, hm, W, h⟩ := h
  exact h .non σ H (W.pushP (by simp [RF]))
theorem s_if {t : M Bool} {m n : M Flow} {th el : List Stmt} (ht : PT X c (rdT R t)) (h1 : PSs X th (rdS R m)) (h2 : PSs X el (rdS R n)) : PS X (.If c th el pos) (rdS R (mIf t m n)) := by
  refine PSimp (ps_if ht h1 h2) fun D' σ H h => ?_
  obtain ⟨w, T, lk, e, hm, W, h⟩ := h
  refine ⟨w, T, lk, e, hm, W, (outS_andThen h).g.mono fun k e1 h1 H1 W1 => ?_⟩
  cases k with
  | true => exact ⟨w, T, lk, e1, hm, W1, h1⟩
  | false => exact ⟨w, T, lk, e1, hm, W1, h1⟩

/-! ### binding -/
theorem bindN_of {ct : Ct} {i : Nat} {d : D} {e' : Ev} (h : bindN ct i d e = some e') : i ∉ ct.lk ∧ i < e.length ∧ e' = e.set i (some d) := by
  unfold bindN at h
  cases q : (ct.lk.contains i || decide (e.length ≤ i)) with
  | true => rw [q, if_pos rfl] at h; cases h
  | false =>
    rw [q, if_neg Bool.false_ne_true] at h
    obtain ⟨q1, q2⟩ := Bool.or_eq_false_iff.mp q
    exact ⟨mem_of_contains q1, Nat.lt_of_not_le (of_decide_eq_false q2), (Option.some.inj h).symm⟩
/-- a name of the def that may be stored -/
structure Stor (X : Cx) (R : Rc) (i : Nat) (x : Str) : Prop where
  ix : X.N[i]? = some x
  loc : Loc X.env.scope x
  fn : X.fn x = true ∨ X.env.scope.names.lookup x = some .local
  mp : i ∉ R.mps
theorem s_set {i : Nat} {x : Str} (hN : X.N.Nodup) (st : Stor X R i x) (h : PE X a (rdE R ma)) (hs : swapsWith a (some (.Name x pos')) pos.line X.env = pure false) : PS X (.Assign [.Name x pos'] a pos) (rdS R (mSet i ma)) := by
  refine PSimp (ps_set hN st.ix st.loc h hs st.fn) fun D' σ H h => ?_
  obtain ⟨w, T, lk, e, hm, W, h⟩ := h
  refine ⟨w, T, lk, e, hm, W, (outS_andThen h).g.mono fun r e1 h1 v1 H1 W1 => ?_⟩
  have hmp : i ∉ w.ms.map (·.1) := by rw [hm.1]; exact st.mp
  cases r with
  | val d =>
    simp only at h1
    cases q : bindN ⟨R.Φ, lk⟩ i d e1 with
    | none => simp only [q] at h1; exact h1.elim
    | some e2 =>
      simp only [q] at h1
      obtain ⟨n1, n2, rfl⟩ := bindN_of q
      exact h1 _ _ (Wd.bind W1 n2 n1 hmp W.slin)
  | slot j =>
    simp only at h1
    obtain ⟨p, e2, h2, W2⟩ := rd_leak (Q := fun _ _ => True) W ((outS_andThen h1).g (σ := σ)) W1
    cases q : bindN ⟨R.Φ, lk⟩ i (.pure p) e2 with
    | none => simp only [q] at h2; exact h2.elim
    | some e3 =>
      simp only [q] at h2
      obtain ⟨n1, n2, rfl⟩ := bindN_of q
      exact h2 _ _ (Wd.bind W2 n2 n1 hmp W.slin)
/-- several names -/
def gNs : List Nat → TGs
  | [] => gNil
  | i :: is => gCons (gName i) (gNs is)
inductive Stors (X : Cx) (R : Rc) : List Nat → List Expr → Prop
  | nil : Stors X R [] []
  | cons {i : Nat} {x : Str} {p : Pos} {is : List Nat} {es : List Expr} : Stor X R i x → Stors X R is es → Stors X R (i :: is) (.Name x p :: es)
theorem Stors.each {is : List Nat} {es : List Expr} (h : Stors X R is es) : (assignEach es X.env).length = is.length ∧ (assignEach es X.env).findIdx? (·.1) = none := by
  induction h with
  | nil => exact ⟨rfl, rfl⟩
  | cons h t ih =>
    obtain ⟨h1, h2⟩ := ih
    refine ⟨by show (_ :: assignEach _ X.env).length = _; simp [h1], ?_⟩
    show ((false, _) :: assignEach _ X.env).findIdx? (·.1) = none
    rw [List.findIdx?_cons]
    simp only [Bool.false_eq_true, if_false, h2]
    rfl
theorem Stors.pgs (hN : X.N.Nodup) {is : List Nat} {es : List Expr} (h : Stors X R is es) : PGs X es (gNs is) := by
  induction h with
  | nil => exact pgs_nil
  | cons h t ih => exact pgs_cons (pg_name hN h.ix h.loc h.fn) ih rfl
theorem Stors.mps {is : List Nat} {es : List Expr} (h : Stors X R is es) : ∀ i ∈ is, i ∉ R.mps := by
  induction h with
  | nil => intro i hi; cases hi
  | cons h t ih =>
    intro i hi
    rcases List.mem_cons.mp hi with e | hi
    · subst e; exact h.mp
    · exact ih i hi
theorem slin_vals {vs : List V} {ps : List P} (h : SlIn T lk) : SlIn (T ++ valsOf vs ps) lk := fun q hq i d e => by
  rcases List.mem_append.mp hq with hq | hq
  · exact h q hq i d e
  · obtain ⟨z, _, rfl⟩ := List.mem_map.mp hq
    cases e
theorem rd_binds {Q : St → Hp → Prop} : ∀ {is : List Nat} {ps : List P} {vs : List V} {e e2 : Ev} {σ : St}, (∀ i ∈ is, i ∉ w.ms.map (·.1)) → bindNs ⟨R.Φ, lk⟩ is ps e = some e2 → vs.length = ps.length → Wd R.kx w (T ++ valsOf vs ps) lk e σ H → SlIn T lk →
    (∀ σ', Wd R.kx w T lk e2 σ' H → (σ'.length = σ.length ∧ ∀ j, j ∉ is → σ'[j]? = σ[j]?) → Q σ' H) → gNs is vs σ H Q
  | [], [], vs, e, e2, σ, _, hb, hl, W, hs, k => by
    have : vs = [] := List.length_eq_zero_iff.mp (by simpa using hl)
    subst this
    simp only [bindNs, Option.some.injEq] at hb
    subst hb
    exact ⟨rfl, k _ (by simpa [valsOf] using W) ⟨rfl, fun _ _ => rfl⟩⟩
  | [], _ :: _, _, _, _, _, _, hb, _, _, _, _ => by simp [bindNs] at hb
  | _ :: _, [], _, _, _, _, _, hb, _, _, _, _ => by simp [bindNs] at hb
  | i :: is, p :: ps, vs, e, e2, σ, hm, hb, hl, W, hs, k => by
    cases vs with
    | nil => simp at hl
    | cons v vs =>
      simp only [bindNs] at hb
      cases q : bindN ⟨R.Φ, lk⟩ i (.pure p) e with
      | none => rw [q] at hb; cases hb
      | some e1 =>
        rw [q] at hb
        obtain ⟨n1, n2, rfl⟩ := bindN_of q
        have hb : bindNs ⟨R.Φ, lk⟩ is ps (e.set i (some (.pure p))) = some e2 := hb
        refine ⟨v, vs, rfl, ?_⟩
        have k' : ∀ σ', Wd R.kx w T lk e2 σ' H → (σ'.length = (σ.set i (some v)).length ∧ ∀ j, j ∉ is → σ'[j]? = (σ.set i (some v))[j]?) → Q σ' H := fun σ' W' ⟨z1, z2⟩ => k σ' W' ⟨by rw [z1, List.length_set], fun j hj => by
          have hji : i ≠ j := fun q => hj (by rw [q]; exact List.mem_cons_self)
          rw [z2 j fun q => hj (List.mem_cons_of_mem _ q), List.getElem?_set_ne hji]⟩
        refine rd_binds (fun j hj => hm j (List.mem_cons_of_mem _ hj)) hb (by simpa using hl) ?_ hs k'
        -- the first one goes into its slot, the others wait
        have e3 : T ++ valsOf (v :: vs) (p :: ps) = T ++ ([(v, .val (.pure p))] ++ valsOf vs ps) := by simp [valsOf]
        rw [e3] at W
        have W2 : Wd R.kx w ((T ++ valsOf vs ps) ++ [(v, .val (.pure p))]) lk e σ H := by
          have z : RF R.kx.K H (bad w (T ++ ([(v, .val (.pure p))] ++ valsOf vs ps)) e σ) p v := W.tm (v, .val (.pure p)) (by simp)
          have W3 := W.sub (S := T ++ valsOf vs ps) (List.Sublist.append (List.Sublist.refl _) (List.sublist_append_right _ _))
          exact W3.pushP (z.mono (fun _ _ q _ => q) fun a q => .inl (bad_sub (List.Sublist.append (List.Sublist.refl _) (List.sublist_append_right _ _)) a q))
        exact Wd.bind W2 n2 n1 (hm i List.mem_cons_self) (slin_vals hs)
end
end Gr
set_option Elab.async false
set_option linter.all false
set_option maxRecDepth 100000
/-! G6: targets, lists changed, loops. -/
namespace Gr
open PySem PySem.Spec L2
section
variable {X : Cx} {R : Rc} {pos pos' : Pos} {a b c : Expr} {ma mb mc : M Rv} {w : Wo} {T S : Tm} {lk lk' : List Nat} {e : Ev} {σ : St} {H : Hp} {α β : Type} {D' : Ends}

theorem OutG.ext2 {S' : Tm} {N : α → Ev → Prop} {o : Out α} (h : OutG R w T lk σ N o) (hs : SlIn T lk) : OutG R w (T ++ S ++ S') lk' σ N o := by
  rw [List.append_assoc]; exact h.ext hs
/-- the members of a tuple beside -/
theorem Wd.spread : ∀ {vs : List V} {ps : List P} {T : Tm}, Wd R.kx w T lk e σ H → vs.length = ps.length → RFs R.kx.K H (bad w T e σ) ps vs → Wd R.kx w (T ++ valsOf vs ps) lk e σ H
  | [], [], _, W, _, _ => by simpa [valsOf] using W
  | [], _ :: _, _, _, h, _ => by simp at h
  | _ :: _, [], _, _, h, _ => by simp at h
  | v :: vs, p :: ps, T, W, h, r => by
    obtain ⟨v', r', e1, h1, h2⟩ := r.cons_of
    obtain ⟨rfl, rfl⟩ := List.cons.inj e1
    have W1 := W.pushP h1
    have eT : ownT (T ++ [(v, .val (.pure p))]) = ownT T := by rw [ownT_append]; simp [ownT, ownD]
    have := Wd.spread (vs := vs) (ps := ps) W1 (by simpa using h) (h2.mono (fun _ _ q _ => q) fun a q => .inl (by
      rcases q with q | q
      · exact .inl q
      · rw [eT] at q; exact .inr q))
    rw [List.append_assoc] at this
    exact this
theorem slin_val {v : V} {d : D} (h : SlIn T lk) : SlIn (T ++ [(v, .val d)]) lk := fun q hq i d' e => by
  rcases List.mem_append.mp hq with hq | hq
  · exact h q hq i d' e
  · have := List.mem_singleton.mp hq
    subst this; cases e
/-- a tuple goes into names -/
theorem rd_tup {Q : St → Hp → Prop} {is : List Nat} {ps : List P} {v : V} {e2 : Ev} (hm : ∀ i ∈ is, i ∉ w.ms.map (·.1)) (hb : bindNs ⟨R.Φ, lk⟩ is ps e = some e2) (W : Wd R.kx w (T ++ [(v, .val (.pure (.tup ps)))]) lk e σ H) (hs : SlIn T lk)
    (k : ∀ σ', Wd R.kx w T lk e2 σ' H → (σ'.length = σ.length ∧ ∀ j, j ∉ is → σ'[j]? = σ[j]?) → Q σ' H) : gTup R.kx.K is.length (gNs is) v σ H Q := by
  have z : RF R.kx.K H (bad w (T ++ [(v, .val (.pure (.tup ps)))]) e σ) (.tup ps) v := W.tm _ mem_snoc
  simp only [RF] at z
  obtain ⟨a, vs, rfl, q, r⟩ := z
  have hl : ∀ {is : List Nat} {ps : List P} {e e2 : Ev}, bindNs ⟨R.Φ, lk⟩ is ps e = some e2 → is.length = ps.length := by
    intro is
    induction is with
    | nil => intro ps e e2 h; cases ps <;> simp [bindNs] at h ⊢
    | cons i is ih =>
      intro ps e e2 h
      cases ps with
      | nil => simp [bindNs] at h
      | cons p ps =>
        simp only [bindNs] at h
        cases q : bindN ⟨R.Φ, lk⟩ i (.pure p) e with
        | none => rw [q] at h; cases h
        | some e1 => rw [q] at h; simp [ih (show bindNs ⟨R.Φ, lk⟩ is ps e1 = some e2 from h)]
  have hl1 := hl hb
  have hl2 := r.length
  refine ⟨a, vs, rfl, q, by omega, rd_binds hm hb hl2.symm ((W.back hs).spread hl2.symm (r.mono (fun _ _ q _ => q) fun a q => .inl (bad_sub (List.sublist_append_left T _) a q))) hs k⟩
theorem s_setT {is : List Nat} {es : List Expr} {k : Nat} {tpos : Pos} (hK : R.kx.K = X.K) (hc : X.calm = true) (hN : X.N.Nodup) (st : Stors X R is es) (h : PE X a (rdE R ma)) (hs : swapsWithSole [.Tuple es k tpos] a pos.line X.env = pure false) (hw : swappedStores [.Tuple es k tpos] a X.env = pure none) :
    PS X (.Assign [.Tuple es k tpos] a pos) (rdS R (mSetT is ma)) := by
  obtain ⟨l1, l2⟩ := st.each
  refine PSimp (ps_asg h (pg_tup hc (st.pgs hN) l1 l2) hs hw rfl) fun D' σ H h => ?_
  obtain ⟨w, T, lk, e, hm, W, h⟩ := h
  refine ⟨w, T, lk, e, hm, W, (outS_andThen (outS_andThen h)).g.mono fun r e1 h1 v1 H1 W1 => ?_⟩
  obtain ⟨p, e2, h2, W2⟩ := rd_leak (Q := fun _ _ => True) W (h1.g (σ := σ)) W1
  cases p with
  | tup ps =>
    simp only at h2
    cases q : bindNs ⟨R.Φ, lk⟩ is ps e2 with
    | none => simp only [q] at h2; exact h2.elim
    | some e3 =>
      simp only [q] at h2
      rw [← hK]
      exact rd_tup (fun i hi => by rw [hm.1]; exact st.mps i hi) q W2 W.slin fun σ' W3 _ => h2 _ _ W3
  | _ => exact h2.elim
/-- a, b = x, y -/
theorem s_par {i j : Nat} {x y : Str} {px py pt pt2 : Pos} {kt k2 : Nat} (hc : X.calm = true) (hN : X.N.Nodup) (st1 : Stor X R i x) (st2 : Stor X R j y) (hij : i ≠ j) (hx : X.env.scope.names.lookup x = some .local) (hy : X.env.scope.names.lookup y = some .local) (ha : PA X [a, b] (rdL R (mLs [ma, mb])))
    (hw : swappedStores [.Tuple [.Name x px, .Name y py] kt pt] (.Tuple [a, b] k2 pt2) X.env = pure (some [x, y])) (hs : swapsWithSole [.Tuple [.Name x px, .Name y py] kt pt] (.Tuple [a, b] k2 pt2) pos.line X.env = pure false) :
    PS X (.Assign [.Tuple [.Name x px, .Name y py] kt pt] (.Tuple [a, b] k2 pt2) pos) (rdS R (mPar i j ma mb)) := by
  refine PSimp (ps_par hc hN st1.ix st2.ix hij hx hy ha hw hs) fun D' σ H h => ?_
  obtain ⟨w, T, lk, e, hm, W, h⟩ := h
  refine ⟨w, T, lk, e, hm, W, (outS_andThen h).withEq.g.mono fun ps e1 ⟨eq, h1⟩ vs H1 hl W1 => ?_⟩
  have hp := mLs_len eq
  cases q : bindNs ⟨R.Φ, lk⟩ [i, j] ps e1 with
  | none => simp only [q] at h1; exact h1.elim
  | some e2 =>
    simp only [q] at h1
    have g := rd_binds (Q := D'.nx) (is := [i, j]) (fun n hn => by
      rw [hm.1]
      rcases List.mem_cons.mp hn with z | hn
      · subst z; exact st1.mp
      · have := List.mem_singleton.mp hn
        subst this; exact st2.mp) q hl W1 W.slin fun σ' W2 _ => h1 σ' H1 W2
    obtain ⟨v, vs', e3, u, vs2, e4, e5, g⟩ := g
    subst e3 e4
    have : vs2 = [] := e5
    subst this
    exact ⟨v, u, rfl, g⟩

/-! ### lists changed where they stand -/
theorem RFs.keepW {kx : Kx} {d : D} {i : Nat} {x : Addr} {o : HO} {xs : List P} {vs : List V} (W : Wd kx w T lk e σ H) (h : e[i]? = some (some d)) (hv : σ[i]? = some (some (.ref x))) (ha : x ∈ ownD d (.ref x)) (r : RFs kx.K H (bad w T e σ) xs vs) : RFs kx.K (upd H x o) (bad w T e σ) xs vs := by
  have mem : x ∈ ownE e σ ++ ownT T := List.mem_append_left _ (ownE_mem h hv ha)
  obtain ⟨ox, hx, cx⟩ := W.cell mem
  refine r.mono (fun c u q n => ?_) fun a z => .inl z
  have : c ≠ x := fun z => by
    subst z
    rw [hx] at q; cases q
    exact n (.inr mem) cx
  rw [upd_ne this]; exact q
theorem Wd.writeL {kx : Kx} {i : Nat} {x : Addr} {xs ys : List P} {us : List V} (W : Wd kx w T lk e σ H) (hn : i ∉ lk) (h : e[i]? = some (some (.ols xs))) (hv : σ[i]? = some (some (.ref x))) (r : RFs kx.K H (bad w T e σ) ys us) :
    Wd kx w T lk (e.set i (some (.ols ys))) σ (upd H x (.lst us)) :=
  W.write hn h hv (by simp [ownD]) (by simp [ownD]) trivial trivial ⟨x, us, rfl, upd_same, r.keepW W h hv (by simp [ownD])⟩
/-- the list in a slot -/
theorem Wd.ols {kx : Kx} {i : Nat} {xs : List P} (W : Wd kx w T lk e σ H) (h : e[i]? = some (some (.ols xs))) : ∃ x vs, σ[i]? = some (some (.ref x)) ∧ H x = some (.lst vs) ∧ RFs kx.K H (bad w T e σ) xs vs := by
  obtain ⟨v, h1, x, vs, rfl, h2, r⟩ := W.sl i _ h
  exact ⟨x, vs, h1, h2, r⟩
/-- one frozen item of a temporary -/
theorem Wd.tmP {kx : Kx} {v : V} {p : P} (W : Wd kx w T lk e σ H) (h : (v, Tk.val (.pure p)) ∈ T) : RF kx.K H (bad w T e σ) p v := W.tm _ h
theorem tyV_lst {K : PySem.W.Frag} {x : Addr} {vs : List V} (h : H x = some (.lst vs)) : tyV K "list" (.ref x) H := Or.inl ⟨rfl, _, Or.inl (Or.inl h)⟩
theorem s_app {i : Nat} {x : Str} {npos apos : Pos} (hx : PE X (.Name x npos) (tVar i)) (h : PE X a (rdE R ma)) (hs : unstar a = true) (hl : (apos.endLine == pos.line) = true) :
    PE X (.Call (.Attribute (.Name x npos) "append" apos) [a] [] pos) (rdE R (mApp i ma)) := by
  refine PEimp (pe_bm PySem.F.plainAttrs_list PySem.F.slot_list_append PySem.F.type_list_append mt_append hx (pa_cons h pa_nil (star_plain hs)) rfl (by rw [star_plain hs]; rfl) hl (star_plain hs)) fun σ H Q h => ?_
  obtain ⟨w, T, lk, e, hm, W, h⟩ := h
  unfold mApp at h
  dsimp only at h
  cases q : getS e i with
  | none => rw [q] at h; exact h.elim
  | some d =>
    rw [q] at h
    cases d with
    | ols xs =>
      simp only at h
      obtain ⟨x', vs, hv, hH, r⟩ := W.ols (of_getS q)
      refine ⟨_, hv, tyV_lst hH, ?_⟩
      have W0 : Wd R.kx w (T ++ [(.ref x', .slot i (.ols xs))]) (i :: lk) e σ H := W.pushS (of_getS q) trivial hv
      refine ⟨w, _, i :: lk, e, hm, W0, ((outG_andThen (outG_andThen h)).ext W.slin).mono fun rv e1 h1 v1 H1 W1 => ?_⟩
      obtain ⟨p, e2, h2, W2⟩ := rd_leak (Q := fun _ _ => True) W0 (h1.ext W.slin) W1
      cases q2 : lk.contains i with
      | true => simp only [q2, if_true] at h2; exact h2.elim
      | false =>
        simp only [q2, Bool.false_eq_true, if_false] at h2
        cases q3 : getS e2 i with
        | none => rw [q3] at h2; exact h2.elim
        | some d2 =>
          rw [q3] at h2
          cases d2 with
          | ols ys =>
            simp only at h2
            by_cases hl : ys.length < line
            · rw [if_pos hl] at h2
              obtain ⟨x2, us, hv2, hH2, r2⟩ := W2.ols (of_getS q3)
              rw [hv] at hv2; cases hv2
              refine ⟨_, us, _, rfl, rfl, hH2, by rw [← r2.length]; exact lineLt hl, h2 _ _ ?_⟩
              have W3 : Wd R.kx w (T ++ [(v1, .val (.pure p))]) lk e2 σ H1 := (W2.sub (List.Sublist.append (List.sublist_append_left T _) (List.Sublist.refl _))).lkDown (slin_val W.slin)
              have z := W3.tmP mem_snoc
              obtain ⟨x3, us3, hv3, hH3, r3⟩ := W3.ols (of_getS q3)
              rw [hv] at hv3; cases hv3
              rw [hH2] at hH3; cases hH3
              have W4 := (W3.writeL (mem_of_contains q2) (of_getS q3) hv (r3.append (.cons z .nil))).back W.slin
              exact W4.pushP (by simp [RF])
            · rw [if_neg hl] at h2; exact h2.elim
          | _ => exact h2.elim
    | _ => exact h.elim
theorem s_pop {i : Nat} {x : Str} {npos apos : Pos} (hx : PE X (.Name x npos) (tVar i)) (hl : (apos.endLine == pos.line) = true) : PE X (.Call (.Attribute (.Name x npos) "pop" apos) [] [] pos) (rdE R (mPop i)) := by
  refine PEimp (pe_bm0 PySem.F.plainAttrs_list PySem.F.slot_list_pop PySem.F.type_list_pop mt_pop hx rfl hl) fun σ H Q h => ?_
  obtain ⟨w, T, lk, e, hm, W, h⟩ := h
  unfold mPop at h
  dsimp only at h
  cases q2 : lk.contains i with
  | true => simp only [q2, if_true] at h; exact h.elim
  | false =>
    simp only [q2, Bool.false_eq_true, if_false] at h
    cases q : getS e i with
    | none => rw [q] at h; exact h.elim
    | some d =>
      rw [q] at h
      cases d with
      | ols xs =>
        simp only at h
        cases q3 : xs.getLast? with
        | none => rw [q3] at h; exact h.elim
        | some p =>
          rw [q3] at h
          obtain ⟨x', vs, hv, hH, r⟩ := W.ols (of_getS q)
          have hp : xs[xs.length - 1]? = some p := by rw [← List.getLast?_eq_getElem?]; exact q3
          obtain ⟨u, hu, ru⟩ := r.get hp
          refine ⟨_, hv, tyV_lst hH, _, vs, u, rfl, rfl, hH, by rw [← r.length]; exact hu, h _ _ ?_⟩
          have W1 := W.pushP ru
          obtain ⟨x2, us, hv2, hH2, r2⟩ := W1.ols (of_getS q)
          rw [hv] at hv2; cases hv2
          rw [hH] at hH2; cases hH2
          exact W1.writeL (mem_of_contains q2) (of_getS q) hv r2.dropLast
      | _ => exact h.elim
/-- two contents of one list object are one -/
theorem s_ext {i : Nat} {x : Str} {npos apos : Pos} (hx : PE X (.Name x npos) (tVar i)) (h : PE X a (rdE R ma)) (hs : unstar a = true)
    (hl : (apos.endLine == pos.line) = true) :
    PE X (.Call (.Attribute (.Name x npos) "extend" apos) [a] [] pos) (rdE R (mExt i ma)) := by
  refine PEimp (pe_bm PySem.F.plainAttrs_list PySem.F.slot_list_extend PySem.F.type_list_extend mt_extend hx (pa_cons h pa_nil (star_plain hs)) rfl (by rw [star_plain hs]; rfl) hl (star_plain hs)) fun σ H Q h => ?_
  obtain ⟨w, T, lk, e, hm, W, h⟩ := h
  unfold mExt at h
  dsimp only at h
  cases q : getS e i with
  | none => rw [q] at h; exact h.elim
  | some d =>
    rw [q] at h
    cases d with
    | ols xs =>
      simp only at h
      obtain ⟨x', vs, hv, hH, r⟩ := W.ols (of_getS q)
      refine ⟨_, hv, tyV_lst hH, ?_⟩
      have W0 : Wd R.kx w (T ++ [(.ref x', .slot i (.ols xs))]) (i :: lk) e σ H := W.pushS (of_getS q) trivial hv
      refine ⟨w, _, i :: lk, e, hm, W0, ((outG_andThen h).ext W.slin).mono fun rv e1 h1 v1 H1 W1 => ?_⟩
      cases q2 : lk.contains i with
      | true => simp only [q2, if_true] at h1; exact h1.elim
      | false =>
        simp only [q2, Bool.false_eq_true, if_false] at h1
        cases q3 : getS e1 i with
        | none => rw [q3] at h1; exact h1.elim
        | some d2 =>
          cases q4 : rv.pv e1 with
          | none => rw [q3, q4] at h1; cases d2 <;> exact h1.elim
          | some pv =>
            rw [q3, q4] at h1
            cases d2 with
            | ols ys =>
              cases pv with
              | lst zs =>
                simp only at h1
                by_cases hl : ys.length + zs.length ≤ line
                · rw [if_pos hl] at h1
                  obtain ⟨x2, us, hv2, hH2, r2⟩ := W1.ols (of_getS q3)
                  rw [hv] at hv2; cases hv2
                  obtain ⟨b', ws, rfl, hb, rb⟩ : ∃ a vs, v1 = .ref a ∧ H1 a = some (.lst vs) ∧ RFs R.kx.K H1 _ zs vs := W1.pv mem_snoc q4
                  refine ⟨_, b', us, ws, rfl, rfl, hH2, hb, by rw [← r2.length, ← rb.length]; exact lineOk hl, h1 _ _ ?_⟩
                  have W3 : Wd R.kx w T lk e1 σ H1 := by
                    rw [List.append_assoc] at W1
                    exact W1.back W.slin
                  obtain ⟨x3, us3, hv3, hH3, r3⟩ := W3.ols (of_getS q3)
                  rw [hv] at hv3; cases hv3
                  rw [hH2] at hH3; cases hH3
                  have rb' := rb.mono (bad' := bad w T e1 σ) (fun _ _ q _ => q) fun a q => .inl (bad_sub (by rw [List.append_assoc]; exact List.sublist_append_left T _) a q)
                  exact (W3.writeL (mem_of_contains q2) (of_getS q3) hv (r3.append rb')).pushP (by simp [RF])
                · rw [if_neg hl] at h1; exact h1.elim
              | _ => exact h1.elim
            | _ => cases pv <;> exact h1.elim
    | _ => exact h.elim
theorem ixOf_eq {n : Nat} {k : Int} {j : Nat} (h : ixOf n k = some j) : ixN n k = some j := by
  unfold ixOf at h
  unfold ixN
  by_cases h0 : 0 ≤ k
  · rw [if_pos h0] at h ⊢; exact h
  · rw [if_neg h0] at h ⊢
    by_cases h1 : 0 ≤ k + n
    · rw [if_pos h1] at h; rw [if_pos (by omega)]; exact h
    · rw [if_neg h1] at h; cases h
/-- x[k] = v -/
theorem s_put {i : Nat} {x : Str} {npos tpos : Pos} (hx : PE X (.Name x npos) (tVar i)) (hk : PE X b (rdE R mb)) (hv : PE X a (rdE R ma))
    (hset : ∀ v, assign (.Subscript (.Name x npos) b tpos) X.env v = (do
      let ov ← holding [v] (eval (.Name x npos) X.env)
      let iv ← holding [v, ov] (eval b X.env)
      standAt tpos
      holding [v, ov, iv] (setItem ov iv v)
      release [v, ov, iv] [])) (hs : swapsWithSole [.Subscript (.Name x npos) b tpos] a pos.line X.env = pure false) (hw : swappedStores [.Subscript (.Name x npos) b tpos] a X.env = pure none)
    (h1 : (assignEach [.Subscript (.Name x npos) b tpos] X.env).map (·.2) = [assign (.Subscript (.Name x npos) b tpos) X.env]) :
    PS X (.Assign [.Subscript (.Name x npos) b tpos] a pos) (rdS R (mPut i mb ma)) := by
  refine PSimp (ps_asg hv (pg_sub hx hk set_list hset) hs hw h1) fun D' σ H h => ?_
  obtain ⟨w, T, lk, e, hm, W, h⟩ := h
  refine ⟨w, T, lk, e, hm, W, (outS_andThen (outS_andThen h)).g.mono fun r e1 h1 v1 H1 W1 => ?_⟩
  obtain ⟨p, e2, h2, W2⟩ := rd_leak (Q := fun _ _ => True) W (h1.g (σ := σ)) W1
  cases q : getS e2 i with
  | none => rw [q] at h2; exact h2.elim
  | some d =>
    rw [q] at h2
    cases d with
    | ols xs =>
      simp only at h2
      obtain ⟨x', vs, hvx, hH, r⟩ := W2.ols (of_getS q)
      refine ⟨_, hvx, ?_⟩
      have W0 : Wd R.kx w (T ++ [(v1, .val (.pure p))] ++ [(.ref x', .slot i (.ols xs))]) (i :: lk) e2 σ H1 := W2.pushS (of_getS q) trivial hvx
      refine ⟨w, _, i :: lk, e2, hm, W0, (((outS_andThen h2).g (σ := σ)).ext2 W.slin).mono fun rv e3 h3 v3 H3 W3 => ?_⟩
      cases q2 : lk.contains i with
      | true => simp only [q2, if_true] at h3; exact h3.elim
      | false =>
        simp only [q2, Bool.false_eq_true, if_false] at h3
        cases q3 : getS e3 i with
        | none => rw [q3] at h3; exact h3.elim
        | some d2 =>
          cases q4 : rv.pv e3 with
          | none => rw [q3, q4] at h3; cases d2 <;> exact h3.elim
          | some pv =>
            rw [q3, q4] at h3
            cases d2 with
            | ols ys =>
              cases pv with
              | int j =>
                simp only at h3
                cases q5 : ixOf ys.length j with
                | none => rw [q5] at h3; exact h3.elim
                | some n =>
                  rw [q5] at h3
                  simp only at h3
                  obtain ⟨x2, us, hv2, hH2, r2⟩ := W3.ols (of_getS q3)
                  rw [hvx] at hv2; cases hv2
                  have zj : v3 = .int j := by
                    have := W3.pv mem_snoc q4
                    simpa [RC, RF] using this
                  refine ⟨_, us, j, n, rfl, zj, hH2, by rw [← r2.length]; exact ixOf_eq q5, h3 _ _ ?_⟩
                  have W4 : Wd R.kx w (T ++ [(v1, .val (.pure p))]) lk e3 σ H3 := by
                    have W3' := W3.sub (List.sublist_append_left _ _)
                    exact W3'.back (slin_val W.slin)
                  have z := W4.tmP mem_snoc
                  obtain ⟨x3, us3, hv3, hH3, r3⟩ := W4.ols (of_getS q3)
                  rw [hvx] at hv3; cases hv3
                  rw [hH2] at hH3; cases hH3
                  exact (W4.writeL (mem_of_contains q2) (of_getS q3) hvx (r3.set z n)).back W.slin
              | _ => exact h3.elim
            | _ => cases pv <;> exact h3.elim
    | _ => exact h2.elim
end
end Gr
set_option Elab.async false
set_option linter.all false
set_option maxRecDepth 100000
/-! G7: loops. -/
namespace Gr
open PySem PySem.Spec L2
/-- an iterator gives these items, as long as the world bears these temporaries -/
def ItOk (kx : Kx) (w : Wo) (T : Tm) (lk : List Nat) (J : It) (xs : List P) : Prop := ∀ (i : Nat) (U : Tm) (e : Ev) (σ : St) (H : Hp), Wd kx w (T ++ U) lk e σ H →
  (xs.length ≤ i → J.stop i H) ∧ ∀ x, xs[i]? = some x → J.go i H ∧ ∀ v H', J.yld i H v H' → Wd kx w (T ++ U ++ [(v, .val (.pure x))]) lk e σ H'
def rdI (R : Rc) (m : MI) : TI := fun σ H RR => ∃ w T lk e, R.fits w ∧ Wd R.kx w T lk e σ H ∧
  OutG R w T lk σ (fun xl e' => ∀ J H' S, Wd R.kx w (T ++ S) (xl.2 ++ lk) e' σ H' → ItOk R.kx w (T ++ S) (xl.2 ++ lk) J xl.1 → RR J H') (m ⟨R.Φ, lk⟩ e)
theorem PIimp {X : Cx} {tg e : Expr} {t t' : TI} (h : PI X tg e t) (k : ∀ σ H Q, t' σ H Q → t σ H Q) : PI X tg e t' := ⟨fun pins s σ H Q I q => h.run pins s σ H Q I (k σ H Q q)⟩
section
variable {X : Cx} {R : Rc} {pos pos' : Pos} {a b c : Expr} {ma mb mc : M Rv} {w : Wo} {T S : Tm} {lk lk' : List Nat} {e : Ev} {σ : St} {H : Hp} {α β : Type} {D' : Ends}
theorem pi_stk {tg : Expr} : PI X tg a (rdI R mStk) := ⟨fun _ _ _ _ _ _ h => by obtain ⟨w, T, lk, e, _, _, h⟩ := h; exact False.elim h⟩
/-- a target and its reading -/
inductive TgOk (X : Cx) (R : Rc) : Tg → Expr → TG → Prop
  | nm {i : Nat} {x : Str} {p : Pos} : Stor X R i x → TgOk X R (.nm i) (.Name x p) (gName i)
  | tp {is : List Nat} {es : List Expr} {k : Nat} {p : Pos} : Stors X R is es → TgOk X R (.tp is) (.Tuple es k p) (gTup R.kx.K is.length (gNs is))
theorem TgOk.pg (hK : R.kx.K = X.K) (hc : X.calm = true) (hN : X.N.Nodup) {tg : Tg} {t : Expr} {g : TG} (h : TgOk X R tg t g) : PG X t g := by
  cases h with
  | nm st => exact pg_name hN st.ix st.loc st.fn
  | tp st =>
    obtain ⟨l1, l2⟩ := st.each
    rw [hK]
    exact pg_tup hc (st.pgs hN) l1 l2
def Tg.slots : Tg → List Nat
  | .nm i => [i]
  | .tp is => is
theorem rd_tg {Q : St → Hp → Prop} {tg : Tg} {t : Expr} {g : TG} (h : TgOk X R tg t g) {p : P} {v : V} {e2 : Ev} (hm : R.fits w) (hb : bindT ⟨R.Φ, lk⟩ tg p e = some e2) (W : Wd R.kx w (T ++ [(v, .val (.pure p))]) lk e σ H) (hs : SlIn T lk)
    (k : ∀ σ', Wd R.kx w T lk e2 σ' H → (σ'.length = σ.length ∧ ∀ j, j ∉ tg.slots → σ'[j]? = σ[j]?) → Q σ' H) : g v σ H Q := by
  cases h with
  | @nm i x _ st =>
    obtain ⟨n1, n2, rfl⟩ := bindN_of (show bindN ⟨R.Φ, lk⟩ i (.pure p) e = some e2 from hb)
    exact k _ (Wd.bind W n2 n1 (by rw [hm.1]; exact st.mp) hs) ⟨by rw [List.length_set], fun j hj => List.getElem?_set_ne fun q => hj (by simp [Tg.slots, q])⟩
  | @tp is es _ _ st =>
    cases p with
    | tup ps => exact rd_tup (fun i hi => by rw [hm.1]; exact st.mps i hi) (show bindNs ⟨R.Φ, lk⟩ is ps e = some e2 from hb) W hs k
    | _ => simp [bindT] at hb
theorem s_for {tg : Tg} {t it : Expr} {g : TG} {mi : MI} {body : List Stmt} {m : M Flow} (hK : R.kx.K = X.K) (hp : PassesOwn (model X.prog X.w) X.A X.env X.xe) (hc : X.calm = true) (hN : X.N.Nodup) (hg : TgOk X R tg t g) (hi : PI X t it (rdI R mi)) (hb : PSs X body (rdS R m))
    (hs : ∀ x, foldedSetIterable it X.env x = pure x) : PS X (.For t it body [] pos) (rdS R (mFor tg mi m)) := by
  refine PSimp (ps_for hp hc hi (hg.pg hK hc hN) hb hs) fun D' σ H h => ?_
  obtain ⟨w, T, lk, e, hm, W, h⟩ := h
  refine ⟨w, T, lk, e, hm, W, (outS_andThen h).g.mono fun xl e1 h1 J H1 S W1 io => ?_⟩
  obtain ⟨xs, l⟩ := xl
  refine ⟨fun i n σ H => ∃ e, n = xs.length - i ∧ i ≤ xs.length ∧ Wd R.kx w (T ++ S) (l ++ lk) e σ H ∧ OutS R w T lk (EndN R w T lk D') (forF tg m ⟨R.Φ, l ++ lk⟩ (xs.drop i) e), ⟨xs.length, e1, by simp, Nat.zero_le _, W1, by rw [List.drop_zero]; exact h1⟩, ?_⟩
  rintro i n σ2 H2 ⟨e2, rfl, hi, W2, h2⟩
  obtain ⟨st, go⟩ := io i [] e2 σ2 H2 (by rw [List.append_nil]; exact W2)
  simp only [List.append_nil] at go
  by_cases hlt : i < xs.length
  · obtain ⟨x, hx⟩ : ∃ x, xs[i]? = some x := ⟨xs[i], by simp [hlt]⟩
    have hd : xs.drop i = x :: xs.drop (i + 1) := by
      rw [List.drop_eq_getElem_cons hlt]
      congr 1
      have := List.getElem?_eq_getElem hlt
      rw [hx] at this
      exact (Option.some.inj this).symm
    rw [hd] at h2
    obtain ⟨g1, g2⟩ := go x hx
    refine .inr ⟨g1, fun σ' H' => ∃ e, Wd R.kx w (T ++ S) (l ++ lk) e σ' H' ∧ OutS R w T lk (EndN R w T lk D') (forF tg m ⟨R.Φ, l ++ lk⟩ (xs.drop (i + 1)) e), fun σ' H' ⟨e, q1, q2⟩ => ⟨xs.length - (i + 1), by omega, e, rfl, hlt, q1, q2⟩, fun v H' y => ?_⟩
    have W3 := g2 v H' y
    unfold forF at h2
    cases q : bindT ⟨R.Φ, l ++ lk⟩ tg x e2 with
    | none => simp only [q] at h2; exact h2.elim
    | some e3 =>
      simp only [q] at h2
      refine rd_tg hg hm q W3 W2.slin fun σ3 W4 _ => ?_
      refine ⟨w, T ++ S, l ++ lk, e3, hm, W4, ((outS_andThen h2).ext W.slin).mono fun f e4 h4 => ?_⟩
      cases f with
      | nx => exact fun σ' H' W5 => ⟨e4, W5, h4⟩
      | ct => exact fun σ' H' W5 => ⟨e4, W5, h4⟩
      | bk => exact EndN.ext (f := .nx) h4 W.slin
      | rt d => exact EndN.ext (f := .rt d) h4 W.slin
  · have : i = xs.length := by omega
    subst this
    rw [List.drop_length] at h2
    exact .inl ⟨st (Nat.le_refl _), h2 σ2 H2 (W2.back W.slin)⟩
theorem s_while {t : M Bool} {m : M Flow} {body : List Stmt} (hp : PassesOwn (model X.prog X.w) X.A X.env X.xe) (hc : PT X c (rdT R t)) (hb : PSs X body (rdS R m)) : PS X (.While c body [] pos) (rdS R (mWh t m)) := by
  refine PSimp (ps_while hp hc hb) fun D' σ H h => ?_
  obtain ⟨w, T, lk, e, hm, W, h⟩ := h
  refine ⟨fun n σ H => ∃ e, Wd R.kx w T lk e σ H ∧ OutS R w T lk (EndN R w T lk D') (whF t m ⟨R.Φ, lk⟩ n e), ⟨most, e, W, h⟩, ?_⟩
  rintro n σ1 H1 ⟨e1, W1, h1⟩
  cases n with
  | zero => exact h1.elim
  | succ n =>
    unfold whF at h1
    refine ⟨w, T, lk, e1, hm, W1, (outS_andThen h1).g.mono fun k e2 h2 H2 W2 => ?_⟩
    cases k with
    | true =>
      rw [if_pos rfl] at h2 ⊢
      refine ⟨fun σ' H' => ∃ e, Wd R.kx w T lk e σ' H' ∧ OutS R w T lk (EndN R w T lk D') (whF t m ⟨R.Φ, lk⟩ n e), fun σ' H' q => ⟨n, Nat.lt_succ_self n, q⟩, ?_⟩
      refine ⟨w, T, lk, e2, hm, W2, (outS_andThen h2).mono fun f e4 h4 => ?_⟩
      cases f with
      | nx => exact fun σ' H' W5 => ⟨e4, W5, h4⟩
      | ct => exact fun σ' H' W5 => ⟨e4, W5, h4⟩
      | bk => exact h4
      | rt d => exact h4
    | false =>
      rw [if_neg Bool.false_ne_true] at h2 ⊢
      exact h2 σ1 H2 W2

/-! ### what is walked -/
theorem it_list {r : Tk} {v : V} {xs : List P} (hq : (v, r) ∈ T) (e1 : r.D.pv = some (.lst xs)) (hr : ∃ a, v = .ref a) : ∃ a, v = .ref a ∧ ItOk R.kx w T lk (Itl R.kx.K a) xs := by
  obtain ⟨a, rfl⟩ := hr
  refine ⟨a, rfl, fun i U e σ H W => ?_⟩
  obtain ⟨a', vs, h1, h20, r⟩ : ∃ a' vs, V.ref a = .ref a' ∧ H a' = some (.lst vs) ∧ RFs R.kx.K H (bad w (T ++ U) e σ) xs vs := W.pvT (List.mem_append_left _ hq) e1
  cases h1
  have h2 : SqL R.kx.K H a vs := .of h20
  refine ⟨fun hl => ⟨vs, h2, by rw [← r.length]; exact hl⟩, fun x hx => ?_⟩
  obtain ⟨u, hu, ru⟩ := r.get hx
  refine ⟨⟨vs, u, h2, hu⟩, fun v H' hy => ?_⟩
  obtain ⟨rfl, hy⟩ := hy
  have := hy vs h2
  rw [hu] at this; cases this
  exact W.pushP ru
theorem it_inp {r : Tk} {v : V} {ns : List Int} (hq : (v, r) ∈ T) (e1 : r.D.pv = some (.inp ns)) (hr : ∃ a, v = .ref a) : ∃ a, v = .ref a ∧ ItOk R.kx w T lk (Itl R.kx.K a) (ns.map .int) := by
  obtain ⟨a, rfl⟩ := hr
  refine ⟨a, rfl, fun i U e σ H W => ?_⟩
  obtain ⟨a', h1, h2⟩ : ∃ a', V.ref a = .ref a' ∧ SqL R.kx.K H a' (ns.map V.int) := W.pvT (List.mem_append_left _ hq) e1
  cases h1
  refine ⟨fun hl => ⟨_, h2, by rw [List.length_map] at hl ⊢; exact hl⟩, fun x hx => ?_⟩
  rw [List.getElem?_map, Option.map_eq_some_iff] at hx
  obtain ⟨k, hk, rfl⟩ := hx
  refine ⟨⟨_, .int k, h2, by rw [List.getElem?_map, hk]; rfl⟩, fun v H' hy => ?_⟩
  obtain ⟨rfl, hy⟩ := hy
  have := hy _ h2
  rw [List.getElem?_map, hk] at this; cases this
  exact W.pushP (by simp [RF])
theorem it_tup {r : Tk} {v : V} {xs : List P} (hq : (v, r) ∈ T) (e1 : r.D.pv = some (.tup xs)) (hr : ∃ a, v = .ref a) : ∃ a, v = .ref a ∧ ItOk R.kx w T lk (Itt R.kx.K a) xs := by
  obtain ⟨a, rfl⟩ := hr
  refine ⟨a, rfl, fun i U e σ H W => ?_⟩
  have z : RF R.kx.K H (bad w (T ++ U) e σ) (.tup xs) (.ref a) := W.pvT (List.mem_append_left _ hq) e1
  simp only [RF] at z
  obtain ⟨a', vs, h1, h2, r⟩ := z
  cases h1
  refine ⟨fun hl => ⟨vs, h2, by rw [← r.length]; exact hl⟩, fun x hx => ?_⟩
  obtain ⟨u, hu, ru⟩ := r.get hx
  refine ⟨⟨vs, u, h2, hu⟩, fun v H' hy => ?_⟩
  obtain ⟨rfl, hy⟩ := hy
  have := hy vs h2
  rw [hu] at this; cases this
  exact W.pushP ru
/-- results as temporaries hold their contents -/
theorem tk_pv {r : Rv} {e1 : Ev} {p : P} (h : r.pv e1 = some p) : (r.tk e1).D.pv = some p := by
  cases r with
  | val d => exact h
  | slot i =>
    cases q : getS e1 i with
    | none => simp [Rv.pv, q] at h
    | some d => simp only [Rv.pv, q, Option.bind_some] at h; simp only [Rv.tk, q, Option.getD_some, Tk.D]; exact h
theorem upTo_len : ∀ (n : Nat) (lo : Int), (upTo lo n).length = n
  | 0, _ => rfl
  | n + 1, lo => by simp [upTo, upTo_len n]
theorem upTo_get : ∀ (n : Nat) (lo : Int) (i : Nat), i < n → (upTo lo n)[i]? = some (.int (lo + i))
  | 0, _, _, h => by omega
  | n + 1, lo, 0, _ => by simp [upTo]
  | n + 1, lo, i + 1, h => by
    simp only [upTo, List.getElem?_cons_succ]
    rw [upTo_get n (lo + 1) i (by omega)]
    congr 2
    push_cast
    omega
theorem it_range (lo : Int) (n : Nat) : ItOk R.kx w T lk (Itr lo n) (upTo lo n) := fun i U e σ H W => by
  refine ⟨fun hl => by rw [upTo_len] at hl; exact hl, fun x hx => ?_⟩
  have hlt : i < n := by
    have := (List.getElem?_eq_some_iff.mp hx).1
    rwa [upTo_len] at this
  rw [upTo_get n lo i hlt] at hx
  cases hx
  refine ⟨hlt, fun v H' hy => ?_⟩
  obtain ⟨rfl, rfl⟩ := hy
  exact W.pushP (by simp [RF])
theorem okR_of {i : Int} (h : okR i = true) : -(2 ^ 62) ≤ i ∧ i < 2 ^ 62 := by
  unfold okR b62 at h
  simp only [Bool.and_eq_true, decide_eq_true_eq] at h
  omega
theorem s_range1 {tg : Expr} {p : Pos} (hg : Gl X "range") (hm : X.mg "range" = none) (h : PE X a (rdE R ma)) (hs : unstar a = true) : PI X tg (.Call (.Name "range" p) [a] [] pos) (rdI R (iR1 ma)) := by
  refine PIimp (pi_range1 hg hm (pa_cons h pa_nil (star_plain hs)) (by rw [star_plain hs]; rfl)) fun σ H RR h => ?_
  obtain ⟨w, T, lk, e, hm, W, h⟩ := h
  refine ⟨w, T, lk, e, hm, W, (outG_andThen h).mono fun r e1 h1 v1 H1 W1 => ?_⟩
  split at h1
  · rename_i j q
    split at h1
    · rename_i ok
      have zj : v1 = .int j := by
        have := W1.pv mem_snoc q
        simpa [RC, RF] using this
      obtain ⟨b1, b2⟩ := okR_of ok
      refine ⟨j, by rw [zj], b1, b2, h1 _ _ [] ?_ (it_range 0 _)⟩
      simpa using W1.back W.slin
    · exact h1.elim
  · exact h1.elim
theorem s_range2 {tg : Expr} {p : Pos} (hg : Gl X "range") (hm : X.mg "range" = none) (h : PE X a (rdE R ma)) (k : PE X b (rdE R mb)) (hs : unstar a = true) (hs2 : unstar b = true) : PI X tg (.Call (.Name "range" p) [a, b] [] pos) (rdI R (iR2 ma mb)) := by
  refine PIimp (pi_range2 hg hm (pa_cons h (pa_cons k pa_nil (star_plain hs2)) (star_plain hs)) (by rw [star_plain hs, star_plain hs2]; rfl) (by rw [star_plain hs2]; rfl)) fun σ H RR h => ?_
  obtain ⟨w, T, lk, e, hm, W, h⟩ := h
  refine ⟨w, T, lk, e, hm, W, (outG_andThen h).mono fun r e1 h1 v1 H1 W1 => ?_⟩
  refine ⟨w, _, _, e1, hm, W1, ((outG_andThen h1).ext W.slin).mono fun r2 e2 h2 v2 H2 W2 => ?_⟩
  split at h2
  · rename_i i j q1 q2
    split at h2
    · rename_i ok
      obtain ⟨o1, o2⟩ := Bool.and_eq_true_iff.mp ok
      have zi : v1 = .int i := by
        have := W2.pv (List.mem_append_left _ mem_snoc) q1
        simpa [RC, RF] using this
      have zj : v2 = .int j := by
        have := W2.pv mem_snoc q2
        simpa [RC, RF] using this
      obtain ⟨b1, b2⟩ := okR_of o1
      obtain ⟨b3, b4⟩ := okR_of o2
      refine ⟨i, j, by rw [zi, zj], ⟨b1, b2, b3, b4⟩, h2 _ _ [] ?_ (it_range i _)⟩
      rw [List.append_assoc] at W2
      simpa using W2.back W.slin
    · exact h2.elim
  · exact h2.elim
/-- a list, a tuple, a text, by what it is -/
def iAny (K : PySem.W.Frag) (te : TE) : TI := fun σ H RR => te σ H fun x H1 => (∃ a, x = .ref a ∧ (∃ xs, SqL K H1 a xs) ∧ RR (Itl K a) H1) ∨ (∃ a, x = .ref a ∧ (∃ xs, SqT K H1 a xs) ∧ RR (Itt K a) H1) ∨ ∃ z : Str, x = .str z ∧ RR (Its z) H1
theorem str_it {X : Cx} {tg : Expr} {pins : List (Addr × Obj)} {σ : St} {H : Hp} {s : Shared} {x : Str} {v : Value} {RR : It → Hp → Prop} (I : Inv X pins σ H s) (r : RelV (.str x) v) (q : RR (Its x) H) : wpAny (model X.prog X.w) X.A (pyIter v) (PIE X pins σ tg RR) X.xe s := by
  obtain ⟨t, rfl⟩ := r
  cases ha : x.cps.all (· < 128)
  · exact wpAny_pyIter_wide ha (pi_one (tk := s.toks) I _ (turn_str _ x t "str_iterator" (.inr rfl)) ⟨_, Heap.get?_push_size _ rfl, rfl, rfl⟩ q)
  · exact wpAny_pyIter_ascii ha (pi_one (tk := s.toks) I _ (turn_str _ x t "str_ascii_iterator" (.inl rfl)) ⟨_, Heap.get?_push_size _ rfl, rfl, rfl⟩ q)
theorem pi_any {tg l : Expr} {tl : TE} (hl : PE X l tl) : PI X tg l (iAny X.K tl) := by
  refine ⟨fun pins s σ H RR I h => ?_⟩
  have kl : PI X tg l (iList X.K tl) := pi_list hl
  refine thn (hl.run pins s σ H _ I h) fun v s1 ⟨x, H1, I1, r1, q1⟩ => ?_
  rcases q1 with ⟨a, e, ⟨xs, hq⟩, q⟩ | ⟨a, e, ⟨xs, hq⟩, q⟩ | ⟨z, e, q⟩
  · subst e
    cases r1
    obtain ⟨its, rv, p, hz⟩ := I1.list hq
    refine wpAny_pyIter_list p.isList ?_
    refine ⟨s1.heap.objs.size, [s1.heap.objs.size], _, _, H1, rfl, I1.kept (t' := s1.toks) fun b o e => Heap.get?_push_of_some _ e, turn_list a _, ⟨_, Heap.get?_push_size _ rfl, rfl, rfl⟩, fun b hb => ?_, q⟩
    have e : b = s1.heap.objs.size := by simpa using hb
    subst e
    exact I1.fpOk (Nat.le_refl _) (I1.hok.fresh (Nat.le_refl _))
  · subst e
    cases r1
    obtain ⟨its, rv, p, hz⟩ := I1.tuple hq
    refine wpAny_pyIter_tuple (show s1.heap.IsTuple a its.toArray from p) ?_
    refine ⟨s1.heap.objs.size, [s1.heap.objs.size], _, _, H1, rfl, I1.kept (t' := s1.toks) fun b o e => Heap.get?_push_of_some _ e, turn_tuple a _, ⟨_, Heap.get?_push_size _ rfl, rfl, rfl⟩, fun b hb => ?_, q⟩
    have e : b = s1.heap.objs.size := by simpa using hb
    subst e
    exact I1.fpOk (Nat.le_refl _) (I1.hok.fresh (Nat.le_refl _))
  · subst e
    -- the rule for texts, at a value that is at hand
    exact str_it I1 r1 q
theorem s_iter {tg : Expr} (hK : R.kx.K = X.K) (ha : PE X a (rdE R ma)) : PI X tg a (rdI R (iVal ma)) := by
  refine PIimp (pi_any ha) fun σ H RR h => ?_
  rw [← hK]
  obtain ⟨w, T, lk, e, hm, W, h⟩ := h
  refine ⟨w, T, lk, e, hm, W, (outG_andThen h).mono fun r e1 h1 v1 H1 W1 => ?_⟩
  cases q : r.pv e1 with
  | none => simp only [q, Option.bind_none] at h1; exact h1.elim
  | some p =>
    simp only [q, Option.bind_some] at h1
    cases p with
    | lst xs =>
      obtain ⟨a', vs, rfl, h20, _⟩ : ∃ a' vs, v1 = .ref a' ∧ H1 a' = some (.lst vs) ∧ _ := W1.pv mem_snoc q
      have h2 : SqL R.kx.K H1 a' vs := .of h20
      obtain ⟨_, e2, io⟩ := it_list (R := R) (w := w) (lk := r.lks ++ lk) (T := T ++ [(V.ref a', r.tk e1)]) mem_snoc (tk_pv q) ⟨a', rfl⟩
      cases e2
      exact .inl ⟨a', rfl, ⟨vs, h2⟩, h1 _ _ _ W1 io⟩
    | inp ns =>
      obtain ⟨a', rfl, h2⟩ : ∃ a', v1 = .ref a' ∧ SqL R.kx.K H1 a' (ns.map V.int) := W1.pv mem_snoc q
      obtain ⟨_, e2, io⟩ := it_inp (R := R) (w := w) (lk := r.lks ++ lk) (T := T ++ [(V.ref a', r.tk e1)]) mem_snoc (tk_pv q) ⟨a', rfl⟩
      cases e2
      exact .inl ⟨a', rfl, ⟨_, h2⟩, h1 _ _ _ W1 io⟩
    | tup xs =>
      have z : RF R.kx.K H1 _ (.tup xs) v1 := W1.pv mem_snoc q
      simp only [RF] at z
      obtain ⟨a', vs, rfl, h2, _⟩ := z
      obtain ⟨_, e2, io⟩ := it_tup (R := R) (w := w) (lk := r.lks ++ lk) (T := T ++ [(V.ref a', r.tk e1)]) mem_snoc (tk_pv q) ⟨a', rfl⟩
      cases e2
      exact .inr (.inl ⟨a', rfl, ⟨vs, h2⟩, h1 _ _ _ W1 io⟩)
    | str s =>
      have z : RF R.kx.K H1 (bad w (T ++ [(v1, r.tk e1)]) e1 σ) (.str s) v1 := W1.pv mem_snoc q
      simp only [RF] at z
      obtain ⟨x, rfl, rfl, hx⟩ := z
      refine .inr (.inr ⟨x, rfl, h1 _ _ _ W1 fun i U e σ H W2 => ?_⟩)
      refine ⟨fun hl => ?_, fun y hy => ?_⟩
      · show x.cps.size ≤ i
        simpa using hl
      · simp only [List.getElem?_map, Option.map_eq_some_iff] at hy
        obtain ⟨cc, hc, rfl⟩ := hy
        have hc' : x.cps[i]? = some cc := by simpa using hc
        refine ⟨(Array.getElem?_eq_some_iff.mp hc').1, fun v H' hy => ?_⟩
        obtain ⟨rfl, c2, h2, rfl⟩ := hy
        rw [hc'] at h2; cases h2
        refine W2.pushP (by
          simp only [RF]
          refine ⟨_, rfl, rfl, ?_⟩
          have := Array.all_eq_true.mp hx i (Array.getElem?_eq_some_iff.mp hc').1
          rw [(Array.getElem?_eq_some_iff.mp hc').2] at this
          simpa using this)
    | _ => exact h1.elim
end
end Gr
set_option Elab.async false
set_option linter.all false
set_option maxRecDepth 100000
/-! G8: comprehensions. -/
namespace Gr
open PySem PySem.Spec L2
section
variable {X : Cx} {R : Rc} {pos pos' : Pos} {a b c : Expr} {ma mb mc : M Rv} {kx : Kx} {w : Wo} {T S : Tm} {lk lk' : List Nat} {e : Ev} {σ σ' : St} {H : Hp} {α β : Type} {D' : Ends}
/-- the places where a slot is empty don't matter -/
theorem ownE_change : ∀ {e : Ev} {σ σ' : St}, σ.length = σ'.length → (∀ (i : Nat) (d : D), e[i]? = some (some d) → σ'[i]? = σ[i]?) → ownE e σ' = ownE e σ
  | [], _, _, _, _ => rfl
  | s :: e, [], [], _, _ => rfl
  | _ :: _, [], _ :: _, h, _ => by simp at h
  | _ :: _, _ :: _, [], h, _ => by simp at h
  | s :: e, u :: σ, u' :: σ', hl, h => by
    have ih := ownE_change (e := e) (σ := σ) (σ' := σ') (by simpa using hl) fun i d q => by simpa using h (i + 1) d (by simpa using q)
    cases s with
    | none => cases u <;> cases u' <;> exact ih
    | some d =>
      have := h 0 d rfl
      simp at this
      subst this
      cases u' with
      | none => exact ih
      | some v =>
        show ownD d v ++ ownE e σ' = ownD d v ++ ownE e σ
        rw [ih]
theorem Wd.change (W : Wd kx w T lk e σ H) (hl : σ.length = σ'.length) (h : ∀ (i : Nat) (d : D), e[i]? = some (some d) → σ'[i]? = σ[i]?) (hm : ∀ q ∈ w.ms, σ'[q.1]? = σ[q.1]?) : Wd kx w T lk e σ' H := by
  have eo := ownE_change hl h
  have eb : bad w T e σ' = bad w T e σ := by funext a; simp only [bad, eo]
  refine ⟨by rw [← hl]; exact W.len, by rw [eo]; exact W.nd, fun i d q => ?_, fun q hq => ?_, W.fr, by rw [eo]; exact W.nw, W.bb, fun q hq => by rw [hm q hq]; exact W.ms q hq, W.mt⟩
  · obtain ⟨v, h1, h2⟩ := W.sl i d q
    exact ⟨v, by rw [h i d q]; exact h1, by rw [eb]; exact h2⟩
  · have z := W.tm q hq
    obtain ⟨v, r⟩ := q
    cases r with
    | val d =>
      show RD kx w H (bad w T e σ') d v
      rw [eb]; exact z
    | slot i d =>
      obtain ⟨z1, z2, z3, z4⟩ := z
      exact ⟨z1, (h i d z3).trans z2, z3, z4⟩
/-- a slot is emptied -/
theorem Wd.drop1 {i : Nat} (W : Wd kx w T lk e σ H) (hn : i ∉ lk) : Wd kx w T lk (e.set i none) σ H := by
  by_cases hlt : i < e.length
  · obtain ⟨l1, l2, q⟩ := ownE_split W.len hlt
    obtain ⟨s0, h0⟩ : ∃ s, e[i]? = some s := ⟨e[i], by simp [hlt]⟩
    obtain ⟨u0, k0⟩ : ∃ s, σ[i]? = some s := ⟨σ[i]'(by rw [← W.len]; exact hlt), by simp [← W.len, hlt]⟩
    have q0 : ownE e σ = l1 ++ ownO s0 u0 ++ l2 := by
      have := q s0 u0
      rwa [set_self h0, set_self k0] at this
    have q1 : ownE (e.set i none) σ = l1 ++ l2 := by
      have := q none u0
      rw [set_self k0] at this
      rw [this]; cases u0 <;> simp [ownO]
    have sub : (ownE (e.set i none) σ ++ ownT T).Sublist (ownE e σ ++ ownT T) := by
      rw [q0, q1]
      refine List.Sublist.append ?_ (List.Sublist.refl _)
      exact List.Sublist.append (List.sublist_append_left _ _) (List.Sublist.refl _)
    have hb : ∀ a, bad w T (e.set i none) σ a → bad w T e σ a ∨ H a = none := fun a z => .inl (z.imp id (sub.subset ·))
    refine ⟨by rw [List.length_set]; exact W.len, W.nd.sublist sub, fun j d' hj => ?_, fun t ht => ?_, W.fr, fun a ha => W.nw a (sub.subset ha), W.bb, W.ms, W.mt⟩
    · by_cases hji : j = i
      · subst hji
        rw [List.getElem?_set_self hlt] at hj; cases hj
      · rw [List.getElem?_set_ne (Ne.symm hji)] at hj
        obtain ⟨u, h1, h2⟩ := W.sl j d' hj
        exact ⟨u, h1, h2.pureMono (fun _ _ z _ => z) hb fun _ _ => rfl⟩
    · have z := W.tm t ht
      obtain ⟨u, r⟩ := t
      cases r with
      | val d' => exact RD.pureMono (d := d') (fun _ _ z _ => z) hb (fun _ _ => rfl) z
      | slot j d' =>
        obtain ⟨z1, z2, z3, z4⟩ := z
        have hji : j ≠ i := fun q => hn (q ▸ z1)
        exact ⟨z1, z2, by rw [List.getElem?_set_ne (Ne.symm hji)]; exact z3, z4⟩
  · have : e.set i none = e := List.set_eq_of_length_le (by omega)
    rw [this]; exact W
theorem wipeE_length : ∀ {own : List Nat} {e : Ev}, (wipeE e own).length = e.length
  | [], _ => rfl
  | i :: is, e => by simp [wipeE, wipeE_length (own := is)]
theorem wipeE_get : ∀ {own : List Nat} {e : Ev} {i : Nat} {d : D}, (wipeE e own)[i]? = some (some d) → i ∉ own ∧ e[i]? = some (some d)
  | [], _, _, _, h => ⟨by simp, h⟩
  | k :: ks, e, i, d, h => by
    unfold wipeE at h
    by_cases hk : k = i
    · subst hk
      by_cases hl : k < (wipeE e ks).length
      · rw [List.getElem?_set_self hl] at h; cases h
      · rw [List.getElem?_eq_none (by simpa using hl)] at h; cases h
    · rw [List.getElem?_set_ne hk] at h
      obtain ⟨h1, h2⟩ := wipeE_get h
      exact ⟨by simp only [List.mem_cons, not_or]; exact ⟨fun q => hk q.symm, h1⟩, h2⟩
theorem wipe_get : ∀ {own : List Nat} {σ : St} {i : Nat}, i ∉ own → (wipe σ own)[i]? = σ[i]?
  | [], _, _, _ => rfl
  | k :: ks, σ, i, h => by
    unfold wipe
    have hk : k ≠ i := fun q => h (by rw [q]; exact List.mem_cons_self)
    rw [List.getElem?_set_ne hk, wipe_get fun q => h (List.mem_cons_of_mem _ q)]
theorem wipe_in : ∀ {own : List Nat} {σ : St} {i : Nat}, i ∈ own → i < σ.length → (wipe σ own)[i]? = some none
  | k :: ks, σ, i, h, hl => by
    unfold wipe
    by_cases hk : k = i
    · subst hk
      rw [List.getElem?_set_self (by rw [wipe_length]; exact hl)]
    · rw [List.getElem?_set_ne hk]
      rcases List.mem_cons.mp h with q | q
      · exact absurd q.symm hk
      · exact wipe_in q hl
theorem wipe_same {own : List Nat} (hl : σ'.length = σ.length) (h : ∀ j, j ∉ own → σ'[j]? = σ[j]?) : wipe σ' own = wipe σ own := by
  apply List.ext_getElem?
  intro i
  by_cases hi : i ∈ own
  · by_cases hlt : i < σ.length
    · rw [wipe_in hi hlt, wipe_in hi (by rw [hl]; exact hlt)]
    · rw [List.getElem?_eq_none (by rw [wipe_length]; omega), List.getElem?_eq_none (by rw [wipe_length]; omega)]
  · rw [wipe_get hi, wipe_get hi, h i hi]
/-- emptied slots -/
theorem Wd.drops : ∀ {own : List Nat} {e : Ev}, (∀ i ∈ own, i ∉ lk) → Wd kx w T lk e σ H → Wd kx w T lk (wipeE e own) σ H
  | [], _, _, W => W
  | i :: is, e, h, W => (Wd.drops (fun j hj => h j (List.mem_cons_of_mem _ hj)) W).drop1 (h i List.mem_cons_self)
theorem Wd.wipes {own : List Nat} (W : Wd kx w T lk e σ H) (h : ∀ i ∈ own, i ∉ lk) (hm : ∀ i ∈ own, i ∉ w.ms.map (·.1)) : Wd kx w T lk (wipeE e own) (wipe σ own) H :=
  (Wd.drops h W).change (by rw [wipe_length]) (fun i d q => wipe_get (wipeE_get q).1) fun q hq => wipe_get fun z => hm _ z (List.mem_map.mpr ⟨q, hq, rfl⟩)
theorem Wd.unwipe {own : List Nat} (W : Wd kx w T lk (wipeE e own) (wipe σ own) H) (hm : ∀ i ∈ own, i ∉ w.ms.map (·.1)) : Wd kx w T lk (wipeE e own) σ H :=
  W.change (by rw [wipe_length]) (fun i d q => (wipe_get (wipeE_get q).1).symm) fun q hq => (wipe_get fun z => hm _ z (List.mem_map.mpr ⟨q, hq, rfl⟩)).symm
/-- a list that is a temporary grows -/
theorem Wd.writeT {U : Tm} {x : Addr} {xs ys : List P} {us : List V} (W : Wd kx w (T ++ [(.ref x, .val (.ols xs))] ++ U) lk e σ H) (r : RFs kx.K H (bad w (T ++ [(.ref x, .val (.ols xs))] ++ U) e σ) ys us) :
    Wd kx w (T ++ [(.ref x, .val (.ols ys))] ++ U) lk e σ (upd H x (.lst us)) := by
  have oT : ∀ zs, ownT (T ++ [(.ref x, .val (.ols zs))] ++ U) = ownT T ++ [x] ++ ownT U := fun zs => by rw [ownT_append, ownT_append]; rfl
  have eo : ownT (T ++ [(.ref x, .val (.ols ys))] ++ U) = ownT (T ++ [(.ref x, .val (.ols xs))] ++ U) := by rw [oT, oT]
  have eb : bad w (T ++ [(.ref x, .val (.ols ys))] ++ U) e σ = bad w (T ++ [(.ref x, .val (.ols xs))] ++ U) e σ := by funext a; simp only [bad, eo]
  have mem : x ∈ ownE e σ ++ ownT (T ++ [(.ref x, .val (.ols xs))] ++ U) := List.mem_append_right _ (by rw [oT]; simp)
  obtain ⟨ox, hx, cx⟩ := W.cell mem
  have hH : ∀ c u, H c = some u → (bad w (T ++ [(.ref x, .val (.ols xs))] ++ U) e σ c → ¬ isC u) → upd H x (.lst us) c = some u := fun c u q n => by
    have : c ≠ x := fun z => by
      subst z
      rw [hx] at q; cases q
      exact n (.inr mem) cx
    rw [upd_ne this]; exact q
  have nd := W.nd
  rw [oT] at nd
  have out : ∀ c, c ∈ ownE e σ ++ (ownT T ++ ownT U) → c ≠ x := fun c hc z => by
    subst z
    have nd2 : ([c] ++ (ownE e σ ++ (ownT T ++ ownT U))).Nodup := by
      refine nd.perm ?_
      have p1 : (ownT T ++ [c] ++ ownT U).Perm ([c] ++ (ownT T ++ ownT U)) := by
        rw [List.append_assoc]
        exact List.perm_append_comm_assoc (ownT T) [c] (ownT U)
      exact (p1.append_left (ownE e σ)).trans (List.perm_append_comm_assoc (ownE e σ) [c] (ownT T ++ ownT U))
    exact (List.nodup_append.mp nd2).2.2 c (by simp) c hc rfl
  refine ⟨W.len, by rw [eo]; exact W.nd, fun i d q => ?_, fun t ht => ?_, fun c u hc hn => ?_, by rw [eo]; exact W.nw, W.bb, W.ms, fun t ht => ?_⟩
  · rw [eb]
    obtain ⟨v, h1, h2⟩ := W.sl i d q
    exact ⟨v, h1, h2.pureMono hH (fun _ z => .inl z) fun c hc => upd_ne (out c (List.mem_append_left _ (ownE_mem q h1 hc)))⟩
  · rw [eb]
    have old : ∀ t ∈ T ++ U, TmOk kx w (upd H x (.lst us)) (bad w (T ++ [(.ref x, .val (.ols xs))] ++ U) e σ) lk e σ t := fun t ht => by
      have z := W.tm t (by
        rcases List.mem_append.mp ht with ht | ht
        · exact List.mem_append_left _ (List.mem_append_left _ ht)
        · exact List.mem_append_right _ ht)
      obtain ⟨u, r'⟩ := t
      cases r' with
      | val d' => exact RD.pureMono (d := d') hH (fun _ z => .inl z) (fun c hc => upd_ne (out c (List.mem_append_right _ (by rw [← ownT_append]; exact ownT_mem ht hc)))) z
      | slot j d' => exact z
    rcases List.mem_append.mp ht with ht | ht
    · rcases List.mem_append.mp ht with ht | ht
      · exact old t (List.mem_append_left _ ht)
      · have := List.mem_singleton.mp ht
        subst this
        exact ⟨x, us, rfl, upd_same, r.mono hH fun _ z => .inl z⟩
    · exact old t (List.mem_append_right _ ht)
  · have : c ≠ x := fun z => by
      subst z
      rw [W.nw c mem hn] at hc; cases hc
    rw [upd_ne this]
    exact W.fr c u hc hn
  · by_cases hta : t.2 = x
    · exact ⟨_, by rw [hta]; exact upd_same⟩
    · obtain ⟨u, z⟩ := W.mt t ht
      exact ⟨u, by rw [upd_ne hta]; exact z⟩
/-- no error is wished for -/
def Rc.still (R : Rc) : Rc := { R with W := fun _ _ _ _ => False }
theorem OutG.of_ok {R : Rc} {N : α → Ev → Prop} {o : Out α} {x : α} {e1 : Ev} (h : o = .ok x e1) (k : N x e1) : OutG R w T lk σ N o := by rw [h]; exact k
theorem wipeE_idem {own : List Nat} : ∀ {e : Ev}, wipeE (wipeE e own) own = wipeE e own := by
  intro e
  apply List.ext_getElem?
  intro i
  have key : ∀ {e : Ev} {i : Nat}, (wipeE e own)[i]? = if i ∈ own then (if i < e.length then some none else none) else e[i]? := by
    induction own with
    | nil => intro e i; simp [wipeE]
    | cons k ks ih =>
      intro e i
      unfold wipeE
      by_cases hk : k = i
      · subst hk
        by_cases hl : k < e.length
        · rw [List.getElem?_set_self (by rw [wipeE_length]; exact hl)]; simp [hl]
        · rw [List.getElem?_eq_none (by rw [List.length_set, wipeE_length]; omega)]; simp [hl]
      · rw [List.getElem?_set_ne hk, ih]
        have : (i ∈ k :: ks) = (i ∈ ks) := by simp [Ne.symm hk]
        simp [Ne.symm hk]
  rw [key, key, wipeE_length]
  by_cases h : i ∈ own <;> simp [h]
theorem rd_comp {tg : Tg} {t : Expr} {g : TG} {mi : MI} {tt : M Bool} {elt : M Rv} {own : List Nat} {Q : VK} (hK : R.kx.K = X.K) {X' : Cx} (hg : TgOk X' R tg t g) (ho : ∀ i ∈ tg.slots, i ∈ own) (hmp : ∀ i ∈ own, i ∉ R.mps) (h : rdE R (mComp own tg mi tt elt) σ H Q) :
    tLc (rdI R mi) g (rdT R.still tt) (rdE R.still elt) own σ H Q := by
  obtain ⟨w, T, lk, e, hm, W, h⟩ := h
  refine ⟨w, T, lk, e, hm, W, (outG_andThen h).mono fun xl e1 h1 J H1 S W1 io D hD => ?_⟩
  obtain ⟨xs, l⟩ := xl
  dsimp only at h1 W1 io
  have lkq : (Ct.mk R.Φ lk).lock l = ⟨R.Φ, l ++ lk⟩ := rfl
  rw [lkq] at h1
  cases q0 : (decide (xs.length ≤ line) && own.all fun i => !(l ++ lk).contains i) with
  | false => rw [q0, if_neg Bool.false_ne_true] at h1; exact h1.elim
  | true =>
    rw [q0, if_pos rfl] at h1
    obtain ⟨q1, q2⟩ := Bool.and_eq_true_iff.mp q0
    have hz : xs.length ≤ line := of_decide_eq_true q1
    have hlk : ∀ i ∈ own, i ∉ l ++ lk := fun i hi z => by
      have := List.all_eq_true.mp q2 i hi
      simp only [Bool.not_eq_true'] at this
      exact mem_of_contains this z
    have hms : ∀ i ∈ own, i ∉ w.ms.map (·.1) := fun i hi => by rw [hm.1]; exact hmp i hi
    cases q3 : compF tg tt elt own ⟨R.Φ, l ++ lk⟩ xs (wipeE e1 own) with
    | rs c f e => rw [q3] at h1; exact h1.elim
    | stk => rw [q3] at h1; exact h1.elim
    | ok ps0 ef =>
      rw [q3] at h1
      have h1 : ∀ v H', Wd R.kx w (T ++ [(v, .val (.ols ps0))]) lk ef σ H' → Q v H' := h1
      have W2 : Wd R.kx w (T ++ S ++ [(.ref D, .val (.ols []))]) (l ++ lk) (wipeE e1 own) (wipe σ own) (upd H1 D (.lst [])) := (W1.wipes hlk hms).pushL hD .nil
      refine ⟨fun i n H => ∃ acc e ps, n = xs.length - i ∧ i ≤ xs.length ∧ acc.length ≤ i ∧ wipeE e own = e ∧ Wd R.kx w (T ++ S ++ [(.ref D, .val (.ols acc))]) (l ++ lk) e (wipe σ own) H ∧ compF tg tt elt own ⟨R.Φ, l ++ lk⟩ (xs.drop i) e = .ok ps ef ∧ acc ++ ps = ps0,
        ⟨xs.length, [], _, ps0, by simp, Nat.zero_le _, Nat.zero_le _, wipeE_idem, W2, by rw [List.drop_zero]; exact q3, rfl⟩, ?_⟩
      rintro i n H2 ⟨acc, e2, ps, rfl, hi, ha, he, W3, hc, rfl⟩
      obtain ⟨st, go⟩ := io i [(.ref D, .val (.ols acc))] e2 (wipe σ own) H2 W3
      by_cases hlt : i < xs.length
      · obtain ⟨x, hx⟩ : ∃ x, xs[i]? = some x := ⟨xs[i], by simp [hlt]⟩
        have hd : xs.drop i = x :: xs.drop (i + 1) := by
          rw [List.drop_eq_getElem_cons hlt]
          congr 1
          have := List.getElem?_eq_getElem hlt
          rw [hx] at this
          exact (Option.some.inj this).symm
        rw [hd] at hc
        obtain ⟨g1, g2⟩ := go x hx
        refine .inr ⟨g1, fun H' => ∃ acc e ps', i + 1 ≤ xs.length ∧ acc.length ≤ i + 1 ∧ wipeE e own = e ∧ Wd R.kx w (T ++ S ++ [(.ref D, .val (.ols acc))]) (l ++ lk) e (wipe σ own) H' ∧ compF tg tt elt own ⟨R.Φ, l ++ lk⟩ (xs.drop (i + 1)) e = .ok ps' ef ∧ acc ++ ps' = _,
          fun H' ⟨acc', e', ps', a1, a2, a3, a4, a5, a6⟩ => ⟨xs.length - (i + 1), by omega, acc', e', ps', rfl, a1, a2, a3, a4, a5, a6⟩, fun v H' y => ?_⟩
        have W4 := g2 v H' y
        unfold compF at hc
        cases q4 : bindT ⟨R.Φ, l ++ lk⟩ tg x e2 with
        | none => simp only [q4] at hc; cases hc
        | some e3 =>
          simp only [q4] at hc
          refine rd_tg hg hm q4 W4 W3.slin fun σ3 W5 ⟨z1, z2⟩ => ?_
          have hw : wipe σ3 own = wipe σ own := by
            rw [wipe_same z1 fun j hj => z2 j fun q => hj (ho j q)]
            apply List.ext_getElem?
            intro j
            by_cases hj : j ∈ own
            · by_cases hlt : j < σ.length
              · rw [wipe_in hj hlt, wipe_in hj (by rw [wipe_length]; exact hlt)]
              · rw [List.getElem?_eq_none (by rw [wipe_length, wipe_length]; omega), List.getElem?_eq_none (by rw [wipe_length]; omega)]
            · rw [wipe_get hj]
          refine ⟨hw, ?_⟩
          cases q5 : tt ⟨R.Φ, l ++ lk⟩ e3 with
          | rs c f e => simp only [q5] at hc; cases hc
          | stk => simp only [q5] at hc; cases hc
          | ok k e4 =>
            simp only [q5] at hc
            refine ⟨w, _, _, e3, hm, W5, OutG.of_ok q5 fun H3 W6 => ?_⟩
            cases k with
            | false =>
              rw [if_neg Bool.false_ne_true]
              simp only at hc
              refine ⟨acc, wipeE e4 own, ps, hlt, by omega, wipeE_idem, ?_, hc, rfl⟩
              have := W6.wipes hlk hms
              rw [hw] at this
              exact this
            | true =>
              rw [if_pos rfl]
              simp only at hc
              cases q6 : elt ⟨R.Φ, l ++ lk⟩ e4 with
              | rs c f e => simp only [mLeak, q6, Out.andThen] at hc; cases hc
              | stk => simp only [mLeak, q6, Out.andThen] at hc; cases hc
              | ok r e5 =>
                simp only [mLeak, q6, Out.andThen] at hc
                cases q7 : leakR r ⟨R.Φ, l ++ lk⟩ e5 with
                | rs c f e => simp only [q7] at hc; cases hc
                | stk => simp only [q7] at hc; cases hc
                | ok p e6 =>
                  simp only [q7] at hc
                  refine ⟨w, _, _, e4, hm, W6, OutG.of_ok q6 fun v4 H4 W7 => ?_⟩
                  cases q8 : compF tg tt elt own ⟨R.Φ, l ++ lk⟩ (xs.drop (i + 1)) (wipeE e6 own) with
                  | rs c f e => simp only [q8] at hc; cases hc
                  | stk => simp only [q8] at hc; cases hc
                  | ok ps2 e7 =>
                    simp only [q8] at hc
                    have hc' : p :: ps2 = ps ∧ e7 = ef := by
                      injection hc with a1 a2
                      exact ⟨a1, a2⟩
                    obtain ⟨rfl, rfl⟩ := hc'
                    obtain ⟨p', e6', hpe, W8⟩ := rd_leak (N := fun p' e' => p' = p ∧ e' = e6) (Q := fun _ _ => True) W6 (OutG.of_ok q7 ⟨rfl, rfl⟩) W7
                    obtain ⟨rfl, rfl⟩ := hpe
                    obtain ⟨x', vs, e8, hD2, rD⟩ : ∃ x' vs, V.ref D = .ref x' ∧ H4 x' = some (.lst vs) ∧ RFs R.kx.K H4 _ acc vs := W8.tm (.ref D, .val (.ols acc)) (by simp)
                    cases e8
                    have rp := W8.tmP mem_snoc
                    have W9 := (W8.writeT (rD.append (.cons rp .nil))).sub (List.sublist_append_left _ _)
                    refine ⟨vs, hD2, by rw [← rD.length]; exact lineLt (by omega), acc ++ [p'], wipeE e6' own, ps2, hlt, by simp; omega, wipeE_idem, ?_, q8, by simp⟩
                    have := W9.wipes hlk hms
                    rw [hw] at this
                    exact this
      · have : i = xs.length := by omega
        subst this
        rw [List.drop_length] at hc
        unfold compF at hc
        have hc' : [] = ps ∧ e2 = ef := by
          injection hc with a1 a2
          exact ⟨a1, a2⟩
        obtain ⟨rfl, rfl⟩ := hc'
        rw [List.append_nil] at h1
        refine .inl ⟨st (Nat.le_refl _), h1 _ _ ?_⟩
        have W5 : Wd R.kx w (T ++ [(V.ref D, .val (.ols acc))]) lk e2 (wipe σ own) H2 := by
          have hT : SlIn T lk := W.slin
          have := W3
          rw [List.append_assoc] at this
          refine ((W3.sub (S := T ++ [(V.ref D, .val (.ols acc))]) (List.Sublist.append (List.sublist_append_left T S) (List.Sublist.refl _)))).lkDown (slin_val hT)
        rw [← he] at W5 ⊢
        exact W5.unwipe hms
end
end Gr
set_option Elab.async false
set_option linter.all false
set_option maxRecDepth 100000
/-! G9: calls. -/
namespace Gr
open PySem PySem.Spec L2
section
variable {X : Cx} {R : Rc} {pos pos' : Pos} {a b c : Expr} {ma mb mc : M Rv} {kx : Kx} {w : Wo} {T S : Tm} {lk lk' : List Nat} {e : Ev} {σ σ' : St} {H : Hp} {α β : Type} {D' : Ends}
theorem ownT_perm : ∀ {T S : Tm}, T.Perm S → (ownT T).Perm (ownT S) := by
  intro T S h
  have key : ∀ U : Tm, ownT U = U.flatMap fun q => match q.2 with | .val d => ownD d q.1 | .slot _ _ => [] := by
    intro U
    induction U with
    | nil => rfl
    | cons q U ih =>
      obtain ⟨v, r⟩ := q
      cases r with
      | val d => simp [ownT, ih]
      | slot i d => simp [ownT, ih]
  rw [key, key]
  exact h.flatMap_right _
theorem Wd.perm (W : Wd kx w T lk e σ H) (h : T.Perm S) : Wd kx w S lk e σ H := by
  have po := ownT_perm h
  have pm : (ownE e σ ++ ownT T).Perm (ownE e σ ++ ownT S) := po.append_left _
  have eb : bad w S e σ = bad w T e σ := by
    funext a
    simp only [bad]
    exact propext ⟨fun z => z.imp id pm.mem_iff.mpr, fun z => z.imp id pm.mem_iff.mp⟩
  refine ⟨W.len, W.nd.perm pm, fun i d q => by rw [eb]; exact W.sl i d q, fun q hq => by rw [eb]; exact W.tm q (h.mem_iff.mpr hq), W.fr, fun a ha => W.nw a (pm.mem_iff.mpr ha), W.bb, W.ms, W.mt⟩
/-- a temporary goes back into the slot where it stands -/
theorem Wd.bindBack {d : D} {v : V} {i : Nat} (W : Wd kx w (T ++ [(v, .val d)]) lk e σ H) (hlt : i < e.length) (hn : i ∉ lk) (hv : σ[i]? = some (some v)) (hT : SlIn T lk) : Wd kx w T lk (e.set i (some d)) σ H := by
  obtain ⟨l1, l2, q⟩ := ownE_split W.len hlt
  obtain ⟨s0, h0⟩ : ∃ s, e[i]? = some s := ⟨e[i], by simp [hlt]⟩
  have q0 : ownE e σ = l1 ++ ownO s0 (some v) ++ l2 := by
    have := q s0 (some v)
    rwa [set_self h0, set_self hv] at this
  have q1 : ownE (e.set i (some d)) σ = l1 ++ ownD d v ++ l2 := by
    have := q (some d) (some v)
    rw [set_self hv] at this
    exact this
  have eT : ownT (T ++ [(v, .val d)]) = ownT T ++ ownD d v := by rw [ownT_append]; simp [ownT]
  have sub : ∀ a, a ∈ ownE (e.set i (some d)) σ ++ ownT T → a ∈ ownE e σ ++ ownT (T ++ [(v, .val d)]) := fun a ha => by
    rw [q0, eT]
    rw [q1] at ha
    simp only [List.mem_append] at ha ⊢
    rcases ha with ((z | z) | z) | z
    · exact .inl (.inl (.inl z))
    · exact .inr (.inr z)
    · exact .inl (.inr z)
    · exact .inr (.inl z)
  have nd : (ownE (e.set i (some d)) σ ++ ownT T).Nodup := by
    have n := W.nd
    rw [q0, eT] at n
    rw [q1]
    have n2 : (l1 ++ l2 ++ (ownT T ++ ownD d v)).Nodup := by
      refine n.sublist (List.Sublist.append ?_ (List.Sublist.refl _))
      exact List.Sublist.append (List.sublist_append_left _ _) (List.Sublist.refl _)
    refine n2.perm ?_
    have p1 : (l1 ++ l2 ++ (ownT T ++ ownD d v)).Perm (l1 ++ (l2 ++ (ownD d v ++ ownT T))) := by
      rw [List.append_assoc]
      exact ((List.perm_append_comm).append_left l2).append_left l1
    refine p1.trans ?_
    rw [List.append_assoc, List.append_assoc]
    refine List.Perm.append_left l1 ?_
    exact List.perm_append_comm_assoc l2 (ownD d v) (ownT T)
  have hb : ∀ a, bad w T (e.set i (some d)) σ a → bad w (T ++ [(v, .val d)]) e σ a ∨ H a = none := fun a z => .inl (z.imp id (sub a))
  refine ⟨by rw [List.length_set]; exact W.len, nd, fun j d' hj => ?_, fun t ht => ?_, W.fr, fun a ha => W.nw a (sub a ha), W.bb, W.ms, W.mt⟩
  · by_cases hji : j = i
    · subst hji
      rw [List.getElem?_set_self hlt] at hj
      cases hj
      exact ⟨v, hv, RD.pureMono (d := d) (fun _ _ z _ => z) hb (fun _ _ => rfl) (W.tm (v, .val d) mem_snoc)⟩
    · rw [List.getElem?_set_ne (Ne.symm hji)] at hj
      obtain ⟨u, h1, h2⟩ := W.sl j d' hj
      exact ⟨u, h1, h2.pureMono (fun _ _ z _ => z) hb fun _ _ => rfl⟩
  · have z := W.tm t (List.mem_append_left _ ht)
    obtain ⟨u, r⟩ := t
    cases r with
    | val d' => exact RD.pureMono (d := d') (fun _ _ z _ => z) hb (fun _ _ => rfl) z
    | slot j d' =>
      obtain ⟨z1, z2, z3, z4⟩ := z
      have hji : j ≠ i := fun q => hn (q ▸ z1)
      exact ⟨z1, z2, by rw [List.getElem?_set_ne (Ne.symm hji)]; exact z3, z4⟩

/-! ### arguments -/
def tmsOf (vs : List V) (rs : List Rv) (e : Ev) : Tm := (vs.zip rs).map fun q => (q.1, q.2.tk e)
def lksOf (rs : List Rv) : List Nat := rs.flatMap Rv.lks
def rdAs (R : Rc) (m : M (List Rv)) : TA := fun σ H Q => ∃ w T lk e, R.fits w ∧ Wd R.kx w T lk e σ H ∧
  OutG R w T lk σ (fun rs e' => ∀ vs H', vs.length = rs.length → Wd R.kx w (T ++ tmsOf vs rs e') (lksOf rs ++ lk) e' σ H' → Q vs H') (m ⟨R.Φ, lk⟩ e)
/-- a locked slot's temporary is the same later -/
theorem tk_same {r : Rv} {v : V} {e1 e2 : Ev} (W : Wd kx w T lk e2 σ H) (h : (v, r.tk e1) ∈ T) : r.tk e2 = r.tk e1 := by
  cases r with
  | val d => rfl
  | slot i =>
    obtain ⟨_, _, h3, _⟩ := W.tm _ h
    have h3 : e2[i]? = some (some ((getS e1 i).getD (.pure .non))) := h3
    simp only [Rv.tk, getS_of h3, Option.getD_some]
theorem s_as_nil {pr : Bool} : PA X [] (rdAs R (evAs pr [])) := PAimp pa_nil fun σ H Q h => by
  obtain ⟨w, T, lk, e, hm, W, h⟩ := h
  exact h [] H rfl (by simpa [tmsOf, lksOf] using W)
theorem s_as_cons {pr mp : Bool} {m : M Rv} {ms : List (Bool × M Rv)} {x : Expr} {es : List Expr} (hx : PE X x (rdE R m)) (hr : PA X es (rdAs R (evAs pr ms))) (hs : unstar x = true) : PA X (x :: es) (rdAs R (evAs pr ((mp, m) :: ms))) := by
  refine PAimp (pa_cons hx hr (star_plain hs)) fun σ H Q h => ?_
  obtain ⟨w, T, lk, e, hm, W, h⟩ := h
  refine ⟨w, T, lk, e, hm, W, (outG_andThen h).mono fun r e1 h1 v1 H1 W1 => ?_⟩
  cases hb : (mp || pr) with
  | true =>
    rw [hb, if_pos rfl] at h1
    refine ⟨w, _, _, e1, hm, W1, ((outG_andThen h1).ext W.slin).mono fun rs e2 h2 vs H2 hl W2 => ?_⟩
    have same : r.tk e2 = r.tk e1 := tk_same (v := v1) W2 (by simp)
    refine h2 (v1 :: vs) H2 (by simp [hl]) ?_
    have e3 : T ++ tmsOf (v1 :: vs) (r :: rs) e2 = T ++ [(v1, r.tk e1)] ++ tmsOf vs rs e2 := by simp [tmsOf, same]
    rw [e3]
    refine W2.lkMono fun i hi => ?_
    simp only [lksOf, List.flatMap_cons, List.mem_append] at hi ⊢
    rcases hi with hi | hi | hi
    · exact .inl (.inr hi)
    · exact .inl (.inl hi)
    · exact .inr hi
  | false =>
    rw [hb, if_neg Bool.false_ne_true] at h1
    obtain ⟨p, e2, h2, W2⟩ := rd_leak (Q := fun _ _ => True) W (outG_andThen h1) W1
    refine ⟨w, _, lk, e2, hm, W2, ((outG_andThen h2).ext W.slin).mono fun rs e3 h3 vs H3 hl W3 => ?_⟩
    refine h3 (v1 :: vs) H3 (by simp [hl]) ?_
    have e4 : T ++ tmsOf (v1 :: vs) (.val (.pure p) :: rs) e3 = T ++ [(v1, .val (.pure p))] ++ tmsOf vs rs e3 := by simp [tmsOf, Rv.tk]
    rw [e4]
    simpa [lksOf, Rv.lks] using W3

/-! ### what a call promises -/
def paOf : List Bool → List V → List Addr
  | true :: fl, .ref a :: vs => a :: paOf fl vs
  | _ :: fl, _ :: vs => paOf fl vs
  | _, _ => []
/-- the changed parameters' contents at the end, where they stand -/
def RepW (kx : Kx) (w : Wo) (H : Hp) (b : Addr → Prop) : List Bool → List V → List D → Prop
  | [], [], [] => True
  | true :: fl, v :: vs, d :: ws => RD kx w H b d v ∧ RepW kx w H b fl vs ws
  | false :: fl, _ :: vs, ws => RepW kx w H b fl vs ws
  | _, _, _ => False
def ownW : List Bool → List V → List D → List Addr
  | true :: fl, v :: vs, d :: ws => ownD d v ++ ownW fl vs ws
  | false :: fl, _ :: vs, ws => ownW fl vs ws
  | _, _, _ => []
/-- a world for what holds no error -/
def w0 : Wo := ⟨fun _ => none, [], fun _ => False, none⟩
structure Aft (H H' : Hp) (pa : List Addr) (own : List Addr) : Prop where
  fr : ∀ a o, H a = some o → a ∉ pa → H' a = some o
  nd : own.Nodup
  nw : ∀ a ∈ own, a ∉ pa → H a = none
  mt : ∀ a ∈ pa, ∃ o, H' a = some o
/-- the arguments stand: what is changed is owned; nothing frozen among them is at B or at what is changed -/
structure ArgOk (kx : Kx) (fl : List Bool) (vs : List V) (ds : List D) (H : Hp) (B : Addr → Prop) : Prop where
  fit : argFit fl ds = true
  len : vs.length = ds.length
  nd : (paOf fl vs).Nodup
  bb : ∀ a, B a → a ∉ paOf fl vs ∧ ∃ o, H a = some o
  rep : ∀ (i : Nat) (d : D) (v : V), ds[i]? = some d → vs[i]? = some v → RD kx w0 H (fun a => B a ∨ a ∈ paOf fl vs) d v
def ResP (kx : Kx) (fl : List Bool) (vs : List V) (H : Hp) (B : Addr → Prop) (Q : VK) (E : XK) : Res → Prop
  | .ok r ws => ∀ v H', Aft H H' (paOf fl vs) (ownW fl vs ws ++ ownD r v) → RepW kx w0 H' (fun a => B a ∨ a ∈ ownW fl vs ws ++ ownD r v) fl vs ws → RD kx w0 H' (fun a => B a ∨ a ∈ ownW fl vs ws ++ ownD r v) r v → Q v H'
  | .rs c fs ws => ∀ cls d H', Aft H H' (paOf fl vs) (ownW fl vs ws) → RepW kx w0 H' (fun a => B a ∨ a ∈ ownW fl vs ws) fl vs ws → Xrep kx H' (fun a => B a ∨ a ∈ ownW fl vs ws) c fs cls d → E cls d H'
  | .stk => False
def spA (kx : Kx) (fl : List Bool) (call : List D → Res) : Sp := fun vs H Q E => ∃ (ds : List D) (B : Addr → Prop), ArgOk kx fl vs ds H B ∧ ResP kx fl vs H B Q E (call ds)
/-! bare data are no lists: nothing can touch them -/
mutual
theorem RF.bare {K : PySem.W.Frag} {b b' : Addr → Prop} : ∀ {p : P} {v : V}, p.bare = true → RF K H b p v → RF K H b' p v
  | .non, _, _, h => by simpa [RF] using h
  | .bl _, _, _, h => by simpa [RF] using h
  | .int _, _, _, h => by simpa [RF] using h
  | .str _, _, _, h => by simpa [RF] using h
  | .tup xs, _, hb, h => by
    simp only [RF] at h ⊢
    obtain ⟨a, vs, e, q, r⟩ := h
    exact ⟨a, vs, e, q, RFs.bare (by simpa [P.bare] using hb) r⟩
  | .lst _, _, hb, _ => by simp [P.bare] at hb
  | .dct _ _, _, hb, _ => by simp [P.bare] at hb
  | .inp _, _, hb, _ => by simp [P.bare] at hb
theorem RFs.bare {K : PySem.W.Frag} {b b' : Addr → Prop} : ∀ {xs : List P} {vs : List V}, P.bares xs = true → RFs K H b xs vs → RFs K H b' xs vs
  | [], _, _, h => by simpa [RFs] using h
  | x :: xs, _, hb, h => by
    simp only [RFs] at h ⊢
    obtain ⟨v, r, e, h1, h2⟩ := h
    have hb' : x.bare = true ∧ P.bares xs = true := by simpa [P.bares] using hb
    exact ⟨v, r, e, RF.bare hb'.1 h1, RFs.bare hb'.2 h2⟩
end
theorem RD.bareIn {b b' : Addr → Prop} {d : D} {v : V} {w w' : Wo} (hb : d.bareIn = true) (h : RD kx w H b d v) : RD kx w' H b' d v := by
  cases d with
  | pure p => exact RF.bare hb h
  | ols xs =>
    obtain ⟨a, vs, e, q, r⟩ := h
    exact ⟨a, vs, e, q, RFs.bare hb r⟩
  | _ => simp [D.bareIn] at hb
theorem RD.anyw {b : Addr → Prop} {d : D} {v : V} {w w' : Wo} (hf : d.flat = true) (h : RD kx w H b d v) : RD kx w' H b d v := by
  cases d with
  | exn c fs => simp [D.flat] at hf
  | _ => exact h
theorem bareIn_of {d : D} (h : d.bare = true) : d.bareIn = true := by
  cases d with
  | pure p => exact h
  | _ => simp [D.bare] at h

/-! ### the call -/
/-- the slots of what is changed are emptied -/
def outE : List Bool → List Rv → Ev → Ev
  | true :: fl, .slot i :: rs, e => outE fl rs (e.set i none)
  | _ :: fl, _ :: rs, e => outE fl rs e
  | _, _, e => e
/-- as temporaries: what is changed -/
def mpTms : List Bool → List V → List Rv → Ev → Tm
  | true :: fl, v :: vs, .val d :: rs, e => (v, .val d) :: mpTms fl vs rs e
  | true :: fl, v :: vs, .slot i :: rs, e => (v, .val ((getS e i).getD (.pure .non))) :: mpTms fl vs rs e
  | false :: fl, _ :: vs, _ :: rs, e => mpTms fl vs rs e
  | _, _, _, _ => []
/-- .. what is read and no slot's -/
def restTms : List Bool → List V → List Rv → Tm
  | false :: fl, v :: vs, .val d :: rs => (v, .val d) :: restTms fl vs rs
  | _ :: fl, _ :: vs, _ :: rs => restTms fl vs rs
  | _, _, _ => []
def valTms : List Bool → List V → List Rv → Tm
  | true :: fl, v :: vs, .val d :: rs => (v, .val d) :: valTms fl vs rs
  | _ :: fl, _ :: vs, _ :: rs => valTms fl vs rs
  | _, _, _ => []
def newTms : List Bool → List V → List D → Tm
  | true :: fl, v :: vs, d :: ws => (v, .val d) :: newTms fl vs ws
  | false :: fl, _ :: vs, ws => newTms fl vs ws
  | _, _, _ => []
/-- where the slots' things are -/
def SlAt (e : Ev) (σ : St) (vs : List V) (rs : List Rv) : Prop := ∀ (j i : Nat) (v : V), rs[j]? = some (.slot i) → vs[j]? = some v → σ[i]? = some (some v) ∧ ∃ d, e[i]? = some (some d) ∧ isOwn d
def SlMp (fl : List Bool) (e : Ev) (σ : St) (vs : List V) (rs : List Rv) : Prop := ∀ (j i : Nat) (v : V), fl[j]? = some true → rs[j]? = some (.slot i) → vs[j]? = some v → σ[i]? = some (some v) ∧ ∃ d, e[i]? = some (some d) ∧ isOwn d
theorem SlMp.tail {b : Bool} {fl : List Bool} {v : V} {r : Rv} {vs : List V} {rs : List Rv} (h : SlMp (b :: fl) e σ (v :: vs) (r :: rs)) : SlMp fl e σ vs rs := fun j i u h0 h1 h2 => h (j + 1) i u (by simpa using h0) (by simpa using h1) (by simpa using h2)
theorem mem_mpS : ∀ {fl : List Bool} {rs : List Rv} {j i : Nat}, fl[j]? = some true → rs[j]? = some (.slot i) → i ∈ mpS fl rs
  | [], _, _, _, h, _ => by simp at h
  | b :: fl, [], _, _, _, h => by simp at h
  | b :: fl, r :: rs, 0, i, h1, h2 => by
    simp at h1 h2; subst h1 h2
    simp [mpS]
  | b :: fl, r :: rs, j + 1, i, h1, h2 => by
    have := mem_mpS (fl := fl) (rs := rs) (j := j) (i := i) (by simpa using h1) (by simpa using h2)
    cases b <;> cases r <;> simp [mpS, this]
theorem slAt_of : ∀ {vs : List V} {rs : List Rv} {T S : Tm}, Wd kx w (T ++ tmsOf vs rs e ++ S) lk e σ H → SlAt e σ vs rs := by
  intro vs rs T S W j i v h1 h2
  have hz : (v, (Rv.slot i).tk e) ∈ tmsOf vs rs e := by
    refine List.mem_map.mpr ⟨(v, .slot i), ?_, rfl⟩
    refine List.mem_iff_getElem?.mpr ⟨j, ?_⟩
    rw [List.getElem?_zip_eq_some]
    exact ⟨h2, h1⟩
  obtain ⟨_, z2, z3, z4⟩ := W.tm _ (List.mem_append_left _ (List.mem_append_right _ hz))
  exact ⟨z2, _, z3, z4⟩
theorem valRest_sub : ∀ {fl : List Bool} {vs : List V} {rs : List Rv}, fl.length = rs.length → ∃ U : Tm, U.Sublist (tmsOf vs rs e) ∧ U.Perm (restTms fl vs rs ++ valTms fl vs rs)
  | [], [], rs, h => ⟨[], List.nil_sublist _, by simp [restTms, valTms]⟩
  | [], _ :: _, rs, h => ⟨[], List.nil_sublist _, by simp [restTms, valTms]⟩
  | b :: fl, [], rs, h => ⟨[], List.nil_sublist _, by cases b <;> simp [restTms, valTms]⟩
  | b :: fl, v :: vs, [], h => by simp at h
  | true :: fl, v :: vs, .val d :: rs, h => by
    obtain ⟨U, h1, h2⟩ := valRest_sub (fl := fl) (vs := vs) (rs := rs) (by simpa using h)
    refine ⟨(v, .val d) :: U, h1.cons_cons (v, .val d), ?_⟩
    simp only [restTms, valTms]
    exact (h2.cons _).trans List.perm_middle.symm
  | false :: fl, v :: vs, .val d :: rs, h => by
    obtain ⟨U, h1, h2⟩ := valRest_sub (fl := fl) (vs := vs) (rs := rs) (by simpa using h)
    refine ⟨(v, .val d) :: U, h1.cons_cons (v, .val d), ?_⟩
    simp only [restTms, valTms]
    exact h2.cons _
  | b :: fl, v :: vs, .slot i :: rs, h => by
    obtain ⟨U, h1, h2⟩ := valRest_sub (fl := fl) (vs := vs) (rs := rs) (by simpa using h)
    refine ⟨U, h1.cons (v, _), ?_⟩
    cases b <;> simpa [restTms, valTms] using h2
theorem noDup_cons {i : Nat} {l : List Nat} (h : noDup (i :: l) = true) : i ∉ l ∧ noDup l = true := by
  simp only [noDup, Bool.and_eq_true, Bool.not_eq_true'] at h
  exact ⟨mem_of_contains h.1, h.2⟩
theorem mpTms_set {x : Sl} {i : Nat} : ∀ {fl : List Bool} {vs : List V} {rs : List Rv}, i ∉ mpS fl rs → mpTms fl vs rs (e.set i x) = mpTms fl vs rs e
  | [], _, _, _ => by simp [mpTms]
  | b :: fl, [], _, _ => by cases b <;> simp [mpTms]
  | b :: fl, v :: vs, [], _ => by cases b <;> simp [mpTms]
  | true :: fl, v :: vs, .val d :: rs, h => by
    simp only [mpTms]
    rw [mpTms_set (by simpa [mpS] using h)]
  | true :: fl, v :: vs, .slot j :: rs, h => by
    simp only [mpS, List.mem_cons, not_or] at h
    simp only [mpTms]
    rw [mpTms_set h.2]
    have : getS (e.set i x) j = getS e j := by simp only [getS]; rw [List.getElem?_set_ne h.1]
    rw [this]
  | false :: fl, v :: vs, r :: rs, h => by
    simp only [mpTms]
    exact mpTms_set (by cases r <;> simpa [mpS] using h)
theorem outE_get {i : Nat} : ∀ {fl : List Bool} {rs : List Rv} {e : Ev}, i ∉ mpS fl rs → (outE fl rs e)[i]? = e[i]?
  | [], _, _, _ => by simp [outE]
  | b :: fl, [], _, _ => by cases b <;> simp [outE]
  | true :: fl, .val d :: rs, e, h => by
    simp only [outE]
    exact outE_get (by simpa [mpS] using h)
  | true :: fl, .slot j :: rs, e, h => by
    simp only [mpS, List.mem_cons, not_or] at h
    simp only [outE]
    rw [outE_get h.2, List.getElem?_set_ne (Ne.symm h.1)]
  | false :: fl, r :: rs, e, h => by
    have : outE (false :: fl) (r :: rs) e = outE fl rs e := by cases r <;> rfl
    rw [this]
    exact outE_get (by cases r <;> simpa [mpS] using h)
theorem Wd.outs : ∀ {fl : List Bool} {vs : List V} {rs : List Rv} {T : Tm} {e : Ev}, Wd kx w (T ++ valTms fl vs rs) lk e σ H → SlMp fl e σ vs rs → vs.length = rs.length → noDup (mpS fl rs) = true → (∀ i ∈ mpS fl rs, i ∉ lk) → Wd kx w (T ++ mpTms fl vs rs e) lk (outE fl rs e) σ H
  | [], vs, rs, T, e, W, _, _, _, _ => by simpa [valTms, mpTms, outE] using W
  | b :: fl, [], rs, T, e, W, _, hl, _, _ => by
    cases rs with
    | nil => cases b <;> simpa [valTms, mpTms, outE] using W
    | cons r rs => simp at hl
  | b :: fl, v :: vs, [], T, e, W, _, hl, _, _ => by simp at hl
  | true :: fl, v :: vs, .val d :: rs, T, e, W, hs, hl, nd, hn => by
    simp only [valTms, mpTms, outE] at W ⊢
    have h1 := Wd.outs (T := T ++ [(v, .val d)]) (fl := fl) (vs := vs) (rs := rs) (e := e) (by simpa using W) hs.tail (by simpa using hl) (by simpa [mpS] using nd) (by simpa [mpS] using hn)
    simpa using h1
  | true :: fl, v :: vs, .slot i :: rs, T, e, W, hs, hl, nd, hn => by
    simp only [valTms, mpTms, outE, mpS] at W nd hn ⊢
    obtain ⟨z1, d, z2, z3⟩ := hs 0 i v rfl rfl rfl
    obtain ⟨n1, n2⟩ := noDup_cons nd
    have W1 := W.take z2 (hn i List.mem_cons_self) z1
    have W2 : Wd kx w ((T ++ [(v, .val d)]) ++ valTms fl vs rs) lk (e.set i none) σ H := W1.perm (by
      rw [List.append_assoc, List.append_assoc]
      exact List.Perm.append_left T List.perm_append_comm)
    have hs' : SlMp fl (e.set i none) σ vs rs := fun j k u q0 q1 q2 => by
      obtain ⟨y1, y2⟩ := hs.tail j k u q0 q1 q2
      have hk : i ≠ k := fun q => n1 (q ▸ mem_mpS q0 q1)
      exact ⟨y1, by rw [List.getElem?_set_ne hk]; exact y2⟩
    have h1 := Wd.outs (fl := fl) (vs := vs) (rs := rs) W2 hs' (by simpa using hl) n2 fun j hj => hn j (List.mem_cons_of_mem _ hj)
    rw [mpTms_set n1] at h1
    rw [getS_of z2]
    simpa using h1
  | false :: fl, v :: vs, r :: rs, T, e, W, hs, hl, nd, hn => by
    have h1 : valTms (false :: fl) (v :: vs) (r :: rs) = valTms fl vs rs := by cases r <;> rfl
    have h2 : outE (false :: fl) (r :: rs) e = outE fl rs e := by cases r <;> rfl
    have h3 : mpS (false :: fl) (r :: rs) = mpS fl rs := by cases r <;> rfl
    rw [h1] at W
    rw [h2]
    simp only [mpTms]
    rw [h3] at nd hn
    exact Wd.outs W hs.tail (by simpa using hl) nd hn
end
end Gr
set_option Elab.async false
set_option linter.all false
set_option maxRecDepth 100000
/-! G10: a call. -/
namespace Gr
open PySem PySem.Spec L2
section
variable {X : Cx} {R : Rc} {pos pos' : Pos} {a b c : Expr} {ma mb mc : M Rv} {kx : Kx} {w : Wo} {T S : Tm} {lk lk' : List Nat} {e : Ev} {σ σ' : St} {H H' : Hp} {α β : Type} {D' : Ends}
/-- the world behind a call -/
theorem Wd.after {U U' : Tm} {pa own : List Addr} (W : Wd kx w (T ++ U) lk e σ H) (hpa : pa = ownT U) (A : Aft H H' pa own) (ho : (ownT U').Perm own)
    (r : ∀ q ∈ U', ∃ d, q.2 = .val d ∧ RD kx w H' (fun a => bad w T e σ a ∨ a ∈ own) d q.1) : Wd kx w (T ++ U') lk e σ H' := by
  have nd := W.nd
  rw [ownT_append, ← List.append_assoc] at nd
  obtain ⟨nd1, nd2, nd3⟩ := List.nodup_append.mp nd
  have inU : ∀ a, a ∈ pa → a ∈ ownE e σ ++ ownT (T ++ U) := fun a h => by
    rw [ownT_append, ← List.append_assoc]
    exact List.mem_append_right _ (hpa ▸ h)
  have inT : ∀ a, a ∈ ownE e σ ++ ownT T → a ∈ ownE e σ ++ ownT (T ++ U) := fun a h => by
    rw [ownT_append, ← List.append_assoc]
    exact List.mem_append_left _ h
  have hH : ∀ a o, H a = some o → (bad w (T ++ U) e σ a → ¬ isC o) → H' a = some o := fun a o h n => by
    by_cases hp : a ∈ pa
    · obtain ⟨o', q, z⟩ := W.cell (inU a hp)
      rw [h] at q; cases q
      exact absurd z (n (.inr (inU a hp)))
    · exact A.fr a o h hp
  have memB : ∀ a, bad w (T ++ U') e σ a ↔ bad w T e σ a ∨ a ∈ own := fun a => by
    simp only [bad, ownT_append, List.mem_append, ho.mem_iff]
    constructor
    · rintro (h | h | h | h)
      · exact .inl (.inl h)
      · exact .inl (.inr (.inl h))
      · exact .inl (.inr (.inr h))
      · exact .inr h
    · rintro ((h | h | h) | h)
      · exact .inl h
      · exact .inr (.inl h)
      · exact .inr (.inr (.inl h))
      · exact .inr (.inr (.inr h))
  have hb : ∀ a, bad w (T ++ U') e σ a → bad w (T ++ U) e σ a ∨ H a = none := fun a h => by
    rcases (memB a).mp h with h | h
    · exact .inl (bad_sub (List.sublist_append_left _ _) a h)
    · by_cases hp : a ∈ pa
      · exact .inl (.inr (inU a hp))
      · exact .inr (A.nw a h hp)
  have keep : ∀ a, a ∈ ownE e σ ++ ownT T → H' a = H a := fun a h => by
    have hp : a ∉ pa := fun q => nd3 a h a (hpa ▸ q) rfl
    obtain ⟨o, q, _⟩ := W.cell (inT a h)
    rw [q]; exact A.fr a o q hp
  refine ⟨W.len, ?_, fun i d q => ?_, fun q hq => ?_, fun a o h n => ?_, fun a ha hn => ?_, W.bb, W.ms, fun q hq => ?_⟩
  · rw [ownT_append, ← List.append_assoc]
    refine List.nodup_append.mpr ⟨nd1, ho.nodup_iff.mpr A.nd, fun x hx y hy z => ?_⟩
    subst z
    have hy' : x ∈ own := ho.mem_iff.mp hy
    by_cases hp : x ∈ pa
    · exact nd3 x hx x (hpa ▸ hp) rfl
    · obtain ⟨o, q, _⟩ := W.cell (inT x hx)
      rw [A.nw x hy' hp] at q; cases q
  · obtain ⟨v, h1, h2⟩ := W.sl i d q
    exact ⟨v, h1, h2.pureMono hH hb fun a ha => keep a (List.mem_append_left _ (ownE_mem q h1 ha))⟩
  · rcases List.mem_append.mp hq with hq | hq
    · have z := W.tm q (List.mem_append_left _ hq)
      obtain ⟨v, r'⟩ := q
      cases r' with
      | val d => exact RD.pureMono (d := d) hH hb (fun a ha => keep a (List.mem_append_right _ (ownT_mem hq ha))) z
      | slot i _ => exact z
    · obtain ⟨d, h1, h2⟩ := r q hq
      obtain ⟨v, r'⟩ := q
      have h1 : r' = .val d := h1
      subst h1
      have e1 : bad w (T ++ U') e σ = fun a => bad w T e σ a ∨ a ∈ own := by
        funext a; exact propext (memB a)
      show RD kx w H' (bad w (T ++ U') e σ) d v
      rw [e1]
      exact h2
  · have hp : a ∉ pa := fun q => by
      have := W.nw a (inU a q) n
      rw [h] at this; cases this
    exact A.fr a o (W.fr a o h n) hp
  · rw [ownT_append, ← List.append_assoc] at ha
    rcases List.mem_append.mp ha with ha | ha
    · exact W.nw a (inT a ha) hn
    · have ha : a ∈ own := ho.mem_iff.mp ha
      by_cases hp : a ∈ pa
      · exact W.nw a (inU a hp) hn
      · cases q : w.H0 a with
        | none => rfl
        | some o =>
          have := W.fr a o q hn
          rw [A.nw a ha hp] at this; cases this
  · obtain ⟨o, z⟩ := W.mt q hq
    by_cases hp : q.2 ∈ pa
    · exact A.mt _ hp
    · exact ⟨o, A.fr _ o z hp⟩
/-! back into the slots -/
def SlP (fl : List Bool) (σ : St) (vs : List V) (rs : List Rv) : Prop := ∀ (j i : Nat) (v : V), fl[j]? = some true → rs[j]? = some (.slot i) → vs[j]? = some v → σ[i]? = some (some v)
theorem SlP.tail {b : Bool} {fl : List Bool} {v : V} {r : Rv} {vs : List V} {rs : List Rv} (h : SlP (b :: fl) σ (v :: vs) (r :: rs)) : SlP fl σ vs rs := fun j i u h0 h1 h2 => h (j + 1) i u (by simpa using h0) (by simpa using h1) (by simpa using h2)
theorem slin_new {fl : List Bool} {vs : List V} {ws : List D} : ∀ {T : Tm}, SlIn T lk → SlIn (T ++ newTms fl vs ws) lk := fun {T} h q hq i d hi => by
  rcases List.mem_append.mp hq with hq | hq
  · exact h q hq i d hi
  · have : ∀ {fl : List Bool} {vs : List V} {ws : List D}, q ∈ newTms fl vs ws → ∃ d, q.2 = .val d := by
      intro fl
      induction fl with
      | nil => intro vs ws h; simp [newTms] at h
      | cons b fl ih =>
        intro vs ws h
        cases b <;> cases vs <;> cases ws <;> simp only [newTms, List.not_mem_nil] at h <;> first | exact ih h | skip
        rcases List.mem_cons.mp h with h | h
        · exact ⟨_, by rw [h]⟩
        · exact ih h
    obtain ⟨d', z⟩ := this hq
    rw [z] at hi; cases hi
theorem Wd.backs : ∀ {fl : List Bool} {vs : List V} {rs : List Rv} {ws : List D} {T : Tm} {e : Ev}, Wd kx w (T ++ newTms fl vs ws) lk e σ H → SlP fl σ vs rs → vs.length = rs.length → (∀ i ∈ mpS fl rs, i ∉ lk) → SlIn T lk → Wd kx w T lk (backW fl rs ws e) σ H
  | [], vs, rs, ws, T, e, W, _, _, _, _ => by simpa [newTms, backW] using W
  | b :: fl, [], rs, ws, T, e, W, _, hl, _, _ => by
    cases rs with
    | nil => cases b <;> cases ws <;> simpa [newTms, backW] using W
    | cons r rs => simp at hl
  | b :: fl, v :: vs, [], ws, T, e, W, _, hl, _, _ => by simp at hl
  | true :: fl, v :: vs, r :: rs, [], T, e, W, _, _, _, _ => by
    have : backW (true :: fl) (r :: rs) [] e = e := by cases r <;> rfl
    rw [this]
    simpa [newTms] using W
  | true :: fl, v :: vs, .val d :: rs, x :: ws, T, e, W, hs, hl, hn, hT => by
    simp only [newTms, backW] at W ⊢
    refine Wd.backs (W.sub ?_) hs.tail (by simpa using hl) (by simpa [mpS] using hn) hT
    exact List.Sublist.append (List.Sublist.refl _) (List.sublist_cons_self _ _)
  | true :: fl, v :: vs, .slot i :: rs, x :: ws, T, e, W, hs, hl, hn, hT => by
    simp only [newTms, backW, mpS] at W hn ⊢
    have hv := hs 0 i v rfl rfl rfl
    have W1 : Wd kx w (T ++ newTms fl vs ws ++ [(v, .val x)]) lk e σ H := W.perm (by
      rw [List.append_assoc]
      exact List.Perm.append_left T (List.perm_append_comm (l₁ := [(v, Tk.val x)]) (l₂ := newTms fl vs ws)))
    refine Wd.backs (W1.bindBack (by rw [W.len]; exact lt_of_get hv) (hn i List.mem_cons_self) hv (slin_new hT)) hs.tail (by simpa using hl) (fun j hj => hn j (List.mem_cons_of_mem _ hj)) hT
  | false :: fl, v :: vs, r :: rs, ws, T, e, W, hs, hl, hn, hT => by
    have h2 : backW (false :: fl) (r :: rs) ws e = backW fl rs ws e := by cases r <;> cases ws <;> rfl
    have h3 : mpS (false :: fl) (r :: rs) = mpS fl rs := by cases r <;> rfl
    rw [h2]
    rw [h3] at hn
    simp only [newTms] at W
    exact Wd.backs W hs.tail (by simpa using hl) hn hT
theorem backW_set {i : Nat} {x : Sl} : ∀ {fl : List Bool} {rs : List Rv} {ws : List D} {e : Ev}, i ∉ mpS fl rs → backW fl rs ws (e.set i x) = (backW fl rs ws e).set i x
  | [], _, _, _, _ => by simp [backW]
  | true :: fl, [], ws, e, h => by cases ws <;> simp [backW]
  | false :: fl, [], ws, e, h => by cases ws <;> simp [backW]
  | true :: fl, r :: rs, [], e, h => by cases r <;> simp [backW]
  | true :: fl, .val d :: rs, x' :: ws, e, h => by
    simp only [backW]
    exact backW_set (by simpa [mpS] using h)
  | true :: fl, .slot j :: rs, y :: ws, e, h => by
    simp only [mpS, List.mem_cons, not_or] at h
    simp only [backW]
    rw [List.set_comm x (some y) h.1, backW_set h.2]
  | false :: fl, r :: rs, ws, e, h => by
    have h2 : ∀ e, backW (false :: fl) (r :: rs) ws e = backW fl rs ws e := fun e => by cases r <;> cases ws <;> rfl
    have h3 : mpS (false :: fl) (r :: rs) = mpS fl rs := by cases r <;> rfl
    rw [h2, h2]
    exact backW_set (by rw [← h3]; exact h)
theorem outE_set {i : Nat} {x : Sl} : ∀ {fl : List Bool} {rs : List Rv} {e : Ev}, i ∉ mpS fl rs → outE fl rs (e.set i x) = (outE fl rs e).set i x
  | [], _, _, _ => by simp [outE]
  | b :: fl, [], e, h => by cases b <;> simp [outE]
  | true :: fl, .val d :: rs, e, h => by
    simp only [outE]
    exact outE_set (by simpa [mpS] using h)
  | true :: fl, .slot j :: rs, e, h => by
    simp only [mpS, List.mem_cons, not_or] at h
    simp only [outE]
    rw [List.set_comm x none h.1, outE_set h.2]
  | false :: fl, r :: rs, e, h => by
    have h2 : ∀ e, outE (false :: fl) (r :: rs) e = outE fl rs e := fun e => by cases r <;> rfl
    have h3 : mpS (false :: fl) (r :: rs) = mpS fl rs := by cases r <;> rfl
    rw [h2, h2]
    exact outE_set (by rw [← h3]; exact h)
theorem back_out {b : Addr → Prop} : ∀ {fl : List Bool} {vs : List V} {rs : List Rv} {ws : List D} {e : Ev}, RepW kx w H b fl vs ws → vs.length = rs.length → noDup (mpS fl rs) = true → backW fl rs ws (outE fl rs e) = backW fl rs ws e
  | [], _, _, _, _, _, _, _ => by simp [outE]
  | b :: fl, [], rs, ws, e, h, hl, _ => by
    cases b <;> cases ws <;> simp [RepW] at h
  | b :: fl, v :: vs, [], ws, e, h, hl, _ => by simp at hl
  | true :: fl, v :: vs, r :: rs, [], e, h, _, _ => by simp [RepW] at h
  | true :: fl, v :: vs, .val d :: rs, x :: ws, e, h, hl, nd => by
    simp only [outE, backW]
    exact back_out h.2 (by simpa using hl) (by simpa [mpS] using nd)
  | true :: fl, v :: vs, .slot i :: rs, x :: ws, e, h, hl, nd => by
    simp only [mpS] at nd
    obtain ⟨n1, n2⟩ := noDup_cons nd
    simp only [outE, backW]
    rw [outE_set n1, List.set_set, backW_set n1, back_out h.2 (by simpa using hl) n2, backW_set n1]
  | false :: fl, v :: vs, r :: rs, ws, e, h, hl, nd => by
    have h2 : ∀ e, backW (false :: fl) (r :: rs) ws e = backW fl rs ws e := fun e => by cases r <;> cases ws <;> rfl
    have h3 : mpS (false :: fl) (r :: rs) = mpS fl rs := by cases r <;> rfl
    have h4 : outE (false :: fl) (r :: rs) e = outE fl rs e := by cases r <;> rfl
    rw [h2, h2, h4]
    rw [h3] at nd
    have h : RepW kx w H b fl vs ws := by cases ws <;> exact h
    exact back_out h (by simpa using hl) nd
theorem ownT_new : ∀ {fl : List Bool} {vs : List V} {ws : List D}, ownT (newTms fl vs ws) = ownW fl vs ws
  | [], _, _ => by simp [newTms, ownW, ownT]
  | true :: fl, [], _ => by simp [newTms, ownW, ownT]
  | false :: fl, [], _ => by simp [newTms, ownW, ownT]
  | true :: fl, v :: vs, [] => by simp [newTms, ownW, ownT]
  | true :: fl, v :: vs, x :: ws => by simp [newTms, ownW, ownT, ownT_new (fl := fl)]
  | false :: fl, v :: vs, ws => by simp [newTms, ownW, ownT_new (fl := fl)]
theorem repW_new {b b' : Addr → Prop} {w w' : Wo} (k : ∀ d ∈ ws, ∀ v, RD kx w H b d v → RD kx w' H b' d v) : ∀ {fl : List Bool} {vs : List V}, RepW kx w H b fl vs ws → ∀ q ∈ newTms fl vs ws, ∃ d, q.2 = .val d ∧ RD kx w' H b' d q.1 := by
  intro fl
  induction fl generalizing ws with
  | nil => intro vs _ q hq; simp [newTms] at hq
  | cons f fl ih =>
    intro vs h q hq
    cases f with
    | true =>
      cases vs with
      | nil => cases ws <;> simp [RepW] at h
      | cons v vs =>
        cases ws with
        | nil => simp [RepW] at h
        | cons d ws =>
          simp only [newTms, List.mem_cons] at hq
          rcases hq with rfl | hq
          · exact ⟨d, rfl, k d List.mem_cons_self v h.1⟩
          · exact ih (fun d hd => k d (List.mem_cons_of_mem _ hd)) h.2 q hq
    | false =>
      cases vs with
      | nil => cases ws <;> simp [RepW] at h
      | cons v vs =>
        have h : RepW kx w H b fl vs ws := by cases ws <;> exact h
        simp only [newTms] at hq
        exact ih k h q hq
end
end Gr
set_option Elab.async false
set_option linter.all false
set_option maxRecDepth 100000
/-! G11: f(..) in a body. -/
namespace Gr
open PySem PySem.Spec L2
section
variable {X : Cx} {R : Rc} {pos pos' : Pos} {a b c : Expr} {ma mb mc : M Rv} {kx : Kx} {w : Wo} {T S : Tm} {lk lk' : List Nat} {e : Ev} {σ σ' : St} {H H' : Hp} {α β : Type} {D' : Ends}
theorem argD_len : ∀ {fl : List Bool} {rs : List Rv} {ds : List D}, argD e fl rs = some ds → fl.length = rs.length ∧ ds.length = rs.length
  | [], [], ds, h => by
    simp only [argD, Option.some.injEq] at h
    subst h; exact ⟨rfl, rfl⟩
  | [], _ :: _, ds, h => by simp [argD] at h
  | b :: fl, [], ds, h => by cases b <;> simp [argD] at h
  | true :: fl, .val d :: rs, ds, h => by
    simp only [argD, Option.map_eq_some_iff] at h
    obtain ⟨ds', h1, rfl⟩ := h
    have := argD_len h1
    simp [this.1, this.2]
  | true :: fl, .slot i :: rs, ds, h => by
    simp only [argD] at h
    split at h
    · simp only [Option.map_eq_some_iff] at h
      obtain ⟨ds', h1, rfl⟩ := h
      have := argD_len h1
      simp [this.1, this.2]
    · cases h
  | false :: fl, r :: rs, ds, h => by
    have h : (match r.pv e with
      | some p => (argD e fl rs).map (.pure p :: ·)
      | none => none) = some ds := by cases r <;> exact h
    split at h
    · simp only [Option.map_eq_some_iff] at h
      obtain ⟨ds', h1, rfl⟩ := h
      have := argD_len h1
      simp [this.1, this.2]
    · cases h
/-- the arguments, one by one -/
def ArgR (kx : Kx) (H : Hp) (b : Addr → Prop) : List V → List D → Prop
  | [], [] => True
  | v :: vs, d :: ds => RD kx w0 H b d v ∧ ArgR kx H b vs ds
  | _, _ => False
theorem ArgR.get {b : Addr → Prop} : ∀ {vs : List V} {ds : List D}, ArgR kx H b vs ds → ∀ (i : Nat) (d : D) (v : V), ds[i]? = some d → vs[i]? = some v → RD kx w0 H b d v
  | [], [], _, i, d, v, h, _ => by simp at h
  | [], _ :: _, h, _, _, _, _, _ => False.elim h
  | _ :: _, [], h, _, _, _, _, _ => False.elim h
  | u :: vs, x :: ds, h, 0, d, v, h1, h2 => by
    simp at h1 h2; subst h1 h2
    exact h.1
  | u :: vs, x :: ds, h, i + 1, d, v, h1, h2 => h.2.get i d v (by simpa using h1) (by simpa using h2)
/-- the arguments at a call; p0: every temporary that is changed is owned -/
theorem args_ok {b : Addr → Prop} {e1 : Ev} : ∀ {fl : List Bool} {vs : List V} {rs : List Rv} {ds : List D}, argD e1 fl rs = some ds → argFit fl ds = true → vs.length = rs.length →
    (∀ (v : V) (d : D), (v, Tk.val d) ∈ mpTms fl vs rs e1 → isOwn d → RD kx w0 H b d v) →
    (∀ (v : V) (d : D) (p : P), (v, Tk.val d) ∈ restTms fl vs rs → d.pv = some p → RF kx.K H b p v) →
    (∀ (j i : Nat) (v : V) (p : P), fl[j]? = some false → rs[j]? = some (.slot i) → vs[j]? = some v → (getS e1 i).bind D.pv = some p → RF kx.K H b p v) →
    ArgR kx H b vs ds ∧ paOf fl vs = ownT (mpTms fl vs rs e1)
  | [], vs, rs, ds, h, hf, hl, _, _, _ => by
    have := argD_len h
    cases rs with
    | cons _ _ => simp at this
    | nil =>
      cases vs with
      | cons _ _ => simp at hl
      | nil =>
        cases ds with
        | cons _ _ => simp at this
        | nil => exact ⟨trivial, rfl⟩
  | x :: fl, vs, [], ds, h, hf, hl, _, _, _ => by cases x <;> simp [argD] at h
  | x :: fl, [], r :: rs, ds, h, hf, hl, _, _, _ => by simp at hl
  | true :: fl, v :: vs, .val d :: rs, ds, h, hf, hl, k1, k2, k3 => by
    simp only [argD, Option.map_eq_some_iff] at h
    obtain ⟨ds', h1, rfl⟩ := h
    have ho : isOwn d ∧ argFit fl ds' = true := by
      cases d <;> first | exact ⟨trivial, hf⟩ | (simp [argFit] at hf)
    have rd := k1 v d (by simp [mpTms]) ho.1
    have ih := args_ok h1 ho.2 (by simpa using hl) (fun u d' hq => k1 u d' (by simp only [mpTms]; exact List.mem_cons_of_mem _ hq)) (fun u d' p hq => k2 u d' p (by simpa [restTms] using hq)) (fun j i u p q1 q2 q3 => k3 (j + 1) i u p (by simpa using q1) (by simpa using q2) (by simpa using q3))
    refine ⟨⟨rd, ih.1⟩, ?_⟩
    simp only [mpTms, ownT]
    rw [← ih.2]
    cases d with
    | pure p => exact ho.1.elim
    | ols xs =>
      obtain ⟨a, us, rfl, _⟩ := rd
      rfl
    | odc ks xs =>
      obtain ⟨a, rfl, _⟩ := rd
      rfl
    | exn c fs => exact ho.1.elim
  | true :: fl, v :: vs, .slot i :: rs, ds, h, hf, hl, k1, k2, k3 => by
    simp only [argD] at h
    cases hg : getS e1 i with
    | none => simp [hg] at h
    | some d =>
    simp only [hg, Option.map_eq_some_iff] at h
    obtain ⟨ds', h1, rfl⟩ := h
    have ho : isOwn d ∧ argFit fl ds' = true := by
      cases d <;> first | exact ⟨trivial, hf⟩ | (simp [argFit] at hf)
    have rd := k1 v d (by simp [mpTms, hg]) ho.1
    have ih := args_ok h1 ho.2 (by simpa using hl) (fun u d' hq => k1 u d' (by simp only [mpTms]; exact List.mem_cons_of_mem _ hq)) (fun u d' p hq => k2 u d' p (by simpa [restTms] using hq)) (fun j i u p q1 q2 q3 => k3 (j + 1) i u p (by simpa using q1) (by simpa using q2) (by simpa using q3))
    refine ⟨⟨rd, ih.1⟩, ?_⟩
    simp only [mpTms, ownT, hg, Option.getD_some]
    rw [← ih.2]
    cases d with
    | pure p => exact ho.1.elim
    | ols xs =>
      obtain ⟨a, us, rfl, _⟩ := rd
      rfl
    | odc ks xs =>
      obtain ⟨a, rfl, _⟩ := rd
      rfl
    | exn c fs => exact ho.1.elim
  | false :: fl, v :: vs, r :: rs, ds, h, hf, hl, k1, k2, k3 => by
    have h : (match r.pv e1 with
      | some p => (argD e1 fl rs).map (.pure p :: ·)
      | none => none) = some ds := by cases r <;> exact h
    cases hp : r.pv e1 with
    | none => simp [hp] at h
    | some p =>
    simp only [hp, Option.map_eq_some_iff] at h
    obtain ⟨ds', h1, rfl⟩ := h
    have hf' : argFit fl ds' = true := hf
    have ih := args_ok h1 hf' (by simpa using hl) (fun u d' hq => k1 u d' (by simpa only [mpTms] using hq)) (fun u d' p hq => k2 u d' p (by cases r <;> simp [restTms, hq])) (fun j i u p q1 q2 q3 => k3 (j + 1) i u p (by simpa using q1) (by simpa using q2) (by simpa using q3))
    refine ⟨⟨?_, ih.1⟩, ?_⟩
    · cases r with
      | val d => exact k2 v d p (by simp [restTms]) hp
      | slot i => exact k3 0 i v p rfl rfl rfl hp
    · have : paOf (false :: fl) (v :: vs) = paOf fl vs := by cases v <;> rfl
      rw [this]
      simpa only [mpTms] using ih.2
theorem mem_seenS : ∀ {fl : List Bool} {rs : List Rv} {j i : Nat}, fl[j]? = some false → rs[j]? = some (.slot i) → i ∈ seenS fl rs
  | [], _, _, _, h, _ => by simp at h
  | b :: fl, [], _, _, _, h => by simp at h
  | b :: fl, r :: rs, 0, i, h1, h2 => by
    simp at h1 h2; subst h1 h2
    simp [seenS]
  | b :: fl, r :: rs, j + 1, i, h1, h2 => by
    have := mem_seenS (fl := fl) (rs := rs) (j := j) (i := i) (by simpa using h1) (by simpa using h2)
    cases b <;> cases r <;> simp [seenS, this]
theorem rest_val {q : V × Tk} : ∀ {fl : List Bool} {vs : List V} {rs : List Rv}, q ∈ restTms fl vs rs → ∃ d, q.2 = .val d
  | [], _, _, h => by simp [restTms] at h
  | b :: fl, [], _, h => by cases b <;> simp [restTms] at h
  | b :: fl, v :: vs, [], h => by cases b <;> simp [restTms] at h
  | true :: fl, v :: vs, r :: rs, h => rest_val (fl := fl) (vs := vs) (rs := rs) (by simpa [restTms] using h)
  | false :: fl, v :: vs, .slot i :: rs, h => rest_val (fl := fl) (vs := vs) (rs := rs) (by simpa [restTms] using h)
  | false :: fl, v :: vs, .val d :: rs, h => by
    simp only [restTms, List.mem_cons] at h
    rcases h with rfl | h
    · exact ⟨d, rfl⟩
    · exact rest_val h
theorem val_val {q : V × Tk} : ∀ {fl : List Bool} {vs : List V} {rs : List Rv}, q ∈ valTms fl vs rs → ∃ d, q.2 = .val d
  | [], _, _, h => by simp [valTms] at h
  | b :: fl, [], _, h => by cases b <;> simp [valTms] at h
  | b :: fl, v :: vs, [], h => by cases b <;> simp [valTms] at h
  | false :: fl, v :: vs, r :: rs, h => val_val (fl := fl) (vs := vs) (rs := rs) (by simpa [valTms] using h)
  | true :: fl, v :: vs, .slot i :: rs, h => val_val (fl := fl) (vs := vs) (rs := rs) (by simpa [valTms] using h)
  | true :: fl, v :: vs, .val d :: rs, h => by
    simp only [valTms, List.mem_cons] at h
    rcases h with rfl | h
    · exact ⟨d, rfl⟩
    · exact val_val h
theorem RD.of0 {b : Addr → Prop} {d : D} {v : V} (h : RD kx w0 H b d v) : RD kx w H b d v := by
  cases d with
  | exn c fs =>
    obtain ⟨_, _, _, _, h, _⟩ := h
    simp [w0] at h
  | _ => exact h
theorem flat_own {d : D} (h : isOwn d) : d.flat = true := by cases d <;> first | exact h.elim | rfl
theorem Xrep.bareX {b b' : Addr → Prop} {c : Nat} {fs : List (Nat × P)} {cls : Value} {dd : Option Addr} (hb : (fs.all fun q => q.2.bare) = true) (h : Xrep kx H b c fs cls dd) : Xrep kx H b' c fs cls dd := by
  obtain ⟨h1, x, xs, h2, h3, h4⟩ := h
  refine ⟨h1, x, xs, h2, h3, ?_⟩
  clear h3
  induction h4 with
  | nil => exact .nil
  | cons q _ ih =>
    simp only [List.all_cons, Bool.and_eq_true] at hb
    exact .cons ⟨q.1, RF.bare hb.1 q.2⟩ (ih hb.2)
theorem ownE_set {i : Nat} {x : D} {v : V} {a : Addr} (hv : σ[i]? = some (some v)) (h : a ∈ ownE (e.set i (some x)) σ) : a ∈ ownE e σ ∨ a ∈ ownD x v := by
  obtain ⟨j, d, u, h1, h2, h3⟩ := mem_ownE h
  by_cases hji : i = j
  · subst hji
    rw [hv] at h2; cases h2
    rw [List.getElem?_set_self (by
      have := lt_of_get h1
      rwa [List.length_set] at this)] at h1
    cases h1
    exact .inr h3
  · rw [List.getElem?_set_ne hji] at h1
    exact .inl (ownE_mem h1 h2 h3)
theorem backs_own {a : Addr} : ∀ {fl : List Bool} {vs : List V} {rs : List Rv} {ws : List D} {e : Ev}, SlP fl σ vs rs → vs.length = rs.length → a ∈ ownE (backW fl rs ws e) σ → a ∈ ownE e σ ∨ a ∈ ownW fl vs ws
  | [], vs, rs, ws, e, _, _, h => .inl (by simpa [backW] using h)
  | b :: fl, [], rs, ws, e, _, hl, h => by
    cases rs with
    | nil => cases b <;> cases ws <;> exact .inl (by simpa [backW] using h)
    | cons r rs => simp at hl
  | b :: fl, v :: vs, [], ws, e, _, hl, h => by simp at hl
  | true :: fl, v :: vs, r :: rs, [], e, _, _, h => .inl (by cases r <;> simpa [backW] using h)
  | true :: fl, v :: vs, .val d :: rs, x :: ws, e, hs, hl, h => by
    simp only [backW, ownW, List.mem_append] at h ⊢
    exact (backs_own hs.tail (by simpa using hl) h).imp id .inr
  | true :: fl, v :: vs, .slot i :: rs, x :: ws, e, hs, hl, h => by
    simp only [backW, ownW, List.mem_append] at h ⊢
    rcases backs_own hs.tail (by simpa using hl) h with h | h
    · rcases ownE_set (hs 0 i v rfl rfl rfl) h with h | h
      · exact .inl h
      · exact .inr (.inl h)
    · exact .inr (.inr h)
  | false :: fl, v :: vs, r :: rs, ws, e, hs, hl, h => by
    have h2 : backW (false :: fl) (r :: rs) ws e = backW fl rs ws e := by cases r <;> cases ws <;> rfl
    rw [h2] at h
    simp only [ownW]
    exact backs_own hs.tail (by simpa using hl) h
/-- what comes back holds no list -/
def PrP : Res → Prop
  | .ok r ws => r.bareIn = true ∧ ∀ d ∈ ws, d.bareIn = true
  | .rs _ fs ws => (fs.all fun q => q.2.bare) = true ∧ ∀ d ∈ ws, d.bareIn = true
  | .stk => True
def PrOk (pr : Bool) (r : Res) : Prop := pr = true → PrP r
theorem rest_ok {f : Nat} {pr : Bool} {fl : List Bool} {rs : List Rv} {e1 : Ev} {vs : List V} {H1 : Hp} {Q : VK} (hpr : ∀ ds, PrOk pr (R.Φ f ds)) (hT : SlIn T lk) (hl : vs.length = rs.length) (W1 : Wd R.kx w (T ++ tmsOf vs rs e1) (lksOf rs ++ lk) e1 σ H1)
    (h1 : OutG R w T lk σ (fun r e' => ∀ v H', Wd R.kx w (T ++ [(v, r.tk e')]) (r.lks ++ lk) e' σ H' → Q v H') (callR f pr fl ⟨R.Φ, lk⟩ rs e1)) : spA R.kx fl (R.Φ f) vs H1 Q (WE R.W σ) := by
  unfold callR at h1
  dsimp only at h1
  cases q0 : agOk lk pr fl rs with
  | false => rw [q0, if_neg Bool.false_ne_true] at h1; exact h1.elim
  | true =>
  rw [q0, if_pos rfl] at h1
  cases q1 : argD e1 fl rs with
  | none => rw [q1] at h1; exact h1.elim
  | some ds =>
  simp only [q1] at h1
  cases q2 : argFit fl ds with
  | false => rw [q2, if_neg Bool.false_ne_true] at h1; exact h1.elim
  | true =>
  rw [q2, if_pos rfl] at h1
  simp only [agOk, Bool.and_eq_true, List.all_eq_true, Bool.not_eq_true'] at q0
  obtain ⟨⟨g1, g2⟩, g3⟩ := q0
  have hn : ∀ i ∈ mpS fl rs, i ∉ lk := fun i hi => mem_of_contains (g3 i hi).1
  have hsn : ∀ i ∈ mpS fl rs, i ∉ seenS fl rs := fun i hi => mem_of_contains (g3 i hi).2
  have ln := argD_len q1
  have hs : SlAt e1 σ vs rs := slAt_of (S := []) (T := T) (kx := R.kx) (w := w) (lk := lksOf rs ++ lk) (H := H1) (by rw [List.append_nil]; exact W1)
  obtain ⟨U, hU1, hU2⟩ := valRest_sub (e := e1) (vs := vs) ln.1
  have W2 : Wd R.kx w ((T ++ restTms fl vs rs) ++ valTms fl vs rs) lk e1 σ H1 := by
    rw [List.append_assoc]
    refine ((W1.sub (List.Sublist.append (List.Sublist.refl T) hU1)).perm (hU2.append_left T)).lkDown fun q hq i d hi => ?_
    rcases List.mem_append.mp hq with hq | hq
    · exact hT q hq i d hi
    · rcases List.mem_append.mp hq with hq | hq
      · obtain ⟨d', z⟩ := rest_val hq
        rw [z] at hi; cases hi
      · obtain ⟨d', z⟩ := val_val hq
        rw [z] at hi; cases hi
  have W3 := Wd.outs W2 (fun j i v q0 q1 q2 => hs j i v q1 q2) hl g2 hn
  have W4 : Wd R.kx w (T ++ mpTms fl vs rs e1) lk (outE fl rs e1) σ H1 := W3.sub (List.Sublist.append (List.sublist_append_left _ _) (List.Sublist.refl _))
  generalize hB : (fun a => pr = false ∧ bad w T (outE fl rs e1) σ a) = B
  have hB1 : ∀ a, B a → bad w T (outE fl rs e1) σ a := fun a h => by rw [← hB] at h; exact h.2
  have nd3 := W3.nd
  have nd4 := W4.nd
  rw [ownT_append] at nd4
  rw [ownT_append, ownT_append] at nd3
  have ak := args_ok (kx := R.kx) (H := H1) (b := fun a => B a ∨ a ∈ ownT (mpTms fl vs rs e1)) q1 q2 hl
    (fun v d hq ho => RD.anyw (flat_own ho) (RD.pureMono (d := d) (b' := fun a => B a ∨ a ∈ ownT (mpTms fl vs rs e1)) (fun _ _ z _ => z) (fun a z => .inl (by
        rcases z with z | z
        · exact bad_sub (List.sublist_append_left _ _) a (hB1 a z)
        · exact .inr (List.mem_append_right _ (by rw [ownT_append]; exact List.mem_append_right _ z)))) (fun _ _ => rfl) (W4.tm (v, .val d) (List.mem_append_right _ hq))))
    (fun v d p hq hp => RD.frozen (d := d) (w := w) (W3.tm (v, .val d) (List.mem_append_left _ (List.mem_append_right _ hq))) hp (fun a z => by
        rcases z with z | z
        · exact bad_sub ((List.sublist_append_left T _).trans (List.sublist_append_left _ _)) a (hB1 a z)
        · exact .inr (List.mem_append_right _ (by rw [ownT_append]; exact List.mem_append_right _ z))) fun a ha z => by
      have hr : a ∈ ownT (restTms fl vs rs) := ownT_mem hq ha
      have n2 := List.nodup_append.mp nd3
      have n3 := List.nodup_append.mp n2.2.1
      have n4 := List.nodup_append.mp n3.1
      rcases z with z | z
      · rcases hB1 a z with z | z
        · exact own_notB W3 (List.mem_append_right _ (by rw [ownT_append, ownT_append]; exact List.mem_append_left _ (List.mem_append_right _ hr))) z
        · rcases List.mem_append.mp z with z | z
          · exact n2.2.2 a z a (List.mem_append_left _ (List.mem_append_right _ hr)) rfl
          · exact n4.2.2 a z a hr rfl
      · exact n3.2.2 a (List.mem_append_right _ hr) a z rfl)
    (fun j i v p p0 p1 p2 hp => by
      obtain ⟨z1, d, z2, z3⟩ := hs j i v p1 p2
      have hseen := mem_seenS p0 p1
      have hpt : pr = true := by
        rcases Bool.or_eq_true_iff.mp g1 with g | g
        · exact g
        · rw [List.isEmpty_iff.mp g] at hseen; cases hseen
      have hBF : ∀ a, ¬ B a := fun a h => by rw [← hB, hpt] at h; simp at h
      have hni : i ∉ mpS fl rs := fun q => hsn i q hseen
      have ho : (outE fl rs e1)[i]? = some (some d) := by rw [outE_get hni]; exact z2
      obtain ⟨u, y1, y2⟩ := W3.sl i d ho
      rw [z1] at y1; cases y1
      rw [getS_of z2] at hp
      refine RD.frozen y2 (by simpa using hp) (fun a z => ?_) fun a ha z => ?_
      · rcases z with z | z
        · exact absurd z (hBF a)
        · exact .inr (List.mem_append_right _ (by rw [ownT_append]; exact List.mem_append_right _ z))
      · rcases z with z | z
        · exact hBF a z
        · have n2 := List.nodup_append.mp nd3
          exact n2.2.2 a (ownE_mem ho z1 ha) a (List.mem_append_right _ z) rfl)
  obtain ⟨ar, hpa⟩ := ak
  rw [← hpa] at ar
  have n4 := List.nodup_append.mp nd4
  have n5 := List.nodup_append.mp n4.2.1
  have inMp : ∀ a, a ∈ paOf fl vs → a ∈ ownE (outE fl rs e1) σ ++ ownT (T ++ mpTms fl vs rs e1) := fun a h => List.mem_append_right _ (by rw [ownT_append]; exact List.mem_append_right _ (hpa ▸ h))
  have aok : ArgOk R.kx fl vs ds H1 B := by
    refine ⟨q2, by rw [hl]; exact ln.2.symm, by rw [hpa]; exact n5.2.1, fun a ha => ⟨fun z => ?_, W4.badSome (bad_sub (List.sublist_append_left _ _) a (hB1 a ha))⟩, fun i d v h1 h2 => ar.get i d v h1 h2⟩
    rcases hB1 a ha with y | y
    · exact own_notB W4 (inMp a z) y
    · rw [hpa] at z
      rcases List.mem_append.mp y with y | y
      · exact n4.2.2 a y a (List.mem_append_right _ z) rfl
      · exact n5.2.2 a y a z rfl
  have sp : SlP fl σ vs rs := fun j i v p0 p1 p2 => (hs j i v p1 p2).1
  refine ⟨ds, B, aok, ?_⟩
  have hq := hpr ds
  cases q3 : R.Φ f ds with
  | stk => simp only [q3] at h1; exact h1.elim
  | ok r ws =>
    simp only [q3] at h1 hq ⊢
    show ResP R.kx fl vs H1 B Q (WE R.W σ) (.ok r ws)
    intro v H' A rp rr
    have key : ∀ d, d ∈ ws ∨ d = r → ∀ u, RD R.kx w0 H' (fun a => B a ∨ a ∈ ownW fl vs ws ++ ownD r v) d u → RD R.kx w H' (fun a => bad w T (outE fl rs e1) σ a ∨ a ∈ ownW fl vs ws ++ ownD r v) d u := fun d hd u z => by
      cases pr with
      | false =>
        have eB : B = bad w T (outE fl rs e1) σ := by rw [← hB]; simp
        rw [eB] at z
        exact z.of0
      | true =>
        have := hq rfl
        rcases hd with hd | rfl
        · exact RD.bareIn (this.2 d hd) z
        · exact RD.bareIn this.1 z
    have W5 := W4.after (U' := (v, .val r) :: newTms fl vs ws) hpa A (by simp only [ownT, ownT_new]; exact List.perm_append_comm) fun q hq => by
      rcases List.mem_cons.mp hq with rfl | hq
      · exact ⟨r, rfl, key r (.inr rfl) v rr⟩
      · exact repW_new (fun d hd u z => key d (.inl hd) u z) rp q hq
    have W6 : Wd R.kx w ((T ++ [(v, .val r)]) ++ newTms fl vs ws) lk (outE fl rs e1) σ H' := by simpa using W5
    have W7 := Wd.backs W6 sp hl hn (slin_val hT)
    rw [back_out rp hl g2] at W7
    exact h1 v H' W7
  | rs c fs ws =>
    simp only [q3] at h1 hq ⊢
    show ResP R.kx fl vs H1 B Q (WE R.W σ) (.rs c fs ws)
    intro cls d H' A rp xr
    have key : ∀ d, d ∈ ws → ∀ u, RD R.kx w0 H' (fun a => B a ∨ a ∈ ownW fl vs ws) d u → RD R.kx w H' (fun a => bad w T (outE fl rs e1) σ a ∨ a ∈ ownW fl vs ws) d u := fun d hd u z => by
      cases pr with
      | false =>
        have eB : B = bad w T (outE fl rs e1) σ := by rw [← hB]; simp
        rw [eB] at z
        exact z.of0
      | true => exact RD.bareIn ((hq rfl).2 d hd) z
    have W6 := W4.after (U' := newTms fl vs ws) hpa A (by rw [ownT_new]) fun q hq => repW_new key rp q hq
    have W7 := Wd.backs W6 sp hl hn hT
    rw [back_out rp hl g2] at W7
    refine h1 cls d H' W7 ?_
    cases pr with
    | true => exact xr.bareX (hq rfl).1
    | false =>
      have eB : B = bad w T (outE fl rs e1) σ := by rw [← hB]; simp
      rw [eB] at xr
      refine xr.mono (fun _ _ z _ => z) fun a z => .inl ?_
      rw [← back_out (e := e1) rp hl g2] at z
      rcases z with z | z
      · exact .inl (.inl z)
      · rcases List.mem_append.mp z with z | z
        · rcases backs_own sp hl z with z | z
          · exact .inl (.inr (List.mem_append_left _ z))
          · exact .inr z
        · exact .inl (.inr (List.mem_append_right _ z))
theorem rd_call {f : Nat} {pr : Bool} {as : List (Bool × M Rv)} {Q : VK} (hpr : ∀ ds, PrOk pr (R.Φ f ds)) (h : rdE R (mCall f pr as) σ H Q) : tCallSD (spA R.kx (as.map (·.1)) (R.Φ f)) [] (WE R.W) (rdAs R (evAs pr as)) σ H Q := by
  obtain ⟨w, T, lk, e, hm, W, h⟩ := h
  refine ⟨w, T, lk, e, hm, W, (outG_andThen h).mono fun rs e1 h1 vs H1 hl W1 => ?_⟩
  show spA R.kx (as.map (·.1)) (R.Φ f) (vs ++ []) H1 Q (WE R.W σ)
  rw [List.append_nil]
  exact rest_ok hpr W.slin hl W1 h1
end
end Gr
set_option Elab.async false
set_option linter.all false
set_option maxRecDepth 100000
/-! G12: a def by its body. -/
namespace Gr
open PySem PySem.Spec L2
section
variable {X : Cx} {R : Rc} {kx : Kx} {w : Wo} {T S : Tm} {lk lk' : List Nat} {e : Ev} {σ σ' : St} {H H' : Hp} {b b' : Addr → Prop}
/-- which parameters are changed -/
def mpIx (k : Nat) : List Bool → List Nat
  | [] => []
  | true :: mp => k :: mpIx (k + 1) mp
  | false :: mp => mpIx (k + 1) mp
def msFrom (k : Nat) : List Bool → List V → List (Nat × Addr)
  | true :: mp, .ref a :: vs => (k, a) :: msFrom (k + 1) mp vs
  | _ :: mp, _ :: vs => msFrom (k + 1) mp vs
  | _, _ => []
/-- what is known of the arguments -/
structure AR (kx : Kx) (H : Hp) (b : Addr → Prop) (mp : List Bool) (vs : List V) (ds : List D) : Prop where
  fit : argFit mp ds = true
  r : ArgR kx H b vs ds
theorem AR.cons {m : Bool} {mp : List Bool} {v : V} {vs : List V} {d : D} {ds : List D} (h : AR kx H b (m :: mp) (v :: vs) (d :: ds)) : AR kx H b mp vs ds ∧ RD kx w0 H b d v ∧ (if m = true then ∃ a, v = .ref a ∧ ownD d v = [a] ∧ ∃ o, H a = some o else ownD d v = []) := by
  obtain ⟨h1, h2, h3⟩ := h
  cases m with
  | true =>
    cases d with
    | ols xs =>
      obtain ⟨a, us, rfl, e, _⟩ := h2
      exact ⟨⟨h1, h3⟩, ⟨a, us, rfl, e, ‹_›⟩, by rw [if_pos rfl]; exact ⟨a, rfl, rfl, _, e⟩⟩
    | odc ks xs =>
      obtain ⟨a, rfl, z⟩ := h2
      refine ⟨⟨h1, h3⟩, ⟨a, rfl, z⟩, ?_⟩
      rw [if_pos rfl]
      rcases z with ⟨kvs, e, _⟩ | ⟨kvs, e, _⟩
      · exact ⟨a, rfl, rfl, _, e⟩
      · exact ⟨a, rfl, rfl, _, e⟩
    | pure p => simp [argFit] at h1
    | exn c fs => simp [argFit] at h1
  | false =>
    cases d with
    | pure p => exact ⟨⟨h1, h3⟩, h2, by simp [ownD]⟩
    | ols xs => simp [argFit] at h1
    | odc ks xs => simp [argFit] at h1
    | exn c fs => simp [argFit] at h1
theorem AR.nil_of {mp : List Bool} (h : AR kx H b mp [] []) : mp = [] := by
  cases mp with
  | nil => rfl
  | cons m mp => exact absurd h.fit (by cases m <;> simp [argFit])
theorem AR.mps : ∀ {mp : List Bool} {vs : List V} {ds : List D} {k : Nat}, AR kx H b mp vs ds → (msFrom k mp vs).map (·.1) = mpIx k mp ∧ (msFrom k mp vs).map (·.2) = paOf mp vs
  | mp, [], [], k, h => by rw [h.nil_of]; exact ⟨rfl, rfl⟩
  | mp, [], _ :: _, k, h => False.elim h.r
  | mp, _ :: _, [], k, h => False.elim h.r
  | [], v :: vs, d :: ds, k, h => absurd h.fit (by simp [argFit])
  | true :: mp, v :: vs, d :: ds, k, h => by
    obtain ⟨h1, h2, h3⟩ := h.cons
    rw [if_pos rfl] at h3
    obtain ⟨a, rfl, _⟩ := h3
    obtain ⟨i1, i2⟩ := AR.mps (k := k + 1) h1
    exact ⟨by simp [msFrom, mpIx, i1], by simp [msFrom, paOf, i2]⟩
  | false :: mp, v :: vs, d :: ds, k, h => by
    obtain ⟨h1, h2, h3⟩ := h.cons
    obtain ⟨i1, i2⟩ := AR.mps (k := k + 1) h1
    cases v <;> exact ⟨by simp [msFrom, mpIx, i1], by simp [msFrom, paOf, i2]⟩
theorem AR.own {r : Nat} : ∀ {mp : List Bool} {vs : List V} {ds : List D}, AR kx H b mp vs ds → ownE (ds.map some ++ List.replicate r none) (vs.map some ++ List.replicate r none) = paOf mp vs
  | mp, [], [], h => by
    rw [h.nil_of]
    induction r with
    | zero => rfl
    | succ r ih => simpa [List.replicate_succ, ownE] using ih
  | mp, [], _ :: _, h => False.elim h.r
  | mp, _ :: _, [], h => False.elim h.r
  | [], v :: vs, d :: ds, h => absurd h.fit (by simp [argFit])
  | true :: mp, v :: vs, d :: ds, h => by
    obtain ⟨h1, h2, h3⟩ := h.cons
    rw [if_pos rfl] at h3
    obtain ⟨a, rfl, h4, _⟩ := h3
    have ih := AR.own (r := r) h1
    simp only [List.map_cons, List.cons_append, ownE, h4, ih]
    rfl
  | false :: mp, v :: vs, d :: ds, h => by
    obtain ⟨h1, h2, h3⟩ := h.cons
    rw [if_neg Bool.false_ne_true] at h3
    have ih := AR.own (r := r) h1
    simp only [List.map_cons, List.cons_append, ownE, h3, ih]
    cases v <;> rfl
theorem AR.ms : ∀ {mp : List Bool} {vs : List V} {ds : List D} {k : Nat}, AR kx H b mp vs ds → ∀ q ∈ msFrom k mp vs, (∃ j, q.1 = k + j ∧ vs[j]? = some (.ref q.2)) ∧ ∃ o, H q.2 = some o
  | mp, [], [], k, h, q, hq => by rw [h.nil_of] at hq; cases hq
  | mp, [], _ :: _, k, h, _, _ => False.elim h.r
  | mp, _ :: _, [], k, h, _, _ => False.elim h.r
  | [], v :: vs, d :: ds, k, h, _, _ => absurd h.fit (by simp [argFit])
  | true :: mp, v :: vs, d :: ds, k, h, q, hq => by
    obtain ⟨h1, h2, h3⟩ := h.cons
    rw [if_pos rfl] at h3
    obtain ⟨a, rfl, h4, o, h5⟩ := h3
    simp only [msFrom, List.mem_cons] at hq
    rcases hq with rfl | hq
    · exact ⟨⟨0, rfl, rfl⟩, o, h5⟩
    · obtain ⟨⟨j, y1, y2⟩, y3⟩ := AR.ms h1 q hq
      exact ⟨⟨j + 1, by rw [y1]; omega, by simpa using y2⟩, y3⟩
  | false :: mp, v :: vs, d :: ds, k, h, q, hq => by
    obtain ⟨h1, h2, h3⟩ := h.cons
    have hq : q ∈ msFrom (k + 1) mp vs := by cases v <;> exact hq
    obtain ⟨⟨j, y1, y2⟩, y3⟩ := AR.ms h1 q hq
    exact ⟨⟨j + 1, by rw [y1]; omega, by simpa using y2⟩, y3⟩
theorem AR.inMs : ∀ {mp : List Bool} {vs : List V} {ds : List D} {k : Nat}, AR kx H b mp vs ds → ∀ (j : Nat) (v : V), mp[j]? = some true → vs[j]? = some v → ∃ a, v = .ref a ∧ (k + j, a) ∈ msFrom k mp vs
  | mp, [], [], k, h, j, v, h1, h2 => by simp at h2
  | mp, [], _ :: _, k, h, _, _, _, _ => False.elim h.r
  | mp, _ :: _, [], k, h, _, _, _, _ => False.elim h.r
  | [], v :: vs, d :: ds, k, h, _, _, h1, _ => by simp at h1
  | true :: mp, v :: vs, d :: ds, k, h, 0, u, h1, h2 => by
    obtain ⟨_, _, h3⟩ := h.cons
    rw [if_pos rfl] at h3
    obtain ⟨a, rfl, _⟩ := h3
    simp at h2; subst h2
    exact ⟨a, rfl, by simp [msFrom]⟩
  | false :: mp, v :: vs, d :: ds, k, h, 0, u, h1, h2 => by simp at h1
  | true :: mp, v :: vs, d :: ds, k, h, j + 1, u, h1, h2 => by
    obtain ⟨h0, _, h3⟩ := h.cons
    rw [if_pos rfl] at h3
    obtain ⟨a, rfl, _⟩ := h3
    obtain ⟨a', e1, e2⟩ := AR.inMs (k := k + 1) h0 j u (by simpa using h1) (by simpa using h2)
    exact ⟨a', e1, by
      simp only [msFrom, List.mem_cons]
      exact .inr (by rw [show k + (j + 1) = k + 1 + j by omega]; exact e2)⟩
  | false :: mp, v :: vs, d :: ds, k, h, j + 1, u, h1, h2 => by
    obtain ⟨h0, _, h3⟩ := h.cons
    obtain ⟨a', e1, e2⟩ := AR.inMs (k := k + 1) h0 j u (by simpa using h1) (by simpa using h2)
    have : msFrom k (false :: mp) (v :: vs) = msFrom (k + 1) mp vs := by cases v <;> rfl
    exact ⟨a', e1, by rw [this, show k + (j + 1) = k + 1 + j by omega]; exact e2⟩
/-- at the end -/
theorem ends_ok : ∀ {mp : List Bool} {vs : List V} {e : Ev} {σ : St} {ws : List D}, wsOf mp e = some ws → mp.length = vs.length → (∀ (j : Nat) (v : V), mp[j]? = some true → vs[j]? = some v → σ[j]? = some (some v)) →
    (∀ (j : Nat) (d : D) (v : V), e[j]? = some (some d) → σ[j]? = some (some v) → RD kx w H b d v) → e.length = σ.length → (ownW mp vs ws).Sublist (ownE e σ) ∧ RepW kx w0 H b mp vs ws
  | [], vs, e, σ, ws, h, hl, _, _, _ => by
    cases vs with
    | cons _ _ => simp at hl
    | nil =>
      have : ws = [] := by cases e <;> simpa [wsOf] using h.symm
      subst this
      exact ⟨List.nil_sublist _, trivial⟩
  | m :: mp, [], e, σ, ws, h, hl, _, _, _ => by simp at hl
  | m :: mp, v :: vs, [], σ, ws, h, hl, _, _, _ => by cases m <;> simp [wsOf] at h
  | m :: mp, v :: vs, s :: e, [], ws, h, hl, _, _, hle => by simp at hle
  | true :: mp, v :: vs, none :: e, u :: σ, ws, h, hl, _, _, _ => by simp [wsOf] at h
  | true :: mp, v :: vs, some d :: e, u :: σ, ws, h, hl, k1, k2, hle => by
    simp only [wsOf] at h
    split at h
    · rename_i hf
      simp only [Option.map_eq_some_iff] at h
      obtain ⟨ws', h1, rfl⟩ := h
      have hu : u = some v := by simpa using k1 0 v rfl rfl
      subst hu
      obtain ⟨i1, i2⟩ := ends_ok h1 (by simpa using hl) (σ := σ) (vs := vs) (fun j u h1 h2 => by simpa using k1 (j + 1) u (by simpa using h1) (by simpa using h2)) (fun j d u h1 h2 => k2 (j + 1) d u (by simpa using h1) (by simpa using h2)) (by simpa using hle)
      exact ⟨List.Sublist.append (List.Sublist.refl _) i1, RD.anyw hf (k2 0 d v rfl rfl), i2⟩
    · cases h
  | false :: mp, v :: vs, s :: e, u :: σ, ws, h, hl, k1, k2, hle => by
    have h1 : wsOf mp e = some ws := by cases s <;> exact h
    obtain ⟨i1, i2⟩ := ends_ok h1 (by simpa using hl) (σ := σ) (vs := vs) (fun j u h1 h2 => by simpa using k1 (j + 1) u (by simpa using h1) (by simpa using h2)) (fun j d u h1 h2 => k2 (j + 1) d u (by simpa using h1) (by simpa using h2)) (by simpa using hle)
    refine ⟨?_, by cases ws <;> exact i2⟩
    have : (ownE e σ).Sublist (ownE (s :: e) (u :: σ)) := by
      cases s with
      | none => cases u <;> exact List.Sublist.refl _
      | some d => cases u with
        | none => exact List.Sublist.refl _
        | some v => exact List.sublist_append_right _ _
    exact i1.trans this
theorem RepW.mono (hb : ∀ a, b' a → b a) : ∀ {mp : List Bool} {vs : List V} {ws : List D}, RepW kx w H b mp vs ws → RepW kx w H b' mp vs ws := by
  intro mp
  induction mp with
  | nil => intro vs ws h; cases vs <;> cases ws <;> exact h
  | cons m mp ih =>
    intro vs ws h
    cases m with
    | true =>
      cases vs with
      | nil => cases ws <;> exact h
      | cons v vs => cases ws with
        | nil => exact h
        | cons d ws => exact ⟨RD.pureMono (fun _ _ z _ => z) (fun a z => .inl (hb a z)) (fun _ _ => rfl) h.1, ih h.2⟩
    | false =>
      cases vs with
      | nil => cases ws <;> exact h
      | cons v vs =>
        have h : RepW kx w H b mp vs ws := by cases ws <;> exact h
        cases ws <;> exact ih h
/-- the small semantics of a def, told of a call -/
theorem spA_body {df : Df} {call : Nat → List D → Res} {vs : List V} {Q : VK} {E : XK} {N : List Str} (hn : df.n = N.length) (h : spA kx df.mp (fun ds => runD df call ds) vs H Q E) :
    rdS ⟨kx, mpIx 0 df.mp, call, fun cls d _ H' => E cls d H', none⟩ df.body { nx := fun _ H' => Q .non H', rt := Q } (L2.start N vs) H := by
  obtain ⟨ds, B, ao, h⟩ := h
  have ar : AR kx H (fun a => B a ∨ a ∈ paOf df.mp vs) df.mp vs ds := by
    refine ⟨ao.fit, ?_⟩
    have go : ∀ {b : Addr → Prop} (ds : List D) (vs : List V), vs.length = ds.length → (∀ (i : Nat) (d : D) (v : V), ds[i]? = some d → vs[i]? = some v → RD kx w0 H b d v) → ArgR kx H b vs ds := by
      intro b ds
      induction ds with
      | nil => intro vs hl _; cases vs with
        | nil => trivial
        | cons _ _ => simp at hl
      | cons d ds ih => intro vs hl k; cases vs with
        | nil => simp at hl
        | cons v vs => exact ⟨k 0 d v rfl rfl, ih vs (by simpa using hl) fun i d u h1 h2 => k (i + 1) d u (by simpa using h1) (by simpa using h2)⟩
    exact go ds vs ao.len ao.rep
  have h : ResP kx df.mp vs H B Q E (runD df call ds) := h
  unfold runD at h
  cases q0 : (argFit df.mp ds && decide (ds.length ≤ df.n)) with
  | false => rw [q0, if_neg Bool.false_ne_true] at h; exact h.elim
  | true =>
  rw [q0, if_pos rfl] at h
  have hle : ds.length ≤ df.n := of_decide_eq_true (Bool.and_eq_true_iff.mp q0).2
  have hml : df.mp.length = vs.length := by
    have go : ∀ {mp : List Bool} {ds : List D}, argFit mp ds = true → mp.length = ds.length := by
      intro mp
      induction mp with
      | nil => intro ds h; cases ds with
        | nil => rfl
        | cons _ _ => simp [argFit] at h
      | cons m mp ih => intro ds h; cases ds with
        | nil => cases m <;> simp [argFit] at h
        | cons d ds => cases m <;> cases d <;> first | exact congrArg (· + 1) (ih h) | (simp [argFit] at h)
    rw [go ao.fit, ao.len]
  obtain ⟨m1, m2⟩ := ar.mps (k := 0)
  have est : L2.start N vs = vs.map some ++ List.replicate (df.n - ds.length) none := by rw [L2.start, hn, ao.len]
  have own0 := ar.own (r := df.n - ds.length)
  rw [← est] at own0
  have ebad : bad ⟨H, msFrom 0 df.mp vs, B, none⟩ [] (ds.map some ++ List.replicate (df.n - ds.length) none) (L2.start N vs) = fun a => B a ∨ a ∈ paOf df.mp vs := by
    funext a
    simp only [bad, own0, ownT, List.append_nil]
  have W0 : Wd kx ⟨H, msFrom 0 df.mp vs, B, none⟩ [] [] (ds.map some ++ List.replicate (df.n - ds.length) none) (L2.start N vs) H := by
    refine ⟨by rw [est]; simp [ao.len], by rw [own0]; simpa [ownT] using ao.nd, fun i d hi => ?_, fun q hq => by simp at hq, fun a o h _ => h, fun a ha hn => ?_, fun a ha => ?_, fun q hq => ?_, fun q hq => (ar.ms q hq).2⟩
    · have hlt : i < ds.length := by
        by_cases hlt : i < ds.length
        · exact hlt
        · rw [List.getElem?_append_right (by simpa using hlt), List.getElem?_replicate] at hi
          split at hi <;> cases hi
      rw [List.getElem?_append_left (by simpa using hlt), List.getElem?_map] at hi
      cases hd : ds[i]? with
      | none => rw [hd] at hi; cases hi
      | some d' =>
        rw [hd] at hi; cases hi
        obtain ⟨v, hv⟩ : ∃ v, vs[i]? = some v := ⟨vs[i]'(by rw [ao.len]; exact hlt), by simp [ao.len, hlt]⟩
        refine ⟨v, ?_, ?_⟩
        · rw [est, List.getElem?_append_left (by rw [List.length_map, ao.len]; exact hlt), List.getElem?_map, hv]; rfl
        · rw [ebad]
          exact (ao.rep i d v hd hv).of0
    · rw [own0] at ha
      have ha : a ∈ paOf df.mp vs := by simpa [ownT] using ha
      exact absurd (by show a ∈ (msFrom 0 df.mp vs).map (·.2); rw [m2]; exact ha) hn
    · obtain ⟨z1, z2⟩ := ao.bb a ha
      exact ⟨by show a ∉ (msFrom 0 df.mp vs).map (·.2); rw [m2]; exact z1, z2⟩
    · obtain ⟨⟨j, y1, y2⟩, _⟩ := ar.ms q hq
      have hj := lt_of_get y2
      rw [est, y1, Nat.zero_add, List.getElem?_append_left (by simpa using hj), List.getElem?_map, y2]
      rfl
  refine ⟨_, [], [], _, ⟨m1, rfl⟩, W0, ?_⟩
  have epa : Wo.pa ⟨H, msFrom 0 df.mp vs, B, none⟩ = paOf df.mp vs := m2
  -- the end's facts
  have fin : ∀ {e' : Ev} {σ' : St} {H' : Hp} {U : Tm} {ws : List D}, Wd kx ⟨H, msFrom 0 df.mp vs, B, none⟩ U [] e' σ' H' → wsOf df.mp e' = some ws → Aft H H' (paOf df.mp vs) (ownW df.mp vs ws ++ ownT U) ∧
      RepW kx w0 H' (fun a => B a ∨ a ∈ ownW df.mp vs ws ++ ownT U) df.mp vs ws ∧ ∀ a, (B a ∨ a ∈ ownW df.mp vs ws ++ ownT U) → bad ⟨H, msFrom 0 df.mp vs, B, none⟩ U e' σ' a := by
    intro e' σ' H' U ws W h
    obtain ⟨z1, z2⟩ := ends_ok (kx := kx) (w := ⟨H, msFrom 0 df.mp vs, B, none⟩) (H := H') (b := bad ⟨H, msFrom 0 df.mp vs, B, none⟩ U e' σ') h hml (fun j v h1 h2 => by
      obtain ⟨a, rfl, hm⟩ := ar.inMs (k := 0) j v h1 h2
      have := W.ms _ hm
      simpa using this) (fun j d v h1 h2 => by
      obtain ⟨u, y1, y2⟩ := W.sl j d h1
      rw [h2] at y1; cases y1
      exact y2) W.len
    have sub : (ownW df.mp vs ws ++ ownT U).Sublist (ownE e' σ' ++ ownT U) := List.Sublist.append z1 (List.Sublist.refl _)
    have hb : ∀ a, (B a ∨ a ∈ ownW df.mp vs ws ++ ownT U) → bad ⟨H, msFrom 0 df.mp vs, B, none⟩ U e' σ' a := fun a z => z.imp id (sub.subset ·)
    refine ⟨⟨fun a o h hn => W.fr a o h (by rw [epa]; exact hn), W.nd.sublist sub, fun a ha hn => W.nw a (sub.subset ha) (by rw [epa]; exact hn), fun a ha => ?_⟩, z2.mono hb, hb⟩
    rw [← m2] at ha
    obtain ⟨q, hq, rfl⟩ := List.mem_map.mp ha
    exact W.mt q hq
  have endr : ∀ {r : D} {e' : Ev}, ResP kx df.mp vs H B Q E (df.end_ r e') → ∀ v σ' H', Wd kx ⟨H, msFrom 0 df.mp vs, B, none⟩ [(v, .val r)] [] e' σ' H' → Q v H' := by
    intro r e' h v σ' H' W
    unfold Df.end_ at h
    cases q1 : wsOf df.mp e' with
    | none => simp only [q1] at h; exact h.elim
    | some ws =>
      simp only [q1] at h
      cases q2 : (r.flat && (!df.pr || (r.bare && ws.all D.bareIn))) with
      | false => rw [q2, if_neg Bool.false_ne_true] at h; exact h.elim
      | true =>
        rw [q2, if_pos rfl] at h
        obtain ⟨y1, y2, y3⟩ := fin W q1
        have eo : ownT [(v, Tk.val r)] = ownD r v := by simp [ownT]
        rw [eo] at y1 y2 y3
        refine h v H' y1 y2 ?_
        have z := W.tm (v, .val r) (by simp)
        exact RD.anyw (Bool.and_eq_true_iff.mp q2).1 (RD.pureMono (d := r) (fun _ _ z _ => z) (fun a z => .inl (y3 a z)) (fun _ _ => rfl) z)
  show OutS _ _ _ _ _ (df.body ⟨call, []⟩ _)
  cases q3 : df.body ⟨call, []⟩ (ds.map some ++ List.replicate (df.n - ds.length) none) with
  | stk => simp only [q3] at h; exact h.elim
  | ok f e' =>
    simp only [q3] at h
    cases f with
    | rt d => exact fun v σ' H' W => endr h v σ' H' W
    | nx => exact fun σ' H' W => endr h .non σ' H' (W.pushP (by simp [RF]))
    | bk => exact h.elim
    | ct => exact h.elim
  | rs c fs e' =>
    simp only [q3] at h
    cases q1 : wsOf df.mp e' with
    | none => simp only [q1] at h; exact h.elim
    | some ws =>
      simp only [q1] at h
      intro cls d σ' H' W x
      cases q2 : (!df.pr || ((fs.all fun q => q.2.bare) && ws.all D.bareIn)) with
      | false => rw [q2, if_neg Bool.false_ne_true] at h; exact h.elim
      | true =>
        rw [q2, if_pos rfl] at h
        obtain ⟨y1, y2, y3⟩ := fin W q1
        simp only [ownT, List.append_nil] at y1 y2 y3
        exact h cls d H' y1 y2 (x.mono (fun _ _ z _ => z) fun a z => .inl (y3 a z))
end
end Gr
set_option Elab.async false
set_option linter.all false
set_option maxRecDepth 100000
/-! G13: operators. -/
namespace Gr
open PySem PySem.Spec L2

/-! ### what they give -/
def big64 : Int := 18446744073709551616
def mulOk (i j : Int) : Bool := (decide (-big64 < i) && decide (i < big64)) || (decide (-big64 < j) && decide (j < big64))
def opAdd : P → P → Option D
  | .int i, .int j => some (.pure (.int (i + j)))
  | .str s, .str t => if s.length + t.length ≤ line then some (.pure (.str (s ++ t))) else none
  | .lst xs, .lst ys => if xs.length + ys.length ≤ line then some (.ols (xs ++ ys)) else none
  | .tup xs, .tup ys => if xs.length + ys.length ≤ line then some (.pure (.tup (xs ++ ys))) else none
  | _, _ => none
def opSub : P → P → Option D
  | .int i, .int j => some (.pure (.int (i - j)))
  | _, _ => none
def opMul : P → P → Option D
  | .int i, .int j => if mulOk i j = true then some (.pure (.int (i * j))) else none
  | .lst xs, .int k => if (okR k && decide (xs.length * k.toNat ≤ line)) = true then some (.ols (List.replicate k.toNat xs).flatten) else none
  | _, _ => none
def opDiv : P → P → Option D
  | .int i, .int j => if j ≠ 0 ∧ j.natAbs < 1073741824 then some (.pure (.int (i.fdiv j))) else none
  | _, _ => none
def opMod : P → P → Option D
  | .int i, .int j => if j ≠ 0 then some (.pure (.int (i.fmod j))) else none
  | _, _ => none
def opPow : P → P → Option D
  | .int i, .int j => if 0 ≤ j ∧ j ≤ 1000000 ∧ i.natAbs < 2 ^ 64 then some (.pure (.int (i ^ j.toNat))) else none
  | _, _ => none
/-! equality of data -/
mutual
def eqP : P → P → Bool
  | .non, .non => true
  | .bl a, .bl b => a == b
  | .bl a, .int j => (if a then 1 else 0) == j
  | .int i, .bl b => i == (if b then 1 else 0)
  | .int i, .int j => i == j
  | .str x, .str y => x == y
  | .lst xs, .lst ys => eqPs xs ys
  | .tup xs, .tup ys => eqPs xs ys
  | _, _ => false
def eqPs : List P → List P → Bool
  | [], [] => true
  | x :: xs, y :: ys => eqP x y && eqPs xs ys
  | _, _ => false
end
/-! no dict, no input; so deep at most -/
mutual
def P.dep : Nat → P → Bool
  | n, .tup xs => match n with
    | 0 => false
    | n + 1 => P.deps n xs
  | n, .lst xs => match n with
    | 0 => false
    | n + 1 => P.deps n xs
  | _, .dct _ _ => false
  | _, .inp _ => false
  | _, _ => true
def P.deps : Nat → List P → Bool
  | _, [] => true
  | n, x :: xs => x.dep n && P.deps n xs
end
def deep : Nat := 60
def opEq (x y : P) : Option D := if (x.dep deep && y.dep deep) = true then some (.pure (.bl (eqP x y))) else none
def opNe (x y : P) : Option D := if (x.dep deep && y.dep deep) = true then some (.pure (.bl (!eqP x y))) else none
def opCmp (f : Int → Int → Bool) : P → P → Option D
  | .int i, .int j => some (.pure (.bl (f i j)))
  | _, _ => none
def isNon : P → Bool
  | .non => true
  | _ => false
def opIsN (x y : P) : Option D := match y with
  | .non => some (.pure (.bl (isNon x)))
  | _ => none
def opIsntN (x y : P) : Option D := match y with
  | .non => some (.pure (.bl (!isNon x)))
  | _ => none
def subAt (x : List Nat) : List Nat → Bool
  | [] => x.isEmpty
  | c :: cs => x.isPrefixOf (c :: cs) || subAt x cs
def inP (x : P) (ys : List P) : Bool := ys.any fun y => eqP y x
def opIn : P → P → Option D
  | .str [c], .str t => some (.pure (.bl (t.contains c)))
  | x, .lst ys => if (x.dep deep && P.deps deep ys) = true then some (.pure (.bl (inP x ys))) else none
  | x, .tup ys => if (x.dep deep && P.deps deep ys) = true then some (.pure (.bl (inP x ys))) else none
  | _, _ => none
def opNotIn (x y : P) : Option D := match opIn x y with
  | some (.pure (.bl b)) => some (.pure (.bl (!b)))
  | _ => none
def opIx : P → P → Option D
  | .lst xs, .int k => (ixOf xs.length k).bind fun j => (xs[j]?).map .pure
  | .tup xs, .int k => (ixOf xs.length k).bind fun j => (xs[j]?).map .pure
  | .inp ns, .int k => (ixOf ns.length k).bind fun j => (ns[j]?).map fun i => .pure (.int i)
  | .str s, .int k => if s.length < line then (ixOf s.length k).bind fun j => (s[j]?).map fun c => .pure (.str [c]) else none
  | _, _ => none
def opNeg : P → Option D
  | .int i => some (.pure (.int (-i)))
  | _ => none

section
variable {X : Cx} {kx : Kx} {w : Wo} {T S : Tm} {lk lk' : List Nat} {e : Ev} {σ σ' : St} {H H' : Hp} {b b' : Addr → Prop} {p q : P} {v u : V}
/-! ### reading -/
theorem rc_int {i : Int} (h : RC kx H b (.int i) v) : v = .int i := by simpa [RC, RF] using h
theorem rc_non (h : RC kx H b .non v) : v = .non := by simpa [RC, RF] using h
theorem rc_str {s : List Nat} (h : RC kx H b (.str s) v) : ∃ x : Str, v = .str x ∧ x.cps.toList = s ∧ x.cps.all (· < 0x110000) = true := by simpa only [RC, RF] using h
theorem rc_tup {xs : List P} (h : RC kx H b (.tup xs) v) : ∃ a vs, v = .ref a ∧ SqT kx.K H a vs ∧ RFs kx.K H b xs vs := by simpa only [RC, RF] using h
theorem rc_lst {xs : List P} (h : RC kx H b (.lst xs) v) : ∃ a vs, v = .ref a ∧ H a = some (.lst vs) ∧ RFs kx.K H b xs vs := h
theorem Wd.outI (W : Wd kx w T lk e σ H) (i : Int) : Wd kx w (T ++ [(.int i, .val (.pure (.int i)))]) lk e σ H := W.pushP (by simp [RF])
theorem Wd.outB (W : Wd kx w T lk e σ H) (i : Bool) : Wd kx w (T ++ [(.bl i, .val (.pure (.bl i)))]) lk e σ H := W.pushP (by simp [RF])
theorem Wd.outS (W : Wd kx w T lk e σ H) {x : Str} {s : List Nat} (h : x.cps.toList = s) (k : x.cps.all (· < 0x110000) = true) : Wd kx w (T ++ [(.str x, .val (.pure (.str s)))]) lk e σ H := W.pushP (by
  simp only [RF]
  exact ⟨x, rfl, h, k⟩)

/-! ### + -/
def rCatE (K : PySem.W.Frag) : R2 := fun x y H Q => ∃ a b ys, x = .ref a ∧ y = .ref b ∧ SqT K H a [] ∧ SqT K H b ys ∧ Q (.ref b) H
theorem op_catE : OpR X (binaryOp .Add) (rCatE X.K) := by
  intro pins s σ H x y v u Q I rx ry h
  obtain ⟨a, b, ys, rfl, rfl, ha, hb, q⟩ := h
  cases rx
  cases ry
  obtain ⟨its, r1, p1, _⟩ := I.tuple ha
  obtain ⟨its2, r2, p2, _⟩ := I.tuple hb
  cases r1
  obtain ⟨⟨cls, dd, data, sl⟩, ho, hc, n, hd⟩ := id p1
  obtain ⟨⟨cls2, dd2, data2, sl2⟩, ho2, hc2, n2, hd2⟩ := id p2
  simp only at hc hd hc2 hd2
  subst hc hd hc2 hd2
  exact PySem.concat_meets ⟨_, ho, rfl⟩ ⟨_, ho2, rfl⟩ noFill_tuple_add seq_tuple_add PySem.F.slot_tuple_add PySem.F.entry_tuple_add (PySem.F.args_tuple_add_2 _ _)
    (PyProof.Rows.tuple_addW0 a b #[] its2.toArray n n2 dd dd2 sl sl2 rfl) ⟨ho, ho2, ⟨.ref b, H, I, rfl, q⟩⟩
def rAdd (K : PySem.W.Frag) : R2 := fun x y H Q => rI0 (fun i j => .int (i + j)) x y H Q ∨ (∃ i j, x = .str i ∧ y = .str j ∧ i.length + j.length ≤ sizeLine ∧ Q (.str (i ++ j)) H) ∨ rCat x y H Q ∨ rCatT K x y H Q ∨ rCatE K x y H Q
theorem op_addAll : OpR X (binaryOp .Add) (rAdd X.K) := op_add.or (op_add_str.or (op_cat.or (op_catT.or op_catE)))
theorem str_app (x y : Str) : (x ++ y).cps.toList = x.cps.toList ++ y.cps.toList := by
  show (x.cps ++ y.cps).toList = _
  simp
theorem all_app {x y : Str} (h : x.cps.all (· < 0x110000) = true) (k : y.cps.all (· < 0x110000) = true) : (x ++ y).cps.all (· < 0x110000) = true := by
  show (x.cps ++ y.cps).all (· < 0x110000) = true
  rw [Array.all_append, h, k]; rfl
theorem ok_add : Op2Ok kx opAdd (rAdd kx.K) := by
  intro w T lk e σ H x y v u d Q W hx hy hf k
  unfold opAdd at hf
  split at hf
  · cases hf
    rw [rc_int hx, rc_int hy]
    exact .inl ⟨_, _, rfl, rfl, k _ _ (W.outI _)⟩
  · split at hf
    · rename_i hl
      cases hf
      obtain ⟨x, rfl, rfl, kx1⟩ := rc_str hx
      obtain ⟨y, rfl, rfl, ky1⟩ := rc_str hy
      exact .inr (.inl ⟨_, _, rfl, rfl, by rw [str_len, str_len]; exact lineOk hl, k _ _ (W.outS (str_app _ _) (all_app kx1 ky1))⟩)
    · cases hf
  · split at hf
    · rename_i hl
      cases hf
      obtain ⟨a, vs, rfl, h1, r1⟩ := rc_lst hx
      obtain ⟨b, us, rfl, h2, r2⟩ := rc_lst hy
      exact .inr (.inr (.inl ⟨_, _, _, _, rfl, rfl, h1, h2, by rw [← r1.length, ← r2.length]; exact lineOk hl, fun p hp => k _ _ (W.pushL hp (r1.append r2))⟩))
    · cases hf
  · split at hf
    · rename_i xs ys hl
      cases hf
      obtain ⟨a, vs, rfl, h1, r1⟩ := rc_tup hx
      obtain ⟨b, us, rfl, h2, r2⟩ := rc_tup hy
      by_cases hv : vs = []
      · subst hv
        have r : RFs kx.K H (bad w T e σ) (xs ++ ys) us := by have := r1.append r2; simpa using this
        refine .inr (.inr (.inr (.inr ⟨_, _, _, rfl, rfl, h1, h2, k _ _ (W.pushP ?_)⟩)))
        simp only [RF]
        exact ⟨_, _, rfl, h2, r⟩
      · refine .inr (.inr (.inr (.inl ⟨_, _, _, _, rfl, rfl, h1, h2, hv, by rw [← r1.length, ← r2.length]; exact lineOk hl, fun hu => ?_, fun hu p hp => k _ _ (W.pushT hp (r1.append r2))⟩)))
        subst hu
        have r : RFs kx.K H (bad w T e σ) (xs ++ ys) vs := by have := r1.append r2; simpa using this
        refine k _ _ (W.pushP ?_)
        simp only [RF]
        exact ⟨_, _, rfl, h1, r⟩
    · cases hf
  · cases hf
theorem ok_sub : Op2Ok kx opSub (rI0 fun i j => .int (i - j)) := by
  intro w T lk e σ H x y v u d Q W hx hy hf k
  unfold opSub at hf
  split at hf
  · cases hf
    rw [rc_int hx, rc_int hy]
    exact ⟨_, _, rfl, rfl, k _ _ (W.outI _)⟩
  · cases hf
def rMul : R2 := fun x y H Q => rI CMul (fun i j => .int (i * j)) x y H Q ∨ rRep x y H Q
theorem op_mulAll : OpR X (binaryOp .Mult) rMul := op_mul.or op_rep
theorem mulOk_of {i j : Int} (h : mulOk i j = true) : CMul i j := by
  unfold mulOk big64 at h
  rcases Bool.or_eq_true_iff.mp h with h | h
  · obtain ⟨h1, h2⟩ := Bool.and_eq_true_iff.mp h
    have h1 := of_decide_eq_true h1
    have h2 := of_decide_eq_true h2
    exact .inl ⟨by omega, by omega⟩
  · obtain ⟨h1, h2⟩ := Bool.and_eq_true_iff.mp h
    have h1 := of_decide_eq_true h1
    have h2 := of_decide_eq_true h2
    exact .inr ⟨by omega, by omega⟩
theorem RFs.rep {xs : List P} {vs : List V} (h : RFs kx.K H b xs vs) : ∀ n, RFs kx.K H b (List.replicate n xs).flatten (List.replicate n vs).flatten
  | 0 => .nil
  | n + 1 => by
    rw [List.replicate_succ, List.replicate_succ, List.flatten_cons, List.flatten_cons]
    exact h.append (RFs.rep h n)
theorem ok_mul : Op2Ok kx opMul rMul := by
  intro w T lk e σ H x y v u d Q W hx hy hf k
  unfold opMul at hf
  split at hf
  · split at hf
    · rename_i hc
      cases hf
      rw [rc_int hx, rc_int hy]
      exact .inl ⟨_, _, rfl, rfl, mulOk_of hc, k _ _ (W.outI _)⟩
    · cases hf
  · split at hf
    · rename_i hc
      cases hf
      obtain ⟨h1, h2⟩ := Bool.and_eq_true_iff.mp hc
      obtain ⟨a, vs, rfl, hv, r⟩ := rc_lst hx
      rw [rc_int hy]
      have := okR_of h1
      exact .inr ⟨_, _, _, rfl, rfl, hv, by omega, by omega, by rw [← r.length]; exact lineOk (of_decide_eq_true h2), fun p hp => k _ _ (W.pushL hp (r.rep _))⟩
    · cases hf
  · cases hf
theorem ok_div : Op2Ok kx opDiv (rI CDivN fun i j => .int (i.fdiv j)) := by
  intro w T lk e σ H x y v u d Q W hx hy hf k
  unfold opDiv at hf
  split at hf
  · split at hf
    · rename_i hc
      cases hf
      rw [rc_int hx, rc_int hy]
      exact ⟨_, _, rfl, rfl, hc, k _ _ (W.outI _)⟩
    · cases hf
  · cases hf
theorem ok_mod : Op2Ok kx opMod (rI (fun _ j => j ≠ 0) fun i j => .int (i.fmod j)) := by
  intro w T lk e σ H x y v u d Q W hx hy hf k
  unfold opMod at hf
  split at hf
  · split at hf
    · rename_i hc
      cases hf
      rw [rc_int hx, rc_int hy]
      exact ⟨_, _, rfl, rfl, hc, k _ _ (W.outI _)⟩
    · cases hf
  · cases hf
theorem ok_pow : Op2Ok kx opPow (rI CPow fun i j => .int (i ^ j.toNat)) := by
  intro w T lk e σ H x y v u d Q W hx hy hf k
  unfold opPow at hf
  split at hf
  · split at hf
    · rename_i hc
      cases hf
      rw [rc_int hx, rc_int hy]
      exact ⟨_, _, rfl, rfl, hc, k _ _ (W.outI _)⟩
    · cases hf
  · cases hf
theorem ok_cmp {f : Int → Int → Bool} : Op2Ok kx (opCmp f) (rI0 fun i j => .bl (f i j)) := by
  intro w T lk e σ H x y v u d Q W hx hy hf k
  unfold opCmp at hf
  split at hf
  · cases hf
    rw [rc_int hx, rc_int hy]
    exact ⟨_, _, rfl, rfl, k _ _ (W.outB _)⟩
  · cases hf
/-! ### is None -/
theorem rc_some (h : RC kx H b p v) : decide (v = .non) = isNon p := by
  cases p with
  | non => rw [rc_non h]; rfl
  | bl k => rw [bl_of h]; rfl
  | int i => rw [rc_int h]; rfl
  | str s => obtain ⟨x, rfl, _⟩ := rc_str h; rfl
  | tup xs => obtain ⟨a, vs, rfl, _⟩ := rc_tup h; rfl
  | lst xs => obtain ⟨a, vs, rfl, _⟩ := rc_lst h; rfl
  | dct ks xs => obtain ⟨a, rfl, _⟩ := h; rfl
  | inp ns => obtain ⟨a, rfl, _⟩ := h; rfl
theorem ok_isN : Op2Ok kx opIsN (fun x y H Q => y = .non ∧ Q (.bl (decide (x = .non))) H) := by
  intro w T lk e σ H x y v u d Q W hx hy hf k
  unfold opIsN at hf
  split at hf
  · cases hf
    exact ⟨rc_non hy, by rw [rc_some hx]; exact k _ _ (W.outB _)⟩
  · cases hf
theorem ok_isntN : Op2Ok kx opIsntN (fun x y H Q => y = .non ∧ Q (.bl (!decide (x = .non))) H) := by
  intro w T lk e σ H x y v u d Q W hx hy hf k
  unfold opIsntN at hf
  split at hf
  · cases hf
    refine ⟨rc_non hy, ?_⟩
    rw [rc_some hx]
    exact k _ _ (W.outB _)
  · cases hf
/-! ### == -/
mutual
def pd : P → PyData
  | .non => .none
  | .bl b => .bool b
  | .int i => .int i
  | .str s => .str ⟨s.toArray⟩
  | .tup xs => .tuple (pds xs)
  | .lst xs => .list (pds xs)
  | .dct _ _ => .none
  | .inp _ => .none
def pds : List P → List PyData
  | [] => []
  | x :: xs => pd x :: pds xs
end
mutual
theorem pd_eq : ∀ (n : Nat) (x y : P), x.dep n = true → y.dep n = true → PyData.eqv (pd x) (pd y) = eqP x y
  | n, .non, y, _, hy => by cases y <;> simp [pd, PyData.eqv, eqP, P.dep] at hy ⊢
  | n, .bl a, y, _, hy => by cases y <;> simp [pd, PyData.eqv, eqP, P.dep] at hy ⊢
  | n, .int a, y, _, hy => by cases y <;> simp [pd, PyData.eqv, eqP, P.dep] at hy ⊢
  | n, .str a, y, _, hy => by
    cases y with
    | str t =>
      simp only [pd, PyData.eqv, eqP]
      rw [Bool.eq_iff_iff]
      simp
    | _ => simp [pd, PyData.eqv, eqP, P.dep] at hy ⊢
  | 0, .tup xs, y, hx, _ => by simp [P.dep] at hx
  | n + 1, .tup xs, y, hx, hy => by
    cases y with
    | tup ys =>
      simp only [pd, PyData.eqv, eqP]
      exact pds_eq n xs ys (by simpa [P.dep] using hx) (by simpa [P.dep] using hy)
    | _ => simp [pd, PyData.eqv, eqP, P.dep] at hy ⊢
  | 0, .lst xs, y, hx, _ => by simp [P.dep] at hx
  | n + 1, .lst xs, y, hx, hy => by
    cases y with
    | lst ys =>
      simp only [pd, PyData.eqv, eqP]
      exact pds_eq n xs ys (by simpa [P.dep] using hx) (by simpa [P.dep] using hy)
    | _ => simp [pd, PyData.eqv, eqP, P.dep] at hy ⊢
  | n, .dct _ _, y, hx, _ => by simp [P.dep] at hx
  | n, .inp _, y, hx, _ => by simp [P.dep] at hx
theorem pds_eq : ∀ (n : Nat) (xs ys : List P), P.deps n xs = true → P.deps n ys = true → PyData.eqvAll (pds xs) (pds ys) = eqPs xs ys
  | n, [], [], _, _ => by simp [pds, PyData.eqvAll, eqPs]
  | n, [], y :: ys, _, _ => by simp [pds, PyData.eqvAll, eqPs]
  | n, x :: xs, [], _, _ => by simp [pds, PyData.eqvAll, eqPs]
  | n, x :: xs, y :: ys, hx, hy => by
    simp only [P.deps, Bool.and_eq_true] at hx hy
    simp only [pds, PyData.eqvAll, eqPs]
    rw [pd_eq n x y hx.1 hy.1, pds_eq n xs ys hx.2 hy.2]
end
end
end Gr
set_option Elab.async false
set_option linter.all false
set_option maxRecDepth 100000
/-! G14: ==, in, places; functions by contents. -/
namespace Gr
open PySem PySem.Spec L2
section
variable {X : Cx} {R : Rc} {kx : Kx} {w : Wo} {T S : Tm} {lk lk' : List Nat} {e : Ev} {σ σ' : St} {H H' : Hp} {b b' : Addr → Prop} {p q : P} {v u : V} {K : PySem.W.Frag}
mutual
theorem pd_has : ∀ (n : Nat) (p : P) (v : V), RF K H b p v → p.dep n = true → Dp K H v (pd p) ∧ (pd p).canLay0 = true ∧ (pd p).depth ≤ n
  | n, .non, v, h, _ => by
    simp only [RF] at h; subst h
    exact ⟨.non, rfl, Nat.zero_le _⟩
  | n, .bl k, v, h, _ => by
    simp only [RF] at h; subst h
    exact ⟨.bl k, rfl, Nat.zero_le _⟩
  | n, .int i, v, h, _ => by
    simp only [RF] at h; subst h
    exact ⟨.int i, rfl, Nat.zero_le _⟩
  | n, .str s, v, h, _ => by
    simp only [RF] at h
    obtain ⟨x, rfl, rfl, hx⟩ := h
    exact ⟨.str x, hx, Nat.zero_le _⟩
  | 0, .tup xs, v, _, hd => by simp [P.dep] at hd
  | n + 1, .tup xs, v, h, hd => by
    simp only [RF] at h
    obtain ⟨a, vs, rfl, h1, h2⟩ := h
    obtain ⟨z1, z2, z3⟩ := pds_has n xs vs h2 (by simpa [P.dep] using hd)
    exact ⟨.tup h1 z1, by simp only [pd, PyData.canLay0]; exact z2, by simp only [pd, PyData.depth]; omega⟩
  | 0, .lst xs, v, _, hd => by simp [P.dep] at hd
  | n + 1, .lst xs, v, h, hd => by
    simp only [RF] at h
    obtain ⟨a, vs, rfl, h1, _, h2⟩ := h
    obtain ⟨z1, z2, z3⟩ := pds_has n xs vs h2 (by simpa [P.dep] using hd)
    exact ⟨.lst (.of h1) z1, by simp only [pd, PyData.canLay0]; exact z2, by simp only [pd, PyData.depth]; omega⟩
  | n, .dct _ _, v, _, hd => by simp [P.dep] at hd
  | n, .inp _, v, _, hd => by simp [P.dep] at hd
theorem pds_has : ∀ (n : Nat) (ps : List P) (vs : List V), RFs K H b ps vs → P.deps n ps = true → DpAll K H vs (pds ps) ∧ PyData.canLayAll0 (pds ps) = true ∧ PyData.depthAll (pds ps) ≤ n
  | n, [], vs, h, _ => by
    have := h.nil_of; subst this
    exact ⟨.nil, rfl, Nat.zero_le _⟩
  | n, p :: ps, vs, h, hd => by
    obtain ⟨v, r, rfl, h1, h2⟩ := h.cons_of
    simp only [P.deps, Bool.and_eq_true] at hd
    obtain ⟨a1, a2, a3⟩ := pd_has n p v h1 hd.1
    obtain ⟨b1, b2, b3⟩ := pds_has n ps r h2 hd.2
    exact ⟨.cons a1 b1, by simp only [pds, PyData.canLayAll0, a2, b2]; rfl, by simp only [pds, PyData.depthAll]; omega⟩
end
theorem rc_dp (h : RC kx H b p v) (hd : p.dep deep = true) : Dp kx.K H v (pd p) ∧ SeqAt.shaped (pd p) = true := by
  have key : Dp kx.K H v (pd p) ∧ (pd p).canLay0 = true ∧ (pd p).depth ≤ deep := by
    cases p with
    | lst xs =>
      obtain ⟨a, vs, rfl, h1, h2⟩ := rc_lst h
      have hd : P.deps 59 xs = true := by simpa [deep, P.dep] using hd
      obtain ⟨z1, z2, z3⟩ := pds_has 59 xs vs h2 hd
      exact ⟨.lst (.of h1) z1, by simp only [pd, PyData.canLay0]; exact z2, by simp only [pd, PyData.depth, deep]; omega⟩
    | dct ks xs => simp [deep, P.dep] at hd
    | inp ns => simp [deep, P.dep] at hd
    | _ => exact pd_has (b := b) deep _ v h hd
  refine ⟨key.1, Bool.and_eq_true_iff.mpr ⟨key.2.1, decide_eq_true (Nat.le_trans key.2.2 (by decide))⟩⟩
theorem ok_eq : Op2Ok kx opEq (rEqD kx.K) := by
  intro w T lk e σ H x y v u d Q W hx hy hf k
  unfold opEq at hf
  split at hf
  · rename_i hc
    cases hf
    obtain ⟨c1, c2⟩ := Bool.and_eq_true_iff.mp hc
    obtain ⟨a1, a2⟩ := rc_dp hx c1
    obtain ⟨b1, b2⟩ := rc_dp hy c2
    refine ⟨_, _, a1, b1, a2, b2, ?_⟩
    rw [pd_eq deep x y c1 c2]
    exact k _ _ (W.outB _)
  · cases hf
theorem ok_ne : Op2Ok kx opNe (rNeD kx.K) := by
  intro w T lk e σ H x y v u d Q W hx hy hf k
  unfold opNe at hf
  split at hf
  · rename_i hc
    cases hf
    obtain ⟨c1, c2⟩ := Bool.and_eq_true_iff.mp hc
    obtain ⟨a1, a2⟩ := rc_dp hx c1
    obtain ⟨b1, b2⟩ := rc_dp hy c2
    refine ⟨_, _, a1, b1, a2, b2, ?_⟩
    rw [pd_eq deep x y c1 c2]
    exact k _ _ (W.outB _)
  · cases hf
theorem any_pd (hx : p.dep deep = true) : ∀ {ys : List P}, P.deps deep ys = true → ((pds ys).any fun z => PyData.eqv z (pd p)) = inP p ys
  | [], _ => rfl
  | y :: ys, h => by
    simp only [P.deps, Bool.and_eq_true] at h
    have ih := any_pd hx h.2
    simp only [inP] at ih
    simp only [pds, List.any_cons, inP]
    rw [pd_eq deep y p h.1 hx, ih]
/-- x in a tuple of data -/
def rInT (K : PySem.W.Frag) (neg : Bool) : R2 := fun x y H Q => ∃ a vs d ds, y = .ref a ∧ SqT K H a vs ∧ Dp K H x d ∧ DpAll K H vs ds ∧ SeqAt.shaped d = true ∧ PyData.canLayAll0 ds = true ∧ PyData.depthAll ds ≤ 64 ∧ Q (.bl (if neg then !(ds.any fun z => PyData.eqv z d) else ds.any fun z => PyData.eqv z d)) H
theorem items_eq {pins : List (Addr × Obj)} {s : Shared} (hu : X.A.units + 65 < cLine) (I : Inv X pins σ H s) {x : V} {v : Value} {d : PyData} (rx : RelV x v) (hd : Dp X.K H x d) (sd : SeqAt.shaped d = true) {vs : List V} {its : List Value} {ds : List PyData} (rv : Vals vs its) (ha : DpAll X.K H vs ds) (hl : PyData.canLayAll0 ds = true) :
    (∀ u ∈ its, SeqAt.EqAt X.A.in1 s u v (PyData.eqv (SeqAt.readOf s.heap u) d)) ∧ (its.any fun u => PyData.eqv (SeqAt.readOf s.heap u) d) = ds.any fun z => PyData.eqv z d := by
  obtain ⟨bs, r1⟩ := Dp.reads I d x v hd rx
  obtain ⟨as, h4⟩ := Dp.readsAll I ds _ its ha rv
  have hmap : its.map (SeqAt.readOf s.heap) = ds := SeqAt.readsAll_map ds its as hl h4
  have hroom : X.A.units + 1 + min (PyData.depthAll ds) d.depth < cLine := PyProof.Rows.room_in_shaped sd hu
  have h5 := SeqAt.items_eqAt (vs := its.toArray) (show ReadsAll s.heap its.toArray.toList ds as from h4) r1 hl (SeqAt.canLay_of_shaped sd) hroom
  exact ⟨fun u hu => h5 u (by simpa using hu), by rw [← hmap, List.any_map]; rfl⟩
/-- x in a list or a tuple of data -/
def rInD2 (K : PySem.W.Frag) (neg : Bool) : R2 := fun x y H Q => ∃ a vs d ds, y = .ref a ∧ (SqL K H a vs ∨ SqT K H a vs) ∧ Dp K H x d ∧ DpAll K H vs ds ∧ SeqAt.shaped d = true ∧ PyData.canLayAll0 ds = true ∧ Q (.bl (if neg then !(ds.any fun z => PyData.eqv z d) else ds.any fun z => PyData.eqv z d)) H
theorem op_inD2 (hu : X.A.units + 65 < cLine) : OpR X (compareOp .In) (rInD2 X.K false) := by
  intro pins s σ H x y v u Q I rx ry h
  obtain ⟨a, vs, d, ds, rfl, hq, hd, ha, sd, hl, q⟩ := h
  cases ry
  rcases hq with hq | hq
  · obtain ⟨its, rv, pl, hz⟩ := I.list hq
    obtain ⟨k1, k2⟩ := items_eq hu I rx hd sd rv ha hl
    refine SeqAt.in_listAt (fun u => PyData.eqv (SeqAt.readOf s.heap u) d) pl.isList (fun w hw => k1 w (by simpa using hw)) ⟨.bl _, H, I, rfl, ?_⟩
    rw [show its.toArray.any (fun u => PyData.eqv (SeqAt.readOf s.heap u) d) = its.any (fun u => PyData.eqv (SeqAt.readOf s.heap u) d) by simp, k2]
    exact q
  · obtain ⟨its, rv, pl, hz⟩ := I.tuple hq
    obtain ⟨k1, k2⟩ := items_eq hu I rx hd sd rv ha hl
    refine SeqAt.in_tupleAt (fun u => PyData.eqv (SeqAt.readOf s.heap u) d) pl (fun w hw => k1 w (by simpa using hw)) ⟨.bl _, H, I, rfl, ?_⟩
    rw [show its.toArray.any (fun u => PyData.eqv (SeqAt.readOf s.heap u) d) = its.any (fun u => PyData.eqv (SeqAt.readOf s.heap u) d) by simp, k2]
    exact q
theorem op_notInD2 (hu : X.A.units + 65 < cLine) : OpR X (compareOp .NotIn) (rInD2 X.K true) := by
  intro pins s σ H x y v u Q I rx ry h
  obtain ⟨a, vs, d, ds, rfl, hq, hd, ha, sd, hl, q⟩ := h
  cases ry
  rcases hq with hq | hq
  · obtain ⟨its, rv, pl, hz⟩ := I.list hq
    obtain ⟨k1, k2⟩ := items_eq hu I rx hd sd rv ha hl
    refine SeqAt.notIn_listAt (fun u => PyData.eqv (SeqAt.readOf s.heap u) d) pl.isList (fun w hw => k1 w (by simpa using hw)) ⟨.bl _, H, I, rfl, ?_⟩
    rw [show its.toArray.any (fun u => PyData.eqv (SeqAt.readOf s.heap u) d) = its.any (fun u => PyData.eqv (SeqAt.readOf s.heap u) d) by simp, k2]
    exact q
  · obtain ⟨its, rv, pl, hz⟩ := I.tuple hq
    obtain ⟨k1, k2⟩ := items_eq hu I rx hd sd rv ha hl
    refine SeqAt.notIn_tupleAt (fun u => PyData.eqv (SeqAt.readOf s.heap u) d) pl (fun w hw => k1 w (by simpa using hw)) ⟨.bl _, H, I, rfl, ?_⟩
    rw [show its.toArray.any (fun u => PyData.eqv (SeqAt.readOf s.heap u) d) = its.any (fun u => PyData.eqv (SeqAt.readOf s.heap u) d) by simp, k2]
    exact q
def rInAll (K : PySem.W.Frag) : R2 := fun x y H Q => rInS x y H Q ∨ rInD2 K false x y H Q
theorem op_inAll (hu : X.A.units + 65 < cLine) : OpR X (compareOp .In) (rInAll X.K) := op_inS.or (op_inD2 hu)
theorem rc_items {xs : List P} (h : RC kx H b (.lst xs) v ∨ RC kx H b (.tup xs) v) (hd : P.deps deep xs = true) : ∃ a vs, v = .ref a ∧ (SqL kx.K H a vs ∨ SqT kx.K H a vs) ∧ DpAll kx.K H vs (pds xs) ∧ PyData.canLayAll0 (pds xs) = true := by
  rcases h with h | h
  · obtain ⟨a, vs, rfl, h1, h2⟩ := rc_lst h
    obtain ⟨z1, z2, _⟩ := pds_has deep xs vs h2 hd
    exact ⟨a, vs, rfl, .inl (.of h1), z1, z2⟩
  · obtain ⟨a, vs, rfl, h1, h2⟩ := rc_tup h
    obtain ⟨z1, z2, _⟩ := pds_has deep xs vs h2 hd
    exact ⟨a, vs, rfl, .inr h1, z1, z2⟩
theorem in_seq {xs : List P} {neg : Bool} {Q : VK} (hx : RC kx H b p v) (hy : RC kx H b (.lst xs) u ∨ RC kx H b (.tup xs) u) (hc : (p.dep deep && P.deps deep xs) = true) (q : Q (.bl (if neg then !inP p xs else inP p xs)) H) : rInD2 kx.K neg v u H Q := by
  obtain ⟨c1, c2⟩ := Bool.and_eq_true_iff.mp hc
  obtain ⟨a1, a2⟩ := rc_dp hx c1
  obtain ⟨a, vs, rfl, h1, h2, h3⟩ := rc_items hy c2
  refine ⟨a, vs, _, _, rfl, h1, a1, h2, a2, h3, ?_⟩
  rw [any_pd c1 c2]
  exact q
theorem ok_in : Op2Ok kx opIn (rInAll kx.K) := by
  intro w T lk e σ H x y v u d Q W hx hy hf k
  unfold opIn at hf
  split at hf
  · rename_i c t
    cases hf
    obtain ⟨x, rfl, h1, _⟩ := rc_str hx
    obtain ⟨y, rfl, rfl, _⟩ := rc_str hy
    have : x = ⟨#[c]⟩ := by
      cases x with
      | mk cps =>
        congr 1
        exact Array.toList_inj.mp (by simpa using h1)
    subst this
    refine .inl ⟨c, y, rfl, rfl, ?_⟩
    rw [show decide (c ∈ y.cps.toList) = y.cps.toList.contains c by rw [Bool.eq_iff_iff]; simp]
    exact k _ _ (W.outB _)
  · split at hf
    · rename_i hc
      cases hf
      exact .inr (in_seq hx (.inl hy) hc (k _ _ (W.outB _)))
    · cases hf
  · split at hf
    · rename_i hc
      cases hf
      exact .inr (in_seq hx (.inr hy) hc (k _ _ (W.outB _)))
    · cases hf
  · cases hf
def rNotInAll (K : PySem.W.Frag) : R2 := fun x y H Q => rNotInS x y H Q ∨ rInD2 K true x y H Q
theorem op_notInAll (hu : X.A.units + 65 < cLine) : OpR X (compareOp .NotIn) (rNotInAll X.K) := op_notInS.or (op_notInD2 hu)
theorem ok_notIn : Op2Ok kx opNotIn (rNotInAll kx.K) := by
  intro w T lk e σ H x y v u d Q W hx hy hf k
  unfold opNotIn at hf
  split at hf
  · rename_i bb heq
    cases hf
    unfold opIn at heq
    split at heq
    · rename_i c t
      cases heq
      obtain ⟨x, rfl, h1, _⟩ := rc_str hx
      obtain ⟨y, rfl, rfl, _⟩ := rc_str hy
      have : x = ⟨#[c]⟩ := by
        cases x with
        | mk cps =>
          congr 1
          exact Array.toList_inj.mp (by simpa using h1)
      subst this
      refine .inl ⟨c, y, rfl, rfl, ?_⟩
      rw [show decide (c ∈ y.cps.toList) = y.cps.toList.contains c by rw [Bool.eq_iff_iff]; simp]
      exact k _ _ (W.outB _)
    · split at heq
      · rename_i hc
        cases heq
        exact .inr (in_seq hx (.inl hy) hc (k _ _ (W.outB _)))
      · cases heq
    · split at heq
      · rename_i hc
        cases heq
        exact .inr (in_seq hx (.inr hy) hc (k _ _ (W.outB _)))
      · cases heq
    · cases heq
  · cases hf
/-! ### places -/
theorem atI_of {α : Type} {xs : List α} {i : Int} {j : Nat} {v : α} (h : ixOf xs.length i = some j) (hv : xs[j]? = some v) : atI xs i = some v := by
  unfold atI
  rw [ixOf_eq h]
  exact hv
theorem ok_ix : Op2Ok kx opIx (rIx kx.K) := by
  intro w T lk e σ H x y v u d Q W hx hy hf k
  unfold opIx at hf
  split at hf
  · rename_i xs i
    rw [Option.bind_eq_some_iff] at hf
    obtain ⟨j, h1, h2⟩ := hf
    rw [Option.map_eq_some_iff] at h2
    obtain ⟨p, h3, rfl⟩ := h2
    obtain ⟨a, vs, rfl, q1, r⟩ := rc_lst hx
    obtain ⟨z, hz, rz⟩ := r.get h3
    rw [rc_int hy]
    rw [r.length] at h1
    exact .inl ⟨_, _, _, _, rfl, rfl, .of q1, atI_of h1 hz, k _ _ (W.pushP rz)⟩
  · rename_i xs i
    rw [Option.bind_eq_some_iff] at hf
    obtain ⟨j, h1, h2⟩ := hf
    rw [Option.map_eq_some_iff] at h2
    obtain ⟨p, h3, rfl⟩ := h2
    obtain ⟨a, vs, rfl, q1, r⟩ := rc_tup hx
    obtain ⟨z, hz, rz⟩ := r.get h3
    rw [rc_int hy]
    rw [r.length] at h1
    exact .inr (.inl ⟨_, _, _, _, rfl, rfl, q1, atI_of h1 hz, k _ _ (W.pushP rz)⟩)
  · rename_i ns i
    rw [Option.bind_eq_some_iff] at hf
    obtain ⟨j, h1, h2⟩ := hf
    rw [Option.map_eq_some_iff] at h2
    obtain ⟨p, h3, rfl⟩ := h2
    obtain ⟨a, rfl, q1⟩ := hx
    rw [rc_int hy]
    exact .inl ⟨_, _, _, _, rfl, rfl, q1, atI_of (j := j) (v := .int p) (by rw [List.length_map]; exact h1) (by rw [List.getElem?_map, h3]; rfl), k _ _ (W.outI _)⟩
  · rename_i s i
    split at hf
    · rename_i hl
      rw [Option.bind_eq_some_iff] at hf
      obtain ⟨j, h1, h2⟩ := hf
      rw [Option.map_eq_some_iff] at h2
      obtain ⟨c, h3, rfl⟩ := h2
      obtain ⟨x, rfl, rfl, hx1⟩ := rc_str hx
      rw [rc_int hy]
      refine .inr (.inr ⟨_, _, _, rfl, rfl, by rw [str_len]; exact lineOk (Nat.le_of_lt hl), atI_of h1 h3, k _ _ (W.outS rfl ?_)⟩)
      have hc : x.cps[j]? = some c := by simpa using h3
      have := Array.all_eq_true.mp hx1 j (Array.getElem?_eq_some_iff.mp hc).1
      rw [(Array.getElem?_eq_some_iff.mp hc).2] at this
      simpa using this
    · cases hf
  · cases hf
theorem ok_neg : Op1Ok kx opNeg (rU fun i => .int (-i)) := by
  intro w T lk e σ H x v d Q W hx hf k
  unfold opNeg at hf
  split at hf
  · cases hf
    rw [rc_int hx]
    exact ⟨_, rfl, k _ _ (W.outI _)⟩
  · cases hf

/-! ### functions by contents -/
def mFn (f : List P → Option D) (as : List (M Rv)) : M Rv := fun c e => (evAs true (as.map fun m => (false, m)) c e).andThen fun rs e1 => match rs.mapM (Rv.pv e1) with
  | some ps => (match f ps with
    | some d => .ok (.val d) e1
    | none => .stk)
  | none => .stk
def RCs (kx : Kx) (H : Hp) (b : Addr → Prop) : List P → List V → Prop
  | [], [] => True
  | p :: ps, v :: vs => RC kx H b p v ∧ RCs kx H b ps vs
  | _, _ => False
def FnOk' (kx : Kx) (f : List P → Option D) (r : List V → Hp → VK → Prop) : Prop := ∀ (w : Wo) (T : Tm) (lk : List Nat) (e : Ev) (σ : St) (H : Hp) (ps : List P) (vs : List V) (d : D) (Q : VK),
  Wd kx w T lk e σ H → RCs kx H (bad w T e σ) ps vs → f ps = some d → (∀ v' H', Wd kx w (T ++ [(v', .val d)]) lk e σ H' → Q v' H') → r vs H Q
theorem rcs_of (W : Wd kx w T lk e σ H) : ∀ {rs : List Rv} {vs : List V} {ps : List P}, vs.length = rs.length → (∀ q ∈ tmsOf vs rs e, q ∈ T) → rs.mapM (Rv.pv e) = some ps → RCs kx H (bad w T e σ) ps vs
  | [], [], ps, _, _, h => by
    simp at h; subst h; trivial
  | [], _ :: _, _, h, _, _ => by simp at h
  | _ :: _, [], _, h, _, _ => by simp at h
  | r :: rs, v :: vs, ps, hl, hs, h => by
    rw [List.mapM_cons] at h
    simp only [bind, Option.bind_eq_some_iff, pure, Option.some.injEq] at h
    obtain ⟨p, h1, ps', h2, rfl⟩ := h
    refine ⟨W.pv (r := r) (e0 := e) (hs _ (by simp [tmsOf])) h1, rcs_of W (by simpa using hl) (fun q hq => hs q ?_) h2⟩
    simp only [tmsOf, List.zip_cons_cons, List.map_cons, List.mem_cons] at hq ⊢
    exact .inr hq
theorem rd_fn {f : List P → Option D} {as : List (M Rv)} {r : List V → Hp → VK → Prop} (ho : FnOk' R.kx f r) {Q : VK} (h : rdE R (mFn f as) σ H Q) : tCB r (rdAs R (evAs true (as.map fun m => (false, m)))) σ H Q := by
  obtain ⟨w, T, lk, e, hm, W, h⟩ := h
  refine ⟨w, T, lk, e, hm, W, (outG_andThen h).mono fun rs e1 h1 vs H1 hl W1 => ?_⟩
  cases q1 : rs.mapM (Rv.pv e1) with
  | none => simp only [q1] at h1; exact h1.elim
  | some ps =>
    simp only [q1] at h1
    cases q2 : f ps with
    | none => simp only [q2] at h1; exact h1.elim
    | some d =>
      simp only [q2] at h1
      exact ho w _ _ e1 σ H1 ps vs d Q W1 (rcs_of W1 hl (fun q hq => List.mem_append_right _ hq) q1) q2 fun v' H' W' => h1 v' H' (W'.fin W.slin)

end
end Gr
set_option Elab.async false
set_option linter.all false
set_option maxRecDepth 100000
/-! G15: built-in functions. -/
namespace Gr
open PySem PySem.Spec L2
/-! ### classes of data -/
inductive Ty where
  | tB | tI | tS | tT | tL | tD
def Ty.name : Ty → String
  | .tB => "bool" | .tI => "int" | .tS => "str" | .tT => "tuple" | .tL => "list" | .tD => "dict"
def isOne : Ty → P → Bool
  | .tB, .bl _ => true
  | .tI, .bl _ => true
  | .tI, .int _ => true
  | .tS, .str _ => true
  | .tT, .tup _ => true
  | .tL, .lst _ => true
  | .tD, .dct _ _ => true
  | _, _ => false
def isiP (ts : List Ty) (p : P) : Option D := match p with
  | .inp _ => none
  | p => some (.pure (.bl (ts.any fun t => isOne t p)))
def fLen : List P → Option D
  | [.str s] => if s.length < line then some (.pure (.int s.length)) else none
  | [.tup xs] => some (.pure (.int xs.length))
  | [.lst xs] => some (.pure (.int xs.length))
  | [.inp xs] => some (.pure (.int xs.length))
  | _ => none
def fInt : List P → Option D
  | [.int i] => some (.pure (.int i))
  | [.bl b] => some (.pure (.int (if b then 1 else 0)))
  | _ => none
def fAbs : List P → Option D
  | [.int i] => some (.pure (.int (if i < 0 then -i else i)))
  | _ => none
def fList : List P → Option D
  | [.lst xs] => some (.ols xs)
  | [.tup xs] => some (.ols xs)
  | [.inp ns] => some (.ols (ns.map .int))
  | _ => none
def fTuple : List P → Option D
  | [.lst xs] => some (.pure (.tup xs))
  | [.tup xs] => some (.pure (.tup xs))
  | [.inp ns] => some (.pure (.tup (ns.map .int)))
  | _ => none
def intsP : List P → Option (List Int)
  | [] => some []
  | .int i :: ps => (intsP ps).map (i :: ·)
  | _ => none
def blsP : List P → Option (List Bool)
  | [] => some []
  | .bl i :: ps => (blsP ps).map (i :: ·)
  | _ => none
def strsP : List P → Option (List (List Nat))
  | [] => some []
  | .str i :: ps => (strsP ps).map (i :: ·)
  | _ => none
def maxI : Int → List Int → Int
  | m, [] => m
  | m, x :: xs => maxI (if x > m then x else m) xs
def minI : Int → List Int → Int
  | m, [] => m
  | m, x :: xs => minI (if x < m then x else m) xs
def fMax : List P → Option D
  | [.int i, .int j] => some (.pure (.int (if j > i then j else i)))
  | [.lst xs] => match intsP xs with
    | some (n :: ns) => some (.pure (.int (maxI n ns)))
    | _ => none
  | _ => none
def fMin : List P → Option D
  | [.int i, .int j] => some (.pure (.int (if j < i then j else i)))
  | [.lst xs] => match intsP xs with
    | some (n :: ns) => some (.pure (.int (minI n ns)))
    | _ => none
  | _ => none
def fSum : List P → Option D
  | [.lst xs] => (intsP xs).map fun ns => .pure (.int ns.sum)
  | _ => none
def fAll : List P → Option D
  | [.lst xs] => (blsP xs).map fun bs => .pure (.bl (bs.all id))
  | _ => none
def fAny : List P → Option D
  | [.lst xs] => (blsP xs).map fun bs => .pure (.bl (bs.any id))
  | _ => none
section
variable {X : Cx} {R : Rc} {kx : Kx} {w : Wo} {T S : Tm} {lk lk' : List Nat} {e : Ev} {σ σ' : St} {H H' : Hp} {b b' : Addr → Prop} {p q : P} {v u : V} {K : PySem.W.Frag} {pos pos' : Pos} {a : Expr} {ma : M Rv}
def tyN : P → String
  | .non => "NoneType"
  | .bl _ => "bool"
  | .int _ => "int"
  | .str _ => "str"
  | .tup _ => "tuple"
  | .lst _ => "list"
  | .dct _ _ => "dict"
  | .inp _ => "list"
theorem kit_ty {K : PySem.W.Frag} (p : P) (hp : ∀ ns, p ≠ .inp ns) (c : Ty) : PySem.W.kitOne K (.type (tyN p)) (.type c.name) = some (isOne c p) := by
  cases p <;> first | exact absurd rfl (hp _) | (cases c <;> kernel_rfl)
theorem kit_any {K : PySem.W.Frag} {p : P} (hp : ∀ ns, p ≠ .inp ns) : ∀ (cs : List Ty), PySem.W.kitAny K (.type (tyN p)) (cs.map fun c => .type c.name) = some (cs.any fun c => isOne c p)
  | [] => rfl
  | c :: cs => by
    have h := kit_ty (K := K) p hp c
    simp only [List.map_cons, PySem.W.kitAny, List.any_cons, h]
    cases isOne c p
    · simpa using kit_any hp cs
    · rfl
theorem TyX.grow {t : Value} {p : Addr} {o : HO} (h : TyX K H v t) (hp0 : H p = none) : TyX K (upd H p o) v t := by
  cases h with
  | base h => cases h with
    | non => exact .base .non
    | bl k => exact .base (.bl k)
    | int i => exact .base (.int i)
    | str s => exact .base (.str s)
    | flt f => exact .base (.flt f)
    | lst h1 => exact .base (.lst (by rw [upd_ne (ne_of_none h1 hp0)]; exact h1))
    | frz h1 => exact .base (.frz (by rw [upd_ne (ne_of_none h1 hp0)]; exact h1))
    | tup h1 => exact .base (.tup (by rw [upd_ne (ne_of_none h1 hp0)]; exact h1))
    | dK h1 => exact .base (.dK (by rw [upd_ne (ne_of_none h1 hp0)]; exact h1))
    | dT h1 => exact .base (.dT (by rw [upd_ne (ne_of_none h1 hp0)]; exact h1))
    | ins h1 h2 h3 h4 h5 h6 => exact .base (.ins (by rw [upd_ne (ne_of_none h1 hp0)]; exact h1) h2 h3 h4 h5 h6)
  | byt b => exact .byt b
  | set h1 => exact .set (by rw [upd_ne (ne_of_none h1 hp0)]; exact h1)
  | kList h1 h2 => exact .kList h1 h2
  | kTuple h1 h2 => exact .kTuple h1 h2
  | kDict h1 h2 => exact .kDict h1 h2
  | fTuple h1 => exact .fTuple (by rw [upd_ne (ne_of_none h1 hp0)]; exact h1)
  | fDict h1 => exact .fDict (by rw [upd_ne (ne_of_none h1 hp0)]; exact h1)
theorem rc_ty (h : RC kx H b p v) (hp : ∀ ns, p ≠ .inp ns) : TyX kx.K H v (.type (tyN p)) := by
  cases p with
  | non => rw [rc_non h]; exact .base .non
  | bl k => rw [bl_of h]; exact .base (.bl k)
  | int i => rw [rc_int h]; exact .base (.int i)
  | str s => obtain ⟨x, rfl, _⟩ := rc_str h; exact .base (.str x)
  | tup xs =>
    obtain ⟨a, vs, rfl, h1, _⟩ := rc_tup h
    rcases h1 with (h1 | ⟨o, h1⟩) | ⟨o, its, n, h1, h2, _⟩
    · exact .base (.tup h1)
    · exact .fTuple h1
    · exact .kTuple h1 h2
  | lst xs => obtain ⟨a, vs, rfl, h1, _⟩ := rc_lst h; exact .base (.lst h1)
  | dct ks xs =>
    obtain ⟨a, rfl, h⟩ := h
    rcases h with ⟨kvs, h, _⟩ | ⟨kvs, h, _⟩
    · exact .base (.dK h)
    · exact .base (.dT h)
  | inp ns => exact absurd rfl (hp ns)
theorem boot_ty (c : Ty) : bootBuiltins (PySem.Str.ofString c.name) = some (.type c.name) := by cases c <;> kernel_rfl
/-- isinstance(e, T) -/
theorem s_isi1 {c : Ty} {x : Str} {p1 p2 : Pos} (hK : R.kx.K = X.K) (hg : Gl X "isinstance") (hm : X.mg "isinstance" = none) (hx : x = PySem.Str.ofString c.name) (hg2 : Gl X x) (hm2 : X.mg x = none) (ha : PE X a (rdE R ma)) (hs : unstar a = true) :
    PE X (.Call (.Name "isinstance" p1) [a, .Name x p2] [] pos) (rdE R (mOp1 (isiP [c]) ma)) := by
  subst hx
  have ty : PE X (.Name (PySem.Str.ofString c.name) p2) (tC (.ty c.name)) := pe_bltn hg2 hm2 (boot_ty c) rfl (by cases c <;> decide) (by cases c <;> decide)
  refine PEimp (pe_callB call_isi hg hm (by kernel_rfl) (pa_cons ha (pa_cons ty pa_nil) (star_plain hs)) (by decide) (by decide) (star_plain hs)) fun σ H Q h => ?_
  show rdE R ma σ H fun x H1 => rIsi X.K [x, .ty c.name] H1 Q
  refine (show tUn (fun x H1 Q => rIsi X.K [x, .ty c.name] H1 Q) (rdE R ma) σ H Q from rd_op1 ?_ h)
  intro w T lk e σ H x v d Q W hx hf k
  have hp : ∀ ns, x ≠ .inp ns := fun ns z => by subst z; cases hf
  have hf : some (D.pure (.bl ([c].any fun t => isOne t x))) = some d := by cases x <;> first | exact hf | exact absurd rfl (hp _)
  cases hf
  refine ⟨_, _, _, _, _, rfl, .ty _, by rw [← hK]; exact rc_ty hx hp, ?_, k _ _ (W.outB _)⟩
  rw [kit_ty (K := X.K) x hp c]
  simp
/-- .. (T, U) -/
theorem s_isi2 {c c' : Ty} {x y : Str} {p1 p2 p3 p4 : Pos} {k : Nat} (hK : R.kx.K = X.K) (hg : Gl X "isinstance") (hm : X.mg "isinstance" = none) (hx : x = PySem.Str.ofString c.name) (hg2 : Gl X x) (hm2 : X.mg x = none)
    (hy : y = PySem.Str.ofString c'.name) (hg3 : Gl X y) (hm3 : X.mg y = none) (ha : PE X a (rdE R ma)) (hs : unstar a = true) :
    PE X (.Call (.Name "isinstance" p1) [a, .Tuple [.Name x p2, .Name y p3] k p4] [] pos) (rdE R (mOp1 (isiP [c, c']) ma)) := by
  subst hx hy
  have ty : PE X (.Name (PySem.Str.ofString c.name) p2) (tC (.ty c.name)) := pe_bltn hg2 hm2 (boot_ty c) rfl (by cases c <;> decide) (by cases c <;> decide)
  have ty' : PE X (.Name (PySem.Str.ofString c'.name) p3) (tC (.ty c'.name)) := pe_bltn hg3 hm3 (boot_ty c') rfl (by cases c' <;> decide) (by cases c' <;> decide)
  refine PEimp (pe_callB call_isiT hg hm (by kernel_rfl) (pa_cons ha (pa_cons (pe_tup (pa_cons ty (pa_cons ty' pa_nil))) pa_nil) (star_plain hs)) (by decide) (by decide) (star_plain hs)) fun σ H Q h => ?_
  show rdE R ma σ H fun x H1 => (2 : Nat) ≤ sizeLine ∧ ∀ p, H1 p = none → rIsiT X.K [x, .ref p] (upd H1 p (.tup [.ty c.name, .ty c'.name])) Q
  refine (show tUn (fun x H1 Q => (2 : Nat) ≤ sizeLine ∧ ∀ p, H1 p = none → rIsiT X.K [x, .ref p] (upd H1 p (.tup [.ty c.name, .ty c'.name])) Q) (rdE R ma) σ H Q from rd_op1 ?_ h)
  intro w T lk e σ H x v d Q W hx hf k
  have hp : ∀ ns, x ≠ .inp ns := fun ns z => by subst z; cases hf
  have hf : some (D.pure (.bl ([c, c'].any fun t => isOne t x))) = some d := by cases x <;> first | exact hf | exact absurd rfl (hp _)
  cases hf
  refine ⟨by rw [sizeLine_eq]; omega, fun p hp0 => ⟨_, p, _, _, [.type c.name, .type c'.name], _, rfl, upd_same, .cons (.ty _) (.cons (.ty _) .nil), ?_, kit_any (K := X.K) hp [c, c'], k _ _ ((W.grow hp0).outB _)⟩⟩
  rw [← hK]
  exact TyX.grow (rc_ty (kx := R.kx) (b := bad w T e σ) (H := H) hx hp) hp0
end
end Gr
set_option Elab.async false
set_option linter.all false
set_option maxRecDepth 100000
/-! G16: len, int, list, tuple, max, min, sum, all .. -/
namespace Gr
open PySem PySem.Spec L2
section
variable {X : Cx} {R : Rc} {kx : Kx} {w : Wo} {T S : Tm} {lk lk' : List Nat} {e : Ev} {σ σ' : St} {H H' : Hp} {b b' : Addr → Prop} {p q : P} {v u : V} {K : PySem.W.Frag} {pos pos' : Pos} {a : Expr} {ma : M Rv}
def aRd (R : Rc) (as : List (M Rv)) : TA := rdAs R (evAs true (as.map fun m => (false, m)))
theorem s_aR0 : PA X [] (aRd R []) := s_as_nil
theorem s_aR {m : M Rv} {as : List (M Rv)} {x : Expr} {es : List Expr} (hx : PE X x (rdE R m)) (hr : PA X es (aRd R as)) (hs : unstar x = true) : PA X (x :: es) (aRd R (m :: as)) := s_as_cons hx hr hs
theorem s_fnB {id : String} {x : Str} {f : List P → Option D} {r : List V → Hp → VK → Prop} {es : List Expr} {as : List (M Rv)} (hc : CallR X (.builtin id) r) (ho : FnOk' R.kx f r) (hv : bootBuiltins x = some (.builtin id)) (hn : x ≠ "__name__") (hdb : (x == ("__debug__" : Str)) = false)
    (hg : Gl X x) (hm : X.mg x = none) (ha : PA X (a :: es) (aRd R as)) (hs : unstar a = true) (hpl : (backTo pos (starEach es X.env)).any (·.1) = false) : PE X (.Call (.Name x pos') (a :: es) [] pos) (rdE R (mFn f as)) :=
  PEimp (pe_callB hc hg hm hv ha hn hdb (star_plain hs) hpl) fun _ _ _ h => rd_fn ho h
theorem s_fnT {id : String} {x : Str} {f : List P → Option D} {r : List V → Hp → VK → Prop} {es : List Expr} {as : List (M Rv)} (hc : CallR X (.type id) r) (ho : FnOk' R.kx f r) (hv : bootBuiltins x = some (.type id)) (hn : x ≠ "__name__") (hdb : (x == ("__debug__" : Str)) = false)
    (hg : Gl X x) (hm : X.mg x = none) (ha : PA X (a :: es) (aRd R as)) (hs : unstar a = true) (hpl : (backTo pos (starEach es X.env)).any (·.1) = false) : PE X (.Call (.Name x pos') (a :: es) [] pos) (rdE R (mFn f as)) :=
  PEimp (pe_callTy hc hg hm hv ha hn hdb (star_plain hs) hpl) fun _ _ _ h => rd_fn ho h
theorem rcs1 {vs : List V} (h : RCs kx H b [p] vs) : ∃ v, vs = [v] ∧ RC kx H b p v := by
  cases vs with
  | nil => exact h.elim
  | cons v vs => cases vs with
    | nil => exact ⟨v, rfl, h.1⟩
    | cons _ _ => exact h.2.elim
theorem rcs2 {vs : List V} (h : RCs kx H b [p, q] vs) : ∃ v u, vs = [v, u] ∧ RC kx H b p v ∧ RC kx H b q u := by
  cases vs with
  | nil => exact h.elim
  | cons v vs =>
    obtain ⟨u, rfl, k⟩ := rcs1 h.2
    exact ⟨v, u, rfl, h.1, k⟩
theorem ok_len : FnOk' kx fLen (fun xs H Q => ∃ x n, xs = [x] ∧ LenV kx.K x H n ∧ Q (.int n) H) := by
  intro w T lk e σ H ps vs d Q W hx hf k
  unfold fLen at hf
  split at hf
  · split at hf
    · rename_i hl
      cases hf
      obtain ⟨v, rfl, h⟩ := rcs1 hx
      obtain ⟨x, rfl, rfl, _⟩ := rc_str h
      exact ⟨_, x.length, rfl, ⟨by rw [str_len]; exact lineOk (Nat.le_of_lt hl), rfl⟩, by rw [str_len]; exact k _ _ (W.outI _)⟩
    · cases hf
  · cases hf
    obtain ⟨v, rfl, h⟩ := rcs1 hx
    obtain ⟨a, us, rfl, h1, h2⟩ := rc_tup h
    exact ⟨_, _, rfl, .inr ⟨us, h1, rfl⟩, by rw [← h2.length]; exact k _ _ (W.outI _)⟩
  · cases hf
    obtain ⟨v, rfl, h⟩ := rcs1 hx
    obtain ⟨a, us, rfl, h1, h2⟩ := rc_lst h
    exact ⟨_, _, rfl, .inl ⟨us, .of h1, rfl⟩, by rw [← h2.length]; exact k _ _ (W.outI _)⟩
  · cases hf
    obtain ⟨v, rfl, a, rfl, h1⟩ := rcs1 hx
    exact ⟨_, _, rfl, .inl ⟨_, h1, rfl⟩, by rw [List.length_map]; exact k _ _ (W.outI _)⟩
  · cases hf
theorem ok_int : FnOk' kx fInt (fun xs H Q => (∃ i, xs = [.int i] ∧ Q (.int i) H) ∨ ∃ k, xs = [.bl k] ∧ Q (.int (if k then 1 else 0)) H) := by
  intro w T lk e σ H ps vs d Q W hx hf k
  unfold fInt at hf
  split at hf
  · cases hf
    obtain ⟨v, rfl, h⟩ := rcs1 hx
    rw [rc_int h]
    exact .inl ⟨_, rfl, k _ _ (W.outI _)⟩
  · cases hf
    obtain ⟨v, rfl, h⟩ := rcs1 hx
    rw [bl_of h]
    exact .inr ⟨_, rfl, k _ _ (W.outI _)⟩
  · cases hf
theorem ok_abs : FnOk' kx fAbs (fun xs H Q => ∃ i, xs = [.int i] ∧ Q (.int (if i < 0 then -i else i)) H) := by
  intro w T lk e σ H ps vs d Q W hx hf k
  unfold fAbs at hf
  split at hf
  · cases hf
    obtain ⟨v, rfl, h⟩ := rcs1 hx
    rw [rc_int h]
    exact ⟨_, rfl, k _ _ (W.outI _)⟩
  · cases hf
theorem rfs_ints : ∀ (ns : List Int), RFs K H b (ns.map .int) (ns.map V.int)
  | [] => .nil
  | n :: ns => .cons (by simp [RF]) (rfs_ints ns)
theorem ok_list : FnOk' kx fList (fun xs H Q => ∃ p ys, xs = [.ref p] ∧ (SqL kx.K H p ys ∨ SqT kx.K H p ys) ∧ ∀ l, H l = none → Q (.ref l) (upd H l (.lst ys))) := by
  intro w T lk e σ H ps vs d Q W hx hf k
  unfold fList at hf
  split at hf
  · cases hf
    obtain ⟨v, rfl, h⟩ := rcs1 hx
    obtain ⟨a, us, rfl, h1, h2⟩ := rc_lst h
    exact ⟨_, _, rfl, .inl (.of h1), fun l hl => k _ _ (W.pushL hl h2)⟩
  · cases hf
    obtain ⟨v, rfl, h⟩ := rcs1 hx
    obtain ⟨a, us, rfl, h1, h2⟩ := rc_tup h
    exact ⟨_, _, rfl, .inr h1, fun l hl => k _ _ (W.pushL hl h2)⟩
  · cases hf
    obtain ⟨v, rfl, a, rfl, h1⟩ := rcs1 hx
    exact ⟨_, _, rfl, .inl h1, fun l hl => k _ _ (W.pushL hl (rfs_ints _))⟩
  · cases hf
theorem ok_tuple : FnOk' kx fTuple (fun xs H Q => ∃ p ys, xs = [.ref p] ∧ ((SqL kx.K H p ys ∧ ∀ l, H l = none → Q (.ref l) (upd H l (.tup ys))) ∨ (SqT kx.K H p ys ∧ Q (.ref p) H))) := by
  intro w T lk e σ H ps vs d Q W hx hf k
  unfold fTuple at hf
  split at hf
  · cases hf
    obtain ⟨v, rfl, h⟩ := rcs1 hx
    obtain ⟨a, us, rfl, h1, h2⟩ := rc_lst h
    exact ⟨_, _, rfl, .inl ⟨.of h1, fun l hl => k _ _ (W.pushT hl h2)⟩⟩
  · cases hf
    obtain ⟨v, rfl, h⟩ := rcs1 hx
    obtain ⟨a, us, rfl, h1, h2⟩ := rc_tup h
    refine ⟨_, _, rfl, .inr ⟨h1, k _ _ (W.pushP ?_)⟩⟩
    simp only [RF]
    exact ⟨_, _, rfl, h1, h2⟩
  · cases hf
    obtain ⟨v, rfl, a, rfl, h1⟩ := rcs1 hx
    exact ⟨_, _, rfl, .inl ⟨h1, fun l hl => k _ _ (W.pushT hl (rfs_ints _))⟩⟩
  · cases hf
theorem intsP_of : ∀ {ps : List P} {ns : List Int} {vs : List V}, intsP ps = some ns → RFs K H b ps vs → vs = ns.map V.int
  | [], ns, vs, h, r => by
    simp [intsP] at h; subst h
    simpa using r.nil_of
  | p :: ps, ns, vs, h, r => by
    obtain ⟨v, r', rfl, h1, h2⟩ := r.cons_of
    cases p with
    | int i =>
      simp only [intsP, Option.map_eq_some_iff] at h
      obtain ⟨ns', h3, rfl⟩ := h
      have h1 : v = .int i := by simpa [RF] using h1
      rw [h1, intsP_of h3 h2]; rfl
    | _ => simp [intsP] at h
theorem blsP_of : ∀ {ps : List P} {ns : List Bool} {vs : List V}, blsP ps = some ns → RFs K H b ps vs → vs = ns.map V.bl
  | [], ns, vs, h, r => by
    simp [blsP] at h; subst h
    simpa using r.nil_of
  | p :: ps, ns, vs, h, r => by
    obtain ⟨v, r', rfl, h1, h2⟩ := r.cons_of
    cases p with
    | bl i =>
      simp only [blsP, Option.map_eq_some_iff] at h
      obtain ⟨ns', h3, rfl⟩ := h
      have h1 : v = .bl i := by simpa [RF] using h1
      rw [h1, blsP_of h3 h2]; rfl
    | _ => simp [blsP] at h
theorem maxI_ge : ∀ (xs : List Int) (m : Int), m ≤ (maxI m xs) ∧ (∀ x ∈ xs, x ≤ (maxI m xs)) ∧ (maxI m xs = m ∨ maxI m xs ∈ xs)
  | [], m => ⟨Int.le_refl m, (fun x h => by cases h), .inl rfl⟩
  | x :: xs, m => by
    have hm : m ≤ (if x > m then x else m) ∧ x ≤ (if x > m then x else m) ∧ ((if x > m then x else m) = m ∨ (if x > m then x else m) = x) := by
      by_cases h : x > m
      · rw [if_pos h]; exact ⟨by omega, by omega, .inr rfl⟩
      · rw [if_neg h]; exact ⟨by omega, by omega, .inl rfl⟩
    unfold maxI
    generalize (if x > m then x else m) = z at hm ⊢
    obtain ⟨h1, h2, h3⟩ := maxI_ge xs z
    obtain ⟨k1, k2, k3⟩ := hm
    refine ⟨by omega, fun y hy => ?_, ?_⟩
    · rcases List.mem_cons.mp hy with rfl | hy
      · omega
      · exact h2 y hy
    · rcases h3 with h3 | h3
      · rcases k3 with k3 | k3
        · exact .inl (h3.trans k3)
        · exact .inr (by rw [h3, k3]; exact List.mem_cons_self)
      · exact .inr (List.mem_cons_of_mem _ h3)
theorem minI_le : ∀ (xs : List Int) (m : Int), (minI m xs) ≤ m ∧ (∀ x ∈ xs, (minI m xs) ≤ x) ∧ (minI m xs = m ∨ minI m xs ∈ xs)
  | [], m => ⟨Int.le_refl m, (fun x h => by cases h), .inl rfl⟩
  | x :: xs, m => by
    have hm : (if x < m then x else m) ≤ m ∧ (if x < m then x else m) ≤ x ∧ ((if x < m then x else m) = m ∨ (if x < m then x else m) = x) := by
      by_cases h : x < m
      · rw [if_pos h]; exact ⟨by omega, by omega, .inr rfl⟩
      · rw [if_neg h]; exact ⟨by omega, by omega, .inl rfl⟩
    unfold minI
    generalize (if x < m then x else m) = z at hm ⊢
    obtain ⟨h1, h2, h3⟩ := minI_le xs z
    obtain ⟨k1, k2, k3⟩ := hm
    refine ⟨by omega, fun y hy => ?_, ?_⟩
    · rcases List.mem_cons.mp hy with rfl | hy
      · omega
      · exact h2 y hy
    · rcases h3 with h3 | h3
      · rcases k3 with k3 | k3
        · exact .inl (h3.trans k3)
        · exact .inr (by rw [h3, k3]; exact List.mem_cons_self)
      · exact .inr (List.mem_cons_of_mem _ h3)
theorem ok_max : FnOk' kx fMax (fun xs H Q => (∃ i j, xs = [.int i, .int j] ∧ Q (.int (if j > i then j else i)) H) ∨ rMax kx.K xs H Q) := by
  intro w T lk e σ H ps vs d Q W hx hf k
  unfold fMax at hf
  split at hf
  · cases hf
    obtain ⟨v, u, rfl, h1, h2⟩ := rcs2 hx
    rw [rc_int h1, rc_int h2]
    exact .inl ⟨_, _, rfl, k _ _ (W.outI _)⟩
  · split at hf
    · rename_i n ns hi
      cases hf
      obtain ⟨v, rfl, h⟩ := rcs1 hx
      obtain ⟨a, us, rfl, h1, h2⟩ := rc_lst h
      have := intsP_of hi h2
      subst this
      obtain ⟨g1, g2, g3⟩ := maxI_ge ns n
      refine .inr ⟨a, n :: ns, rfl, .of h1, by simp, fun m hm hle => ?_⟩
      have : m = maxI n ns := by
        have a1 : maxI n ns ≤ m := by
          rcases g3 with g3 | g3
          · rw [g3]; exact hle n List.mem_cons_self
          · exact hle _ (List.mem_cons_of_mem _ g3)
        have a2 : m ≤ maxI n ns := by
          rcases List.mem_cons.mp hm with rfl | hm
          · exact g1
          · exact g2 m hm
        omega
      rw [this]
      exact k _ _ (W.outI _)
    · cases hf
  · cases hf
theorem ok_min : FnOk' kx fMin (fun xs H Q => (∃ i j, xs = [.int i, .int j] ∧ Q (.int (if j < i then j else i)) H) ∨ rMin kx.K xs H Q) := by
  intro w T lk e σ H ps vs d Q W hx hf k
  unfold fMin at hf
  split at hf
  · cases hf
    obtain ⟨v, u, rfl, h1, h2⟩ := rcs2 hx
    rw [rc_int h1, rc_int h2]
    exact .inl ⟨_, _, rfl, k _ _ (W.outI _)⟩
  · split at hf
    · rename_i n ns hi
      cases hf
      obtain ⟨v, rfl, h⟩ := rcs1 hx
      obtain ⟨a, us, rfl, h1, h2⟩ := rc_lst h
      have := intsP_of hi h2
      subst this
      obtain ⟨g1, g2, g3⟩ := minI_le ns n
      refine .inr ⟨a, n :: ns, rfl, .of h1, by simp, fun m hm hle => ?_⟩
      have : m = minI n ns := by
        have a1 : m ≤ minI n ns := by
          rcases g3 with g3 | g3
          · rw [g3]; exact hle n List.mem_cons_self
          · exact hle _ (List.mem_cons_of_mem _ g3)
        have a2 : minI n ns ≤ m := by
          rcases List.mem_cons.mp hm with rfl | hm
          · exact g1
          · exact g2 m hm
        omega
      rw [this]
      exact k _ _ (W.outI _)
    · cases hf
  · cases hf
theorem ok_sum : FnOk' kx fSum (rSum kx.K) := by
  intro w T lk e σ H ps vs d Q W hx hf k
  unfold fSum at hf
  split at hf
  · rw [Option.map_eq_some_iff] at hf
    obtain ⟨ns, hi, rfl⟩ := hf
    obtain ⟨v, rfl, h⟩ := rcs1 hx
    obtain ⟨a, us, rfl, h1, h2⟩ := rc_lst h
    have := intsP_of hi h2
    subst this
    exact ⟨a, ns, rfl, .of h1, k _ _ (W.outI _)⟩
  · cases hf
theorem ok_all : FnOk' kx fAll (rAll kx.K) := by
  intro w T lk e σ H ps vs d Q W hx hf k
  unfold fAll at hf
  split at hf
  · rw [Option.map_eq_some_iff] at hf
    obtain ⟨ns, hi, rfl⟩ := hf
    obtain ⟨v, rfl, h⟩ := rcs1 hx
    obtain ⟨a, us, rfl, h1, h2⟩ := rc_lst h
    have := blsP_of hi h2
    subst this
    exact ⟨a, ns, rfl, .of h1, k _ _ (W.outB _)⟩
  · cases hf
theorem ok_any : FnOk' kx fAny (rAny kx.K) := by
  intro w T lk e σ H ps vs d Q W hx hf k
  unfold fAny at hf
  split at hf
  · rw [Option.map_eq_some_iff] at hf
    obtain ⟨ns, hi, rfl⟩ := hf
    obtain ⟨v, rfl, h⟩ := rcs1 hx
    obtain ⟨a, us, rfl, h1, h2⟩ := rc_lst h
    have := blsP_of hi h2
    subst this
    exact ⟨a, ns, rfl, .of h1, k _ _ (W.outB _)⟩
  · cases hf
end
end Gr
set_option Elab.async false
set_option linter.all false
set_option maxRecDepth 100000
/-! G17: parts; methods that read. -/
namespace Gr
open PySem PySem.Spec L2
/-! ### parts -/
def sIxP (n d : Nat) : Option Int → Nat
  | none => d
  | some v => if v < 0 then (v + (n : Int)).toNat else min v.toNat n
def cutL {α : Type} (xs : List α) (lo hi : Option Int) : List α := (xs.drop (sIxP xs.length 0 lo)).take (sIxP xs.length xs.length hi - sIxP xs.length 0 lo)
def slP : P → Option Int → Option Int → Option D
  | .lst xs, lo, hi => some (.ols (cutL xs lo hi))
  | .tup xs, lo, hi => some (.pure (.tup (cutL xs lo hi)))
  | .inp ns, lo, hi => some (.ols ((cutL ns lo hi).map .int))
  | .str s, lo, hi => if s.length < line then some (.pure (.str (cutL s lo hi))) else none
  | _, _, _ => none
def mPart : Option (M Rv) → M (Option Int)
  | none => fun _ e => .ok none e
  | some m => fun c e => (m c e).andThen fun r e1 => match r.pv e1 with
    | some (.int i) => .ok (some i) e1
    | _ => .stk
def mSl (a : M Rv) (lo hi : Option (M Rv)) : M Rv := fun c e => (a c e).andThen fun r e1 => (mPart lo (c.lock r.lks) e1).andThen fun l e2 => (mPart hi (c.lock r.lks) e2).andThen fun u e3 => match r.pv e3 with
  | some p => (match slP p l u with
    | some d => .ok (.val d) e3
    | none => .stk)
  | none => .stk
/-- xs[::-1] -/
def revP : P → Option D
  | .lst xs => some (.ols xs.reverse)
  | .inp xs => some (.ols (xs.reverse.map .int))
  | _ => none
/-! ### methods -/
def mMeth (ty : P → Bool) (f : P → List P → Option D) (m : M Rv) (as : List (M Rv)) : M Rv := fun c e => (m c e).andThen fun r e1 => match r.pv e1 with
  | some p0 => if ty p0 = true then (evAs true (as.map fun m => (false, m)) (c.lock r.lks) e1).andThen fun rs e2 => (match r.pv e2, rs.mapM (Rv.pv e2) with
    | some p, some ps => (match f p ps with
      | some d => .ok (.val d) e2
      | none => .stk)
    | _, _ => .stk) else .stk
  | none => .stk
def isStrP : P → Bool
  | .str _ => true
  | _ => false
def isLstP : P → Bool
  | .lst _ => true
  | _ => false
def joinP (S : List Nat) : List (List Nat) → List Nat
  | [] => []
  | [p] => p
  | p :: q :: r => p ++ (S ++ joinP S (q :: r))
def lensP (ss : List (List Nat)) : Nat := (ss.map (·.length)).sum
def fJoin : P → List P → Option D
  | .str s, [.lst xs] => match strsP xs with
    | some ss => if lensP ss + ss.length * s.length ≤ line then some (.pure (.str (joinP s ss))) else none
    | none => none
  | .str s, [.tup xs] => match strsP xs with
    | some ss => if lensP ss + ss.length * s.length ≤ line then some (.pure (.str (joinP s ss))) else none
    | none => none
  | _, _ => none
def firstIx (x : P) : List P → Nat → Option Nat
  | [], _ => none
  | y :: ys, k => if eqP y x = true then some k else firstIx x ys (k + 1)
def fIndex : P → List P → Option D
  | .lst xs, [x] => if (x.dep deep && P.deps deep xs) = true then (firstIx x xs 0).map fun k => .pure (.int k) else none
  | _, _ => none
section
variable {X : Cx} {R : Rc} {kx : Kx} {w : Wo} {T S : Tm} {lk lk' : List Nat} {e : Ev} {σ σ' : St} {H H' : Hp} {b b' : Addr → Prop} {p q : P} {v u : V} {K : PySem.W.Frag} {pos pos' : Pos} {a : Expr} {ma : M Rv}
theorem sIxP_eq (n d : Nat) (o : Option Int) : HT.sIx n d o = sIxP n d o := by cases o <;> rfl
theorem RFs.cut {xs : List P} {vs : List V} (h : RFs K H b xs vs) (lo hi : Option Int) : RFs K H b (cutL xs lo hi) (cutV vs lo hi) := by
  unfold cutL cutV
  rw [← h.length, sIxP_eq, sIxP_eq]
  exact (h.drop _).take _
theorem cutV_map {ns : List Int} {lo hi : Option Int} : cutV (ns.map V.int) lo hi = (cutL ns lo hi).map V.int := by
  unfold cutL cutV
  rw [List.length_map, sIxP_eq, sIxP_eq, List.map_take, List.map_drop]
def rSlAll (K : PySem.W.Frag) : V → Option Int → Option Int → Hp → VK → Prop := fun x lo hi H Q => rSlL K x lo hi H Q ∨ rSlA K x lo hi H Q ∨ rSlS x lo hi H Q
theorem sl_all : SlR X (rSlAll X.K) := sl_list.or (sl_tupA.or sl_str)
theorem okS_mem {x : Str} (h : x.cps.all (· < 0x110000) = true) : ∀ c ∈ x.cps.toList, c < 0x110000 := fun c hc => by
  have h2 : x.cps.toList.all (· < 0x110000) = true := by rw [Array.all_toList]; exact h
  exact of_decide_eq_true (List.all_eq_true.mp h2 c hc)
theorem okS_of {l : List Nat} (h : ∀ c ∈ l, c < 0x110000) : (⟨l.toArray⟩ : Str).cps.all (· < 0x110000) = true := by
  show l.toArray.all (· < 0x110000) = true
  rw [← Array.all_toList, List.toList_toArray]
  exact List.all_eq_true.mpr fun c hc => decide_eq_true (h c hc)
theorem ok_sl {lo hi : Option Int} {d : D} {Q : VK} (W : Wd kx w T lk e σ H) (hx : RC kx H (bad w T e σ) p v) (hf : slP p lo hi = some d) (k : ∀ v' H', Wd kx w (T ++ [(v', .val d)]) lk e σ H' → Q v' H') : rSlAll kx.K v lo hi H Q := by
  cases p with
  | lst xs =>
    cases hf
    obtain ⟨a, vs, rfl, h1, r⟩ := rc_lst hx
    exact .inl ⟨a, vs, rfl, .of h1, fun p hp => k _ _ (W.pushL hp (r.cut _ _))⟩
  | tup xs =>
    cases hf
    obtain ⟨a, vs, rfl, h1, r⟩ := rc_tup hx
    refine .inr (.inl ⟨a, vs, rfl, h1, fun hw => k _ _ (W.pushP ?_), fun _ p hp => k _ _ (W.pushT hp (r.cut _ _))⟩)
    simp only [RF]
    have e1 : cutL xs lo hi = xs := by
      unfold cutL
      rw [← sIxP_eq, ← sIxP_eq, r.length, hw.1, hw.2, List.drop_zero, ← r.length, Nat.sub_zero, List.take_length]
    rw [e1]
    exact ⟨a, vs, rfl, h1, r⟩
  | inp ns =>
    cases hf
    obtain ⟨a, rfl, h1⟩ := hx
    refine .inl ⟨a, _, rfl, h1, fun p hp => k _ _ ?_⟩
    rw [cutV_map]
    exact W.pushL hp (rfs_ints _)
  | str s =>
    have hf : (if s.length < line then some (D.pure (.str (cutL s lo hi))) else none) = some d := hf
    split at hf
    · rename_i hl
      cases hf
      obtain ⟨x, rfl, rfl, hx1⟩ := rc_str hx
      refine .inr (.inr ⟨x, rfl, by rw [str_len]; exact lineOk (Nat.le_of_lt hl), k _ _ (W.outS ?_ ?_)⟩)
      · unfold cutS cutL
        rw [sIxP_eq, sIxP_eq, str_len]
      · exact okS_of fun c hc => okS_mem hx1 c (List.mem_of_mem_drop (List.mem_of_mem_take hc))
    · cases hf
  | non => cases hf
  | bl _ => cases hf
  | int _ => cases hf
  | dct _ _ => cases hf
def rdO (R : Rc) (m : M (Option Int)) : TO := fun σ H Q => ∃ w T lk e, R.fits w ∧ Wd R.kx w T lk e σ H ∧
  OutG R w T lk σ (fun k e' => ∀ H', Wd R.kx w T lk e' σ H' → Q k H') (m ⟨R.Φ, lk⟩ e)
theorem s_part0 : PO X none (rdO R (mPart none)) := by
  refine ⟨fun pins s σ H Q I h => po_none.run pins s σ H Q I ?_⟩
  obtain ⟨w, T, lk, e, hm, W, h⟩ := h
  exact h H W
theorem s_part1 (ha : PE X a (rdE R ma)) : PO X (some a) (rdO R (mPart (some ma))) := by
  refine ⟨fun pins s σ H Q I h => (po_some ha).run pins s σ H Q I ?_⟩
  obtain ⟨w, T, lk, e, hm, W, h⟩ := h
  refine ⟨w, T, lk, e, hm, W, (outG_andThen h).mono fun r e1 h1 v1 H1 W1 => ?_⟩
  split at h1
  · rename_i i q
    exact ⟨i, rc_int (W1.pv mem_snoc q), h1 H1 (W1.back W.slin)⟩
  · exact h1.elim
theorem s_sl {ml mh : Option (M Rv)} {lo hi : Option Expr} {p2 : Pos} (hK : R.kx.K = X.K) (ha : PE X a (rdE R ma)) (hl : PO X lo (rdO R (mPart ml))) (hh : PO X hi (rdO R (mPart mh))) : PE X (.Subscript a (.Slice lo hi none p2) pos) (rdE R (mSl ma ml mh)) := by
  refine PEimp (pe_slice sl_all ha hl hh) fun σ H Q h => ?_
  obtain ⟨w, T, lk, e, hm, W, h⟩ := h
  refine ⟨w, T, lk, e, hm, W, (outG_andThen h).mono fun r e1 h1 v1 H1 W1 => ?_⟩
  refine ⟨w, _, _, e1, hm, W1, ((outG_andThen h1).ext W.slin).mono fun l e2 h2 H2 W2 => ?_⟩
  refine ⟨w, _, _, e2, hm, W2, ((outG_andThen h2).ext W.slin).mono fun u e3 h3 H3 W3 => ?_⟩
  cases q : r.pv e3 with
  | none => simp only [q] at h3; exact h3.elim
  | some p =>
    simp only [q] at h3
    cases q2 : slP p l u with
    | none => simp only [q2] at h3; exact h3.elim
    | some d =>
      simp only [q2] at h3
      rw [← hK]
      exact ok_sl W3 (W3.pv mem_snoc q) q2 fun v' H' W' => h3 v' H' (W'.fin W.slin)
/-- xs[::-1] -/
theorem s_rev {k : Nat} {p1 p2 p3 : Pos} (hK : R.kx.K = X.K) (ha : PE X a (rdE R ma)) : PE X (.Subscript a (.Slice none none (some (.UnaryOp .USub (.Constant (.int 1) k p1) p2)) p3) pos) (rdE R (mOp1 revP ma)) := by
  refine PEimp (pe_revL ha) fun σ H Q h => ?_
  refine (show tUn (fun x H1 Q => ∃ a xs, x = .ref a ∧ SqL X.K H1 a xs ∧ ∀ p, H1 p = none → Q (.ref p) (upd H1 p (.lst xs.reverse))) (rdE R ma) σ H Q from rd_op1 ?_ h)
  intro w T lk e σ H x v d Q W hx hf k
  rw [← hK]
  unfold revP at hf
  split at hf
  · cases hf
    obtain ⟨a, vs, rfl, h1, r⟩ := rc_lst hx
    exact ⟨a, vs, rfl, .of h1, fun p hp => k _ _ (W.pushL hp r.reverse)⟩
  · cases hf
    obtain ⟨a, rfl, h1⟩ := hx
    exact ⟨a, _, rfl, h1, fun p hp => k _ _ (by rw [← List.map_reverse]; exact W.pushL hp (rfs_ints _))⟩
  · cases hf

/-! ### methods that read -/
def MtOk (kx : Kx) (T0 : String) (ty : P → Bool) (f : P → List P → Option D) (r : V → List V → Hp → VK → Prop) : Prop :=
  (∀ (H : Hp) (b : Addr → Prop) (p : P) (v : V), ty p = true → RC kx H b p v → tyV kx.K T0 v H) ∧
  ∀ (w : Wo) (T : Tm) (lk : List Nat) (e : Ev) (σ : St) (H : Hp) (p : P) (v : V) (ps : List P) (vs : List V) (d : D) (Q : VK),
    Wd kx w T lk e σ H → RC kx H (bad w T e σ) p v → RCs kx H (bad w T e σ) ps vs → f p ps = some d → (∀ v' H', Wd kx w (T ++ [(v', .val d)]) lk e σ H' → Q v' H') → r v vs H Q
theorem rd_meth {T0 : String} {ty : P → Bool} {f : P → List P → Option D} {r : V → List V → Hp → VK → Prop} {as : List (M Rv)} (ho : MtOk R.kx T0 ty f r) {Q : VK} (h : rdE R (mMeth ty f ma as) σ H Q) : tBM R.kx.K T0 r (rdE R ma) (aRd R as) σ H Q := by
  obtain ⟨w, T, lk, e, hm, W, h⟩ := h
  refine ⟨w, T, lk, e, hm, W, (outG_andThen h).mono fun r1 e1 h1 v1 H1 W1 => ?_⟩
  cases q0 : r1.pv e1 with
  | none => simp only [q0] at h1; exact h1.elim
  | some p0 =>
    simp only [q0] at h1
    cases q1 : ty p0 with
    | false => rw [q1, if_neg Bool.false_ne_true] at h1; exact h1.elim
    | true =>
      rw [q1, if_pos rfl] at h1
      refine ⟨ho.1 H1 _ p0 v1 q1 (W1.pv mem_snoc q0), ?_⟩
      refine ⟨w, _, _, e1, hm, W1, ((outG_andThen h1).ext W.slin).mono fun rs e2 h2 vs H2 hl W2 => ?_⟩
      cases q2 : r1.pv e2 with
      | none => simp only [q2] at h2; exact h2.elim
      | some p =>
        cases q3 : rs.mapM (Rv.pv e2) with
        | none => simp only [q2, q3] at h2; exact h2.elim
        | some ps =>
          simp only [q2, q3] at h2
          cases q4 : f p ps with
          | none => simp only [q4] at h2; exact h2.elim
          | some d =>
            simp only [q4] at h2
            refine ho.2 w _ _ e2 σ H2 p v1 ps vs d Q W2 (W2.pv (List.mem_append_left _ mem_snoc) q2) (rcs_of W2 hl (fun q hq => List.mem_append_right _ hq) q3) q4 fun v' H' W' => h2 v' H' ?_
            rw [List.append_assoc T] at W'
            exact W'.fin W.slin
/-- not a call without arguments -/
def baseOk : Expr → Bool
  | .Call _ [] [] _ => false
  | _ => true
theorem base_eq {o : Expr} {n : Str} {env : Env} {wh : Sem Value} (h : baseOk o = true) : attributeBase o n env wh = wh := by
  cases o with
  | Call f as ks p =>
    cases as with
    | nil => cases ks with
      | nil => simp [baseOk] at h
      | cons _ _ => cases f <;> rfl
    | cons _ _ => cases f <;> rfl
  | _ => rfl
theorem strsP_of : ∀ {ps : List P} {ss : List (List Nat)} {vs : List V}, strsP ps = some ss → RFs K H b ps vs → ∃ ys : List Str, vs = ys.map V.str ∧ ys.map (fun y => y.cps.toList) = ss ∧ ∀ y ∈ ys, y.cps.all (· < 0x110000) = true
  | [], ss, vs, h, r => by
    simp [strsP] at h; subst h
    exact ⟨[], by simpa using r.nil_of, rfl, fun y hy => by cases hy⟩
  | p :: ps, ss, vs, h, r => by
    obtain ⟨v, r', rfl, h1, h2⟩ := r.cons_of
    cases p with
    | str i =>
      simp only [strsP, Option.map_eq_some_iff] at h
      obtain ⟨ns', h3, rfl⟩ := h
      have h1 : ∃ x : Str, v = .str x ∧ x.cps.toList = i ∧ x.cps.all (· < 0x110000) = true := by simpa only [RF] using h1
      obtain ⟨x, rfl, rfl, hx⟩ := h1
      obtain ⟨ys, rfl, e2, hy⟩ := strsP_of h3 h2
      refine ⟨x :: ys, rfl, by simp [e2], fun y hy' => ?_⟩
      rcases List.mem_cons.mp hy' with rfl | hy'
      · exact hx
      · exact hy y hy'
    | _ => simp [strsP] at h
theorem join_eq (s : Str) : ∀ ys : List Str, (Str.join s ys).cps.toList = joinP s.cps.toList (ys.map fun y => y.cps.toList)
  | [] => rfl
  | [y] => rfl
  | y :: z :: r => by
    show (y ++ s ++ Str.join s (z :: r)).cps.toList = _
    rw [str_app, str_app, join_eq s (z :: r), List.append_assoc]
    rfl
theorem join_ok {s : Str} (hs : s.cps.all (· < 0x110000) = true) : ∀ ys : List Str, (∀ y ∈ ys, y.cps.all (· < 0x110000) = true) → (Str.join s ys).cps.all (· < 0x110000) = true
  | [], _ => by
    show (#[] : Array Nat).all (· < 0x110000) = true
    simp
  | [y], h => h y List.mem_cons_self
  | y :: z :: r, h => all_app (all_app (h y List.mem_cons_self) hs) (join_ok hs (z :: r) fun x hx => h x (List.mem_cons_of_mem _ hx))
theorem lens_eq : ∀ ys : List Str, (ys.map (·.length)).sum = lensP (ys.map fun y => y.cps.toList)
  | [] => rfl
  | y :: ys => by
    have ih := lens_eq ys
    simp only [lensP, List.map_cons, List.sum_cons] at ih ⊢
    rw [ih, str_len]
theorem ok_join : MtOk kx "str" isStrP fJoin (fun x xs H Q => ∃ a p, ∃ ys : List Str, x = .str a ∧ xs = [.ref p] ∧ (SqL kx.K H p (ys.map V.str) ∨ SqT kx.K H p (ys.map V.str)) ∧
    (ys.map (·.length)).sum + ys.length * a.length ≤ 16777216 ∧ Q (.str (Txt.join a ys)) H) := by
  refine ⟨fun H b p v ht h => ?_, fun w T lk e σ H p v ps vs d Q W hx hxs hf k => ?_⟩
  · cases p with
    | str s =>
      obtain ⟨x, rfl, _⟩ := rc_str h
      exact rfl
    | _ => simp [isStrP] at ht
  · have fin : ∀ {s : List Nat} {ss : List (List Nat)} {xs : List P} {us : List V}, RC kx H (bad w T e σ) (.str s) v → RFs kx.K H (bad w T e σ) xs us → strsP xs = some ss → lensP ss + ss.length * s.length ≤ line → d = .pure (.str (joinP s ss)) →
        ∃ a, ∃ ys : List Str, v = .str a ∧ us = ys.map V.str ∧ (ys.map (·.length)).sum + ys.length * a.length ≤ 16777216 ∧ Q (.str (Txt.join a ys)) H := by
      intro s ss xs us hv r hss hl hd
      subst hd
      obtain ⟨x, rfl, rfl, hx1⟩ := rc_str hv
      obtain ⟨ys, rfl, rfl, hy⟩ := strsP_of hss r
      refine ⟨x, ys, rfl, rfl, ?_, k _ _ (W.outS ?_ ?_)⟩
      · rw [lens_eq, str_len]
        rw [List.length_map] at hl
        have : line ≤ 16777216 := by decide
        omega
      · show (Builtin.Str.glued x ys).cps.toList = _
        rw [StrLaws.glued_eq_join, join_eq]
      · show (Builtin.Str.glued x ys).cps.all (· < 0x110000) = true
        rw [StrLaws.glued_eq_join]
        exact join_ok hx1 ys hy
    unfold fJoin at hf
    split at hf
    · split at hf
      · rename_i ss hss
        split at hf
        · rename_i hl
          cases hf
          obtain ⟨u, rfl, h⟩ := rcs1 hxs
          obtain ⟨a, us, rfl, h1, r⟩ := rc_lst h
          obtain ⟨x, ys, rfl, rfl, h2, h3⟩ := fin hx r hss hl rfl
          exact ⟨x, a, ys, rfl, rfl, .inl (.of h1), h2, h3⟩
        · cases hf
      · cases hf
    · split at hf
      · rename_i ss hss
        split at hf
        · rename_i hl
          cases hf
          obtain ⟨u, rfl, h⟩ := rcs1 hxs
          obtain ⟨a, us, rfl, h1, r⟩ := rc_tup h
          obtain ⟨x, ys, rfl, rfl, h2, h3⟩ := fin hx r hss hl rfl
          exact ⟨x, a, ys, rfl, rfl, .inr h1, h2, h3⟩
        · cases hf
      · cases hf
    · cases hf
theorem s_join {o : Expr} {mo : M Rv} {apos : Pos} (hK : R.kx.K = X.K) (ho : PE X o (rdE R mo)) (ha : PE X a (rdE R ma)) (hs : unstar a = true) (hb : baseOk o = true) (hl : (apos.endLine == pos.line) = true) :
    PE X (.Call (.Attribute o "join" apos) [a] [] pos) (rdE R (mMeth isStrP fJoin mo [ma])) := by
  refine PEimp (pe_bm PySem.F.plainAttrs_str PySem.F.slot_str_join PySem.F.type_str_join mt_join ho (s_aR ha s_aR0 hs) (base_eq hb) (by rw [star_plain hs]; rfl) hl (star_plain hs)) fun σ H Q h => ?_
  rw [← hK]
  exact rd_meth ok_join h
end
end Gr
set_option Elab.async false
set_option linter.all false
set_option maxRecDepth 100000
set_option maxHeartbeats 4000000
/-! E1: an own exception class: super().__init__(text), then a field for each argument. -/
namespace PySem
namespace GrX
open PySem.W PySem.Calls PyProof.Rows PySem.HandSPX
/-- a field's statement: the field, its places -/
abbrev FS := Str × Pos × Pos × Pos × Pos
def fS (x : FS) : Stmt := .Assign [.Attribute (.Name "self" x.2.1) x.1 x.2.2.1] (.Name x.1 x.2.2.2.1) x.2.2.2.2
def supS (t : Str) (j : Nat) (p0 p1 p2 p3 p4 p5 : Pos) : Stmt := .Expr (.Call (.Attribute (.Call (.Name "super" p0) [] [] p1) "__init__" p2) [.Constant (.str t) j p3] [] p4) p5
/-- what the written part says of the class at C, its __init__ at fI -/
structure XT (P : Program) (K : Frag) (mg : Str → Option Value) (C fI : Addr) (qual : Str) (par : Arguments) (body : List Stmt) (scope : Scope) : Prop where
  T : L2.OexC K C
  hdC : hasDictIn K C = true
  ga : findIn K (.ref C) "__getattribute__" = some (some (.builtin "BaseException.__getattribute__"))
  gg : findIn K (.ref C) "__getattr__" = some none
  iC : findIn K (.ref C) "__init__" = some (some (.ref fI))
  tI : typeIn K (.ref fI) = some (.type "function")
  sup : ks_superIn K C C "__init__" = some (some (.builtin "ValueError.__init__"))
  subV : subIn K (.ref C) (.type "ValueError") = some true
  mroC : mroIn K C (.ref C) = some true
  nos : mg "super" = none
  opq : nsIn K cStatics "thirdparty.any" = some none
  fn : ∃ (oc : Value) (od : Option Addr) (kV doc pm : Value) (an : Option Addr) (cda cc : Addr) (ct : Value) (osl : Array (Option Value)),
    K.lookup fI = some ⟨oc, od, .func (ksFn "__init__" qual par body scope .none kV doc pm an (.ref cda) ct cc), osl⟩ ∧ codeIn K (.ref cda) qual = true ∧
    (∃ (ccl : Value) (cdd : Option Addr) (vs : Array Value) (ccs : Array (Option Value)) (file : Str) (tf : Tok), K.lookup cda = some ⟨ccl, cdd, .fields vs, ccs⟩ ∧ vs[2]? = some (.str file tf) ∧ ((P.main.file : Str) == file) = true) ∧
    ∃ (cl : Value) (cld : Option Addr) (csl : Array (Option Value)), K.lookup cc = some ⟨cl, cld, .cell (some (.ref C)), csl⟩
/-- the text of __init__ -/
structure XS (P : Program) (fs : List Str) (par : Arguments) (body : List Stmt) (scope : Scope) : Prop where
  txt : ∃ (t : Str) (j : Nat) (p0 p1 p2 p3 p4 p5 : Pos) (xs : List FS), body = supS t j p0 p1 p2 p3 p4 p5 :: xs.map fS ∧ xs.map (·.1) = fs ∧ (p2.endLine == p4.line) = true
  head : ∃ ar, (par.posonlyargs ++ par.args).head? = some ar ∧ ar.arg = ("self" : Str)
  nd : ("self" :: fs : List Str).Nodup
  hks : scope.names.lookup ("super" : Str) = some .globalImplicit
  hkc : scope.names.lookup ("__class__" : Str) = some .free
  loc : ∀ x ∈ ("self" :: fs : List Str), scope.names.lookup x = some .local
  cell : ∀ x ∈ scope.names, x.2 ≠ .cell
  kind : scope.kind = .function
  co : scope.isCoroutine = false
  gen : scope.isGenerator = false
  dbg : ∀ x ∈ fs, (x == ("__debug__" : Str)) = false
  top : (P.main.scope.names.lookup ("super" : Str)).isSome = false
  ne : fs ≠ []
  bind : ∀ us : List Value, us.length = fs.length + 1 → ∀ (s : Shared) (K : Frag) (qual : Str) (kV doc pm : Value) (an : Option Addr) (cda cc : Addr) (ct : Value), BindsTo s (ksFn "__init__" qual par body scope .none kV doc pm an (.ref cda) ct cc) ⟨us, []⟩ ((("self" : Str) :: fs).zip us)
section
variable {prog : Program} {w : World} {A : Around} {E : Value → Shared → Prop} {K : Frag} {mg : Str → Option Value} {C fI : Addr} {qual : Str} {par : Arguments} {body : List Stmt} {scope : Scope} {fs : List Str}
/-- the call of the bound __init__ -/
theorem mw_call {x t0 u : Addr} {rest : List Value} {s : Shared} {Q : Value → Shared → Prop} (T : L2.OexC K C) (X : K.In s.heap) (hu : s.heap.get? u = some (kxs_mw "ValueError.__init__" x)) (he : s.heap.get? x = some (excO C t0)) (hz : rest.length ≤ sizeLine)
    (h : ∀ h' t1, (∀ b o, b ≠ x → s.heap.get? b = some o → h'.get? b = some o) → h'.get? x = some (excO C t1) → Q .none { s with heap := h' }) : wpAny (model prog w) A (call (.ref u) rest) Q E s := by
  obtain ⟨nm, q, N, bs, bm, sn, sub, ab, col, dd, k0, k1, k2, k3, k5, hC, hbm⟩ := T.cls
  obtain ⟨hh, g, d, tk, os⟩ := s
  refine wpAny_call (codeAny_of_tree ?_)
  show wpAny _ A.in1 (callAny (.ref u) ⟨rest, []⟩) _ _ _
  simp only [callAny]
  refine wpAny_bind (wpAny_load hu ?_)
  simp only [kxs_mw, show (Value.type "method-wrapper" == Value.type "method" || Value.type "method-wrapper" == Value.type "builtin_function_or_method" || Value.type "method-wrapper" == Value.type "method-wrapper") = true by decide, if_true]
  refine KFB.if_so (by decide) ?_
  refine wpAny_bind (check_bound_init F.excBase_ValueError.toExcCallFacts (X _ _ hC) he rfl ?_)
  refine wpAny_bind (wpAny_pure (wpAny_pure ?_))
  refine ⟨plainId_quiet F.excBase_ValueError.init.plain _, codeAny_builtin F.excBase_ValueError.initEntry ?_⟩
  exact exc_init_tree (cls := .ref C) (t0 := t0) (dv := none) (c2 := .none) (c3 := .none) (b4 := .bool false) he hz fun h' k e' _ => h h' _ k e'
theorem meth_at {M : Model} {c : Code} {env : Env} {s : Shared} {o : Expr} {name : Str} {apos pos : Pos} {args : List Expr} {Q : Value → Shared → Prop}
    (hform : methodCallForm (args.length + ([] : List Keyword).length) (backTo pos (starEach args env)) (backToKw pos (keywordEach [] env)) = true) (hline : (apos.endLine == pos.line) = true)
    (h : PySem.wpAt M A c (attributeBase o name env (eval o env)) (fun ov s₁ => wpAny M A (calleeOf true o env ov name) (fun fx s₂ => wpAny M A (callWith pos fx.1 fx.2 (backTo pos (starEach args env)) []) Q E s₂) E s₁) E s) :
    PySem.wpAt M A c (eval (.Call (.Attribute o name apos) args [] pos) env) Q E s := by
  have hpos : methodCallPos true o env apos pos = pure pos := by unfold methodCallPos; simp [hline]
  rw [arm_eval_Call]
  unfold methodCall
  rw [hform, hpos]
  refine wpAt_bind (wpAt_mono h (fun ov s₁ h₁ => wpAt_of_wpAny (wpAny_bind (wpAny_standAt (wpAny_bind (wpAny_holding (wpAny_mono h₁ (fun fx s₂ h₂ => ?_) fun _ _ x => x)))))) fun _ _ x => x)
  exact wpAny_bind (wpAny_pure h₂)
theorem super_stmt {t : Str} {j : Nat} {p0 p1 p2 p3 p4 p5 : Pos} {s : Shared} {x L cda cc t0 : Addr} {m : Str → Option Value} {fd : FuncData} {oc : Value} {od : Option Addr} {osl : Array (Option Value)} {Q : Flow → Shared → Prop}
    (T : XT prog K mg C fI qual par body scope) (S : XS prog fs par body scope) (hline : (p2.endLine == p4.line) = true) (X : K.In s.heap) (hlk : K.lookup fI = some ⟨oc, od, .func fd, osl⟩) (hpar : fd.params = par)
    (hcd : ∃ (ccl : Value) (cdd : Option Addr) (vs : Array Value) (ccs : Array (Option Value)) (file : Str) (tf : Tok), K.lookup cda = some ⟨ccl, cdd, .fields vs, ccs⟩ ∧ vs[2]? = some (.str file tf) ∧ ((prog.main.file : Str) == file) = true)
    (hcc : ∃ (cl : Value) (cld : Option Addr) (csl : Array (Option Value)), K.lookup cc = some ⟨cl, cld, .cell (some (.ref C)), csl⟩)
    (hG : s.heap.Ns mainGlobals mg) (hB : ∃ mb, s.heap.Ns builtinsNs mb ∧ mb "super" = some (.type "super")) (hn : s.heap.Ns L m) (hself : m "self" = some (.ref x)) (hx : s.heap.get? x = some (excO C t0))
    (h : ∀ h' tk t1, (∀ b o, b ≠ x → s.heap.get? b = some o → h'.get? b = some o) → h'.get? x = some (excO C t1) → Q .next { s with heap := h', toks := tk }) :
    PySem.wpAt (model prog w) A (.func body (ksEnv qual scope L fI (.ref cda) cc)) (exec (supS t j p0 p1 p2 p3 p4 p5) (ksEnv qual scope L fI (.ref cda) cc)) Q E s := by
  obtain ⟨ccl, cdd, vs, ccs, file, tf, hcode, hvs, hfile⟩ := hcd
  obtain ⟨cl, cld, csl, hcell⟩ := hcc
  obtain ⟨mb, hb1, hb2⟩ := hB
  obtain ⟨ar, har, hars⟩ := S.head
  obtain ⟨nm, q, N, bs, bm, sn, sub, ab, col, dd, k0, k1, k2, k3, k5, hC, hbm⟩ := T.T.cls
  have hcl : clsIn K C = some { name := nm, bases := bs, mro := .ref C :: bm, ns := N, qualname := q, hasDict := true, slotNames := sn, subclasses := sub, abstract := ab, collection := col, hasDel := false } := by unfold clsIn; rw [hC] <;> rfl
  have I : InstAt s.heap x (excO C t0) C none := ⟨hx, rfl, rfl, trivial⟩
  have hxC : x ≠ C := ks_ne X I hcl
  obtain ⟨hh, g, d, tk, os⟩ := s
  unfold supS
  refine ks_wpAt_Expr_any (meth_at (by rfl) hline ?_) (by unfold interactive; simp [ksEnv, envX, Env.blockKind, S.kind]) (by rfl)
  refine ks_wpAt_super_base (env := ksEnv qual scope L fI (.ref cda) cc) S.hks S.hkc (by decide) rfl (X _ _ hlk) rfl (by rw [hpar]; exact har) rfl (X _ _ hcode) rfl hvs hfile S.top ?_
  refine ks_loadName_global S.kind S.hks (loadGlobal_builtin (env := ksEnv qual scope L fI (.ref cda) cc) hG T.nos hb1 hb2 ⟨rfl, ?_⟩)
  refine wpAny_loadName_free S.kind S.hkc rfl ⟨_, X _ _ hcell, rfl⟩ ?_
  rw [hars]
  refine wpAny_loadName_local S.kind (S.loc _ List.mem_cons_self) hn hself ?_
  refine ks_wpAny_isType_cls (X _ _ hC) rfl ⟨rfl, ?_⟩
  refine ks_wpAny_call_super (X _ _ hC) rfl I.at_ I.cls (fun c e => by cases e) (looks_mroIn X T.mroC) (fun h1 e1 kk1 => ?_)
  -- the bound __init__
  have X1 : K.In h1 := X.keeps kk1
  have I1 : InstAt h1 x (excO C t0) C none := ⟨kk1 _ _ hx, rfl, rfl, trivial⟩
  have hI1 : Looks (model prog w) h1 (isInstance (.ref x) (.type "ValueError")) true := I1.type.andThen (looks_subIn X1 T.subV)
  have hsup := T.sup
  unfold ks_superIn at hsup
  rw [hcl] at hsup
  show wpAny _ _ (getMethod (.ref hh.objs.size) "__init__" _) _ _ _
  refine kxs_getMethod kxs_ValueError e1 (looks_opaque X1 T.opq) (l₀ := .ref C :: bm) (fun A Q E s k q => wpAny_bind ((looks_clsIn X1 hcl) A _ E s k (wpAny_pure q))) rfl X1 hsup hI1 hxC (by decide) ?_
  dsimp only
  have he : starEach [.Constant (.str t) j p3] (ksEnv qual scope L fI (.ref cda) cc) = (false, eval (.Constant (.str t) j p3) (ksEnv qual scope L fI (.ref cda) cc)) :: starEach [] (ksEnv qual scope L fI (.ref cda) cc) := by rfl
  rw [he]
  refine kxs_callWith (i := "ValueError.__init__") (x := x) (by rfl) (evalArgs_plain ?_)
  have hu : (h1.push (kxs_mw "ValueError.__init__" x)).get? h1.objs.size = some (kxs_mw "ValueError.__init__" x) := Heap.get?_push_at rfl rfl
  have k2 : ∀ b o, hh.get? b = some o → (h1.push (kxs_mw "ValueError.__init__" x)).get? b = some o := fun b o e => Heap.get?_push_of_some _ (kk1 b o e)
  refine spliced_cons (Calls.Constant_str (x := t) (k := j) (pos := p3) (args_nil (env := ksEnv qual scope L fI (.ref cda) cc) (pos := p4) ⟨hu, ?_⟩))
  refine mw_call T.T (X.keeps k2) hu (k2 _ _ hx) (by rw [sizeLine_eq]; simp) fun h' t1 k3 e3 => ?_
  exact h h' _ t1 (fun b o hb e => k3 b o hb (k2 b o e)) e3
/-- the exception with its dict, some fields stored -/
structure Mid (h0 h : Heap) (x C dx t1 : Addr) (l : List (Str × Value)) : Prop where
  keep : ∀ b o, b ≠ x → h0.get? b = some o → h.get? b = some o
  obj : h.get? x = some { cls := .ref C, dict := some dx, data := .fields #[.ref t1, .none, .none, .none, .bool false, .none] }
  dbig : h0.objs.size ≤ dx
  dne : dx ≠ x
  ns : h.Ns1 dx (fun y => l.lookup y)
theorem lookup_cons (f y : Str) (v : Value) (l : List (Str × Value)) : ((f, v) :: l).lookup y = if y = f then some v else l.lookup y := by
  by_cases h : y = f
  · subst h; simp [List.lookup]
  · have e : (y == f) = false := by simpa using h
    rw [if_neg h]; simp [List.lookup, e]
theorem ns_at {h h' : Heap} {L : Addr} {m : Str → Option Value} (hn : h.Ns L m) (k : ∀ o, h.get? L = some o → h'.get? L = some o) : h'.Ns L m := by
  obtain ⟨oL, es, ep, hL, r⟩ := hn
  exact ⟨oL, es, ep, k _ hL, r⟩
theorem flds (T : XT prog K mg C fI qual par body scope) (hk : scope.kind = .function) {L x cda cc : Addr} {m : Str → Option Value} {h0 : Heap} (X0 : K.In h0) (hnx : K.lookup x = none) (hn0 : h0.Ns L m) (hLx : L ≠ x) (hself : m "self" = some (.ref x)) (hls : scope.names.lookup ("self" : Str) = some .local) (vals : Str → Value) :
    ∀ (xs : List FS) {s : Shared} {dx t1 : Addr} {l : List (Str × Value)} {Q : Flow → Shared → Prop}, (∀ y ∈ xs, m y.1 = some (vals y.1) ∧ scope.names.lookup y.1 = some .local ∧ (y.1 == ("__debug__" : Str)) = false ∧ findIn K (.ref C) y.1 = some none) → l.length + xs.length ≤ 900 → Mid h0 s.heap x C dx t1 l →
      (∀ h' tk, Mid h0 h' x C dx t1 ((xs.map fun y => (y.1, vals y.1)).reverse ++ l) → Q .next { s with heap := h', toks := tk }) →
      wpAny (model prog w) A (execs (xs.map fS) (ksEnv qual scope L fI (.ref cda) cc)) Q E s
  | [], s, dx, t1, l, Q, _, _, M, hq => wpAny_execs_nil (hq s.heap s.toks M)
  | y :: xs, s, dx, t1, l, Q, hy, hz, M, hq => by
    obtain ⟨nm, q, N, bs, bm, sn, sub, ab, col, dd, k0, k1, k2, k3, k5, hC, hbm⟩ := T.T.cls
    have hcl : clsIn K C = some { name := nm, bases := bs, mro := .ref C :: bm, ns := N, qualname := q, hasDict := true, slotNames := sn, subclasses := sub, abstract := ab, collection := col, hasDel := false } := by unfold clsIn; rw [hC] <;> rfl
    obtain ⟨a1, a2, a3, a4⟩ := hy y List.mem_cons_self
    have X : K.In s.heap := fun b o e => M.keep b o (fun z => by rw [z, hnx] at e; cases e) (X0 b o e)
    have hn : s.heap.Ns L m := ns_at hn0 fun o e => M.keep L o hLx e
    have hw : Within (fun z => l.lookup z) (l.map (·.1)) := fun z hz => by
      have key : ∀ {l : List (Str × Value)}, l.lookup z ≠ none → z ∈ l.map (·.1) := by
        intro l
        induction l with
        | nil => intro h; exact absurd rfl h
        | cons p l ih =>
          intro h
          obtain ⟨f, v⟩ := p
          rw [lookup_cons] at h
          by_cases e : z = f
          · rw [e]; exact List.mem_cons_self
          · rw [if_neg e] at h; exact List.mem_cons_of_mem _ (ih h)
      exact key hz
    obtain ⟨oD, _, _, hoD, _, _⟩ := M.ns.count hw
    show wpAny _ _ (execs (fS y :: xs.map fS) _) _ _ _
    refine wpAny_execs_cons (plainObj_wpAny_Assign_Attribute ?_ (by rfl))
    refine wpAny_Name (wpAny_loadName_local (env := ksEnv qual scope L fI (.ref cda) cc) hk a2 hn a1 ?_) a3
    refine wpAny_Name (wpAny_loadName_local (env := ksEnv qual scope L fI (.ref cda) cc) hk hls hn hself ?_) (by decide)
    obtain ⟨hp, g, d, tk, os⟩ := s
    refine set_plain X (od := some oD) ⟨M.obj, rfl, rfl, hoD⟩ T.T.sa ?_
    refine OEX.osa_old X M.obj M.ns hw (by rw [List.length_map]; simp only [List.length_cons] at hz; omega) hcl (show refsVE (.ref C :: bm) = true from hbm) rfl a4 fun h' tk' k hns => ?_
    have hxd : x ≠ dx := Ne.symm M.dne
    refine flds T hk X0 hnx hn0 hLx hself hls vals xs (fun z hz => hy z (List.mem_cons_of_mem _ hz)) (l := (y.1, vals y.1) :: l) (by simp only [List.length_cons] at hz ⊢; omega)
      ⟨fun b o hb e => k b o (fun z => by
        have := Heap.lt_size e
        rw [z] at this
        exact absurd this (Nat.not_lt.mpr M.dbig)) (M.keep b o hb e), k x _ hxd M.obj, M.dbig, M.dne, by
        have e : (fun z => List.lookup z ((y.1, vals y.1) :: l)) = fun z => if z = y.1 then some (vals y.1) else l.lookup z := by funext z; exact lookup_cons _ _ _ _
        rw [e]; exact hns⟩ fun h2 tk2 M2 => hq h2 tk2 (by simpa using M2)
theorem lookup_nd {α : Type} : ∀ {l : List (Str × α)} {f : Str} {v : α}, (l.map (·.1)).Nodup → (f, v) ∈ l → l.lookup f = some v
  | [], _, _, _, h => by cases h
  | (g, u) :: l, f, v, nd, h => by
    obtain ⟨n1, n2⟩ := List.nodup_cons.mp nd
    rcases List.mem_cons.mp h with e | h
    · cases e; simp [List.lookup]
    · have hne : f ≠ g := fun z => n1 (List.mem_map.mpr ⟨(f, v), h, z⟩)
      have e : (f == g) = false := by simpa using hne
      simp only [List.lookup, e]
      exact lookup_nd n2 h
theorem zip_fst {α : Type} : ∀ {fs : List Str} {vs : List α}, vs.length = fs.length → (fs.zip vs).map (·.1) = fs
  | [], _, _ => by simp
  | f :: fs, [], h => by simp at h
  | f :: fs, v :: vs, h => by simp [zip_fst (fs := fs) (vs := vs) (by simpa using h)]
def valOf (fs : List Str) (vs : List Value) (f : Str) : Value := ((fs.zip vs).lookup f).getD .none
theorem valOf_zip {fs : List Str} {vs : List Value} (nd : fs.Nodup) (hl : vs.length = fs.length) : (fs.map fun f => (f, valOf fs vs f)) = fs.zip vs := by
  have z := zip_fst hl
  have e1 : (fs.map fun f => (f, valOf fs vs f)) = (fs.zip vs).map fun q => (q.1, valOf fs vs q.1) := by
    conv => lhs; rw [← z]
    rw [List.map_map]; rw [z]; rfl
  rw [e1]
  conv => rhs; rw [← List.map_id (fs.zip vs)]
  refine List.map_congr_left fun q hq => ?_
  have : (fs.zip vs).lookup q.1 = some q.2 := lookup_nd (by rw [z]; exact nd) hq
  simp [valOf, this]
theorem init_run (T : XT prog K mg C fI qual par body scope) (S : XS prog fs par body scope) (noN : ∀ f ∈ fs, findIn K (.ref C) f = some none) {x t0 : Addr} {vs : List Value} {s : Shared} {R : Result → Shared → Prop} (X : K.In s.heap) (hlim : s.heap.NoLimit) (hx : s.heap.get? x = some (excO C t0)) (hnx : K.lookup x = none) (hroom : A.depth < recursionLimit)
    (hG : s.heap.Ns mainGlobals mg) (hB : ∃ mb, s.heap.Ns builtinsNs mb ∧ mb "super" = some (.type "super")) (hl : vs.length = fs.length) (hz : fs.length ≤ 800)
    (hq : ∀ h' tk dx t1, Mid s.heap h' x C dx t1 (fs.zip vs).reverse → R (.ok (.ret .none)) { s with heap := h', toks := tk }) : codeAny (model prog w) A (.call (.ref fI) ⟨.ref x :: vs, []⟩) R s := by
  obtain ⟨oc, od, kV, doc, pm, an, cda, cc, ct, osl, hlk, hcd, hcode, hcell⟩ := T.fn
  obtain ⟨t, j, p0, p1, p2, p3, p4, p5, xs, hbody, hxs, hline⟩ := S.txt
  have nd := S.nd
  have hlen : (Value.ref x :: vs).length = (("self" : Str) :: fs).length := by simp [hl]
  have hmem : ∀ (f : Str) (u : Value), (f, u) ∈ (("self" : Str) :: fs).zip (Value.ref x :: vs) → (((("self" : Str) :: fs).zip (Value.ref x :: vs)).reverse.lookup f) = some u := fun f u h =>
    lookup_nd (by rw [List.map_reverse, zip_fst hlen]; exact (List.reverse_perm _).nodup_iff.mpr nd) (List.mem_reverse.mpr h)
  have fnd : fs.Nodup := (List.nodup_cons.mp nd).2
  refine ks_codeAny_call_defAt (fd := ksFn "__init__" qual par body scope .none kV doc pm an (.ref cda) ct cc) (body := body) (binds := (("self" : Str) :: fs).zip (.ref x :: vs)) hroom (X _ _ hlk) rfl hlim (codeRec_of X hcd) rfl (S.bind _ (by simp [hl]) _ K qual kV doc pm an cda cc ct) S.cell
    (fun y hy => S.loc _ (List.of_mem_zip hy).1) (fun h1 hns k1 => ?_) S.co S.gen S.kind
  have hself : ((("self" : Str) :: fs).zip (Value.ref x :: vs)).reverse.lookup ("self" : Str) = some (Value.ref x) := hmem _ _ (by simp)
  have hLx : s.heap.objs.size ≠ x := Nat.ne_of_gt (Heap.lt_size hx)
  subst hbody
  refine ks_wpAt_execs_cons ?_
  refine super_stmt T S hline (X.keeps k1) hlk rfl hcode hcell (ns_at hG fun o e => k1 _ _ e) (let ⟨mb, a, b⟩ := hB; ⟨mb, ns_at a fun o e => k1 _ _ e, b⟩) hns hself (k1 _ _ hx) fun h2 tk2 t1 k2 hx2 => ?_
  show PySem.wpAt _ _ _ (execs (xs.map fS) _) _ _ _
  refine wpAt_of_wpAny ?_
  have X2 : K.In h2 := fun b o e => k2 b o (fun z => by rw [z, hnx] at e; cases e) (k1 b o (X b o e))
  have hn2 : h2.Ns s.heap.objs.size _ := ns_at hns fun o e => k2 _ o hLx e
  cases xs with
  | nil => exact absurd hxs.symm S.ne
  | cons y ys =>
    obtain ⟨nm, q, N, bs, bm, sn, sub, ab, col, dd, c0, c1, c2, c3, c5, hC, hbm⟩ := T.T.cls
    have hcl : clsIn K C = some { name := nm, bases := bs, mro := .ref C :: bm, ns := N, qualname := q, hasDict := true, slotNames := sn, subclasses := sub, abstract := ab, collection := col, hasDel := false } := by unfold clsIn; rw [hC] <;> rfl
    have hyin : ∀ z ∈ y :: ys, z.1 ∈ fs := fun z hz => by rw [← hxs]; exact List.mem_map_of_mem hz
    have hval : ∀ z ∈ y :: ys, ((("self" : Str) :: fs).zip (Value.ref x :: vs)).reverse.lookup z.1 = some (valOf fs vs z.1) := fun z hz => by
      refine hmem _ _ ?_
      rw [List.zip_cons_cons, ← valOf_zip fnd hl]
      exact List.mem_cons_of_mem _ (List.mem_map.mpr ⟨z.1, hyin z hz, rfl⟩)
    have hall : ∀ z ∈ y :: ys, ((("self" : Str) :: fs).zip (Value.ref x :: vs)).reverse.lookup z.1 = some (valOf fs vs z.1) ∧ scope.names.lookup z.1 = some .local ∧ (z.1 == ("__debug__" : Str)) = false ∧ findIn K (.ref C) z.1 = some none := fun z hz =>
      ⟨hval z hz, S.loc _ (List.mem_cons_of_mem _ (hyin z hz)), S.dbg _ (hyin z hz), noN _ (hyin z hz)⟩
    obtain ⟨a1, a2, a3, a4⟩ := hall y List.mem_cons_self
    refine wpAny_execs_cons (plainObj_wpAny_Assign_Attribute ?_ (by rfl))
    refine wpAny_Name (wpAny_loadName_local (env := ksEnv qual scope s.heap.objs.size fI (.ref cda) cc) S.kind a2 hn2 a1 ?_) a3
    refine wpAny_Name (wpAny_loadName_local (env := ksEnv qual scope s.heap.objs.size fI (.ref cda) cc) S.kind (S.loc _ List.mem_cons_self) hn2 hself ?_) (by decide)
    refine set_plain X2 (ox := excO C t1) (od := none) ⟨hx2, rfl, rfl, trivial⟩ T.T.sa ?_
    refine exc_osa X2 hx2 hcl (show refsVE (.ref C :: bm) = true from hbm) rfl a4 fun h3 tk3 dx k3 dn dne hx3 hn3 => ?_
    have hLlt : s.heap.objs.size < h2.objs.size := hn2.lt
    have lenx : (y :: ys).length = fs.length := by rw [← hxs, List.length_map]
    have old : ∀ b o, b ≠ x → s.heap.get? b = some o → h3.get? b = some o := fun b o hb e => k3 b o hb (k2 b o hb (k1 b o e))
    refine flds (h0 := h2) (L := s.heap.objs.size) T S.kind X2 hnx hn2 hLx hself (S.loc _ List.mem_cons_self) (valOf fs vs) ys (l := [(y.1, valOf fs vs y.1)]) (fun z hz => hall z (List.mem_cons_of_mem _ hz)) (by simp only [List.length_cons, List.length_nil] at lenx ⊢; omega)
      ⟨fun b o hb e => k3 b o hb e, hx3, dn, dne, by
        have e : (fun z => List.lookup z [(y.1, valOf fs vs y.1)]) = fun z => if z = y.1 then some (valOf fs vs y.1) else none := by funext z; rw [lookup_cons]; rfl
        rw [e]; exact hn3⟩ fun h4 tk4 M => ?_
    refine hq h4 tk4 dx t1 ⟨fun b o hb e => M.keep b o hb (k2 b o hb (k1 b o e)), M.obj, Nat.le_trans (Nat.le_of_lt hLlt) M.dbig, M.dne, ?_⟩
    have e : (ys.map fun z => (z.1, valOf fs vs z.1)).reverse ++ [(y.1, valOf fs vs y.1)] = (fs.zip vs).reverse := by
      rw [← valOf_zip fnd hl, ← hxs, List.map_map]
      simp
    have := M.ns
    rw [e] at this
    exact this
end
end GrX
end PySem
set_option Elab.async false
set_option linter.all false
set_option maxRecDepth 100000
set_option maxHeartbeats 4000000
/-! E2: an own error made, in a body; its fields read. -/
namespace PySem
namespace GrX
open PySem.W PySem.Calls PyProof.Rows PySem.HandSPX
section
variable {prog : Program} {w : World} {A : Around} {E : Value → Shared → Prop} {K : Frag} {mg : Str → Option Value} {C fI : Addr} {qual : Str} {par : Arguments} {body : List Stmt} {scope : Scope} {fs : List Str}
structure Made (h h' : Heap) (e C d : Addr) (l : List (Str × Value)) : Prop where
  keep : ∀ b o, h.get? b = some o → h'.get? b = some o
  new : h.objs.size ≤ e
  obj : ∃ oe vs, h'.get? e = some oe ∧ oe.cls = .ref C ∧ oe.dict = some d ∧ oe.data = .fields vs ∧ vs[1]? = some .none
  dbig : h.objs.size ≤ d
  dne : d ≠ e
  ns : h'.Ns1 d (fun y => l.lookup y)
theorem made (T : XT prog K mg C fI qual par body scope) (S : XS prog fs par body scope) (noN : ∀ f ∈ fs, findIn K (.ref C) f = some none) {vs : List Value} {s : Shared} {R : Result → Shared → Prop} (X : K.In s.heap) (hlim : s.heap.NoLimit) (hroom : A.depth + 1 < recursionLimit)
    (hG : s.heap.Ns mainGlobals mg) (hB : ∃ mb, s.heap.Ns builtinsNs mb ∧ mb "super" = some (.type "super")) (hl : vs.length = fs.length) (hz : fs.length ≤ 800)
    (hq : ∀ h' tk e d, Made s.heap h' e C d (fs.zip vs).reverse → R (.ok (.ret (.ref e))) { s with heap := h', toks := tk }) : codeAny (model prog w) A (.call (.ref C) ⟨vs, []⟩) R s := by
  obtain ⟨nm, q, N, bs, bm, sn, sub, ab, col, dd, k0, k1, k2, k3, k5, hC, hbm⟩ := T.T.cls
  obtain ⟨hp, g, dr, tk, os⟩ := s
  have k : ∀ b o, hp.get? b = some o → ((hp.push (kdv_tup vs)).push (excO C hp.objs.size)).get? b = some o := fun b o e => Heap.get?_push_of_some _ (Heap.get?_push_of_some _ e)
  have hget : ((hp.push (kdv_tup vs)).push (excO C hp.objs.size)).get? (hp.objs.size + 1) = some (excO C hp.objs.size) := by heap_get
  have hnx : K.lookup (hp.objs.size + 1) = none := by
    cases e : K.lookup (hp.objs.size + 1) with
    | none => rfl
    | some o =>
      have z : hp.get? (hp.objs.size + 1) = some o := X _ _ e
      exact absurd (Nat.lt_of_succ_lt (Heap.lt_size z)) (Nat.lt_irrefl _)
  have hvs : vs.length ≤ sizeLine := by rw [sizeLine_eq]; omega
  refine call_own F.excBase_ValueError (fun X => refsVE_contains X bm hbm) (X _ _ hC) (looks_findIn X T.iC) (fun self => bind_fn X self T.tI) hvs ?_
  refine init_run (s := ⟨(hp.push (kdv_tup vs)).push (excO C hp.objs.size), g, dr, tk, os⟩) T S noN (X.keeps k) (hlim.keeps k) hget hnx ?_ (ns_at hG fun o e => k _ o e) (let ⟨mb, a, b⟩ := hB; ⟨mb, ns_at a fun o e => k _ o e, b⟩) hl hz fun h' tk' dx t1 M => ?_
  · show A.depth + 1 < recursionLimit
    exact hroom
  · have old : ∀ b o, hp.get? b = some o → h'.get? b = some o := fun b o e => M.keep b o (Nat.ne_of_lt (Nat.lt_succ_of_lt (Heap.lt_size e))) (k b o e)
    have z : hp.objs.size + 1 + 1 ≤ dx := by
      have q := M.dbig
      first
        | (simpa only [Heap.size_push] using q)
        | exact q
        | (rw [Heap.size_push, Heap.size_push] at q; exact q)
    exact ⟨rfl, hq h' tk' (hp.objs.size + 1) dx ⟨old, Nat.le_succ _, ⟨_, _, M.obj, rfl, rfl, rfl, rfl⟩, Nat.le_trans (Nat.le_trans (Nat.le_succ _) (Nat.le_succ _)) z, M.dne, M.ns⟩⟩
end
end GrX
end PySem
namespace L2
open PySem PySem.Spec PyProof.Rows
theorem relO_zip {fs : List Str} {vs : List V} {us : List Value} (r : Vals vs us) (hl : vs.length = fs.length) (f : Str) : RelO ((fs.zip vs).reverse.lookup f) ((fs.zip us).reverse.lookup f) := by
  have key : ∀ {l : List (Str × V)} {l' : List (Str × Value)}, Paired (fun p q => p.1 = q.1 ∧ RelV p.2 q.2) l l' → RelO (l.lookup f) (l'.lookup f) := by
    intro l l' h
    induction h with
    | nil => trivial
    | @cons p q ps qs h _ ih =>
      obtain ⟨g, v⟩ := p
      obtain ⟨g', u⟩ := q
      obtain ⟨h1, h2⟩ := h
      have h1 : g = g' := h1
      subst h1
      rw [lookup_put, PySem.GrX.lookup_cons]
      by_cases e : f = g
      · rw [if_pos e, if_pos e]; exact h2
      · rw [if_neg e, if_neg e]; exact ih
  have papp : ∀ {l1 l2 : List (Str × V)} {m1 m2 : List (Str × Value)}, Paired (fun p q => p.1 = q.1 ∧ RelV p.2 q.2) l1 m1 → Paired (fun p q => p.1 = q.1 ∧ RelV p.2 q.2) l2 m2 → Paired (fun p q => p.1 = q.1 ∧ RelV p.2 q.2) (l1 ++ l2) (m1 ++ m2) := by
    intro l1 l2 m1 m2 h1 h2
    induction h1 with
    | nil => exact h2
    | cons h _ ih => exact .cons h ih
  refine key ?_
  clear key
  induction r generalizing fs with
  | nil => cases fs with
    | nil => exact .nil
    | cons _ _ => simp at hl
  | @cons v u vs us h t ih =>
    cases fs with
    | nil => simp at hl
    | cons f0 fs =>
      simp only [List.zip_cons_cons, List.reverse_cons]
      exact papp (ih (fs := fs) (by simpa using hl)) (.cons ⟨rfl, h⟩ .nil)
section
variable {X : Cx} {C fI : Addr} {qual : Str} {par : Arguments} {body : List Stmt} {scope : Scope} {fs : List Str}
/-- X(e, ..) -/
def tMkX (C : Addr) (fs : List Str) (ta : TA) : St → Hp → XK → Prop := fun σ H Q => ta σ H fun vs H1 => vs.length = fs.length ∧ ∀ d, H1 d = none → Q (.ref C) (some d) (upd H1 d (.xd (fs.zip vs).reverse))
theorem pmk_x {x : Str} {a : Expr} {es : List Expr} {ta : TA} {p pos : Pos} {k : Nat} (T : PySem.GrX.XT X.prog X.K X.mg C fI qual par body scope) (S : PySem.GrX.XS X.prog fs par body scope) (noN : ∀ f ∈ fs, PySem.W.findIn X.K (.ref C) f = some none) (hz : fs.length ≤ 800)
    (hr : Room k X.A) (ha : PA X (a :: es) ta) (hg : Gl X x) (hm : X.mg x = some (.ref C)) (hdb : (x == ("__debug__" : Str)) = false)
    (he : starEach (a :: es) X.env = (false, eval a X.env) :: starEach es X.env) (hpl : (backTo pos (starEach es X.env)).any (·.1) = false) :
    PMk X (.Call (.Name x p) (a :: es) [] pos) (tMkX C fs ta) := by
  intro pins s σ H Q I h
  refine wpAny_Call_Name_kw (ld_glob I hg hm ?_ hdb)
  refine PySem.W.callWith_K (h₀ := X.base) I.ok.mod.kin T.T.kC (thn (ha.run pos pins s σ H _ I h) fun us s1 hh => ?_) he hpl
  obtain ⟨vs, H1, I1, r1, hl, q1⟩ := hh
  refine ⟨I1.kIn, ?_⟩
  show wpAny _ _ (call (.ref C) us) _ _ _
  have hlim := I1.nolimit
  have hG : s1.heap.Ns mainGlobals X.mg := I1.mod.glob.keeps I1.bk
  have hB : ∃ mb, s1.heap.Ns builtinsNs mb ∧ mb "super" = some (.type "super") := by
    obtain ⟨mb, h1, h2⟩ := I1.mod.blt
    exact ⟨mb, h1.keeps I1.bk, (h2 _ (by decide)).trans (by kernel_rfl)⟩
  obtain ⟨hp, g, dr, tk, os⟩ := s1
  refine wpAny_call (PySem.GrX.made T S noN I1.kIn hlim (by have := hr.dp; omega) hG hB (by rw [← r1.length]; exact hl) hz fun h' tk' e d M => ?_)
  show MkP X pins σ Q (.ref e) ⟨h', g, dr, tk', os⟩
  obtain ⟨oe, fv, hoe, hc, hd, hdat, h1⟩ := M.obj
  have hns := M.ns
  obtain ⟨G', g1, g2⟩ := restrict h' fun b => decide (b ≠ e)
  have gk : ∀ b, b ≠ e → G'.get? b = h'.get? b := fun b hb => g1 b (decide_eq_true hb)
  have ge : G'.get? e = none := g2 e (by simp)
  have old : ∀ b o, hp.get? b = some o → G'.get? b = some o := fun b o q => (gk b (Nat.ne_of_lt (Nat.lt_of_lt_of_le (Heap.lt_size q) M.new))).trans (M.keep b o q)
  have ob : ObjOk X.prog X.w (upd H1 d (.xd (fs.zip vs).reverse)) G' d (.xd (fs.zip vs).reverse) :=
    ⟨_, hns.at (fun o q => (gk d M.dne).trans q), fun f => relO_zip r1 hl f⟩
  have J : Inv X pins σ (upd H1 d (.xd (fs.zip vs).reverse)) ⟨G', g, dr, tk', os⟩ := I1.laid (t' := tk') old M.dbig ob
  refine ⟨e, oe, fv, ⟨G', g, dr, tk', os⟩, _, .ref C, some d, rfl, J, fun b o q => ?_, ge, hoe, ⟨hc, hd⟩, hdat, h1, ?_, rfl, I1.bare, raises_own T.T.exC T.T.tyC, q1 d (I1.hok.fresh M.dbig)⟩
  · by_cases hb : b = e
    · have q' : G'.get? b = some o := q
      rw [hb, ge] at q'; cases q'
    · exact (gk b hb).symm.trans q
  · rw [upd_ne (Ne.symm M.dne)]
    exact I1.hok.fresh M.new
/-- e.f, e the exception that the suite holds (at a; its class cls, its dict d) -/
def tFldX (C : Addr) (a : Addr) (cls : Value) (d : Option Addr) (f : Str) (te : TE) : TE := fun σ H Q => te σ H fun x H1 => x = .ref a ∧ cls = .ref C ∧ ∃ (dd : Addr) (l : List (Str × V)) (v : V), d = some dd ∧ H1 dd = some (.xd l) ∧ l.lookup f = some v ∧ Q v H1
theorem pe_fldX {a : Addr} {oe : Obj} {cls : Value} {d : Option Addr} {pn : List (Addr × Obj)} {e : Expr} {te : TE} {pos : Pos} {f : Str} (ga : PySem.W.findIn X.K (.ref C) "__getattribute__" = some (some (.builtin "BaseException.__getattribute__")))
    (gg : PySem.W.findIn X.K (.ref C) "__getattr__" = some none) (exC : PySem.W.subIn X.K (.ref C) (.type "BaseException") = some true) (hdC : PySem.W.hasDictIn X.K C = true) (noN : PySem.W.findIn X.K (.ref C) f = some none) (hz : Zc cls d oe) (hf : ∃ vs, oe.data = .fields vs)
    (he : PE (X.suite a ((a, oe) :: pn)) e te) (hb : attributeBase e f X.env (eval e X.env) = eval e X.env) :
    PE (X.suite a ((a, oe) :: pn)) (.Attribute e f pos) (tFldX C a cls d f te) := by
  refine ⟨fun pins s σ H Q I h => ?_⟩
  refine attr_of hb (thn (he.run pins s σ H _ I h) fun u s1 hh => ?_)
  obtain ⟨x, H1, I1, rx, ex, ec, dd, l, v, ed, ea, hl, q⟩ := hh
  subst ex
  obtain rfl : u = Value.ref a := rx
  subst ec
  subst ed
  obtain ⟨ha, _⟩ := I1.pin (a, oe) (List.mem_append_left _ List.mem_cons_self)
  obtain ⟨vs, hd⟩ := hf
  have hx : ObjOk X.prog X.w H1 s1.heap dd (.xd l) := I1.hok dd _ ea
  obtain ⟨mA, hns, hr⟩ := hx
  obtain ⟨od, ho, hl2⟩ := lookIn_ns hns
  obtain ⟨u, hu, ru⟩ := RelO.some_of (v := v) (o := mA f) (by rw [← hl]; exact hr f)
  have J : PySem.W.InstAt s1.heap a oe C (some od) := ⟨ha, hz.1, by unfold PySem.W.notCls; rw [hd] <;> rfl, by rw [hz.2]; exact ho⟩
  exact HandSPX.exc_get I1.kIn J ga gg exC (PySem.W.findObj_own hdC noN rfl (by rw [hl2, hu])) (handed_of ru) ⟨v, H1, I1.tok _, ru, q⟩
end
end L2
set_option Elab.async false
set_option linter.all false
set_option maxRecDepth 100000
/-! E3: try with several clauses, each with a name or without. -/
namespace L2
open PySem PySem.Spec PyProof.Rows
abbrev Cl := Value × Option Nat × (Addr → Value → Option Addr → TS)
def outEnds (D : Ends) (i : Nat) : Ends := { nx := fun σ' H' => D.nx (σ'.set i none) H', rt := D.rt, bk := fun σ' H' => D.bk (σ'.set i none) H', ct := fun σ' H' => D.ct (σ'.set i none) H' }
def wGen (K : PySem.W.Frag) (Wout : WX) (D : Ends) : List Cl → WX
  | [] => Wout
  | (c, none, ts) :: r => fun cls d σ H => ∃ b, PySem.W.exmOne K cls c = some b ∧ (b = true → ∀ a, H a = none → ts a cls d D σ H) ∧ (b = false → wGen K Wout D r cls d σ H)
  | (c, some i, ts) :: r => fun cls d σ H => ∃ b, PySem.W.exmOne K cls c = some b ∧ (b = true → ∀ a, H a = none → ts a cls d (outEnds D i) (σ.set i (some (.ref a))) H) ∧ (b = false → wGen K Wout D r cls d σ H)
inductive HdsG (X : Cx) : List ExceptHandler → List Cl → Prop
  | nil : HdsG X [] []
  | no {x : Str} {c : Value} {ts : Addr → Value → Option Addr → TS} {b₀ : Stmt} {suite : List Stmt} {np pos' : Pos} {hds : List ExceptHandler} {l : List Cl} (hc : Names X x c)
      (hsu : ∀ (a : Addr) (oe : Obj) (cls : Value) (d : Option Addr) (pn : List (Addr × Obj)), Zc cls d oe → (∃ vs, oe.data = .fields vs) → PSs (X.suite a ((a, oe) :: pn)) (b₀ :: suite) (ts a cls d)) (r : HdsG X hds l) :
      HdsG X (.ExceptHandler (some (.Name x np)) none (b₀ :: suite) pos' :: hds) ((c, none, ts) :: l)
  | yes {x n : Str} {i : Nat} {c : Value} {ts : Addr → Value → Option Addr → TS} {b₀ : Stmt} {suite : List Stmt} {np pos' : Pos} {hds : List ExceptHandler} {l : List Cl} (hc : Names X x c) (hi : X.N[i]? = some n) (hln : X.env.kindOf n = some .local)
      (hsu : ∀ (a : Addr) (oe : Obj) (cls : Value) (d : Option Addr) (pn : List (Addr × Obj)), Zc cls d oe → (∃ vs, oe.data = .fields vs) → PSs (X.suite a ((a, oe) :: pn)) (b₀ :: suite) (ts a cls d)) (r : HdsG X hds l) :
      HdsG X (.ExceptHandler (some (.Name x np)) (some n) (b₀ :: suite) pos' :: hds) ((c, some i, ts) :: l)
section
variable {X : Cx} {body : List Stmt} {h₀ : ExceptHandler} {hds : List ExceptHandler} {l : List Cl} {pos : Pos} {tb : WX → TS} {Wout : WX}
theorem ps_try_gen (hs : X.stack = X.env :: X.outer) (hf : X.env.frame = some X.env.locals) (hN : X.N.Nodup) (tk : Takes X Wout)
    (hb : ∀ (W : WX) (pn : List (Addr × Obj)) (xe : Value → Shared → Prop), Takes (X.tr pn xe) W → PassesOwn (model X.prog X.w) X.A X.env xe → PSs (X.tr pn xe) body (tb W))
    (hh : HdsG X (h₀ :: hds) l) : PS X (.Try body (h₀ :: hds) [] [] pos) (fun D σ H => tb (wGen X.K Wout D l) D σ H) := by
  refine ⟨fun pins s σ H D I h => ?_⟩
  have ok := I.ok
  have hfr : X.A.frames = some (X.env :: X.outer) := by rw [ok.frames, hs]
  refine wpAny_Try_except ?_
  refine wpAny_mono ((hb (wGen X.K Wout D l) (X.pn ++ pins) (fun e s₁ => wpAny (model X.prog X.w) X.A (noteFrame e X.env) (fun _ s₂ => wpAny (model X.prog X.w) X.A (setFlight e none) (fun _ s₃ =>
    wpAny (model X.prog X.w) X.A (handleBy e X.env (h₀ :: hds)) (SP X pins D) X.xe s₃) X.xe s₂) X.xe s₁) (fun u s' xx => ?_) PassesOwn.looking).run [] s σ H D (I.toTry _) h) (fun f s1 hsp => ?_) (fun e s1 he => he)
  · -- the catch
    obtain ⟨a, B, sI, pins', σ', H', cls, d, rfl, J', nb, up, sky, na, os, ag, w⟩ := xx
    have J : Inv X pins σ' H' sI := J'.ofTry ok
    have sky' : Sky B (X.env :: X.outer) a (Zc cls d) X.env.locals s'.heap := by rw [← hs]; exact sky
    show wpAny (model X.prog X.w) X.A (noteFrame (.ref a) X.env) _ _ _
    refine Sky.land Zc.steady hfr hf sky' fun h3 fl3 up3 => ?_
    have J3 : Inv X pins σ' H' { s' with heap := h3 } := J.landed nb fl3.1 (up.trans up3) os ag
    obtain ⟨oe3, vs3, he3, hz3, hd3⟩ := fl3.there
    have notFr : ∀ {h : Heap} {o : Obj} {vs : Array Value}, h.FunFrames B (X.env :: X.outer) → h.get? a = some o → o.data = .fields vs → a ∉ frs (X.env :: X.outer) := fun {h o vs} ff e dd hm => by
      obtain ⟨_, o', e', hnf⟩ := ff.mem hm
      rw [e] at e'; cases e'
      exact hnf _ dd
    have nfr := notFr fl3.2.2.1 he3 hd3
    have nL : a ≠ X.env.locals := fun z => nfr (List.mem_filterMap.mpr ⟨X.env, List.mem_cons_self, by rw [hf, z]⟩)
    have nF : a ∉ X.fs := fun hm => by
      obtain ⟨e, he, q⟩ := List.mem_filterMap.mp hm
      exact nfr (List.mem_filterMap.mpr ⟨e, List.mem_cons_of_mem _ he, q⟩)
    have S3 := J3.suite he3 hd3 na nL nF
    have LT : PySem.W.Looks (model X.prog X.w) h3 (typeOf (.ref a)) cls := fun A Q E s k q => wpAny_typeOf_ref (k _ _ he3) (by rw [hz3.1]; exact q)
    have go : ∀ {hds' : List ExceptHandler} {l' : List Cl}, HdsG X hds' l' → wGen X.K Wout D l' cls d σ' H' →
        wpAny (model X.prog X.w) X.A (handleBy (.ref a) X.env hds') (SP X pins D) X.xe { s' with heap := h3 } := by
      intro hds' l' hk
      induction hk with
      | nil =>
        intro w
        refine wpAny_handleBy_nil ?_
        obtain ⟨k1, k2, k3, oe, vs, T, oT, ts', he, hz, hd, h1, hr⟩ := id fl3
        unfold PySem.passOn
        refine wpAny_bind (wpAny_field he hd h1 ?_)
        rw [if_neg (show ¬ ((Value.ref T == Value.none) = true) from by simp)]
        have fin : wpAny (model X.prog X.w) X.A (setFlight (.ref a) X.env.frame) (fun _ s4 => wpAny (model X.prog X.w) X.A (throw (.ref a) : Sem Flow) (SP X pins D) X.xe s4) X.xe { s' with heap := h3 } := by
          rw [hf]
          refine HandSPX.setFlight_upZ fl3 fun h4 hh4 up4 => wpAny_throw (tk _ _ ?_)
          exact ⟨a, B, sI, pins, σ', H', cls, d, rfl, J, nb, (up.trans up3).trans up4, .inr (.inr (by rw [hs]; exact hh4)), na, os, ag, w⟩
        first
          | exact wpAny_bind (wpAny_pure (wpAny_bind fin))
          | exact wpAny_bind fin
      | @no x c ts b₀ suite np pos' hds2 l2 hc hsu r ih =>
        intro w
        obtain ⟨b, hb1, hyes, hno⟩ := w
        refine wpAny_handleBy_cons (codeAny_handlers_test ?_) (by intro q; cases q)
        have LM := PySem.W.exm_one (M := model X.prog X.w) (J3.kIn) LT hb1
        have test : ∀ {Q : Value → Shared → Prop} {E : Value → Shared → Prop}, Q c { s' with heap := h3 } → wpAny (model X.prog X.w) (X.A.mark (some (.ref a))) (eval (.Name x np) X.env) Q E { s' with heap := h3 } := fun {Q E} q => by
          obtain ⟨hg, hdbg, hm | ⟨hm, hv, hnn⟩⟩ := hc
          · exact ld_glob (X := X.suite a ((a, oe3) :: (X.pn ++ pins))) S3 hg hm q hdbg
          · exact ld_blt (X := X.suite a ((a, oe3) :: (X.pn ++ pins))) S3 hg hm hv q hnn hdbg
        refine test (LM.here ?_)
        cases b with
        | true =>
          refine codeAny_handlers_suite ?_
          refine HandSPX.lands_againZ fl3 fun h4 fl4 up4 => ?_
          have J4 : Inv X pins σ' H' { s' with heap := h4 } := J.landed nb fl4.1 ((up.trans up3).trans up4) os ag
          obtain ⟨oe4, vs4, he4, hz4, hd4⟩ := fl4.there
          have S4 := J4.suite he4 hd4 na nL nF
          refine wpAny_mono ((hsu a oe4 cls d (X.pn ++ pins) hz4 ⟨_, hd4⟩).run [] _ _ H' _ S4 (hyes rfl a na)) (fun f s6 hsp => ?_) (fun _ _ z => False.elim z)
          cases f with
          | next =>
            obtain ⟨σ6, H6, S6, q6⟩ := hsp
            exact ⟨_, _, S6.unsuite ok, q6⟩
          | brk =>
            obtain ⟨σ6, H6, S6, q6⟩ := hsp
            exact ⟨_, _, S6.unsuite ok, q6⟩
          | cont =>
            obtain ⟨σ6, H6, S6, q6⟩ := hsp
            exact ⟨_, _, S6.unsuite ok, q6⟩
          | ret u =>
            obtain ⟨v6, σ6, H6, S6, r6, q6⟩ := hsp
            exact ⟨_, _, _, S6.unsuite ok, r6, q6⟩
        | false =>
          show wpAny _ X.A (handleBy (.ref a) X.env hds2) _ _ _
          exact ih (hno rfl)
      | @yes x n i c ts b₀ suite np pos' hds2 l2 hc hi hln hsu r ih =>
        intro w
        obtain ⟨b, hb1, hyes, hno⟩ := w
        have hloc : Loc X.env.scope n := .inl hln
        refine wpAny_handleBy_cons (codeAny_handlers_test ?_) (by intro q; cases q)
        have LM := PySem.W.exm_one (M := model X.prog X.w) (J3.kIn) LT hb1
        have test : ∀ {Q : Value → Shared → Prop} {E : Value → Shared → Prop}, Q c { s' with heap := h3 } → wpAny (model X.prog X.w) (X.A.mark (some (.ref a))) (eval (.Name x np) X.env) Q E { s' with heap := h3 } := fun {Q E} q => by
          obtain ⟨hg, hdbg, hm | ⟨hm, hv, hnn⟩⟩ := hc
          · exact ld_glob (X := X.suite a ((a, oe3) :: (X.pn ++ pins))) S3 hg hm q hdbg
          · exact ld_blt (X := X.suite a ((a, oe3) :: (X.pn ++ pins))) S3 hg hm hv q hnn hdbg
        refine test (LM.here ?_)
        cases b with
        | true =>
          refine codeAny_handlers_suite_as ?_
          refine HandSPX.lands_againZ fl3 fun h4 fl4 up4 => ?_
          have J4 : Inv X pins σ' H' { s' with heap := h4 } := J.landed nb fl4.1 ((up.trans up3).trans up4) os ag
          obtain ⟨oe4, vs4, he4, hz4, hd4⟩ := fl4.there
          have S4 := J4.suite he4 hd4 na nL nF
          refine store_ok (X := X.suite a ((a, oe4) :: (X.pn ++ pins))) (v := .ref a) S4 hN hi hloc rfl (fun s5 S5 => ?_) (.inr hln)
          refine wpAny_mono ((hsu a oe4 cls d (X.pn ++ pins) hz4 ⟨_, hd4⟩).run [] s5 _ H' _ S5 (hyes rfl a na)) (fun f s6 hsp => ?_) (fun _ _ z => False.elim z)
          have end_ : ∀ {σ6 : St} {H6 : Hp} {Q : Shared → Prop}, Inv (X.suite a ((a, oe4) :: (X.pn ++ pins))) [] σ6 H6 s6 → (∀ s7, Inv X pins (σ6.set i none) H6 s7 → Q s7) →
              wpAny (model X.prog X.w) X.A (do bindName X.env n .none; unbindBehindTheSuite X.env n pos') (fun _ s7 => Q s7) X.xe s6 := fun {σ6 H6 Q} S6 hq => gone_ok (S6.unsuite ok) hN hi hln hq
          cases f with
          | next =>
            obtain ⟨σ6, H6, S6, q6⟩ := hsp
            exact end_ S6 fun s7 J7 => ⟨_, _, J7, q6⟩
          | brk =>
            obtain ⟨σ6, H6, S6, q6⟩ := hsp
            exact end_ S6 fun s7 J7 => ⟨_, _, J7, q6⟩
          | cont =>
            obtain ⟨σ6, H6, S6, q6⟩ := hsp
            exact end_ S6 fun s7 J7 => ⟨_, _, J7, q6⟩
          | ret u =>
            obtain ⟨v6, σ6, H6, S6, r6, q6⟩ := hsp
            exact end_ S6 fun s7 J7 => ⟨_, _, _, J7, r6, q6⟩
        | false =>
          show wpAny _ X.A (handleBy (.ref a) X.env hds2) _ _ _
          exact ih (hno rfl)
    exact go hh w
  · cases f with
    | next =>
      obtain ⟨σ', H', J', q⟩ := hsp
      exact wpAny_execs_nil ⟨σ', H', J'.ofTry ok, q⟩
    | brk =>
      obtain ⟨σ', H', J', q⟩ := hsp
      exact ⟨σ', H', J'.ofTry ok, q⟩
    | cont =>
      obtain ⟨σ', H', J', q⟩ := hsp
      exact ⟨σ', H', J'.ofTry ok, q⟩
    | ret u =>
      obtain ⟨v, σ', H', J', r, q⟩ := hsp
      exact ⟨v, σ', H', J'.ofTry ok, r, q⟩
end
end L2
set_option Elab.async false
set_option linter.all false
set_option maxRecDepth 100000
/-! G18: raise, try, an error's field. -/
namespace Gr
open PySem PySem.Spec L2
section
variable {X : Cx} {R : Rc} {kx : Kx} {w : Wo} {T S : Tm} {lk lk' : List Nat} {e : Ev} {σ σ' : St} {H H' : Hp} {b b' : Addr → Prop} {p q : P} {v u : V} {K : PySem.W.Frag} {pos pos' : Pos} {a : Expr} {ma : M Rv}
def withX (w : Wo) (xa : Option (Addr × Value × Option Addr)) : Wo := { w with xa := xa }
theorem bad_x {xa : Option (Addr × Value × Option Addr)} : bad (withX w xa) T e σ = bad w T e σ := rfl
theorem RD.flatx {d : D} {w w' : Wo} (hf : d.flat = true) (h : RD kx w H b d v) : RD kx w' H b d v := RD.anyw hf h
theorem Wd.noX (W : Wd kx w T lk e σ H) (hx : w.xa = none) : (∀ (i : Nat) (d : D), e[i]? = some (some d) → d.flat = true) ∧ ∀ (v : V) (d : D), (v, Tk.val d) ∈ T → d.flat = true := by
  have key : ∀ {d : D} {v : V} {b : Addr → Prop}, RD kx w H b d v → d.flat = true := fun {d v b} r => by
    cases d with
    | exn c fs =>
      obtain ⟨_, _, _, _, h, _⟩ := r
      rw [hx] at h; cases h
    | _ => rfl
  refine ⟨fun i d h => ?_, fun v d h => key (W.tm _ h)⟩
  obtain ⟨v, _, r⟩ := W.sl i d h
  exact key r
theorem Wd.reX {xa : Option (Addr × Value × Option Addr)} (W : Wd kx w T lk e σ H) (h1 : ∀ (i : Nat) (d : D), e[i]? = some (some d) → d.flat = true) (h2 : ∀ (v : V) (d : D), (v, Tk.val d) ∈ T → d.flat = true) : Wd kx (withX w xa) T lk e σ H :=
  ⟨W.len, W.nd, fun i d h => let ⟨v, z1, z2⟩ := W.sl i d h; ⟨v, z1, RD.anyw (h1 i d h) z2⟩, fun q hq => by
    have z := W.tm q hq
    obtain ⟨v, r⟩ := q
    cases r with
    | val d => exact RD.anyw (d := d) (h2 v d hq) z
    | slot i d => exact z, W.fr, W.nw, W.bb, W.ms, W.mt⟩
theorem noExn_of : ∀ {e : Ev}, noExn e = true → ∀ (i : Nat) (d : D), e[i]? = some (some d) → d.flat = true
  | [], _, i, d, h => by simp at h
  | none :: e, hn, 0, d, h => by simp at h
  | none :: e, hn, i + 1, d, h => noExn_of (e := e) hn i d (by simpa using h)
  | some x :: e, hn, 0, d, h => by
    simp at h; subst h
    cases x <;> first | rfl | (simp [noExn] at hn)
  | some x :: e, hn, i + 1, d, h => noExn_of (e := e) (by cases x <;> first | exact hn | (simp [noExn] at hn)) i d (by simpa using h)
theorem withX_back {xa : Option (Addr × Value × Option Addr)} (hx : w.xa = none) : withX (withX w xa) none = w := by
  cases w; simp only [withX] at *; simp [hx]
/-- back out of a suite -/
theorem Wd.unx {xa : Option (Addr × Value × Option Addr)} (W : Wd kx (withX w xa) T lk e σ H) (hx : w.xa = none) (h1 : noExn e = true) (h2 : ∀ (v : V) (d : D), (v, Tk.val d) ∈ T → d.flat = true) : Wd kx w T lk e σ H := by
  have := W.reX (xa := none) (noExn_of h1) h2
  rwa [withX_back hx] at this
theorem Wd.pushX {c : Nat} {fs : List (Nat × P)} (W : Wd kx w T lk e σ H) (h : RD kx w H (bad w T e σ) (.exn c fs) v) : Wd kx w (T ++ [(v, .val (.exn c fs))]) lk e σ H := by
  have eT : ownT (T ++ [(v, .val (.exn c fs))]) = ownT T := by rw [ownT_append]; cases v <;> simp [ownT, ownD]
  have eb : bad w (T ++ [(v, .val (.exn c fs))]) e σ = bad w T e σ := by funext a; simp only [bad, eT]
  refine ⟨W.len, by rw [eT]; exact W.nd, fun i d q => by rw [eb]; exact W.sl i d q, fun q hq => ?_, W.fr, by rw [eT]; exact W.nw, W.bb, W.ms, W.mt⟩
  rw [eb]
  rcases List.mem_append.mp hq with hq | hq
  · exact W.tm q hq
  · have := List.mem_singleton.mp hq
    subst this
    exact h
/-- clauses and their readings -/
inductive HdRel (R : Rc) (K : PySem.W.Frag) : List Hd → List Cl → Prop
  | nil : HdRel R K [] []
  | no {tk : Nat → Option Bool} {m : M Flow} {c : Value} {hs : List Hd} {l : List Cl} (ht : ∀ x b, tk x = some b → PySem.W.exmOne K (.ref (R.kx.ca x)) c = some b) (r : HdRel R K hs l) :
      HdRel R K (⟨tk, none, m⟩ :: hs) ((c, none, fun a cls d => rdS { R with W := fun _ _ _ _ => False, xa := some (a, cls, d) } m) :: l)
  | yes {tk : Nat → Option Bool} {m : M Flow} {c : Value} {i : Nat} {hs : List Hd} {l : List Cl} (ht : ∀ x b, tk x = some b → PySem.W.exmOne K (.ref (R.kx.ca x)) c = some b) (hi : i ∉ R.mps) (r : HdRel R K hs l) :
      HdRel R K (⟨tk, some i, m⟩ :: hs) ((c, some i, fun a cls d => rdS { R with W := fun _ _ _ _ => False, xa := some (a, cls, d) } m) :: l)
theorem rd_clauses {D : Ends} {x : Nat} {fs : List (Nat × P)} {cls : Value} {d : Option Addr} (hf : R.fits w) (hx : R.xa = none) (W : Wd R.kx w T lk e σ H) (xr : Xrep R.kx H (bad w T e σ) x fs cls d) : ∀ {hs : List Hd} {l : List Cl}, HdRel R K hs l →
    OutS R w T lk (EndN R w T lk D) (hdF x fs hs ⟨R.Φ, lk⟩ e) → wGen K R.W D l cls d σ H := by
  have hwx : w.xa = none := hf.2.trans hx
  obtain ⟨nx1, nx2⟩ := W.noX hwx
  intro hs l hr
  induction hr with
  | nil => exact fun h => h cls d σ H W xr
  | @no tk m c hs l ht r ih =>
    intro h
    unfold hdF at h
    dsimp only at h
    cases q : tk x with
    | none => simp only [q] at h; exact h.elim
    | some bb =>
      cases bb with
      | false =>
        simp only [q] at h
        exact ⟨false, by rw [xr.1]; exact ht x _ q, fun z => Bool.noConfusion z, fun _ => ih h⟩
      | true =>
        simp only [q] at h
        refine ⟨true, by rw [xr.1]; exact ht x _ q, fun _ a ha => ?_, fun z => Bool.noConfusion z⟩
        refine ⟨withX w (some (a, cls, d)), T, lk, e, ⟨hf.1, rfl⟩, W.reX nx1 nx2, ?_⟩
        show OutS _ _ _ _ _ (m ⟨R.Φ, lk⟩ e)
        cases q2 : m ⟨R.Φ, lk⟩ e with
        | stk => rw [q2] at h; exact h.elim
        | rs c' f' e' => rw [q2] at h; exact h.elim
        | ok f e2 =>
          rw [q2] at h
          simp only [noRs, Out.andThen] at h
          cases q3 : (noExn e2 && f.flat) with
          | false => rw [q3, if_neg Bool.false_ne_true] at h; exact h.elim
          | true =>
            rw [q3, if_pos rfl] at h
            obtain ⟨n1, n2⟩ := Bool.and_eq_true_iff.mp q3
            cases f with
            | nx => exact fun σ2 H2 W2 => h σ2 H2 (W2.unx hwx n1 nx2)
            | bk => exact fun σ2 H2 W2 => h σ2 H2 (W2.unx hwx n1 nx2)
            | ct => exact fun σ2 H2 W2 => h σ2 H2 (W2.unx hwx n1 nx2)
            | rt d' => exact fun v2 σ2 H2 W2 => h v2 σ2 H2 (W2.unx hwx n1 fun u d2 hq => by
                rcases List.mem_append.mp hq with hq | hq
                · exact nx2 u d2 hq
                · have := List.mem_singleton.mp hq
                  cases this
                  exact n2)
  | @yes tk m c i hs l ht hi r ih =>
    intro h
    unfold hdF at h
    dsimp only at h
    cases q : tk x with
    | none => simp only [q] at h; exact h.elim
    | some bb =>
      cases bb with
      | false =>
        simp only [q] at h
        exact ⟨false, by rw [xr.1]; exact ht x _ q, fun z => Bool.noConfusion z, fun _ => ih h⟩
      | true =>
        simp only [q] at h
        refine ⟨true, by rw [xr.1]; exact ht x _ q, fun _ a ha => ?_, fun z => Bool.noConfusion z⟩
        unfold suiF at h
        dsimp only at h
        cases q1 : (lk.contains i || decide (e.length ≤ i)) with
        | true => rw [q1, if_pos rfl] at h; exact h.elim
        | false =>
        rw [q1, if_neg Bool.false_ne_true] at h
        obtain ⟨g1, g2⟩ := Bool.or_eq_false_iff.mp q1
        have hlk : i ∉ lk := mem_of_contains g1
        have hlt : i < e.length := by
          have := of_decide_eq_false g2
          omega
        have him : i ∉ (withX w (some (a, cls, d))).ms.map (·.1) := by
          show i ∉ w.ms.map (·.1)
          rw [hf.1]; exact hi
        have W1 : Wd R.kx (withX w (some (a, cls, d))) T lk e σ H := W.reX nx1 nx2
        have W2 := (W1.pushX (c := x) (fs := fs) (v := .ref a) ⟨a, cls, d, rfl, rfl, xr⟩).bind hlt hlk him W.slin
        refine ⟨withX w (some (a, cls, d)), T, lk, _, ⟨hf.1, rfl⟩, W2, ?_⟩
        show OutS _ _ _ _ _ (m ⟨R.Φ, lk⟩ (e.set i (some (.exn x fs))))
        cases q2 : m ⟨R.Φ, lk⟩ (e.set i (some (.exn x fs))) with
        | stk => rw [q2] at h; exact h.elim
        | rs c' f' e' => rw [q2] at h; exact h.elim
        | ok f e2 =>
          rw [q2] at h
          simp only [noRs, Out.andThen] at h
          cases q3 : (noExn (e2.set i none) && f.flat) with
          | false => rw [q3, if_neg Bool.false_ne_true] at h; exact h.elim
          | true =>
            rw [q3, if_pos rfl] at h
            obtain ⟨n1, n2⟩ := Bool.and_eq_true_iff.mp q3
            have out : ∀ σ2 H2, Wd R.kx (withX w (some (a, cls, d))) T lk e2 σ2 H2 → Wd R.kx w T lk (e2.set i none) (σ2.set i none) H2 := fun σ2 H2 W3 => by
              refine ((W3.drop1 hlk).change (σ' := σ2.set i none) (by simp) (fun j d' hj => ?_) fun q hq => ?_).unx hwx n1 nx2
              · have hji : i ≠ j := fun z => by
                  subst z
                  by_cases hl : i < e2.length
                  · rw [List.getElem?_set_self hl] at hj; cases hj
                  · rw [List.getElem?_eq_none (by simpa using hl)] at hj; cases hj
                rw [List.getElem?_set_ne hji]
              · have hji : i ≠ q.1 := fun z => him (z ▸ List.mem_map_of_mem hq)
                rw [List.getElem?_set_ne hji]
            cases f with
            | nx => exact fun σ2 H2 W3 => h _ H2 (out σ2 H2 W3)
            | bk => exact fun σ2 H2 W3 => h _ H2 (out σ2 H2 W3)
            | ct => exact fun σ2 H2 W3 => h _ H2 (out σ2 H2 W3)
            | rt d' => exact fun v2 σ2 H2 W3 => h v2 σ2 H2 ((W3.drop1 hlk).unx hwx n1 fun u d2 hq => by
                rcases List.mem_append.mp hq with hq | hq
                · exact nx2 u d2 hq
                · have := List.mem_singleton.mp hq
                  cases this
                  exact n2)
/-- try: body / except ..: .. -/
theorem s_try {body : List Stmt} {h₀ : ExceptHandler} {hds : List ExceptHandler} {m : M Flow} {hs : List Hd} {l : List Cl} (hst : X.stack = X.env :: X.outer) (hfr : X.env.frame = some X.env.locals) (hN : X.N.Nodup) (tk : Takes X R.W) (hx : R.xa = none)
    (hb : ∀ (W : WX) (pn : List (Addr × Obj)) (xe : Value → Shared → Prop), Takes (X.tr pn xe) W → PassesOwn (model X.prog X.w) X.A X.env xe → PSs (X.tr pn xe) body (rdS { R with W := W } m))
    (hh : HdsG X (h₀ :: hds) l) (hr : HdRel R X.K hs l) : PS X (.Try body (h₀ :: hds) [] [] pos) (rdS R (mTry m hs)) := by
  refine PSimp (ps_try_gen (tb := fun W => rdS { R with W := W } m) (Wout := R.W) hst hfr hN tk hb hh) fun D σ H h => ?_
  obtain ⟨w, T, lk, e, hm, W, h⟩ := h
  refine ⟨w, T, lk, e, hm, W, ?_⟩
  show OutS { R with W := wGen X.K R.W D l } w T lk _ (m ⟨R.Φ, lk⟩ e)
  unfold mTry at h
  cases q : m ⟨R.Φ, lk⟩ e with
  | stk => simp only [q] at h; exact h.elim
  | ok f e1 =>
    simp only [q] at h
    cases f <;> exact h
  | rs x fs e1 =>
    simp only [q] at h
    exact fun cls d σ' H' W1 xr => rd_clauses hm hx W1 xr hr h
end
end Gr
set_option Elab.async false
set_option linter.all false
set_option maxRecDepth 100000
/-! G19: raise X(..); e.f. -/
namespace Gr
open PySem PySem.Spec L2
section
variable {X : Cx} {R : Rc} {kx : Kx} {w : Wo} {T S : Tm} {lk lk' : List Nat} {e : Ev} {σ σ' : St} {H H' : Hp} {b b' : Addr → Prop} {p q : P} {v u : V} {K : PySem.W.Frag} {pos pos' : Pos} {a : Expr} {ma : M Rv}
theorem paired_app {α β : Type} {r : α → β → Prop} {l1 l2 : List α} {m1 m2 : List β} (h1 : Paired r l1 m1) (h2 : Paired r l2 m2) : Paired r (l1 ++ l2) (m1 ++ m2) := by
  induction h1 with
  | nil => exact h2
  | cons h _ ih => exact .cons h ih
/-- fields' names -/
def AtsOk (kx : Kx) : List Nat → List Str → Prop
  | [], [] => True
  | a :: as, f :: fs => kx.ats[a]? = some f ∧ AtsOk kx as fs
  | _, _ => False
theorem AtsOk.len {kx : Kx} : ∀ {as : List Nat} {fs : List Str}, AtsOk kx as fs → as.length = fs.length
  | [], [], _ => rfl
  | [], _ :: _, h => h.elim
  | _ :: _, [], h => h.elim
  | _ :: as, _ :: fs, h => by simp [AtsOk.len h.2]
theorem xd_pairs : ∀ {as : List Nat} {fs : List Str} {ps : List P} {vs : List V}, AtsOk kx as fs → RFs kx.K H b ps vs → as.length = ps.length →
    Paired (fun (q : Nat × P) (x : Str × V) => kx.ats[q.1]? = some x.1 ∧ RF kx.K H b q.2 x.2) (as.zip ps).reverse (fs.zip vs).reverse
  | [], [], ps, vs, _, r, hl => by
    cases ps with
    | nil => exact .nil
    | cons _ _ => simp at hl
  | [], _ :: _, _, _, h, _, _ => h.elim
  | _ :: _, [], _, _, h, _, _ => h.elim
  | a :: as, f :: fs, ps, vs, h, r, hl => by
    cases ps with
    | nil => simp at hl
    | cons p ps =>
      obtain ⟨v, vs', rfl, r1, r2⟩ := r.cons_of
      simp only [List.zip_cons_cons, List.reverse_cons]
      exact paired_app (xd_pairs h.2 r2 (by simpa using hl)) (.cons ⟨h.1, r1⟩ .nil)
theorem s_raise {x : Nat} {ats : List Nat} {ms : List (M Rv)} {n : Str} {es : List Expr} {fI : Addr} {qual : Str} {par : Arguments} {body : List Stmt} {scope : Scope} {fs : List Str} {k : Nat} {p pos2 : Pos} (hK : R.kx.K = X.K) (hc : X.calm = true) (tk : Takes X R.W)
    (T : PySem.GrX.XT X.prog X.K X.mg (R.kx.ca x) fI qual par body scope) (S : PySem.GrX.XS X.prog fs par body scope) (noN : ∀ f ∈ fs, PySem.W.findIn X.K (.ref (R.kx.ca x)) f = some none) (hz : fs.length ≤ 800) (hat : AtsOk R.kx ats fs) (hms : ats.length = ms.length)
    (hr : Room k X.A) (hg : Gl X n) (hm : X.mg n = some (.ref (R.kx.ca x))) (hdb : (n == ("__debug__" : Str)) = false) (ha : PA X (a :: es) (rdL R (mLs ms))) (hs : unstar a = true) (hpl : (backTo pos (starEach es X.env)).any (·.1) = false) :
    PS X (.Raise (some (.Call (.Name n p) (a :: es) [] pos)) none pos2) (rdS R (mRs x ats ms)) := by
  refine PSimp (ps_raise hc tk (pmk_x T S noN hz hr ha hg hm hdb (star_plain hs) hpl)) fun D σ H h => ?_
  obtain ⟨w, T', lk, e, hm', W, h⟩ := h
  refine ⟨w, T', lk, e, hm', W, (outS_andThen h).withEq.g.mono fun ps e1 ⟨eq, h1⟩ vs H1 hl W1 => ?_⟩
  have hps := mLs_len eq
  refine ⟨by rw [hl, hps, ← hms]; exact hat.len, fun d hd => ?_⟩
  have rv := rfs_of_vals W1 hl fun q hq => List.mem_append_right _ hq
  have W2 : Wd R.kx w T' lk e1 σ (upd H1 d (.xd (fs.zip vs).reverse)) := (W1.back W.slin).grow hd
  refine h1 _ _ σ _ W2 ⟨rfl, d, _, rfl, upd_same, ?_⟩
  refine xd_pairs hat (rv.mono (fun c u q _ => by rw [upd_ne (ne_of_none q hd)]; exact q) fun c z => .inl (bad_sub (List.sublist_append_left _ _) c z)) (by rw [hms, hps])
theorem lookup_xd {f : Nat} {g : Str} (inj : ∀ i j : Nat, kx.ats[i]? = kx.ats[j]? → i < kx.ats.length → i = j) (hg : kx.ats[f]? = some g) : ∀ {fs : List (Nat × P)} {xs : List (Str × V)}, Paired (fun (q : Nat × P) (x : Str × V) => kx.ats[q.1]? = some x.1 ∧ RF kx.K H b q.2 x.2) fs xs → fs.lookup f = some p →
    ∃ v, xs.lookup g = some v ∧ RF kx.K H b p v := by
  intro fs xs h
  induction h with
  | nil => intro e; simp at e
  | @cons q x qs xs h _ ih =>
    intro e
    obtain ⟨i, p'⟩ := q
    obtain ⟨n, v⟩ := x
    obtain ⟨h1, h2⟩ := h
    have h1 : kx.ats[i]? = some n := h1
    by_cases hi : f = i
    · subst hi
      simp [List.lookup] at e
      subst e
      rw [hg] at h1; cases h1
      exact ⟨v, by simp [List.lookup], h2⟩
    · have hb : (f == i) = false := by simpa using hi
      simp only [List.lookup, hb] at e
      obtain ⟨v', z1, z2⟩ := ih e
      have hn : g ≠ n := fun z => by
        subst z
        exact hi (inj f i (by rw [hg, h1]) (List.getElem?_eq_some_iff.mp hg).1)
      have hb2 : (g == n) = false := by simpa using hn
      exact ⟨v', by simp only [List.lookup, hb2]; exact z1, z2⟩
/-- what is read of an error's class -/
structure XR (K : PySem.W.Frag) (C : Addr) (fs : List Str) : Prop where
  ga : PySem.W.findIn K (.ref C) "__getattribute__" = some (some (.builtin "BaseException.__getattribute__"))
  gg : PySem.W.findIn K (.ref C) "__getattr__" = some none
  exC : PySem.W.subIn K (.ref C) (.type "BaseException") = some true
  hdC : PySem.W.hasDictIn K C = true
  noN : ∀ f ∈ fs, PySem.W.findIn K (.ref C) f = some none
/-- e.f of the error that the suite holds; ok: the classes that have such a field -/
def mAtC (ok : Nat → Bool) (i f : Nat) : M Rv := fun _ e => match getS e i with
  | some (.exn c fs) => if ok c = true then (match fs.lookup f with
    | some p => .ok (.val (.pure p)) e
    | none => .stk) else .stk
  | _ => .stk
def tFldA (a : Addr) (cls : Value) (d : Option Addr) (f : Str) (K : PySem.W.Frag) (te : TE) : TE := fun σ H Q => te σ H fun x H1 => ∃ C, x = .ref a ∧ cls = .ref C ∧ XR K C [f] ∧ ∃ (dd : Addr) (l : List (Str × V)) (v : V), d = some dd ∧ H1 dd = some (.xd l) ∧ l.lookup f = some v ∧ Q v H1
theorem pe_fldA {a : Addr} {oe : Obj} {cls : Value} {d : Option Addr} {pn : List (Addr × Obj)} {e : Expr} {te : TE} {pos : Pos} {f : Str} (hz : Zc cls d oe) (hf : ∃ vs, oe.data = .fields vs)
    (he : PE (X.suite a ((a, oe) :: pn)) e te) (hb : attributeBase e f X.env (eval e X.env) = eval e X.env) :
    PE (X.suite a ((a, oe) :: pn)) (.Attribute e f pos) (tFldA a cls d f X.K te) := by
  refine ⟨fun pins s σ H Q I h => ?_⟩
  refine attr_of hb (thn (he.run pins s σ H _ I h) fun u s1 hh => ?_)
  obtain ⟨x, H1, I1, rx, C, ex, ec, F, dd, l, v, ed, ea, hl, q⟩ := hh
  subst ex
  obtain rfl : u = Value.ref a := rx
  subst ec
  subst ed
  obtain ⟨ha, _⟩ := I1.pin (a, oe) (List.mem_append_left _ List.mem_cons_self)
  obtain ⟨vs, hd⟩ := hf
  have hx : ObjOk X.prog X.w H1 s1.heap dd (.xd l) := I1.hok dd _ ea
  obtain ⟨mA, hns, hr⟩ := hx
  obtain ⟨od, ho, hl2⟩ := lookIn_ns hns
  obtain ⟨u, hu, ru⟩ := RelO.some_of (v := v) (o := mA f) (by rw [← hl]; exact hr f)
  have J : PySem.W.InstAt s1.heap a oe C (some od) := ⟨ha, hz.1, by unfold PySem.W.notCls; rw [hd] <;> rfl, by rw [hz.2]; exact ho⟩
  exact HandSPX.exc_get I1.kIn J F.ga F.gg F.exC (PySem.W.findObj_own F.hdC (F.noN f List.mem_cons_self) rfl (by rw [hl2, hu])) (handed_of ru) ⟨v, H1, I1.tok _, ru, q⟩
theorem s_at {a : Addr} {oe : Obj} {cls : Value} {d : Option Addr} {pn : List (Addr × Obj)} {ok : Nat → Bool} {i f : Nat} {n g : Str} {npos : Pos} (hK : R.kx.K = X.K) (hxa : R.xa = some (a, cls, d)) (hz : Zc cls d oe) (hf : ∃ vs, oe.data = .fields vs)
    (hN : X.N[i]? = some n) (hv : Vis X.env.scope n) (hd1 : (n == ("__debug__" : Str)) = false) (hd2 : (n == ("__classdict__" : Str)) = false) (hg : R.kx.ats[f]? = some g) (inj : ∀ i j : Nat, R.kx.ats[i]? = R.kx.ats[j]? → i < R.kx.ats.length → i = j)
    (hok : ∀ c, ok c = true → XR X.K (R.kx.ca c) [g]) : PE (X.suite a ((a, oe) :: pn)) (.Attribute (.Name n npos) g pos) (rdE R (mAtC ok i f)) := by
  refine PEimp (pe_fldA (X := X) hz hf (pe_var (X := X.suite a ((a, oe) :: pn)) (i := i) (x := n) (pos := npos) hN hv hd1 hd2) rfl) fun σ H Q h => ?_
  obtain ⟨w, T, lk, e, hm, W, h⟩ := h
  unfold mAtC at h
  cases q : getS e i with
  | none => simp only [q] at h; exact h.elim
  | some dd =>
    simp only [q] at h
    cases dd with
    | exn c fs =>
      simp only at h
      cases q1 : ok c with
      | false => rw [q1, if_neg Bool.false_ne_true] at h; exact h.elim
      | true =>
        rw [q1, if_pos rfl] at h
        cases q2 : fs.lookup f with
        | none => simp only [q2] at h; exact h.elim
        | some p =>
          simp only [q2] at h
          obtain ⟨v, h1, a', cls', d', rfl, hx, hc, dd, xs, hd, hdd, hp⟩ := slot_at W q
          have hx2 : w.xa = some (a, cls, d) := hm.2.trans hxa
          rw [hx2] at hx
          cases hx
          obtain ⟨v', z1, z2⟩ := lookup_xd inj hg hp q2
          exact ⟨_, h1, _, rfl, hc, hok c q1, dd, xs, v', hd, hdd, z1, h v' H (W.pushP z2)⟩
    | pure p => exact h.elim
    | ols xs => exact h.elim
    | odc ks xs => exact h.elim
end
end Gr
set_option Elab.async false
set_option linter.all false
set_option maxRecDepth 100000
/-! G20: the rules as they are used: a context's facts in one. -/
namespace Gr
open PySem PySem.Spec L2
/-- what is known of a context -/
structure BX (X : Cx) (R : Rc) : Prop where
  K : R.kx.K = X.K
  nd : X.N.Nodup
  un : X.A.units + 100 < cLine
structure CX (X : Cx) (R : Rc) (k : Nat) : Prop extends BX X R where
  calm : X.calm = true
  tk : Takes X R.W
  po : PassesOwn (model X.prog X.w) X.A X.env X.xe
  rm : Room k X.A
section
variable {X : Cx} {R : Rc} {k : Nat} {pos pos' : Pos} {a b c : Expr} {ma mb mc : M Rv}
theorem CX.blk {s : Shared} {H : Hp} {scope : Scope} {cenv : Env} {fp : List Addr} (C : CX X R k) : CX (X.blk s H scope cenv fp) R.still k :=
  { K := C.K, nd := C.nd, un := C.un, calm := C.calm, tk := takes0, po := PassesOwn.never, rm := C.rm }
theorem CX.tr {W : WX} {pn : List (Addr × Obj)} {xe : Value → Shared → Prop} (C : CX X R k) (t : Takes (X.tr pn xe) W) (p : PassesOwn (model X.prog X.w) X.A X.env xe) : CX (X.tr pn xe) { R with W := W } k :=
  { K := C.K, nd := C.nd, un := C.un, calm := C.calm, tk := t, po := p, rm := C.rm }
theorem CX.sui {a : Addr} {pn : List (Addr × Obj)} {xa : Option (Addr × Value × Option Addr)} (C : CX X R k) : BX (X.suite a pn) { R with W := fun _ _ _ _ => False, xa := xa } := ⟨C.K, C.nd, C.un⟩
/-- a def's context -/
theorem CX.def_ {P : Program} {w : World} {kx : Kx} {mg : Str → Option Value} {base : Heap} {N : List Str} {qual : Str} {scope : Scope} {f : Addr} {cd : Value} {A : Around} {outer : List Env} {s : Shared} {H : Hp} {E : XK} {mps : List Nat} {Φ : Nat → List D → Res} (nd : N.Nodup) (hr : Room k (A.deeper (PyProof.Rows.envOfC qual scope s.heap.objs.size f cd))) :
    CX (cxOf (L2.CX P w) P w kx.K mg base N qual scope f cd A outer s H E) ⟨kx, mps, Φ, fun cls d _ H' => E cls d H', none⟩ k :=
  { K := rfl, nd := nd, un := by have := hr.un; show (A.deeper (PyProof.Rows.envOfC qual scope s.heap.objs.size f cd)).units + 100 < cLine; omega, calm := rfl, tk := takes_of rfl rfl rfl rfl, po := passes_of rfl, rm := hr }
/-! ### atoms -/
theorem e_var {i : Nat} {x : Str} (B : BX X R) (hN : X.N[i]? = some x := by rfl) (hv : Vis X.env.scope x := by first | exact .inl rfl | exact .inr (.inl rfl) | exact .inr (.inr rfl)) (hd : (x == ("__debug__" : Str)) = false := by rfl) (hcd : (x == ("__classdict__" : Str)) = false := by rfl) :
    PE X (.Name x pos) (rdE R (mV i)) := s_var hN hv hd hcd
theorem e_loc {i : Nat} {x : Str} (hN : X.N[i]? = some x := by rfl) (hv : Vis X.env.scope x := by first | exact .inl rfl | exact .inr (.inl rfl) | exact .inr (.inr rfl)) (hd : (x == ("__debug__" : Str)) = false := by rfl) (hcd : (x == ("__classdict__" : Str)) = false := by rfl) :
    PE X (.Name x pos) (tVar i) := pe_var hN hv hd hcd
theorem e_int {i : Int} {j : Nat} : PE X (.Constant (.int i) j pos) (rdE R (mC (.int i))) := s_int
theorem e_bl {i : Bool} {j : Nat} : PE X (.Constant (.bool i) j pos) (rdE R (mC (.bl i))) := s_bl
theorem e_non {j : Nat} : PE X (.Constant .none j pos) (rdE R (mC .non)) := s_non
theorem e_str {x : Str} {j : Nat} (l : List Nat) (hl : x = ⟨l.toArray⟩ := by first | rfl | kernel_rfl) (hx : (l.all fun c => decide (c < 0x110000)) = true := by decide) : PE X (.Constant (.str x) j pos) (rdE R (mC (.str l))) := by
  subst hl
  exact s_str (x := ⟨l.toArray⟩) (j := j) (by rw [← Array.all_toList, List.toList_toArray]; exact hx)
/-- a module's text, int -/
theorem e_gstr {x : Str} (l : List Nat) (hm : ∃ t, X.mg x = some (.str ⟨l.toArray⟩ t)) (hx : (l.all fun c => decide (c < 0x110000)) = true := by decide) (hg : Gl X x := by rfl) (hd : (x == ("__debug__" : Str)) = false := by rfl) : PE X (.Name x pos) (rdE R (mC (.str l))) := by
  obtain ⟨t, hm⟩ := hm
  refine s_const (v := .str ⟨l.toArray⟩) (pe_glob hg hm ⟨t, rfl⟩ hd) fun H b => ?_
  simp only [RF]
  exact ⟨_, rfl, List.toList_toArray, by rw [← Array.all_toList, List.toList_toArray]; exact hx⟩
theorem e_gint {x : Str} {i : Int} (hm : ∃ t, X.mg x = some (.int i t)) (hg : Gl X x := by rfl) (hd : (x == ("__debug__" : Str)) = false := by rfl) : PE X (.Name x pos) (rdE R (mC (.int i))) := by
  obtain ⟨t, hm⟩ := hm
  exact s_const (v := .int i) (pe_glob hg hm ⟨t, rfl⟩ hd) fun H b => by simp [RF]
/-! ### operators -/
theorem e_add (B : BX X R) (ha : PE X a (rdE R ma)) (hb : PE X b (rdE R mb)) : PE X (.BinOp a .Add b pos) (rdE R (mOp2 opAdd ma mb)) := s_bin (by rw [B.K]; exact op_addAll) ok_add ha hb
theorem e_sub (ha : PE X a (rdE R ma)) (hb : PE X b (rdE R mb)) : PE X (.BinOp a .Sub b pos) (rdE R (mOp2 opSub ma mb)) := s_bin op_sub ok_sub ha hb
theorem e_mul (ha : PE X a (rdE R ma)) (hb : PE X b (rdE R mb)) : PE X (.BinOp a .Mult b pos) (rdE R (mOp2 opMul ma mb)) := s_bin op_mulAll ok_mul ha hb
theorem e_div (ha : PE X a (rdE R ma)) (hb : PE X b (rdE R mb)) : PE X (.BinOp a .FloorDiv b pos) (rdE R (mOp2 opDiv ma mb)) := s_bin op_fdivN ok_div ha hb
theorem e_mod (ha : PE X a (rdE R ma)) (hb : PE X b (rdE R mb)) : PE X (.BinOp a .Mod b pos) (rdE R (mOp2 opMod ma mb)) := s_bin op_modN ok_mod ha hb
theorem e_pow (ha : PE X a (rdE R ma)) (hb : PE X b (rdE R mb)) : PE X (.BinOp a .Pow b pos) (rdE R (mOp2 opPow ma mb)) := s_bin op_pow ok_pow ha hb
theorem e_neg (ha : PE X a (rdE R ma)) : PE X (.UnaryOp .USub a pos) (rdE R (mOp1 opNeg ma)) := s_un un_neg ok_neg ha
/-! a comparison's operator -/
structure CO (X : Cx) (R : Rc) (op : CmpOp) (f : P → P → Option D) : Prop where
  ex : ∃ r, OpR X (compareOp op) r ∧ Op2Ok R.kx f r
  bl : IsB2 f
theorem c_eq (B : BX X R) : CO X R .Eq opEq := ⟨⟨_, op_eqD (by have := B.un; omega), by rw [← B.K]; exact ok_eq⟩, fun x y d h => by unfold opEq at h; split at h <;> cases h; exact ⟨_, rfl⟩⟩
theorem c_ne (B : BX X R) : CO X R .NotEq opNe := ⟨⟨_, op_neD (by have := B.un; omega), by rw [← B.K]; exact ok_ne⟩, fun x y d h => by unfold opNe at h; split at h <;> cases h; exact ⟨_, rfl⟩⟩
theorem cmp_bl {f : Int → Int → Bool} : IsB2 (opCmp f) := fun x y d h => by unfold opCmp at h; split at h <;> cases h; exact ⟨_, rfl⟩
theorem c_lt : CO X R .Lt (opCmp fun i j => decide (i < j)) := ⟨⟨_, op_lt, ok_cmp⟩, cmp_bl⟩
theorem c_le : CO X R .LtE (opCmp fun i j => decide (i ≤ j)) := ⟨⟨_, op_le, ok_cmp⟩, cmp_bl⟩
theorem c_gt : CO X R .Gt (opCmp fun i j => decide (j < i)) := ⟨⟨_, op_gt, ok_cmp⟩, cmp_bl⟩
theorem c_ge : CO X R .GtE (opCmp fun i j => decide (j ≤ i)) := ⟨⟨_, op_ge, ok_cmp⟩, cmp_bl⟩
theorem c_isN : CO X R .Is opIsN := ⟨⟨_, op_isN, ok_isN⟩, fun x y d h => by unfold opIsN at h; split at h <;> cases h; exact ⟨_, rfl⟩⟩
theorem c_isntN : CO X R .IsNot opIsntN := ⟨⟨_, op_notN, ok_isntN⟩, fun x y d h => by unfold opIsntN at h; split at h <;> cases h; exact ⟨_, rfl⟩⟩
theorem in_bl {x y : P} {d : D} (h : opIn x y = some d) : ∃ k, d = .pure (.bl k) := by
  unfold opIn at h
  split at h
  · cases h; exact ⟨_, rfl⟩
  · split at h <;> cases h; exact ⟨_, rfl⟩
  · split at h <;> cases h; exact ⟨_, rfl⟩
  · cases h
theorem c_in (B : BX X R) : CO X R .In opIn := ⟨⟨_, op_inAll (by have := B.un; omega), by rw [← B.K]; exact ok_in⟩, fun x y d h => in_bl h⟩
theorem c_notIn (B : BX X R) : CO X R .NotIn opNotIn := ⟨⟨_, op_notInAll (by have := B.un; omega), by rw [← B.K]; exact ok_notIn⟩, fun x y d h => by unfold opNotIn at h; split at h <;> cases h; exact ⟨_, rfl⟩⟩
theorem e_cmp {op : CmpOp} {f : P → P → Option D} (o : CO X R op f) (ha : PE X a (rdE R ma)) (hb : PE X b (rdE R mb)) (hm : behindInMarks op b = false := by rfl) : PE X (.Compare a [op] [b] pos) (rdE R (mOp2 f ma mb)) := by
  obtain ⟨r, o1, o2⟩ := o.ex
  exact s_cmp o1 o2 ha hb hm
theorem t_cmp {op : CmpOp} {f : P → P → Option D} (o : CO X R op f) (ha : PE X a (rdE R ma)) (hb : PE X b (rdE R mb)) (hm : behindInMarks op b = false := by rfl) : PT X (.Compare a [op] [b] pos) (rdT R (mTr (mOp2 f ma mb))) := by
  obtain ⟨r, o1, o2⟩ := o.ex
  exact s_cmpT o1 o2 o.bl ha hb hm
theorem e_chain {op op' : CmpOp} {f g : P → P → Option D} (o : CO X R op f) (o' : CO X R op' g) (ha : PE X a (rdE R ma)) (hb : PE X b (rdE R mb)) (hd : PE X c (rdE R mc)) (h1 : lastMarks [op, op'] [b, c] = false := by rfl) : PE X (.Compare a [op, op'] [b, c] pos) (rdE R (mChain f g ma mb mc)) := by
  obtain ⟨r, o1, o2⟩ := o.ex
  obtain ⟨r', o3, o4⟩ := o'.ex
  exact s_chain o1 o3 o2 o4 ha hb hd h1
theorem t_chain {op op' : CmpOp} {f g : P → P → Option D} (o : CO X R op f) (o' : CO X R op' g) (ha : PE X a (rdE R ma)) (hb : PE X b (rdE R mb)) (hd : PE X c (rdE R mc)) (h1 : lastMarks [op, op'] [b, c] = false := by rfl) : PT X (.Compare a [op, op'] [b, c] pos) (rdT R (mTr (mChain f g ma mb mc))) := by
  obtain ⟨r, o1, o2⟩ := o.ex
  obtain ⟨r', o3, o4⟩ := o'.ex
  exact s_chainT o1 o3 o2 o4 ha hb hd h1
theorem t_tr (B : BX X R) (h : PE X a (rdE R ma)) (he : ∀ whole, isTrue a X.env whole = (do let v ← whole; standAt a.pos; holding [v] (truthy v)) := by intro _; rfl) : PT X a (rdT R (mTr ma)) := s_tr B.K h he
theorem t_not {t : M Bool} (h : PT X a (rdT R t)) : PT X (.UnaryOp .Not a pos) (rdT R (mNotT t)) := s_notT h
theorem e_ix (B : BX X R) (ha : PE X a (rdE R ma)) (hb : PE X b (rdE R mb)) (hs : PlainIx b := by intro _ _; rfl) : PE X (.Subscript a b pos) (rdE R (mOp2 opIx ma mb)) := s_ix (by rw [B.K]; exact ix_seq) ok_ix ha hb hs
end
end Gr
set_option Elab.async false
set_option linter.all false
set_option maxRecDepth 100000
/-! G21: .. functions, comprehensions, calls, statements. -/
namespace Gr
open PySem PySem.Spec L2
section
variable {X : Cx} {R : Rc} {k : Nat} {pos pos' : Pos} {a b c : Expr} {ma mb mc : M Rv}
/-! ### built-in functions -/
theorem e_len {p : Pos} (B : BX X R) (hm : X.mg "len" = none) (ha : PE X a (rdE R ma)) (hs : unstar a = true := by rfl) (hg : Gl X "len" := by rfl) : PE X (.Call (.Name "len" p) [a] [] pos) (rdE R (mFn fLen [ma])) :=
  s_fnB call_len (by rw [← B.K]; exact ok_len) (by kernel_rfl) (by decide) (by rfl) hg hm (s_aR ha s_aR0 hs) hs rfl
theorem e_intF {p : Pos} (hm : X.mg "int" = none) (ha : PE X a (rdE R ma)) (hs : unstar a = true := by rfl) (hg : Gl X "int" := by rfl) : PE X (.Call (.Name "int" p) [a] [] pos) (rdE R (mFn fInt [ma])) :=
  s_fnT call_int1 ok_int (by kernel_rfl) (by decide) (by rfl) hg hm (s_aR ha s_aR0 hs) hs rfl
theorem e_abs {p : Pos} (hm : X.mg "abs" = none) (ha : PE X a (rdE R ma)) (hs : unstar a = true := by rfl) (hg : Gl X "abs" := by rfl) : PE X (.Call (.Name "abs" p) [a] [] pos) (rdE R (mFn fAbs [ma])) :=
  s_fnB call_abs ok_abs (by kernel_rfl) (by decide) (by rfl) hg hm (s_aR ha s_aR0 hs) hs rfl
theorem e_list {p : Pos} (B : BX X R) (hm : X.mg "list" = none) (ha : PE X a (rdE R ma)) (hs : unstar a = true := by rfl) (hg : Gl X "list" := by rfl) : PE X (.Call (.Name "list" p) [a] [] pos) (rdE R (mFn fList [ma])) :=
  s_fnT call_list_of (by rw [← B.K]; exact ok_list) (by kernel_rfl) (by decide) (by rfl) hg hm (s_aR ha s_aR0 hs) hs rfl
theorem e_tuple {p : Pos} (B : BX X R) (hm : X.mg "tuple" = none) (ha : PE X a (rdE R ma)) (hs : unstar a = true := by rfl) (hg : Gl X "tuple" := by rfl) : PE X (.Call (.Name "tuple" p) [a] [] pos) (rdE R (mFn fTuple [ma])) :=
  s_fnT call_tuple_of (by rw [← B.K]; exact ok_tuple) (by kernel_rfl) (by decide) (by rfl) hg hm (s_aR ha s_aR0 hs) hs rfl
theorem e_max2 {p : Pos} (C : CX X R k) (hm : X.mg "max" = none) (ha : PE X a (rdE R ma)) (hb : PE X b (rdE R mb)) (hs : unstar a = true := by rfl) (hs2 : unstar b = true := by rfl) (hg : Gl X "max" := by rfl) : PE X (.Call (.Name "max" p) [a, b] [] pos) (rdE R (mFn fMax [ma, mb])) :=
  s_fnB ((call_max2 C.calm).or (cr_max C.calm)) (by rw [← C.K]; exact ok_max) (by kernel_rfl) (by decide) (by rfl) hg hm (s_aR ha (s_aR hb s_aR0 hs2) hs) hs (by rw [star_plain hs2]; rfl)
theorem e_max1 {p : Pos} (C : CX X R k) (hm : X.mg "max" = none) (ha : PE X a (rdE R ma)) (hs : unstar a = true := by rfl) (hg : Gl X "max" := by rfl) : PE X (.Call (.Name "max" p) [a] [] pos) (rdE R (mFn fMax [ma])) :=
  s_fnB ((call_max2 C.calm).or (cr_max C.calm)) (by rw [← C.K]; exact ok_max) (by kernel_rfl) (by decide) (by rfl) hg hm (s_aR ha s_aR0 hs) hs rfl
theorem e_min2 {p : Pos} (C : CX X R k) (hm : X.mg "min" = none) (ha : PE X a (rdE R ma)) (hb : PE X b (rdE R mb)) (hs : unstar a = true := by rfl) (hs2 : unstar b = true := by rfl) (hg : Gl X "min" := by rfl) : PE X (.Call (.Name "min" p) [a, b] [] pos) (rdE R (mFn fMin [ma, mb])) :=
  s_fnB ((call_min2 C.calm).or (cr_min C.calm)) (by rw [← C.K]; exact ok_min) (by kernel_rfl) (by decide) (by rfl) hg hm (s_aR ha (s_aR hb s_aR0 hs2) hs) hs (by rw [star_plain hs2]; rfl)
theorem e_min1 {p : Pos} (C : CX X R k) (hm : X.mg "min" = none) (ha : PE X a (rdE R ma)) (hs : unstar a = true := by rfl) (hg : Gl X "min" := by rfl) : PE X (.Call (.Name "min" p) [a] [] pos) (rdE R (mFn fMin [ma])) :=
  s_fnB ((call_min2 C.calm).or (cr_min C.calm)) (by rw [← C.K]; exact ok_min) (by kernel_rfl) (by decide) (by rfl) hg hm (s_aR ha s_aR0 hs) hs rfl
theorem e_sum {p : Pos} (C : CX X R k) (hm : X.mg "sum" = none) (ha : PE X a (rdE R ma)) (hs : unstar a = true := by rfl) (hg : Gl X "sum" := by rfl) : PE X (.Call (.Name "sum" p) [a] [] pos) (rdE R (mFn fSum [ma])) :=
  s_fnB (cr_sum C.calm) (by rw [← C.K]; exact ok_sum) (by kernel_rfl) (by decide) (by rfl) hg hm (s_aR ha s_aR0 hs) hs rfl
theorem e_all {p : Pos} (C : CX X R k) (hm : X.mg "all" = none) (ha : PE X a (rdE R ma)) (hs : unstar a = true := by rfl) (hg : Gl X "all" := by rfl) : PE X (.Call (.Name "all" p) [a] [] pos) (rdE R (mFn fAll [ma])) :=
  s_fnB (cr_all C.calm) (by rw [← C.K]; exact ok_all) (by kernel_rfl) (by decide) (by rfl) hg hm (s_aR ha s_aR0 hs) hs rfl
theorem e_any {p : Pos} (C : CX X R k) (hm : X.mg "any" = none) (ha : PE X a (rdE R ma)) (hs : unstar a = true := by rfl) (hg : Gl X "any" := by rfl) : PE X (.Call (.Name "any" p) [a] [] pos) (rdE R (mFn fAny [ma])) :=
  s_fnB (cr_any C.calm) (by rw [← C.K]; exact ok_any) (by kernel_rfl) (by decide) (by rfl) hg hm (s_aR ha s_aR0 hs) hs rfl
theorem e_isi {c : Ty} {x : Str} {p1 p2 : Pos} (B : BX X R) (hm : X.mg "isinstance" = none) (hm2 : X.mg x = none) (ha : PE X a (rdE R ma)) (hx : x = PySem.Str.ofString c.name := by rfl) (hg : Gl X "isinstance" := by rfl) (hg2 : Gl X x := by rfl) (hs : unstar a = true := by rfl) :
    PE X (.Call (.Name "isinstance" p1) [a, .Name x p2] [] pos) (rdE R (mOp1 (isiP [c]) ma)) := s_isi1 B.K hg hm hx hg2 hm2 ha hs
theorem e_isi2 {c c' : Ty} {x y : Str} {p1 p2 p3 p4 : Pos} {j : Nat} (B : BX X R) (hm : X.mg "isinstance" = none) (hm2 : X.mg x = none) (hm3 : X.mg y = none) (ha : PE X a (rdE R ma)) (hx : x = PySem.Str.ofString c.name := by rfl) (hy : y = PySem.Str.ofString c'.name := by rfl) (hg : Gl X "isinstance" := by rfl) (hg2 : Gl X x := by rfl) (hg3 : Gl X y := by rfl) (hs : unstar a = true := by rfl) :
    PE X (.Call (.Name "isinstance" p1) [a, .Tuple [.Name x p2, .Name y p3] j p4] [] pos) (rdE R (mOp1 (isiP [c, c']) ma)) := s_isi2 B.K hg hm hx hg2 hm2 hy hg3 hm3 ha hs
theorem e_join {o : Expr} {mo : M Rv} {apos : Pos} (B : BX X R) (ho : PE X o (rdE R mo)) (ha : PE X a (rdE R ma)) (hs : unstar a = true := by rfl) (hb : baseOk o = true := by rfl) (hl : (apos.endLine == pos.line) = true := by rfl) :
    PE X (.Call (.Attribute o "join" apos) [a] [] pos) (rdE R (mMeth isStrP fJoin mo [ma])) := s_join B.K ho ha hs hb hl
theorem e_app {i : Nat} {x : Str} {npos apos : Pos} (hx : PE X (.Name x npos) (tVar i)) (h : PE X a (rdE R ma)) (hs : unstar a = true := by rfl) (hl : (apos.endLine == pos.line) = true := by rfl) : PE X (.Call (.Attribute (.Name x npos) "append" apos) [a] [] pos) (rdE R (mApp i ma)) := s_app hx h hs hl
theorem e_pop {i : Nat} {x : Str} {npos apos : Pos} (hx : PE X (.Name x npos) (tVar i)) (hl : (apos.endLine == pos.line) = true := by rfl) : PE X (.Call (.Attribute (.Name x npos) "pop" apos) [] [] pos) (rdE R (mPop i)) := s_pop hx hl
theorem e_ext {i : Nat} {x : Str} {npos apos : Pos} (hx : PE X (.Name x npos) (tVar i)) (h : PE X a (rdE R ma)) (hs : unstar a = true := by rfl) (hl : (apos.endLine == pos.line) = true := by rfl) : PE X (.Call (.Attribute (.Name x npos) "extend" apos) [a] [] pos) (rdE R (mExt i ma)) := s_ext hx h hs hl
theorem e_tup {ms : List (M Rv)} {es : List Expr} {j : Nat} (h : PA X es (rdL R (mLs ms))) (hz : ms.length ≤ line := by decide) : PE X (.Tuple es j pos) (rdE R (mTup ms)) := s_tup h hz
theorem e_lst {ms : List (M Rv)} {es : List Expr} (h : PA X es (rdL R (mLs ms))) (hz : ms.length ≤ line := by decide) : PE X (.List es pos) (rdE R (mLst ms)) := s_lst h hz
theorem l_nil : PA X [] (rdL R (mLs [])) := s_ls_nil
theorem l_cons {m : M Rv} {ms : List (M Rv)} {x : Expr} {es : List Expr} (hx : PE X x (rdE R m)) (hr : PA X es (rdL R (mLs ms))) (hs : unstar x = true := by rfl) : PA X (x :: es) (rdL R (mLs (m :: ms))) := s_ls_cons hx hr hs
theorem e_sl {ml mh : Option (M Rv)} {lo hi : Option Expr} {p2 : Pos} (B : BX X R) (ha : PE X a (rdE R ma)) (hl : PO X lo (rdO R (mPart ml))) (hh : PO X hi (rdO R (mPart mh))) : PE X (.Subscript a (.Slice lo hi none p2) pos) (rdE R (mSl ma ml mh)) := s_sl B.K ha hl hh
theorem e_rev {j : Nat} {p1 p2 p3 : Pos} (B : BX X R) (ha : PE X a (rdE R ma)) : PE X (.Subscript a (.Slice none none (some (.UnaryOp .USub (.Constant (.int 1) j p1) p2)) p3) pos) (rdE R (mOp1 revP ma)) := s_rev B.K ha
/-! ### comprehensions -/
theorem q_nil : PTs X [] (rdT R mYes) := ⟨fun pins s σ H Q I h => pts_nil.run pins s σ H Q I (by
  obtain ⟨w, T, lk, e, hm, W, h⟩ := h
  exact h H W)⟩
theorem q_one {t : M Bool} (h : PT X c (rdT R t)) : PTs X [c] (rdT R t) := pts_one h
theorem rd_set {i : Nat} {x : Str} {m : M Rv} {D' : Ends} {σ : St} {H : Hp} (st : Stor X R i x) (h : rdS R (mSet i m) D' σ H) : tAsg (rdE R m) (gName i) D' σ H := by
  obtain ⟨w, T, lk, e, hm, W, h⟩ := h
  refine ⟨w, T, lk, e, hm, W, (outS_andThen h).g.mono fun r e1 h1 v1 H1 W1 => ?_⟩
  have hmp : i ∉ w.ms.map (·.1) := by rw [hm.1]; exact st.mp
  cases r with
  | val d =>
    simp only at h1
    cases q : bindN ⟨R.Φ, lk⟩ i d e1 with
    | none => simp only [q] at h1; exact h1.elim
    | some e2 =>
      simp only [q] at h1
      obtain ⟨n1, n2, rfl⟩ := bindN_of q
      exact h1 _ _ (Wd.bind W1 n2 n1 hmp W.slin)
  | slot j =>
    simp only at h1
    obtain ⟨p, e2, h2, W2⟩ := rd_leak (Q := fun _ _ => True) W ((outS_andThen h1).g (σ := σ)) W1
    cases q : bindN ⟨R.Φ, lk⟩ i (.pure p) e2 with
    | none => simp only [q] at h2; exact h2.elim
    | some e3 =>
      simp only [q] at h2
      obtain ⟨n1, n2, rfl⟩ := bindN_of q
      exact h2 _ _ (Wd.bind W2 n2 n1 hmp W.slin)
theorem e_comp {elt tg iter : Expr} {ifs : List Expr} {scope : Scope} {mi : MI} {tt : M Bool} {me : M Rv} {tg' : Tg} {g : TG} (C : CX X R k) (own : List (Str × Nat)) (hi : PI X tg iter (rdI R mi))
    (hg : ∀ (s : Shared) (H : Hp) (A : Addr) (cl : List (Str × Addr)) (fp : List Addr), TgOk (X.blk s H scope (compEnvC scope cl A X.env) fp) R tg' tg g)
    (ht : ∀ (s : Shared) (H : Hp) (A : Addr) (cl : List (Str × Addr)) (fp : List Addr), CX (X.blk s H scope (compEnvC scope cl A X.env) fp) R.still k → PTs (X.blk s H scope (compEnvC scope cl A X.env) fp) ifs (rdT R.still tt))
    (he : ∀ (s : Shared) (H : Hp) (A : Addr) (cl : List (Str × Addr)) (fp : List Addr), CX (X.blk s H scope (compEnvC scope cl A X.env) fp) R.still k → PE (X.blk s H scope (compEnvC scope cl A X.env) fp) elt (rdE R.still me))
    (ok : blkC X.N X.env.scope scope own = true := by rfl) (ho : ∀ i ∈ tg'.slots, i ∈ own.map (·.2) := by decide) (hmp : ((own.map (·.2)).all fun i => !R.mps.contains i) = true := by rfl) (hs : ∀ x, foldedSetIterable iter X.env x = pure x := by intro _; rfl) :
    PE X (.ListComp elt [⟨tg, iter, ifs, 0⟩] scope pos) (rdE R (mComp (own.map (·.2)) tg' mi tt me)) := by
  refine PEimp (pe_lc C.calm C.nd hi (blkOk_by ok) (fun s H A cl fp => TgOk.pg (X := X.blk s H scope (compEnvC scope cl A X.env) fp) (R := R) C.K C.calm C.nd (hg s H A cl fp)) (fun s H A cl fp => ht s H A cl fp C.blk) (fun s H A cl fp => he s H A cl fp C.blk) hs) fun σ H Q h => ?_
  exact rd_comp C.K (hg X.s_0 X.H_0 0 [] []) ho (fun i hi => mem_of_contains (by have := List.all_eq_true.mp hmp i hi; simpa using this)) h
theorem x_setC {i : Nat} {y : Str} {py : Pos} {elt tg iter : Expr} {ifs : List Expr} {scope : Scope} {mi : MI} {tt : M Bool} {me : M Rv} {tg' : Tg} {g : TG} (C : CX X R k) (own : List (Str × Nat)) (st : Stor X R i y) (hi : PI X tg iter (rdI R mi))
    (hg : ∀ (s : Shared) (H : Hp) (A : Addr) (cl : List (Str × Addr)) (fp : List Addr), TgOk (X.blk s H scope (compEnvC scope cl A X.env) fp) R tg' tg g)
    (ht : ∀ (s : Shared) (H : Hp) (A : Addr) (cl : List (Str × Addr)) (fp : List Addr), CX (X.blk s H scope (compEnvC scope cl A X.env) fp) R.still k → PTs (X.blk s H scope (compEnvC scope cl A X.env) fp) ifs (rdT R.still tt))
    (he : ∀ (s : Shared) (H : Hp) (A : Addr) (cl : List (Str × Addr)) (fp : List Addr), CX (X.blk s H scope (compEnvC scope cl A X.env) fp) R.still k → PE (X.blk s H scope (compEnvC scope cl A X.env) fp) elt (rdE R.still me))
    (hyl : X.env.scope.names.lookup y = some .local := by rfl) (hk : X.env.scope.kind = .function := by rfl) (hl : (py.line == pos.line) = true := by rfl) (hn : (scope.names.any fun (n, k) => n == y && (k == .local || k == .cell)) = false := by rfl)
    (ok : blkC X.N X.env.scope scope own = true := by rfl) (ho : ∀ i ∈ tg'.slots, i ∈ own.map (·.2) := by decide) (hmp : ((own.map (·.2)).all fun i => !R.mps.contains i) = true := by rfl) (hs : ∀ x, foldedSetIterable iter X.env x = pure x := by intro _; rfl) :
    PS X (.Assign [.Name y py] (.ListComp elt [⟨tg, iter, ifs, 0⟩] scope pos) pos') (rdS R (mSet i (mComp (own.map (·.2)) tg' mi tt me))) := by
  refine PSimp (ps_setLc C.calm C.nd st.ix hyl (sw_true hk hyl hl hn) hi (blkOk_by ok) (fun s H A cl fp => TgOk.pg (X := X.blk s H scope (compEnvC scope cl A X.env) fp) (R := R) C.K C.calm C.nd (hg s H A cl fp)) (fun s H A cl fp => ht s H A cl fp C.blk) (fun s H A cl fp => he s H A cl fp C.blk) hs) fun D σ H h => ?_
  have h := rd_set st h
  show tLc _ _ _ _ _ σ H _
  exact rd_comp C.K (hg X.s_0 X.H_0 0 [] []) ho (fun i hi => mem_of_contains (by have := List.all_eq_true.mp hmp i hi; simpa using this)) h
/-! ### calls -/
/-- a def that may be called, at a level -/
structure CalOk (P : Program) (w : World) (mg : Str → Option Value) (base : Heap) (kx : Kx) (k : Nat) (call : Nat → List D → Res) (f : Nat) (n : Str) (mp : List Bool) (pr : Bool) : Prop where
  gm : mg n = some (.ref (kx.fa f))
  kp : PySem.W.keepIn kx.K (.ref (kx.fa f)) = true
  fn : ∃ fd ps, Binds kx.K fd ps [] ∧ FnOk P w kx.K mg base (L2.CX P w) k (kx.fa f) fd ps (spA kx mp (call f))
  pr : ∀ ds, PrOk pr (call f ds)
theorem a_nil {pr : Bool} : PA X [] (rdAs R (evAs pr [])) := s_as_nil
theorem a_cons {pr mp : Bool} {m : M Rv} {ms : List (Bool × M Rv)} {x : Expr} {es : List Expr} (hx : PE X x (rdE R m)) (hr : PA X es (rdAs R (evAs pr ms))) (hs : unstar x = true := by rfl) : PA X (x :: es) (rdAs R (evAs pr ((mp, m) :: ms))) := s_as_cons hx hr hs
theorem e_call {f : Nat} {n : Str} {mp : List Bool} {pr : Bool} {p : Pos} {es : List Expr} {as : List (Bool × M Rv)} (C : CX X R k) (F : CalOk X.prog X.w X.mg X.base R.kx k R.Φ f n mp pr) (ha : PA X (a :: es) (rdAs R (evAs pr as))) (hmp : as.map (·.1) = mp := by rfl)
    (hg : Gl X n := by rfl) (hdb : (n == ("__debug__" : Str)) = false := by rfl) (hs : unstar a = true := by rfl) (hpl : (backTo pos (starEach es X.env)).any (·.1) = false := by rfl) : PE X (.Call (.Name n p) (a :: es) [] pos) (rdE R (mCall f pr as)) := by
  obtain ⟨fd, ps, hb, hF⟩ := F.fn
  subst hmp
  refine PEimp (pe_callSD (by rw [← C.K]; exact hF) C.rm hg F.gm (by rw [← C.K]; exact F.kp) (by rw [← C.K]; exact hb) .nil (fun σ => passAt C.tk σ) ha hdb (star_plain hs) hpl) fun σ H Q h => ?_
  exact rd_call F.pr h
/-! ### statements -/
theorem x_st {i : Nat} {x : Str} (hN : X.N[i]? = some x := by rfl) (hl : Loc X.env.scope x := by first | exact .inl rfl | exact .inr rfl) (hf : X.fn x = true ∨ X.env.scope.names.lookup x = some .local := by first | exact .inl rfl | exact .inr rfl) (hm : R.mps.contains i = false := by rfl) : Stor X R i x := ⟨hN, hl, hf, mem_of_contains hm⟩
theorem x_set {i : Nat} {x : Str} (B : BX X R) (st : Stor X R i x) (h : PE X a (rdE R ma)) (hs : swapsWith a (some (.Name x pos')) pos.line X.env = pure false := by rfl) : PS X (.Assign [.Name x pos'] a pos) (rdS R (mSet i ma)) := s_set B.nd st h hs
theorem x_setT {is : List Nat} {es : List Expr} {j : Nat} {tpos : Pos} (C : CX X R k) (st : Stors X R is es) (h : PE X a (rdE R ma)) (hs : swapsWithSole [.Tuple es j tpos] a pos.line X.env = pure false := by rfl) (hw : swappedStores [.Tuple es j tpos] a X.env = pure none := by rfl) :
    PS X (.Assign [.Tuple es j tpos] a pos) (rdS R (mSetT is ma)) := s_setT C.K C.calm C.nd st h hs hw
theorem x_par {i j : Nat} {x y : Str} {px py pt pt2 : Pos} {kt k2 : Nat} (C : CX X R k) (st1 : Stor X R i x) (st2 : Stor X R j y) (ha : PA X [a, b] (rdL R (mLs [ma, mb]))) (hij : i ≠ j := by decide) (hx : X.env.scope.names.lookup x = some .local := by rfl) (hy : X.env.scope.names.lookup y = some .local := by rfl)
    (hw : swappedStores [.Tuple [.Name x px, .Name y py] kt pt] (.Tuple [a, b] k2 pt2) X.env = pure (some [x, y]) := by rfl) (hs : swapsWithSole [.Tuple [.Name x px, .Name y py] kt pt] (.Tuple [a, b] k2 pt2) pos.line X.env = pure false := by rfl) :
    PS X (.Assign [.Tuple [.Name x px, .Name y py] kt pt] (.Tuple [a, b] k2 pt2) pos) (rdS R (mPar i j ma mb)) := s_par C.calm C.nd st1 st2 hij hx hy ha hw hs
theorem x_expr (h : PE X a (rdE R ma)) (hs : swapsWith a none pos.line X.env = pure false := by rfl) : PS X (.Expr a pos) (rdS R (mEx ma)) := s_expr h hs
theorem x_ret (h : PE X a (rdE R ma)) : PS X (.Return (some a) pos) (rdS R (mRt R.mps ma)) := s_ret h
theorem x_put {i : Nat} {x : Str} {npos tpos : Pos} (hx : PE X (.Name x npos) (tVar i)) (hk : PE X b (rdE R mb)) (hv : PE X a (rdE R ma))
    (hset : ∀ v, assign (.Subscript (.Name x npos) b tpos) X.env v = (do
      let ov ← holding [v] (eval (.Name x npos) X.env)
      let iv ← holding [v, ov] (eval b X.env)
      standAt tpos
      holding [v, ov, iv] (setItem ov iv v)
      release [v, ov, iv] []) := by intro _; rfl) (hs : swapsWithSole [.Subscript (.Name x npos) b tpos] a pos.line X.env = pure false := by rfl) (hw : swappedStores [.Subscript (.Name x npos) b tpos] a X.env = pure none := by rfl)
    (h1 : (assignEach [.Subscript (.Name x npos) b tpos] X.env).map (·.2) = [assign (.Subscript (.Name x npos) b tpos) X.env] := by rfl) :
    PS X (.Assign [.Subscript (.Name x npos) b tpos] a pos) (rdS R (mPut i mb ma)) := s_put hx hk hv hset hs hw h1
theorem x_for {tg : Tg} {t it : Expr} {g : TG} {mi : MI} {body : List Stmt} {m : M Flow} (C : CX X R k) (hg : TgOk X R tg t g) (hi : PI X t it (rdI R mi)) (hb : PSs X body (rdS R m)) (hs : ∀ x, foldedSetIterable it X.env x = pure x := by intro _; rfl) : PS X (.For t it body [] pos) (rdS R (mFor tg mi m)) :=
  s_for C.K C.po C.calm C.nd hg hi hb hs
theorem x_while {t : M Bool} {m : M Flow} {body : List Stmt} (C : CX X R k) (hc : PT X c (rdT R t)) (hb : PSs X body (rdS R m)) : PS X (.While c body [] pos) (rdS R (mWh t m)) := s_while C.po hc hb
theorem i_any {tg : Expr} (B : BX X R) (ha : PE X a (rdE R ma)) : PI X tg a (rdI R (iVal ma)) := s_iter B.K ha
theorem i_range1 {tg : Expr} {p : Pos} (hm : X.mg "range" = none) (h : PE X a (rdE R ma)) (hs : unstar a = true := by rfl) (hg : Gl X "range" := by rfl) : PI X tg (.Call (.Name "range" p) [a] [] pos) (rdI R (iR1 ma)) := s_range1 hg hm h hs
theorem i_range2 {tg : Expr} {p : Pos} (hm : X.mg "range" = none) (h : PE X a (rdE R ma)) (h2 : PE X b (rdE R mb)) (hs : unstar a = true := by rfl) (hs2 : unstar b = true := by rfl) (hg : Gl X "range" := by rfl) : PI X tg (.Call (.Name "range" p) [a, b] [] pos) (rdI R (iR2 ma mb)) := s_range2 hg hm h h2 hs hs2
theorem g_nm {i : Nat} {x : Str} {p : Pos} (h : Stor X R i x) : TgOk X R (.nm i) (.Name x p) (gName i) := .nm h
theorem g_tp {is : List Nat} {es : List Expr} {j : Nat} {p : Pos} (h : Stors X R is es) : TgOk X R (.tp is) (.Tuple es j p) (gTup R.kx.K is.length (gNs is)) := .tp h
end
end Gr
set_option Elab.async false
set_option linter.all false
set_option maxRecDepth 100000
/-! G22: .. insert, keywords, raise, try. -/
namespace Gr
open PySem PySem.Spec L2
section
variable {X : Cx} {R : Rc} {k : Nat} {pos pos' : Pos} {a b c : Expr} {ma mb mc : M Rv} {w : Wo} {T S : Tm} {lk : List Nat} {e : Ev} {σ : St} {H : Hp}
theorem s_ins {i : Nat} {x : Str} {npos apos : Pos} (hx : PE X (.Name x npos) (tVar i)) (hk : PE X b (rdE R mb)) (h : PE X a (rdE R ma)) (hs0 : unstar b = true) (hs : unstar a = true) (hl : (apos.endLine == pos.line) = true) :
    PE X (.Call (.Attribute (.Name x npos) "insert" apos) [b, a] [] pos) (rdE R (mIns i mb ma)) := by
  refine PEimp (pe_bm PySem.F.plainAttrs_list PySem.F.slot_list_insert PySem.F.type_list_insert mt_insert hx (pa_cons hk (pa_cons h pa_nil (star_plain hs)) (star_plain hs0)) rfl (by rw [star_plain hs0, star_plain hs]; rfl) hl (star_plain hs0) (by rw [star_plain hs]; rfl)) fun σ H Q h => ?_
  obtain ⟨w, T, lk, e, hm, W, h⟩ := h
  unfold mIns at h
  dsimp only at h
  cases q : getS e i with
  | none => rw [q] at h; exact h.elim
  | some d =>
    rw [q] at h
    cases d with
    | ols xs =>
      simp only at h
      obtain ⟨x', vs, hv, hH, r⟩ := W.ols (of_getS q)
      refine ⟨_, hv, tyV_lst hH, ?_⟩
      have W0 : Wd R.kx w (T ++ [(.ref x', .slot i (.ols xs))]) (i :: lk) e σ H := W.pushS (of_getS q) trivial hv
      refine ⟨w, _, i :: lk, e, hm, W0, ((outG_andThen h).ext W.slin).mono fun rk e0 h0 vk Hk Wk => ?_⟩
      split at h0
      · rename_i j qj
        have hvk := rc_int (Wk.pv mem_snoc qj)
        subst hvk
        have W0' : Wd R.kx w (T ++ [(.ref x', .slot i (.ols xs))]) (i :: lk) e0 σ Hk := Wk.back W0.slin
        refine ⟨w, _, i :: lk, e0, hm, W0', ((outG_andThen (outG_andThen h0)).ext W.slin).mono fun rv e1 h1 v1 H1 W1 => ?_⟩
        obtain ⟨p, e2, h2, W2⟩ := rd_leak (Q := fun _ _ => True) W0' (h1.ext W.slin) W1
        cases q2 : (lk.contains i || !(decide (0 ≤ j) && okR j)) with
        | true => simp only [q2, if_true] at h2; exact h2.elim
        | false =>
          simp only [q2, Bool.false_eq_true, if_false] at h2
          obtain ⟨g1, g2⟩ := Bool.or_eq_false_iff.mp q2
          have g2 : (decide (0 ≤ j) && okR j) = true := by simpa using g2
          obtain ⟨g3, g4⟩ := Bool.and_eq_true_iff.mp g2
          have g3 : 0 ≤ j := of_decide_eq_true g3
          have g4 := okR_of g4
          cases q3 : getS e2 i with
          | none => rw [q3] at h2; exact h2.elim
          | some d2 =>
            rw [q3] at h2
            cases d2 with
            | ols ys =>
              simp only at h2
              by_cases hl : ys.length < line
              · rw [if_pos hl] at h2
                obtain ⟨x2, us, hv2, hH2, r2⟩ := W2.ols (of_getS q3)
                rw [hv] at hv2; cases hv2
                refine ⟨_, us, j, _, rfl, rfl, hH2, by rw [← r2.length]; exact lineLt hl, g3, by omega, h2 _ _ ?_⟩
                have W3 : Wd R.kx w (T ++ [(v1, .val (.pure p))]) lk e2 σ H1 := (W2.sub (List.Sublist.append (List.sublist_append_left T _) (List.Sublist.refl _))).lkDown (slin_val W.slin)
                have z := W3.tmP mem_snoc
                obtain ⟨x3, us3, hv3, hH3, r3⟩ := W3.ols (of_getS q3)
                rw [hv] at hv3; cases hv3
                rw [hH2] at hH3; cases hH3
                have W4 := (W3.writeL (ys := insAt ys j.toNat p) (us := us.take j.toNat ++ [v1] ++ us.drop j.toNat) (mem_of_contains g1) (of_getS q3) hv (by
                  rw [List.append_assoc]
                  exact (r3.take _).append (.cons z (r3.drop _)))).back W.slin
                exact W4.pushP (by simp [RF])
              · rw [if_neg hl] at h2; exact h2.elim
            | _ => exact h2.elim
      · exact h0.elim
    | _ => exact h.elim
theorem e_ins {i : Nat} {x : Str} {npos apos : Pos} (hx : PE X (.Name x npos) (tVar i)) (hk : PE X b (rdE R mb)) (h : PE X a (rdE R ma)) (hs0 : unstar b = true := by rfl) (hs : unstar a = true := by rfl) (hl : (apos.endLine == pos.line) = true := by rfl) :
    PE X (.Call (.Attribute (.Name x npos) "insert" apos) [b, a] [] pos) (rdE R (mIns i mb ma)) := s_ins hx hk h hs0 hs hl
/-! ### keywords -/
theorem k_nil {pr : Bool} : PK X [] (rdAs R (evAs pr [])) := ⟨fun pos pins s σ H Q I h => pk_nil.run pos pins s σ H Q I (by
  obtain ⟨w, T, lk, e, hm, W, h⟩ := h
  exact h [] H rfl (by simpa [tmsOf, lksOf] using W))⟩
theorem rd_as_cons {pr mp : Bool} {m : M Rv} {ms : List (Bool × M Rv)} {Q : List V → Hp → Prop} (h : rdAs R (evAs pr ((mp, m) :: ms)) σ H Q) : tCons (rdE R m) (rdAs R (evAs pr ms)) σ H Q := by
  obtain ⟨w, T, lk, e, hm, W, h⟩ := h
  refine ⟨w, T, lk, e, hm, W, (outG_andThen h).mono fun r e1 h1 v1 H1 W1 => ?_⟩
  cases hb : (mp || pr) with
  | true =>
    rw [hb, if_pos rfl] at h1
    refine ⟨w, _, _, e1, hm, W1, ((outG_andThen h1).ext W.slin).mono fun rs e2 h2 vs H2 hl W2 => ?_⟩
    have same : r.tk e2 = r.tk e1 := tk_same (v := v1) W2 (by simp)
    refine h2 (v1 :: vs) H2 (by simp [hl]) ?_
    have e3 : T ++ tmsOf (v1 :: vs) (r :: rs) e2 = T ++ [(v1, r.tk e1)] ++ tmsOf vs rs e2 := by simp [tmsOf, same]
    rw [e3]
    refine W2.lkMono fun i hi => ?_
    simp only [lksOf, List.flatMap_cons, List.mem_append] at hi ⊢
    rcases hi with hi | hi | hi
    · exact .inl (.inr hi)
    · exact .inl (.inl hi)
    · exact .inr hi
  | false =>
    rw [hb, if_neg Bool.false_ne_true] at h1
    obtain ⟨p, e2, h2, W2⟩ := rd_leak (Q := fun _ _ => True) W (outG_andThen h1) W1
    refine ⟨w, _, lk, e2, hm, W2, ((outG_andThen h2).ext W.slin).mono fun rs e3 h3 vs H3 hl W3 => ?_⟩
    refine h3 (v1 :: vs) H3 (by simp [hl]) ?_
    have e4 : T ++ tmsOf (v1 :: vs) (.val (.pure p) :: rs) e3 = T ++ [(v1, .val (.pure p))] ++ tmsOf vs rs e3 := by simp [tmsOf, Rv.tk]
    rw [e4]
    simpa [lksOf, Rv.lks] using W3
theorem k_cons {pr mp : Bool} {m : M Rv} {ms : List (Bool × M Rv)} {x : Expr} {nm : Option Str} {kpos : Pos} {ks : List Keyword} (hx : PE X x (rdE R m)) (hr : PK X ks (rdAs R (evAs pr ms))) : PK X (⟨nm, x, kpos⟩ :: ks) (rdAs R (evAs pr ((mp, m) :: ms))) :=
  ⟨fun pos pins s σ H Q I h => (pk_cons hx hr).run pos pins s σ H Q I (rd_as_cons h)⟩
/-- how the keywords ks fill the parameters: ix -/
def KwB (K : PySem.W.Frag) (fd : FuncData) (ps ks : List Str) (ix : List Nat) : Prop := ∀ (s : Shared) (ws : List Value), K.In s.heap → ws.length = ks.length → BindsTo s fd ⟨[], ks.zip ws⟩ (ps.zip (pick ix ws))
theorem pick_len {α β : Type} : ∀ {ix : List Nat} {l : List α} {m : List β}, l.length = m.length → (pick ix l).length = (pick ix m).length
  | [], _, _, _ => rfl
  | i :: ix, l, m, h => by
    have ih := pick_len (ix := ix) h
    unfold pick at ih ⊢
    by_cases hi : i < l.length
    · rw [List.filterMap_cons_some (show l[i]? = some l[i] from by simp [hi]), List.filterMap_cons_some (show m[i]? = some (m[i]'(by omega)) from by simp [show i < m.length by omega])]
      simp [ih]
    · rw [List.filterMap_cons_none (by simp; omega), List.filterMap_cons_none (by simp; omega)]
      exact ih
theorem pick_vals {ix : List Nat} {vs : List V} {us : List Value} (r : Vals vs us) : Vals (pick ix vs) (pick ix us) := by
  induction ix with
  | nil => exact .nil
  | cons i ix ih =>
    unfold pick at ih ⊢
    cases h : vs[i]? with
    | none =>
      have : us[i]? = none := by
        rw [List.getElem?_eq_none_iff] at h ⊢
        rw [← r.length]; exact h
      rw [List.filterMap_cons_none h, List.filterMap_cons_none this]
      exact ih
    | some v =>
      obtain ⟨u, hu, ru⟩ := r.get h
      rw [List.filterMap_cons_some h, List.filterMap_cons_some hu]
      exact .cons ru ih
theorem pick_perm {α : Type} {ix : List Nat} {l : List α} (h : ix.Perm (List.range l.length)) : (pick ix l).Perm l := by
  have h1 : (pick ix l).Perm (pick (List.range l.length) l) := h.filterMap _
  refine h1.trans ?_
  have : pick (List.range l.length) l = l := by
    unfold pick
    apply List.ext_getElem?
    intro i
    have key : ∀ (n : Nat) (hn : n ≤ l.length), (List.range n).filterMap (fun i => l[i]?) = l.take n := by
      intro n
      induction n with
      | zero => intro _; rfl
      | succ n ih =>
        intro hn
        rw [List.range_succ, List.filterMap_append, ih (by omega)]
        have : l[n]? = some l[n] := by simp [show n < l.length by omega]
        simp only [List.filterMap_cons, this, List.filterMap_nil]
        rw [List.take_succ, this]; rfl
    rw [key l.length (Nat.le_refl _), List.take_length]
  rw [this]
theorem pick_zip {α β : Type} : ∀ {ix : List Nat} {l : List α} {m : List β}, l.length = m.length → (pick ix l).zip (pick ix m) = pick ix (l.zip m)
  | [], _, _, _ => rfl
  | i :: ix, l, m, h => by
    have ih := pick_zip (ix := ix) h
    unfold pick at ih ⊢
    by_cases hi : i < l.length
    · have h1 : l[i]? = some l[i] := by simp [hi]
      have h2 : m[i]? = some (m[i]'(by omega)) := by simp [show i < m.length by omega]
      have h3 : (l.zip m)[i]? = some (l[i], m[i]'(by omega)) := by rw [List.getElem?_zip_eq_some]; exact ⟨h1, h2⟩
      rw [List.filterMap_cons_some h1, List.filterMap_cons_some h2, List.filterMap_cons_some h3, List.zip_cons_cons, ih]
    · have h1 : l[i]? = none := by simp; omega
      have h2 : m[i]? = none := by simp; omega
      have h3 : (l.zip m)[i]? = none := by simp [List.length_zip]; omega
      rw [List.filterMap_cons_none h1, List.filterMap_cons_none h2, List.filterMap_cons_none h3, ih]
theorem rd_callK {f : Nat} {pr : Bool} {ix : List Nat} {as : List (Bool × M Rv)} {Q : VK} (hix : ix.Perm (List.range as.length)) (hpr : ∀ ds, PrOk pr (R.Φ f ds)) (h : rdE R (mCallK f pr ix as) σ H Q) :
    rdAs R (evAs pr as) σ H fun vs H1 => spA R.kx (pick ix (as.map (·.1))) (R.Φ f) (pick ix vs) H1 Q (WE R.W σ) := by
  obtain ⟨w, T, lk, e, hm, W, h⟩ := h
  refine ⟨w, T, lk, e, hm, W, (outG_andThen h).withEq.mono fun rs e1 ⟨eq, h1⟩ vs H1 hl W1 => ?_⟩
  have hrs : rs.length = as.length := by
    have key : ∀ {as : List (Bool × M Rv)} {c : Ct} {e : Ev} {rs : List Rv} {e1 : Ev}, evAs pr as c e = .ok rs e1 → rs.length = as.length := by
      intro as
      induction as with
      | nil => intro c e rs e1 h; cases h; rfl
      | cons a as ih =>
        intro c e rs e1 h
        obtain ⟨mp, m⟩ := a
        unfold evAs at h
        cases q : m c e with
        | ok r e2 =>
          simp only [q, Out.andThen] at h
          split at h
          · cases q2 : evAs pr as (c.lock r.lks) e2 with
            | ok rs' e3 =>
              simp only [q2] at h
              cases h
              simp [ih q2]
            | rs _ _ _ => simp only [q2] at h; cases h
            | stk => simp only [q2] at h; cases h
          · cases q3 : leakR r c e2 with
            | ok p e3 =>
              simp only [q3] at h
              cases q2 : evAs pr as c e3 with
              | ok rs' e4 =>
                simp only [q2] at h
                cases h
                simp [ih q2]
              | rs _ _ _ => simp only [q2] at h; cases h
              | stk => simp only [q2] at h; cases h
            | rs _ _ _ => simp only [q3] at h; cases h
            | stk => simp only [q3] at h; cases h
        | rs _ _ _ => simp only [q, Out.andThen] at h; cases h
        | stk => simp only [q, Out.andThen] at h; cases h
    exact key eq
  have hz : (vs.zip rs).length = as.length := by rw [List.length_zip, hl, hrs]; simp
  refine rest_ok hpr W.slin (pick_len hl) ?_ h1
  have p1 : (tmsOf (pick ix vs) (pick ix rs) e1).Perm (tmsOf vs rs e1) := by
    unfold tmsOf
    rw [pick_zip hl]
    exact (pick_perm (by rw [hz]; exact hix)).map _
  have W2 := W1.perm (p1.symm.append_left T)
  refine W2.lkMono fun i hi => ?_
  rcases List.mem_append.mp hi with hi | hi
  · refine List.mem_append_left _ ?_
    have : (lksOf (pick ix rs)).Perm (lksOf rs) := (pick_perm (by rw [hrs]; exact hix)).flatMap_right _
    exact this.mem_iff.mpr hi
  · exact List.mem_append_right _ hi
theorem run_fnkS {f : Addr} {fd : FuncData} {ps ks : List Str} {sp : Sp} {ix : List Nat} {CX : CXT} {E : St → XK} {pins : List (Addr × Obj)} {s : Shared} {Q : VK} {ws : List Value} {zs : List V} (F : FnOk X.prog X.w X.K X.mg X.base CX k f fd ps sp) (hr : Room k X.A) (hb : KwB X.K fd ps ks ix) (hx : PassesAt CX X σ (E σ))
    (I : Inv X pins σ H s) (rz : Vals zs ws) (hl0 : ws.length = ks.length) (h : sp (pick ix zs) H Q (E σ)) : wpAny (model X.prog X.w) X.A (call (.ref f) [] (ks.zip ws)) (EP X pins σ Q) X.xe s := by
  have r2 := pick_vals (ix := ix) rz
  have hl : (pick ix ws).length = ps.length := by rw [← r2.length]; exact F.len _ _ _ _ h
  refine wpAny_call (codeAny_mono (F.run X.A X.stack s H ⟨[], ks.zip ws⟩ (pick ix ws) (pick ix zs) Q (E σ) hr I.env0 (hb s ws I.kIn hl0) r2 h) fun r s' hq => ?_)
  cases r with
  | error e => exact hx pins H s e s' I hq
  | ok fl =>
    cases fl with
    | ret u => exact I.after hq
    | next => exact False.elim hq
    | brk => exact False.elim hq
    | cont => exact False.elim hq
theorem rdAs_len {m : M (List Rv)} {n : Nat} (hn : ∀ c e rs e', m c e = .ok rs e' → rs.length = n) {Q : List V → Hp → Prop} (h : rdAs R m σ H Q) : rdAs R m σ H fun vs H' => vs.length = n ∧ Q vs H' := by
  obtain ⟨w, T, lk, e, hm, W, h⟩ := h
  exact ⟨w, T, lk, e, hm, W, h.withEq.mono fun rs e1 ⟨eq, h1⟩ vs H' hl W1 => ⟨by rw [hl]; exact hn _ _ _ _ eq, h1 vs H' hl W1⟩⟩
theorem evAs_len {pr : Bool} : ∀ {as : List (Bool × M Rv)} {c : Ct} {e : Ev} {rs : List Rv} {e1 : Ev}, evAs pr as c e = .ok rs e1 → rs.length = as.length := by
  intro as
  induction as with
  | nil => intro c e rs e1 h; cases h; rfl
  | cons a as ih =>
    intro c e rs e1 h
    obtain ⟨mp, m⟩ := a
    unfold evAs at h
    cases q : m c e with
    | ok r e2 =>
      simp only [q, Out.andThen] at h
      split at h
      · cases q2 : evAs pr as (c.lock r.lks) e2 with
        | ok rs' e3 =>
          simp only [q2] at h
          cases h
          simp [ih q2]
        | rs _ _ _ => simp only [q2] at h; cases h
        | stk => simp only [q2] at h; cases h
      · cases q3 : leakR r c e2 with
        | ok p e3 =>
          simp only [q3] at h
          cases q2 : evAs pr as c e3 with
          | ok rs' e4 =>
            simp only [q2] at h
            cases h
            simp [ih q2]
          | rs _ _ _ => simp only [q2] at h; cases h
          | stk => simp only [q2] at h; cases h
        | rs _ _ _ => simp only [q3] at h; cases h
        | stk => simp only [q3] at h; cases h
    | rs _ _ _ => simp only [q, Out.andThen] at h; cases h
    | stk => simp only [q, Out.andThen] at h; cases h
/-- f(k = v, ..) -/
structure CalK (P : Program) (w : World) (mg : Str → Option Value) (base : Heap) (kx : Kx) (k : Nat) (call : Nat → List D → Res) (f : Nat) (n : Str) (mp : List Bool) (pr : Bool) (ks : List Str) (ix : List Nat) : Prop where
  gm : mg n = some (.ref (kx.fa f))
  kp : PySem.W.keepIn kx.K (.ref (kx.fa f)) = true
  fn : ∃ fd ps, KwB kx.K fd ps ks ix ∧ FnOk P w kx.K mg base (L2.CX P w) k (kx.fa f) fd ps (spA kx mp (call f))
  pr : ∀ ds, PrOk pr (call f ds)
theorem e_callK {f : Nat} {n : Str} {mp : List Bool} {pr : Bool} {ks : List Str} {p : Pos} {ix : List Nat} {kws : List Keyword} {as : List (Bool × M Rv)} (C : CX X R k) (F : CalK X.prog X.w X.mg X.base R.kx k R.Φ f n mp pr ks ix) (ha : PK X kws (rdAs R (evAs pr as))) (hmp : pick ix (as.map (·.1)) = mp := by rfl) (hix : ix.Perm (List.range as.length) := by decide)
    (hall : (backToKw pos (keywordEach kws X.env)).all (·.1.isSome) = true := by rfl) (hks : (backToKw pos (keywordEach kws X.env)).filterMap (·.1) = ks := by rfl) (hkl : as.length = ks.length := by rfl)
    (hg : Gl X n := by rfl) (hdb : (n == ("__debug__" : Str)) = false := by rfl) (hpl : ((backTo pos (starEach [] X.env)).any (·.1) || (backToKw pos (keywordEach kws X.env)).any (·.1.isNone)) = false := by rfl) : PE X (.Call (.Name n p) [] kws pos) (rdE R (mCallK f pr ix as)) := by
  obtain ⟨fd, ps, hb, hF⟩ := F.fn
  subst hmp
  refine ⟨fun pins s σ H Q I h => ?_⟩
  have h2 := rdAs_len (fun c e rs e' q => evAs_len q) (rd_callK hix F.pr h)
  refine wpAny_Call_Name_kw (ld_glob I hg F.gm ?_ hdb)
  refine PySem.W.callWith_KW0 (h₀ := X.base) I.ok.mod.kin (by rw [← C.K]; exact F.kp) hall (thn (ha.run pos pins s σ H _ I h2) fun ws s2 ⟨zs, H2, I2, rz, hl, q2⟩ => ⟨I2.kIn, ?_⟩) hpl
  rw [hks]
  exact run_fnkS (E := WE R.W) (by rw [← C.K]; exact hF) C.rm (by rw [← C.K]; exact hb) (passAt C.tk σ) I2 rz (by rw [← rz.length, hl]; exact hkl) q2
/-! ### errors -/
/-- X(..) may be raised -/
structure RaiseOk (P : Program) (mg : Str → Option Value) (kx : Kx) (x : Nat) (n : Str) (ats : List Nat) : Prop where
  gm : mg n = some (.ref (kx.ca x))
  ex : ∃ fI qual par body scope fs, PySem.GrX.XT P kx.K mg (kx.ca x) fI qual par body scope ∧ PySem.GrX.XS P fs par body scope ∧ (∀ f ∈ fs, PySem.W.findIn kx.K (.ref (kx.ca x)) f = some none) ∧ fs.length ≤ 800 ∧ AtsOk kx ats fs
theorem x_raise {x : Nat} {ats : List Nat} {ms : List (M Rv)} {n : Str} {es : List Expr} {p pos2 : Pos} (C : CX X R k) (F : RaiseOk X.prog X.mg R.kx x n ats) (ha : PA X (a :: es) (rdL R (mLs ms))) (hms : ats.length = ms.length := by rfl)
    (hg : Gl X n := by rfl) (hdb : (n == ("__debug__" : Str)) = false := by rfl) (hs : unstar a = true := by rfl) (hpl : (backTo pos (starEach es X.env)).any (·.1) = false := by rfl) : PS X (.Raise (some (.Call (.Name n p) (a :: es) [] pos)) none pos2) (rdS R (mRs x ats ms)) := by
  obtain ⟨fI, qual, par, body, scope, fs, h1, h2, h3, h4, h5⟩ := F.ex
  exact s_raise C.K C.calm C.tk (by rw [← C.K]; exact h1) h2 (by rw [← C.K]; exact h3) h4 h5 hms C.rm hg F.gm hdb ha hs hpl
/-- a clause's class -/
structure HdOk (mg : Str → Option Value) (kx : Kx) (tk : Nat → Option Bool) (n : Str) : Prop where
  ex : ∃ c, mg n = some c ∧ ∀ y b, tk y = some b → PySem.W.exmOne kx.K (.ref (kx.ca y)) c = some b
def suR (R : Rc) (a : Addr) (cls : Value) (d : Option Addr) : Rc := { R with W := fun _ _ _ _ => False, xa := some (a, cls, d) }
def HdA (X : Cx) (R : Rc) (hs : List ExceptHandler) (l : List Hd) : Prop := ∃ c, HdsG X hs c ∧ HdRel R X.K l c
theorem h_nil : HdA X R [] [] := ⟨[], .nil, .nil⟩
theorem h_no {n : Str} {tk : Nat → Option Bool} {m : M Flow} {b₀ : Stmt} {suite : List Stmt} {np pos' : Pos} {hds : List ExceptHandler} {l : List Hd} (C : CX X R k) (F : HdOk X.mg R.kx tk n)
    (hsu : ∀ (a : Addr) (oe : Obj) (cls : Value) (d : Option Addr) (pn : List (Addr × Obj)), Zc cls d oe → (∃ vs, oe.data = .fields vs) → BX (X.suite a ((a, oe) :: pn)) (suR R a cls d) → PSs (X.suite a ((a, oe) :: pn)) (b₀ :: suite) (rdS (suR R a cls d) m)) (r : HdA X R hds l)
    (hg : Gl X n := by rfl) (hdb : (n == ("__debug__" : Str)) = false := by rfl) : HdA X R (.ExceptHandler (some (.Name n np)) none (b₀ :: suite) pos' :: hds) (⟨tk, none, m⟩ :: l) := by
  obtain ⟨c, hc1, hc2⟩ := F.ex
  obtain ⟨cs, r1, r2⟩ := r
  exact ⟨_, .no ⟨hg, hdb, .inl hc1⟩ (fun a oe cls d pn hz hf => hsu a oe cls d pn hz hf C.sui) r1, .no (by rw [← C.K]; exact hc2) r2⟩
theorem h_yes {n nm : Str} {i : Nat} {tk : Nat → Option Bool} {m : M Flow} {b₀ : Stmt} {suite : List Stmt} {np pos' : Pos} {hds : List ExceptHandler} {l : List Hd} (C : CX X R k) (F : HdOk X.mg R.kx tk n)
    (hsu : ∀ (a : Addr) (oe : Obj) (cls : Value) (d : Option Addr) (pn : List (Addr × Obj)), Zc cls d oe → (∃ vs, oe.data = .fields vs) → BX (X.suite a ((a, oe) :: pn)) (suR R a cls d) → PSs (X.suite a ((a, oe) :: pn)) (b₀ :: suite) (rdS (suR R a cls d) m)) (r : HdA X R hds l)
    (hi : X.N[i]? = some nm := by rfl) (hln : X.env.kindOf nm = some .local := by rfl) (hm : R.mps.contains i = false := by rfl) (hg : Gl X n := by rfl) (hdb : (n == ("__debug__" : Str)) = false := by rfl) :
    HdA X R (.ExceptHandler (some (.Name n np)) (some nm) (b₀ :: suite) pos' :: hds) (⟨tk, some i, m⟩ :: l) := by
  obtain ⟨c, hc1, hc2⟩ := F.ex
  obtain ⟨cs, r1, r2⟩ := r
  exact ⟨_, .yes ⟨hg, hdb, .inl hc1⟩ hi hln (fun a oe cls d pn hz hf => hsu a oe cls d pn hz hf C.sui) r1, .yes (by rw [← C.K]; exact hc2) (mem_of_contains hm) r2⟩
theorem x_try {body : List Stmt} {h₀ : ExceptHandler} {hds : List ExceptHandler} {m : M Flow} {hs : List Hd} (C : CX X R k) (hb : ∀ {W : WX} {pn : List (Addr × Obj)} {xe : Value → Shared → Prop}, CX (X.tr pn xe) { R with W := W } k → PSs (X.tr pn xe) body (rdS { R with W := W } m))
    (hh : HdA X R (h₀ :: hds) hs) (hst : X.stack = X.env :: X.outer := by rfl) (hfr : X.env.frame = some X.env.locals := by rfl) (hx : R.xa = none := by rfl) : PS X (.Try body (h₀ :: hds) [] [] pos) (rdS R (mTry m hs)) := by
  obtain ⟨l, h1, h2⟩ := hh
  exact s_try hst hfr C.nd C.tk hx (fun W pn xe t p => hb (C.tr t p)) h1 h2
/-- e.f may be read -/
structure AtOk (kx : Kx) (ok : Nat → Bool) (f : Nat) (g : Str) : Prop where
  hg : kx.ats[f]? = some g
  inj : ∀ i j : Nat, kx.ats[i]? = kx.ats[j]? → i < kx.ats.length → i = j
  ok : ∀ c, ok c = true → XR kx.K (kx.ca c) [g]
theorem e_at {a : Addr} {oe : Obj} {cls : Value} {d : Option Addr} {pn : List (Addr × Obj)} {ok : Nat → Bool} {i f : Nat} {n g : Str} {npos : Pos} (B : BX (X.suite a ((a, oe) :: pn)) (suR R a cls d)) (hz : Zc cls d oe) (hf : ∃ vs, oe.data = .fields vs) (F : AtOk R.kx ok f g)
    (hN : X.N[i]? = some n := by rfl) (hv : Vis X.env.scope n := by first | exact .inl rfl | exact .inr (.inl rfl) | exact .inr (.inr rfl)) (hd1 : (n == ("__debug__" : Str)) = false := by rfl) (hd2 : (n == ("__classdict__" : Str)) = false := by rfl) :
    PE (X.suite a ((a, oe) :: pn)) (.Attribute (.Name n npos) g pos) (rdE (suR R a cls d) (mAtC ok i f)) :=
  s_at (R := suR R a cls d) B.K rfl hz hf hN hv hd1 hd2 F.hg F.inj (by
    have := B.K
    intro c hc
    have z := F.ok c hc
    have e : R.kx.K = X.K := this
    rw [← e]; exact z)
end
end Gr
set_option Elab.async false
set_option linter.all false
set_option maxRecDepth 100000
set_option maxHeartbeats 2000000
/-! G23: defs by their bodies; what the head tells of error classes. -/
namespace Gr
open PySem PySem.Spec L2
section
variable {P : Program} {w : World} {mg : Str → Option Value} {base : Heap} {kx : Kx} {k : Nat}
theorem spA_len {mp : List Bool} {call : List D → Res} {vs : List V} {H : Hp} {Q : VK} {E : XK} (h : spA kx mp call vs H Q E) : vs.length = mp.length := by
  obtain ⟨ds, B, ao, _⟩ := h
  have go : ∀ {mp : List Bool} {ds : List D}, argFit mp ds = true → mp.length = ds.length := by
    intro mp
    induction mp with
    | nil => intro ds h; cases ds with
      | nil => rfl
      | cons _ _ => simp [argFit] at h
    | cons m mp ih => intro ds h; cases ds with
      | nil => cases m <;> simp [argFit] at h
      | cons d ds => cases m <;> cases d <;> first | exact congrArg (· + 1) (ih h) | (simp [argFit] at h)
  rw [ao.len, go ao.fit]
theorem def_ok {x qual : Str} {params : Arguments} {body : List Stmt} {scope : Scope} {f : Addr} {fd : FuncData} {N ps : List Str} {df : Df} {call : Nat → List D → Res} (F : FunD kx.K x qual params body scope [] [] f fd) (S : FnScope N ps scope) (hn : df.n = N.length) (hmp : df.mp.length = ps.length)
    (hbody : ∀ (cdv : Value) (A : Around) (outer : List Env) (s : Shared) (H : Hp) (E : XK), CX (cxOf (L2.CX P w) P w kx.K mg base N qual scope f cdv A outer s H E) ⟨kx, mpIx 0 df.mp, call, fun cls d _ H' => E cls d H', none⟩ k →
      PSs (cxOf (L2.CX P w) P w kx.K mg base N qual scope f cdv A outer s H E) body (rdS ⟨kx, mpIx 0 df.mp, call, fun cls d _ H' => E cls d H', none⟩ df.body)) :
    FnOk P w kx.K mg base (L2.CX P w) (k + 1) f fd ps (spA kx df.mp (fun ds => runD df call ds)) := by
  refine F.ok S (fun vs H Q E h => by rw [spA_len h, hmp]) fun cdv A outer s H vs Q E hr h => ⟨_, hbody cdv A outer s H E (CX.def_ S.nd hr), ?_⟩
  exact spA_body hn h
theorem def_0 {f : Addr} {fd : FuncData} {ps : List Str} {mp : List Bool} {CX : CXT} (hmp : mp.length = ps.length) : FnOk P w kx.K mg base CX 0 f fd ps (spA kx mp fun _ => .stk) :=
  ⟨fun vs H Q E h => by rw [spA_len h, hmp], fun A outer s H args us vs Q E _ _ _ _ h => by
    obtain ⟨ds, B, _, z⟩ := h
    exact z.elim⟩
theorem end_pr {d : Df} (hp : d.pr = true) (r : D) (e : Ev) : PrP (d.end_ r e) := by
  unfold Df.end_
  cases wsOf d.mp e with
  | none => trivial
  | some ws =>
    simp only
    cases hc : (r.flat && (!d.pr || (r.bare && ws.all D.bareIn))) with
    | false => rw [if_neg Bool.false_ne_true]; trivial
    | true =>
      rw [if_pos rfl]
      simp only [hp, Bool.not_true, Bool.false_or, Bool.and_eq_true] at hc
      exact ⟨bareIn_of hc.2.1, fun d hd => List.all_eq_true.mp hc.2.2 d hd⟩
theorem run_pr (d : Df) (call : Nat → List D → Res) (ds : List D) : PrOk d.pr (runD d call ds) := by
  intro hp
  unfold runD
  cases h0 : (argFit d.mp ds && decide (ds.length ≤ d.n)) with
  | false => rw [if_neg Bool.false_ne_true]; trivial
  | true =>
    rw [if_pos rfl]
    cases q : d.body ⟨call, []⟩ (ds.map some ++ List.replicate (d.n - ds.length) none) with
    | stk => trivial
    | ok f e =>
      cases f with
      | rt d' => exact end_pr hp d' e
      | nx => exact end_pr hp _ e
      | bk => trivial
      | ct => trivial
    | rs x fs e =>
      simp only
      cases wsOf d.mp e with
      | none => trivial
      | some ws =>
        simp only
        cases hc : (!d.pr || ((fs.all fun q => q.2.bare) && ws.all D.bareIn)) with
        | false => rw [if_neg Bool.false_ne_true]; trivial
        | true =>
          rw [if_pos rfl]
          simp only [hp, Bool.not_true, Bool.false_or, Bool.and_eq_true] at hc
          exact ⟨hc.1, fun d hd => List.all_eq_true.mp hc.2 d hd⟩
theorem call_pr {T : List Df} {f : Nat} {d : Df} (h : T[f]? = some d) : ∀ (k : Nat) (ds : List D), PrOk d.pr (callN T k f ds)
  | 0, _ => fun _ => trivial
  | k + 1, ds => by
    show PrOk d.pr (match T[f]? with | some d => runD d (callN T k) ds | none => .stk)
    rw [h]
    exact run_pr d _ ds
end
theorem kwB_of {K : PySem.W.Frag} {x qual : Str} {params : Arguments} {body : List Stmt} {scope : Scope} {f : Addr} {fd : FuncData} {ps ks : List Str} {ix : List Nat} (F : FunD K x qual params body scope [] [] f fd)
    (h : ∀ (kV doc pm : Value) (an : Option Addr) (cdv ct : Value) (ws : List Value), ws.length = ks.length → bindArgs (PySem.W.fnOf x qual params body scope .none kV doc pm an cdv ct) ⟨[], ks.zip ws⟩ = pure (ps.zip (pick ix ws))) : KwB K fd ps ks ix := by
  obtain ⟨oc, od, dV, kV, doc, pm, an, cdv, ct, osl, rfl, lk, hcd, hD, hK⟩ := F.ex
  rcases hD with ⟨_, rfl⟩ | ⟨e, _⟩
  · exact fun s ws _ hl => .of_eq (h kV doc pm an cdv ct ws hl)
  · exact absurd rfl e
/-- nothing is let out -/
theorem noX {P : Program} {w : World} {K : PySem.W.Frag} {mg : Str → Option Value} {base : Heap} {k : Nat} {f : Addr} {fd : FuncData} {ps : List Str} {sp : Sp} (F : FnOk P w K mg base (L2.CX P w) k f fd ps sp) : FnOk P w K mg base CX0 k f fd ps (fun vs H Q _ => sp vs H Q fun _ _ _ => False) :=
  ⟨fun vs H Q E h => F.len _ _ _ _ h, fun A outer s H args us vs Q E hr he hb hv hs => codeAny_mono (F.run A outer s H args us vs Q (fun _ _ _ => False) hr he hb hv hs) fun r s' hq => by
    cases r with
    | error e =>
      obtain ⟨_, _, _, _, _, _, _, _, _, _, _, _, z⟩ := hq
      exact z.elim
    | ok fl => cases fl <;> exact hq⟩
/-! ### error classes, told by the head -/
/-- a class: its name, its own bases' names, its fields, its __init__ -/
structure XD where
  name : Str
  qual : Str
  fs : List Str
  par : Arguments
  body : List Stmt
  scope : Scope
abbrev IniW : Type := Option (Str × Str × Arguments × FuncBody × Scope × Addr × List Str × Addr)
def iniW (K : PySem.W.Frag) (x : Str) : IniW := match K.lookup (He.ma K (He.ga K x) "__init__") with
  | some ⟨_, _, .func fd, _⟩ => some (fd.name, fd.qualname, fd.params, fd.body, fd.scope, fd.globals, fd.closure.map (·.1), fd.builtins)
  | _ => none
def XD.val (d : XD) : IniW := some ("__init__", d.qual, d.par, .stmts d.body, d.scope, mainGlobals, ["__class__"], builtinsNs)
def isVE (K : PySem.W.Frag) (C : Addr) : Bool := match K.lookup C with
  | some ⟨.type "type", _, .cls cd, sl⟩ => (match cd.mro, sl.toList with
    | .ref C' :: bm, [_, _, _, _, some (.builtin n), _] => decide (C' = C) && n == "ValueError.__new__" && !cd.hasDel && PySem.HandSPX.refsVE bm && cd.hasDict
    | _, _ => false)
  | _ => false
def eqV (a : Option Value) (b : Value) : Bool := decide (a = some b)
/-- what isinstance of one of its errors asks -/
def clsX (K : PySem.W.Frag) (C : Addr) : Bool := He.eqO (PySem.W.findIn K (.ref C) "__class__") (some (some (.builtin "object.__class__"))) && (He.eqO (PySem.W.specialIn K (.builtin "object.__class__") "__get__") (some (some (.builtin "getset_descriptor.__get__"))) && (decide (PySem.W.takesIn K (.builtin "object.__class__") = some true) &&
  (decide (PySem.W.mroIn K C (.type "object") = some true) && decide (PySem.W.subIn K (.ref C) (.type "ValueError") = some true))))
/-- the class alone -/
def clsB (K : PySem.W.Frag) (x : Str) : Bool := let C := He.ga K x
  isVE K C && (He.eqO (PySem.W.nsIn K mainGlobals x) (some (some (.ref C))) && (He.eqO (PySem.W.findIn K (.ref C) "__setattr__") (some (some (.builtin "object.__setattr__"))) && (decide (PySem.W.subIn K (.ref C) (.type "BaseException") = some true) && (eqV (PySem.W.typeIn K (.ref C)) (.type "type") && (PySem.W.keepIn K (.ref C) &&
    (PySem.W.hasDictIn K C && (He.eqO (PySem.W.findIn K (.ref C) "__getattribute__") (some (some (.builtin "BaseException.__getattribute__"))) && (He.eqO (PySem.W.findIn K (.ref C) "__getattr__") (some none) && clsX K C))))))))
/-- its __init__ -/
def iniB (K : PySem.W.Frag) (file : Str) (d : XD) : Bool := let C := He.ga K d.name; let f := He.ma K C "__init__"
  He.eqO (PySem.W.findIn K (.ref C) "__init__") (some (some (.ref f))) && (eqV (PySem.W.typeIn K (.ref f)) (.type "function") && (He.eqO (PySem.W.ks_superIn K C C "__init__") (some (some (.builtin "ValueError.__init__"))) && (decide (PySem.W.subIn K (.ref C) (.type "ValueError") = some true) &&
    (decide (PySem.W.mroIn K C (.ref C) = some true) && (He.eqO (PySem.W.nsIn K mainGlobals "super") (some none) && (He.eqO (PySem.W.nsIn K cStatics "thirdparty.any") (some none) && (d.fs.all (fun g => He.eqO (PySem.W.findIn K (.ref C) g) (some none)) &&
    (match K.lookup f with
      | some ⟨_, _, .func fd, _⟩ => (match fd.defaults, fd.code, fd.closure with
        | .none, .ref cda, [(_, cc)] => PySem.W.codeIn K (.ref cda) d.qual && ((match K.lookup cda with
            | some ⟨_, _, .fields vs, _⟩ => (match vs[2]? with
              | some (Value.str n _) => n == file
              | _ => false)
            | _ => false) && (match K.lookup cc with
            | some ⟨_, _, .cell (some (.ref D)), _⟩ => decide (D = C)
            | _ => false))
        | _, _, _ => false)
      | _ => false))))))))
section
variable {K : PySem.W.Frag} {P : Program} {mg : Str → Option Value} {h : Heap}
theorem isVE_ok {C : Addr} (q : isVE K C = true) : ∃ nm q N bs bm sn sub ab col dd k0 k1 k2 k3 k5, K.lookup C = some (excClassObj nm q C N bs bm true sn sub ab col dd k0 k1 k2 k3 k5 "ValueError.__new__") ∧ PySem.HandSPX.refsVE bm = true := by
  unfold isVE at q
  split at q
  · rename_i dd cd sl ho
    split at q
    · rename_i C' bm k0 k1 k2 k3 n k5 hm hs
      simp only [Bool.and_eq_true, decide_eq_true_eq, beq_iff_eq, Bool.not_eq_true'] at q
      obtain ⟨⟨⟨⟨rfl, rfl⟩, hdel⟩, hve⟩, hd⟩ := q
      obtain ⟨nm, bs, mro, ns, qn, hd', sn, sb, ab, col, del⟩ := cd
      simp only at hm hdel hd
      subst hm hdel hd
      have hsl : sl = #[k0, k1, k2, k3, some (.builtin "ValueError.__new__"), k5] := Array.toList_inj.mp (by simpa using hs)
      subst hsl
      exact ⟨nm, qn, ns, bs, bm, sn, sb, ab, col, dd, k0, k1, k2, k3, k5, ho, hve⟩
    · cases q
  · cases q
structure ClsF (K : PySem.W.Frag) (mg : Str → Option Value) (x : Str) : Prop where
  T : L2.OexC K (He.ga K x)
  gm : mg x = some (.ref (He.ga K x))
  hdC : PySem.W.hasDictIn K (He.ga K x) = true
  ga : PySem.W.findIn K (.ref (He.ga K x)) "__getattribute__" = some (some (.builtin "BaseException.__getattribute__"))
  gg : PySem.W.findIn K (.ref (He.ga K x)) "__getattr__" = some none
  ex : L2.ExcC K (He.ga K x)
  ve : PySem.W.subIn K (.ref (He.ga K x)) (.type "ValueError") = some true
theorem cls_ok (X : K.In h) (G : h.Ns mainGlobals mg) {x : Str} (c : clsB K x = true) : ClsF K mg x := by
  unfold clsB at c
  simp only [Bool.and_eq_true] at c
  obtain ⟨c1, c2, c3, c4, c5, c6, c7, c8, c9, cx⟩ := c
  unfold clsX at cx
  simp only [Bool.and_eq_true] at cx
  obtain ⟨x1, x2, x3, x4, x5⟩ := cx
  exact ⟨⟨isVE_ok c1, He.eqO_ok c3, of_decide_eq_true c4, of_decide_eq_true c5, c6⟩, PySem.W.mg_of X G (He.eqO_ok c2), c7, He.eqO_ok c8, He.eqO_ok c9, ⟨He.eqO_ok c8, He.eqO_ok c9, of_decide_eq_true c4, c7, He.eqO_ok x1, He.eqO_ok x2, of_decide_eq_true x3, of_decide_eq_true x4⟩, of_decide_eq_true x5⟩
theorem ini_ok (X : K.In h) (G : h.Ns mainGlobals mg) {d : XD} (e : iniW K d.name = d.val) (c0 : ClsF K mg d.name) (c : iniB K P.main.file d = true) :
    PySem.GrX.XT P K mg (He.ga K d.name) (He.ma K (He.ga K d.name) "__init__") d.qual d.par d.body d.scope ∧ ∀ f ∈ d.fs, PySem.W.findIn K (.ref (He.ga K d.name)) f = some none := by
  unfold iniB at c
  simp only [Bool.and_eq_true] at c
  obtain ⟨c1, c2, c3, c4, c5, c6, c7, c8, c9⟩ := c
  refine ⟨⟨c0.T, c0.hdC, c0.ga, c0.gg, He.eqO_ok c1, of_decide_eq_true c2, He.eqO_ok c3, of_decide_eq_true c4, of_decide_eq_true c5, PySem.W.mg_none_of X G (He.eqO_ok c6), He.eqO_ok c7, ?_⟩, fun f hf => He.eqO_ok (List.all_eq_true.mp c8 f hf)⟩
  unfold iniW at e
  cases q : K.lookup (He.ma K (He.ga K d.name) "__init__") with
  | none => rw [q] at c9; cases c9
  | some o =>
    obtain ⟨oc, od, dt, osl⟩ := o
    rw [q] at c9 e
    cases dt with
    | func fd =>
      obtain ⟨n1, n2, n3, n4, n5, n6, n7, n8, n9, n10, n11, n12, n13, n14, n15⟩ := fd
      have e2 : (some (n1, n2, n3, n4, n5, n6, n7.map (·.1), n15) : IniW) = some (("__init__" : Str), d.qual, d.par, FuncBody.stmts d.body, d.scope, mainGlobals, [("__class__" : Str)], builtinsNs) := e
      simp only [Option.some.injEq, Prod.mk.injEq] at e2
      obtain ⟨h1, h2, h3, h4, h5, h6, h7, h8⟩ := e2
      simp only at c9
      split at c9
      · rename_i cda nm cc
        simp only [List.map_cons, List.map_nil, List.cons.injEq, and_true] at h7
        subst h1 h2 h3 h4 h5 h6 h7 h8
        simp only [Bool.and_eq_true] at c9
        obtain ⟨k1, k2, k3⟩ := c9
        refine ⟨oc, od, n9, n10, n11, n12, cda, cc, n14, osl, rfl, k1, ?_, ?_⟩
        · split at k2
          · rename_i c1 c2 vs c3 ho
            split at k2
            · rename_i n t hv
              refine ⟨c1, c2, vs, c3, n, t, ho, hv, ?_⟩
              have := beq_iff_eq.mp k2
              rw [this]; simp
            · cases k2
          · cases k2
        · split at k3
          · rename_i c1 c2 D c3 ho
            have := of_decide_eq_true k3
            subst this
            exact ⟨c1, c2, c3, ho⟩
          · cases k3
      · cases c9
    | _ => cases c9
end
/-! ### the Hook -/
def asE (g : Addr → Option Obj) : Nat → List Addr
  | 0 => [mainGlobals, cStatics]
  | n + 1 => He.growD g (asE g n)
abbrev AlE : Type := He.AlD × (Bool × List IniW)
def obsE (fa : List He.Fa) (fn : List He.DefD) (cl : List Str) (xs : List XD) (file : Str) (K : PySem.W.Frag) : AlE := (He.obsD fa fn K, ((cl.all fun x => clsB K x) && xs.all fun d => iniB K file d, xs.map fun d => iniW K d.name))
def valE (fn : List He.DefD) (xs : List XD) : AlE := (He.valD fn, (true, xs.map XD.val))
structure SaysE (fa : List He.Fa) (fn : List He.DefD) (cl : List Str) (xs : List XD) (file : Str) (K : PySem.W.Frag) : Prop where
  d : He.SaysD fa fn K
  c : ∀ x ∈ cl, clsB K x = true
  i : ∀ d ∈ xs, iniB K file d = true
  w : ∀ d ∈ xs, iniW K d.name = d.val
theorem saysE_of {fa : List He.Fa} {fn : List He.DefD} {cl : List Str} {xs : List XD} {file : Str} {K : PySem.W.Frag} (e : obsE fa fn cl xs file K = valE fn xs) : SaysE fa fn cl xs file K := by
  have e1 : He.obsD fa fn K = He.valD fn := congrArg (fun z : AlE => z.1) e
  have e2 : ((cl.all fun x => clsB K x) && xs.all fun d => iniB K file d) = true := congrArg (fun z : AlE => z.2.1) e
  have e3 : (xs.map fun d => iniW K d.name) = xs.map XD.val := congrArg (fun z : AlE => z.2.2) e
  obtain ⟨h1, h2⟩ := Bool.and_eq_true_iff.mp e2
  refine ⟨e1, fun x hx => List.all_eq_true.mp h1 x hx, fun d hd => List.all_eq_true.mp h2 d hd, fun d hd => ?_⟩
  have key : ∀ {l : List XD}, (l.map fun d => iniW K d.name) = l.map XD.val → d ∈ l → iniW K d.name = d.val := by
    intro l
    induction l with
    | nil => intro _ h; cases h
    | cons a l ih =>
      intro h hd
      simp only [List.map_cons, List.cons.injEq] at h
      rcases List.mem_cons.mp hd with rfl | hd
      · exact h.1
      · exact ih h.2 hd
  exact key e3 hd
def obsEG (n : Nat) (fa : List He.Fa) (fn : List He.DefD) (cl : List Str) (xs : List XD) (file : Str) (g : Addr → Option Obj) : AlE := obsE fa fn cl xs file (He.frG g (asE g n))
def hookE (n : Nat) (fa : List He.Fa) (fn : List He.DefD) (cl : List Str) (xs : List XD) (file : Str) : PySem.W.Hook where
  α := AlE
  obs := fun s => obsEG n fa fn cl xs file s.heap.get?
  val := fun _ => valE fn xs
  says := fun _ h => ∃ K : PySem.W.Frag, K.In h ∧ SaysE fa fn cl xs file K
  of := fun _ _ e => ⟨_, He.frG_in, saysE_of e⟩
  keeps := fun _ _ _ ⟨K, hK, c⟩ k => ⟨K, PySem.W.Frag.In.keeps hK k, c⟩
theorem obsEG_eq {n : Nat} {fa : List He.Fa} {fn : List He.DefD} {cl : List Str} {xs : List XD} {file : Str} {g : Addr → Option Obj} {s : Shared} (h : ∀ a, g a = s.heap.get? a) : obsEG n fa fn cl xs file g = (hookE n fa fn cl xs file).obs s := by
  have e : g = s.heap.get? := funext h
  rw [e] <;> rfl
end Gr
set_option Elab.async false
set_option linter.all false
set_option maxRecDepth 100000
/-! G24: a call whose first argument is a slot's list that the later arguments change. -/
namespace Gr
open PySem PySem.Spec L2
def evL (pr : Bool) (i : Nat) (ms : List (Bool × M Rv)) : M (List Rv) := fun c e => match getS e i with
  | some (.ols _) => (evAs pr ms c e).andThen fun rs e1 => match getS e1 i with
    | some (.ols _) => .ok (.slot i :: rs) e1
    | _ => .stk
  | _ => .stk
def mCallL (f : Nat) (pr : Bool) (i : Nat) (as : List (Bool × M Rv)) : M Rv := fun c e => (evL pr i as c e).andThen fun rs e1 => callR f pr (true :: as.map (·.1)) c rs e1
section
variable {X : Cx} {R : Rc} {pos pos' : Pos} {a b c : Expr} {ma mb mc : M Rv} {kx : Kx} {w : Wo} {T S : Tm} {lk lk' : List Nat} {e : Ev} {σ σ' : St} {H : Hp} {k : Nat}
theorem s_as_late {pr : Bool} {i : Nat} {ms : List (Bool × M Rv)} {x : Expr} {es : List Expr} (hx : PE X x (tVar i)) (hr : PA X es (rdAs R (evAs pr ms))) (hs : unstar x = true := by rfl) : PA X (x :: es) (rdAs R (evL pr i ms)) := by
  refine PAimp (pa_cons hx hr (star_plain hs)) fun σ H Q h => ?_
  obtain ⟨w, T, lk, e, hm, W, h⟩ := h
  unfold evL at h
  cases q : getS e i with
  | none => rw [q] at h; exact h.elim
  | some d =>
    rw [q] at h
    obtain ⟨v, h1, _⟩ := slot_at W q
    cases d with
    | pure p => exact h.elim
    | odc ks xs => exact h.elim
    | exn c fs => exact h.elim
    | ols xs =>
      refine ⟨v, h1, w, T, lk, e, hm, W, (outG_andThen h).mono fun rs e1 h2 vs H2 hl W2 => ?_⟩
      cases q2 : getS e1 i with
      | none => rw [q2] at h2; exact h2.elim
      | some d2 =>
        rw [q2] at h2
        cases d2 with
        | pure p => exact h2.elim
        | odc ks xs => exact h2.elim
        | exn c fs => exact h2.elim
        | ols ys =>
          refine h2 (v :: vs) H2 (by simp [hl]) ?_
          have W3 := W2.pushS (v := v) (of_getS q2) trivial h1
          have e3 : T ++ tmsOf (v :: vs) (.slot i :: rs) e1 = T ++ ([(v, .slot i (.ols ys))] ++ tmsOf vs rs e1) := by simp [tmsOf, Rv.tk, q2]
          rw [e3]
          have W4 := W3.perm (S := T ++ ([(v, .slot i (.ols ys))] ++ tmsOf vs rs e1)) (by
            rw [List.append_assoc]
            exact List.perm_append_comm.append_left T)
          exact W4
theorem rd_callL {f : Nat} {pr : Bool} {i : Nat} {as : List (Bool × M Rv)} {Q : VK} (hpr : ∀ ds, PrOk pr (R.Φ f ds)) (h : rdE R (mCallL f pr i as) σ H Q) : tCallSD (spA R.kx (true :: as.map (·.1)) (R.Φ f)) [] (WE R.W) (rdAs R (evL pr i as)) σ H Q := by
  obtain ⟨w, T, lk, e, hm, W, h⟩ := h
  refine ⟨w, T, lk, e, hm, W, (outG_andThen h).mono fun rs e1 h1 vs H1 hl W1 => ?_⟩
  show spA R.kx (true :: as.map (·.1)) (R.Φ f) (vs ++ []) H1 Q (WE R.W σ)
  rw [List.append_nil]
  exact rest_ok hpr W.slin hl W1 h1
theorem e_callL {f i : Nat} {n : Str} {mp : List Bool} {pr : Bool} {p : Pos} {es : List Expr} {as : List (Bool × M Rv)} (C : CX X R k) (F : CalOk X.prog X.w X.mg X.base R.kx k R.Φ f n mp pr) (hx : PE X a (tVar i)) (ha : PA X es (rdAs R (evAs pr as))) (hmp : true :: as.map (·.1) = mp := by rfl)
    (hg : Gl X n := by rfl) (hdb : (n == ("__debug__" : Str)) = false := by rfl) (hs : unstar a = true := by rfl) (hpl : (backTo pos (starEach es X.env)).any (·.1) = false := by rfl) : PE X (.Call (.Name n p) (a :: es) [] pos) (rdE R (mCallL f pr i as)) := by
  obtain ⟨fd, ps, hb, hF⟩ := F.fn
  subst hmp
  refine PEimp (pe_callSD (by rw [← C.K]; exact hF) C.rm hg F.gm (by rw [← C.K]; exact F.kp) (by rw [← C.K]; exact hb) .nil (fun σ => passAt C.tk σ) (s_as_late hx ha hs) hdb (star_plain hs) hpl) fun σ H Q h => ?_
  exact rd_callL F.pr h
end
end Gr
set_option Elab.async false
set_option linter.all false
set_option maxRecDepth 100000
/-! G25: the law's own call. -/
namespace Gr
open PySem PySem.Spec L2
theorem sp_law {kx : Kx} {call : List D → Res} {ns : List Int} {a : Addr} {H : Hp} {E : XK} (hc : call [.pure (.inp ns)] = .ok (.pure (.bl true)) []) (hS : SqL kx.K H a (ns.map V.int)) : spA kx [false] call [.ref a] H (fun v _ => v = .bl true) E := by
  refine ⟨[.pure (.inp ns)], fun _ => False, ⟨rfl, rfl, List.nodup_nil, fun _ h => h.elim, fun i d v h1 h2 => ?_⟩, ?_⟩
  · cases i with
    | succ i => simp at h1
    | zero =>
      simp only [List.getElem?_cons_zero, Option.some.injEq] at h1 h2
      subst h1 h2
      show RF kx.K H _ (.inp ns) (.ref a)
      simp only [RF]
      refine ⟨a, rfl, ?_⟩
      rcases hS with h | h
      · exact .inl ⟨h, fun z => by rcases z with z | z; exact z; exact absurd z (by simp [paOf])⟩
      · exact .inr h
  · rw [hc]
    intro v H' _ _ r
    exact (by simpa only [RD, RF] using r)
end Gr
set_option Elab.async false
set_option linter.all false
set_option maxRecDepth 100000
/-! G26: for x in reversed(range(n)). -/
namespace Gr
open PySem PySem.Spec L2
def iRv1 (m : M Rv) : MI := fun c e => (m c e).andThen fun r e1 => match r.pv e1 with
  | some (.int j) => if okR j = true then .ok ((upTo 0 j.toNat).reverse, []) e1 else .stk
  | _ => .stk
section
variable {X : Cx} {R : Rc} {pos pos' : Pos} {a b c : Expr} {ma mb mc : M Rv} {kx : Kx} {w : Wo} {T S : Tm} {lk lk' : List Nat} {e : Ev} {σ σ' : St} {H : Hp} {k : Nat}
theorem it_rangeV (n : Nat) : ItOk R.kx w T lk (Itc ((n : Int) - 1) (-1) n) ((upTo 0 n).reverse) := fun i U e σ H W => by
  refine ⟨fun hl => by rw [List.length_reverse, upTo_len] at hl; exact hl, fun x hx => ?_⟩
  have hlt : i < n := by
    have := (List.getElem?_eq_some_iff.mp hx).1
    rwa [List.length_reverse, upTo_len] at this
  rw [List.getElem?_reverse (by rw [upTo_len]; exact hlt), upTo_len, upTo_get n 0 (n - 1 - i) (by omega)] at hx
  cases hx
  refine ⟨hlt, fun v H' hy => ?_⟩
  obtain ⟨rfl, rfl⟩ := hy
  refine W.pushP ?_
  simp only [RF]
  congr 1
  omega
theorem i_rev1 {tg : Expr} {p p2 pos2 : Pos} (hr : X.mg "reversed" = none) (hm : X.mg "range" = none) (h : PE X a (rdE R ma)) (hs : unstar a = true := by rfl) (hg0 : Gl X "reversed" := by rfl) (hg : Gl X "range" := by rfl) : PI X tg (.Call (.Name "reversed" p) [.Call (.Name "range" p2) [a] [] pos2] [] pos) (rdI R (iRv1 ma)) := by
  refine PIimp (pi_revR hg0 hr (prg_1 hg hm h (star_plain hs))) fun σ H RR h => ?_
  obtain ⟨w, T, lk, e, hm, W, h⟩ := h
  refine ⟨w, T, lk, e, hm, W, (outG_andThen h).mono fun r e1 h1 v1 H1 W1 => ?_⟩
  split at h1
  · rename_i j q
    split at h1
    · rename_i ok
      have zj : v1 = .int j := by
        have := W1.pv mem_snoc q
        simpa [RC, RF] using this
      obtain ⟨b1, b2⟩ := okR_of ok
      have e0 : (0 : Int) + (((j - 0).toNat : Nat) : Int) - 1 = ((j.toNat : Nat) : Int) - 1 := by simp
      have e1 : (j - 0).toNat = j.toNat := by simp
      refine ⟨j, by rw [zj], by decide, by decide, b1, b2, ?_⟩
      rw [e0, e1]
      refine h1 _ _ [] ?_ (it_rangeV j.toNat)
      simpa using W1.back W.slin
    · exact h1.elim
  · exact h1.elim
end
end Gr
set_option Elab.async false
set_option linter.all false
set_option maxRecDepth 100000
set_option maxHeartbeats 4000000
/-! E4: isinstance of a caught error that has fields. -/
namespace Gr
open PySem PySem.Spec PyProof.Rows L2 PySem.W PySem.Calls
section
variable {prog : Program} {w : World} {A : Around} {E : Value → Shared → Prop} {Z : Frag} {xa DC : Addr} {ob : Obj} {ow : Option Obj}
theorem bind_any {C : Addr} {nm : Str} {at_ gg : Value} (k1 : (clsIn Z C).isSome = true) (k2 : findIn Z (.ref C) nm = some (some at_)) (k3 : specialIn Z at_ "__get__" = some (some gg)) (k4 : takesIn Z at_ = some true) : findObj Z C ow nm = some (.bind gg at_) := by
  obtain ⟨cc, k1⟩ := Option.isSome_iff_exists.mp k1
  simp only [findObj, k1, k2, k3, k4, Option.bind_some]
theorem cls_of_exc {Q : Option Value → Shared → Prop} {st : Shared} (C : L2.ExcC Z DC) (inH : Z.In st.heap) (J : InstAt st.heap xa ob DC ow) (q : Q (some (.ref DC)) { st with toks := st.toks + 1 }) : wpAny (model prog w) A (getAttr? (.ref xa) "__class__") Q E st := by
  have fo : findObj Z DC ow "__class__" = some (.bind (.builtin "getset_descriptor.__get__") (.builtin "object.__class__")) :=
    bind_any (by obtain ⟨cc, e, _⟩ := any_some C.hd; rw [e]; rfl) C.ha C.hn C.ht
  obtain ⟨hh, gg, dd, tk, oo⟩ := st
  have l0 := J.type (M := model prog w)
  have l1 := looks_findIn (M := model prog w) inH C.hg
  have l2 := looks_findIn (M := model prog w) inH C.hk
  have l3 := looks_find (M := model prog w) inH J fo
  have sb : Looks (model prog w) hh (isInstance (.ref xa) (.type "BaseException")) true := l0.andThen (looks_subIn inH C.hs)
  have n0 : (false && onTheHeap (Value.builtin "BaseException.__getattribute__")) = false := rfl
  have n2 : (Value.builtin "BaseException.__getattribute__" == Value.builtin "object.__getattribute__") = false := by
    decide +kernel
  have n1 : (onTheHeap (Value.ref DC) && Value.builtin "BaseException.__getattribute__" == Value.builtin "object.__getattribute__") = false := by
    rw [n2]
    rfl
  unfold getAttr? getAttrBy?; unfold getAttrBy
  refine wpAny_bind (wpAny_mkText (wpAny_bind (wpAny_attempt (wpAny_holding (wpAny_bind (l0.at (wpAny_bind (l1.at ?_))))))))
  change wpAny _ _ (if (onTheHeap (Value.ref DC) && Value.builtin "BaseException.__getattribute__" == Value.builtin "object.__getattribute__") = true then _ else _) _ _ _
  rw [n1, if_neg Bool.false_ne_true]
  unfold getAttrByItsOwn; unfold hookBefore
  refine wpAny_bind ?_
  rw [if_pos (show onTheHeap (Value.ref DC) = true from rfl)]
  refine l2.at ?_
  refine wpAny_bind (wpAny_attempt (wpAny_holding ?_))
  unfold callGetattribute; rw [n0, if_neg Bool.false_ne_true]
  unfold boundAndCalled; rw [PySem.F.excAttr_ValueError.ga.bind (.ref xa)]
  refine wpAny_bind (wpAny_pure ?_)
  change wpAny _ _ (call (.builtin "BaseException.__getattribute__") [.ref xa, .str "__class__" tk]) _ _ _
  refine wpAny_call (codeAny_call_builtin (PySem.F.excAttr_ValueError.ga).plain PySem.F.entry_bexc_ga ?_)
  refine @check_slot (model prog w) _ _ ⟨hh, gg, dd, tk + 1, oo⟩ "BaseException.__getattribute__" "BaseException" "__getattribute__" (.ref xa) [.str "__class__" tk] [] _ (by decide +kernel) (by decide +kernel) sb (PySem.F.args_bexc_ga (.ref xa) (.str "__class__" tk)) ?_
  unfold Builtin.«object.__getattribute__»
  refine wpAny_bind (wpAny_of_eq (a := ((Value.ref xa : Value), [Value.str "__class__" tk])) (by first | rfl | (simp only [slotArgs] <;> rfl)) ?_)
  refine wpAny_bind (wpAny_pure (wpAny_bind (l0.at (wpAny_bind (l3.at ?_)))))
  change wpAny _ _ (holding [Value.builtin "object.__class__"] (call (.builtin "getset_descriptor.__get__") [.builtin "object.__class__", .ref xa, .ref DC]) >>= ret) _ _ _
  refine wpAny_bind (wpAny_holding (wpAny_call (class_get (s := ⟨hh, gg, dd, tk + 1, oo⟩) (ox := ob) (od := ow) inH J C.hm ?_)))
  refine wpAny_pure ?_
  change wpAny _ _ (handedOut (.ref DC)) _ _ _
  rw [handedOut_of (v := .ref DC) rfl]
  first
    | exact wpAny_pure (wpAny_pure q)
    | exact wpAny_pure q
    | exact wpAny_pure (wpAny_bind (wpAny_pure (wpAny_pure q)))
theorem kit_exc (C : L2.ExcC Z DC) : KitX Z (.ref xa) (.ref DC) (fun h => InstAt h xa ob DC ow) := by
  obtain ⟨cc, e0, e1⟩ := any_some C.hd
  have hob : ∃ c' d' sl', Z.lookup DC = some ⟨c', d', .cls cc, sl'⟩ := by
    unfold clsIn at e0
    split at e0
    · rename_i c' d' cd' sl' ho
      cases e0
      exact ⟨_, _, _, ho⟩
    · cases e0
  obtain ⟨c', d', sl', ho⟩ := hob
  exact { ty := fun _ _ _ J => J.type
          it := fun _ _ inH _ A' Q' E' s' k q => by
            unfold isType; unfold loadHead
            exact wpAny_bind (wpAny_loadPart (k _ _ (inH _ _ ho)) (wpAny_pure q))
          ne := fun h tp dd its n sl inH htp => Bool.eq_false_iff.mpr fun q => by
            have e : DC = tp := Value.ref.inj (beq_iff_eq.mp q)
            subst e
            cases (inH _ _ ho).symm.trans htp
          ca := fun inH J q => cls_of_exc C inH J q }
end
end Gr
set_option Elab.async false
set_option linter.all false
set_option maxRecDepth 100000
/-! G27: isinstance(e, X) of the error that a suite holds; it is said of classes that it is true of alone. -/
namespace Gr
open PySem PySem.Spec L2
def mIsX (ok : Nat → Bool) (i : Nat) : M Rv := fun _ e => match getS e i with
  | some (.exn c _) => if ok c = true then .ok (.val (.pure (.bl true))) e else .stk
  | _ => .stk
/-- X, by its name -/
def NameVal (mg : Str → Option Value) (n : Str) (v : V) (cv : Value) : Prop := (∃ C, mg n = some (.ref C) ∧ v = .ref C ∧ cv = .ref C) ∨ (mg n = none ∧ n = "ValueError" ∧ v = .ty "ValueError" ∧ cv = .type "ValueError")
structure IsOk (mg : Str → Option Value) (kx : Kx) (ok : Nat → Bool) (n : Str) : Prop where
  ex : ∃ (v : V) (cv : Value), NameVal mg n v cv ∧ ∀ y, ok y = true → ExcC kx.K (kx.ca y) ∧ PySem.W.kitOne kx.K (.ref (kx.ca y)) cv = some true
theorem kit_of_exm {K : PySem.W.Frag} {t c : Value} (h : PySem.W.exmOne K t c = some true) : PySem.W.kitOne K t c = some true := by
  unfold PySem.W.exmOne at h
  split at h
  · unfold PySem.W.kitOne
    split
    · rfl
    · exact h
  · cases h
theorem kit_ve {K : PySem.W.Frag} {C : Addr} (h : PySem.W.subIn K (.ref C) (.type "ValueError") = some true) : PySem.W.kitOne K (.ref C) (.type "ValueError") = some true := by
  unfold PySem.W.kitOne
  split
  · rfl
  · show (if PySem.W.kitMeta "ValueError" = true then _ else none) = _
    rw [if_pos (by decide +kernel)]
    exact h
def rIsX (K : PySem.W.Frag) (cls : Value) (d : Option Addr) (a : Addr) : List V → Hp → VK → Prop := fun xs H Q => ∃ (c : V) (cv : Value) (b : Bool) (D dd : Addr) (l : List (Str × V)), xs = [.ref a, c] ∧ (∀ u, RelV c u → u = cv) ∧ cls = .ref D ∧ ExcC K D ∧ d = some dd ∧ H dd = some (.xd l) ∧ PySem.W.kitOne K (.ref D) cv = some b ∧ Q (.bl b) H
theorem call_isX {X : Cx} {a : Addr} {oe : Obj} {cls : Value} {d : Option Addr} {pn : List (Addr × Obj)} (hz : Zc cls d oe) (hf : ∃ vs, oe.data = .fields vs) : CallR (X.suite a ((a, oe) :: pn)) (.builtin "isinstance") (rIsX X.K cls d a) := by
  intro pins s σ H xs us Q I r h
  obtain ⟨c, cv, b, D, dd, l, rfl, hcv, rfl, C, rfl, ea, e, q⟩ := h
  cases r with
  | cons rx rr => cases rr with
    | cons rt rr =>
      cases rr
      cases rx
      have ec := hcv _ rt
      subst ec
      obtain ⟨ha, _⟩ := I.pin (a, oe) (List.mem_append_left _ List.mem_cons_self)
      obtain ⟨vs, hd⟩ := hf
      have hx : ObjOk X.prog X.w H s.heap dd (.xd l) := I.hok dd _ ea
      obtain ⟨mA, hns, hr⟩ := hx
      obtain ⟨od, ho, hl2⟩ := lookIn_ns hns
      have J : PySem.W.InstAt s.heap a oe D (some od) := ⟨ha, hz.1, by unfold PySem.W.notCls; rw [hd] <;> rfl, by rw [hz.2]; exact ho⟩
      exact PySem.W.kia_one (kit_exc C) I.kIn J e (fun z => nomatch z) fun tk => ⟨.bl b, H, I.kept (t' := tk) (fun _ _ z => z), rfl, q⟩
section
variable {X : Cx} {R : Rc} {pos : Pos}
theorem s_isX {a : Addr} {oe : Obj} {cls : Value} {d : Option Addr} {pn : List (Addr × Obj)} {ok : Nat → Bool} {i : Nat} {n C : Str} {npos cpos p1 : Pos} {v : V} {cv : Value} (hK : R.kx.K = X.K) (hxa : R.xa = some (a, cls, d)) (hz : Zc cls d oe) (hf : ∃ vs, oe.data = .fields vs)
    (hN : X.N[i]? = some n) (hv : Vis X.env.scope n) (hd1 : (n == ("__debug__" : Str)) = false) (hd2 : (n == ("__classdict__" : Str)) = false) (hg : Gl (X.suite a ((a, oe) :: pn)) "isinstance") (hm : X.mg "isinstance" = none)
    (hC : PE (X.suite a ((a, oe) :: pn)) (.Name C cpos) (tC v)) (hcv : ∀ u, RelV v u → u = cv) (hok : ∀ y, ok y = true → ExcC X.K (R.kx.ca y) ∧ PySem.W.kitOne X.K (.ref (R.kx.ca y)) cv = some true) :
    PE (X.suite a ((a, oe) :: pn)) (.Call (.Name "isinstance" p1) [.Name n npos, .Name C cpos] [] pos) (rdE R (mIsX ok i)) := by
  refine PEimp (pe_callB (call_isX hz hf) hg hm (by kernel_rfl) (pa_cons (pe_var (X := X.suite a ((a, oe) :: pn)) (i := i) (x := n) (pos := npos) hN hv hd1 hd2) (pa_cons hC pa_nil) (star_plain (by rfl))) (by decide) (by decide) (star_plain (by rfl))) fun σ H Q h => ?_
  obtain ⟨w, T, lk, e, hm, W, h⟩ := h
  unfold mIsX at h
  cases q : getS e i with
  | none => simp only [q] at h; exact h.elim
  | some dd =>
    simp only [q] at h
    cases dd with
    | exn c fs =>
      simp only at h
      cases q1 : ok c with
      | false => rw [q1, if_neg Bool.false_ne_true] at h; exact h.elim
      | true =>
        rw [q1, if_pos rfl] at h
        obtain ⟨v', h1, a', cls', d', rfl, hx, hc, dd, xs, hd, hdd, hp⟩ := slot_at W q
        have hx2 : w.xa = some (a, cls, d) := hm.2.trans hxa
        rw [hx2] at hx
        cases hx
        obtain ⟨k1, k2⟩ := hok c q1
        exact ⟨_, h1, _, _, _, _, dd, xs, rfl, hcv, hc, k1, hd, hdd, k2, h _ H (W.pushP (by simp [RF]))⟩
    | pure p => exact h.elim
    | ols xs => exact h.elim
    | odc ks xs => exact h.elim
theorem e_isx {a : Addr} {oe : Obj} {cls : Value} {d : Option Addr} {pn : List (Addr × Obj)} {ok : Nat → Bool} {i : Nat} {n C : Str} {npos cpos p1 : Pos} (B : BX (X.suite a ((a, oe) :: pn)) (suR R a cls d)) (hz : Zc cls d oe) (hf : ∃ vs, oe.data = .fields vs) (F : IsOk X.mg R.kx ok C) (hm : X.mg "isinstance" = none)
    (hN : X.N[i]? = some n := by rfl) (hv : Vis X.env.scope n := by first | exact .inl rfl | exact .inr (.inl rfl) | exact .inr (.inr rfl)) (hd1 : (n == ("__debug__" : Str)) = false := by rfl) (hd2 : (n == ("__classdict__" : Str)) = false := by rfl) (hg : Gl (X.suite a ((a, oe) :: pn)) "isinstance" := by rfl) (hgc : Gl (X.suite a ((a, oe) :: pn)) C := by rfl) (hdc : (C == ("__debug__" : Str)) = false := by rfl) :
    PE (X.suite a ((a, oe) :: pn)) (.Call (.Name "isinstance" p1) [.Name n npos, .Name C cpos] [] pos) (rdE (suR R a cls d) (mIsX ok i)) := by
  obtain ⟨v, cv, hnv, hok⟩ := F.ex
  have eK : R.kx.K = X.K := B.K
  rw [eK] at hok
  rcases hnv with ⟨Ca, h1, rfl, rfl⟩ | ⟨h1, rfl, rfl, rfl⟩
  · exact s_isX (R := suR R a cls d) (v := .ref Ca) (cv := .ref Ca) B.K rfl hz hf hN hv hd1 hd2 hg hm (pe_glob (X := X.suite a ((a, oe) :: pn)) hgc h1 rfl hdc) (fun u r => r) hok
  · exact s_isX (R := suR R a cls d) (v := .ty "ValueError") (cv := .type "ValueError") B.K rfl hz hf hN hv hd1 hd2 hg hm (pe_bltn (X := X.suite a ((a, oe) :: pn)) hgc h1 (by kernel_rfl) rfl (by decide) hdc) (fun u r => r) hok
end
end Gr
set_option Elab.async false
set_option linter.all false
set_option maxRecDepth 100000
set_option maxHeartbeats 0
/-! printed by gen.py: the defs of the row as small semantics, and that their bodies keep it -/
namespace Gbk20
open PySem PySem.Spec L2 Gr
def top (i : Nat) : Stmt := PySem.Challenge.pw_graftbook_k20_steps_run.main.body.getD i (.Pass ⟨0, 0, 0, 0⟩)
def iniOf : Stmt → Stmt
  | .ClassDef _ _ _ body _ _ _ _ _ _ _ => body.getD 0 (.Pass ⟨0, 0, 0, 0⟩)
  | s => s
def tkT : List (List Bool) := [[true, true, true, true, true], [false, true, false, false, false], [false, false, true, false, false], [false, false, false, true, false], [false, false, false, false, true]]
def takes (y x : Nat) : Option Bool := (tkT[y]?).bind fun r => r[x]?
def okT : List (List Nat) := [[1, 2, 3], [4]]
def okC (f c : Nat) : Bool := (okT.getD f []).contains c
def isC (i y : Nat) : Bool := takes i y == some true
def isVEc (y : Nat) : Bool := decide (y < 5)
def b_is_int : M Gr.Flow := mRt [] (mAndV (mOp1 (isiP [.tI]) (mV 0)) (mNotV (mOp1 (isiP [.tB]) (mV 0))))
def b_is_count : M Gr.Flow := mRt [] (mAndV (mCall 0 false [(false, mV 0)]) (mOp2 (opCmp fun i j => decide (j ≤ i)) (mV 0) (mC (.int 0))))
def b_has_size : M Gr.Flow := mRt [] (mAndV (mOp1 (isiP [.tT]) (mV 0)) (mOp2 opEq (mFn fLen [mV 0]) (mV 1)))
def b_is_word : M Gr.Flow := mSeq (mIf (mOrT (mNotT (mTr (mOp1 (isiP [.tS]) (mV 0)))) (mNotT (mTr (mChain (opCmp fun i j => decide (i ≤ j)) (opCmp fun i j => decide (i ≤ j)) (mC (.int 1)) (mFn fLen [mV 0]) (mC (.int 8)))))) (mRt [] (mC (.bl false))) (mNx)) (mRt [] (mFn fAll [mComp [1] (.nm 1) (iVal (mV 0)) mYes (mOp2 opIn (mV 1) (mC (.str [97, 98, 99, 100, 101, 102, 103, 104, 105, 106, 107, 108, 109, 110, 111, 112, 113, 114, 115, 116, 117, 118, 119, 120, 121, 122])))]))
def b__are_triples : M Gr.Flow := mSeq (mIf (mNotT (mTr (mOp1 (isiP [.tT]) (mV 0)))) (mRt [] (mC (.bl false))) (mNx)) (mSeq (mSet 1 (mLst [])) (mSeq (mFor (.nm 2) (iVal (mV 0)) (mSeq (mIf (mOrT (mNotT (mTr (mCall 2 false [(false, mV 2), (false, mC (.int 3))]))) (mOrT (mNotT (mTr (mCall 3 false [(false, mOp2 opIx (mV 2) (mC (.int 0)))]))) (mOrT (mNotT (mTr (mCall 3 false [(false, mOp2 opIx (mV 2) (mC (.int 1)))]))) (mNotT (mTr (mCall 1 false [(false, mOp2 opIx (mV 2) (mC (.int 2)))])))))) (mRt [] (mC (.bl false))) (mNx)) (mSeq (mIf (mOrT (mTr (mOp2 opEq (mOp2 opIx (mV 2) (mC (.int 0))) (mOp2 opIx (mV 2) (mC (.int 1))))) (mTr (mOp2 opIn (mSl (mV 2) none (some (mC (.int 2)))) (mV 1)))) (mRt [] (mC (.bl false))) (mNx)) (mEx (mApp 1 (mSl (mV 2) none (some (mC (.int 2))))))))) (mRt [] (mC (.bl true)))))
def b_is_prices : M Gr.Flow := mSeq (mIf (mOrT (mNotT (mTr (mCall 2 false [(false, mV 0), (false, mC (.int 4))]))) (mNotT (mTr (mFn fAll [mComp [1] (.nm 1) (iVal (mSl (mV 0) none (some (mC (.int 3))))) mYes (mCall 1 false [(false, mV 1)])])))) (mRt [] (mC (.bl false))) (mNx)) (mRt [] (mCall 4 false [(false, mOp2 opIx (mV 0) (mC (.int 3)))]))
def b_need_prices : M Gr.Flow := mIf (mNotT (mTr (mCall 5 false [(false, mV 0)]))) (mRs 2 [0] [mV 0]) (mNx)
def b_price_between : M Gr.Flow := mSeq (mIf (mTr (mOp2 opEq (mV 1) (mV 2))) (mRt [] (mC (.int 0))) (mNx)) (mSeq (mFor (.tp [3, 4, 5]) (iVal (mOp2 opIx (mV 0) (mC (.int 3)))) (mIf (mAndT (mTr (mOp2 opEq (mV 3) (mV 1))) (mTr (mOp2 opEq (mV 4) (mV 2)))) (mRt [] (mV 5)) (mNx))) (mRt [] (mOp2 opIx (mV 0) (mC (.int 2)))))
def b_is_forest_value : M Gr.Flow := mSeq (mIf (mNotT (mTr (mOp1 (isiP [.tT]) (mV 0)))) (mRt [] (mC (.bl false))) (mNx)) (mSeq (mFor (.nm 1) (iVal (mV 0)) (mIf (mOrT (mNotT (mTr (mCall 2 false [(false, mV 1), (false, mC (.int 2))]))) (mOrT (mNotT (mTr (mCall 3 false [(false, mOp2 opIx (mV 1) (mC (.int 0)))]))) (mNotT (mTr (mCall 8 false [(false, mOp2 opIx (mV 1) (mC (.int 1)))]))))) (mRt [] (mC (.bl false))) (mNx))) (mRt [] (mC (.bl true))))
def b_need_forest : M Gr.Flow := mIf (mNotT (mTr (mCall 8 false [(false, mV 0)]))) (mRs 1 [0] [mV 0]) (mNx)
def b__is_path : M Gr.Flow := mSeq (mIf (mOrT (mNotT (mTr (mOp1 (isiP [.tT]) (mV 0)))) (mTr (mOp2 opEq (mFn fLen [mV 0]) (mC (.int 0))))) (mRt [] (mC (.bl false))) (mNx)) (mSeq (mFor (.nm 1) (iVal (mV 0)) (mIf (mNotT (mTr (mCall 1 false [(false, mV 1)]))) (mRt [] (mC (.bl false))) (mNx))) (mRt [] (mC (.bl true))))
def b_is_step : M Gr.Flow := mSeq (mIf (mOrT (mNotT (mTr (mOp1 (isiP [.tT]) (mV 0)))) (mOrT (mTr (mOp2 (opCmp fun i j => decide (i < j)) (mFn fLen [mV 0]) (mC (.int 2)))) (mOrT (mNotT (mTr (mOp1 (isiP [.tS]) (mOp2 opIx (mV 0) (mC (.int 0)))))) (mNotT (mTr (mCall 10 false [(false, mOp2 opIx (mV 0) (mC (.int 1)))])))))) (mRt [] (mC (.bl false))) (mNx)) (mSeq (mIf (mTr (mOp2 opEq (mOp2 opIx (mV 0) (mC (.int 0))) (mC (.str [99, 104, 97, 110, 103, 101])))) (mRt [] (mAndV (mCall 2 false [(false, mV 0), (false, mC (.int 3))]) (mCall 3 false [(false, mOp2 opIx (mV 0) (mC (.int 2)))]))) (mNx)) (mSeq (mIf (mTr (mOp2 opEq (mOp2 opIx (mV 0) (mC (.int 0))) (mC (.str [97, 100, 100])))) (mRt [] (mAndV (mCall 2 false [(false, mV 0), (false, mC (.int 4))]) (mAndV (mCall 1 false [(false, mOp2 opIx (mV 0) (mC (.int 2)))]) (mCall 3 false [(false, mOp2 opIx (mV 0) (mC (.int 3)))])))) (mNx)) (mRt [] (mAndV (mOp2 opEq (mOp2 opIx (mV 0) (mC (.int 0))) (mC (.str [100, 114, 111, 112]))) (mCall 2 false [(false, mV 0), (false, mC (.int 2))])))))
def b_row_at : M Gr.Flow := mSeq (mSet 2 (mV 0)) (mSeq (mFor (.nm 3) (iVal (mV 1)) (mSeq (mIf (mTr (mOp2 (opCmp fun i j => decide (j ≤ i)) (mV 3) (mFn fLen [mV 2]))) (mRt [] (mC .non)) (mNx)) (mSet 2 (mOp2 opIx (mOp2 opIx (mV 2) (mV 3)) (mC (.int 1)))))) (mRt [] (mV 2)))
def b__with_row : M Gr.Flow := mSeq (mIf (mTr (mOp2 opEq (mFn fLen [mV 1]) (mC (.int 0)))) (mRt [] (mV 2)) (mNx)) (mSeq (mSet 3 (mOp2 opIx (mV 1) (mC (.int 0)))) (mRt [] (mOp2 opAdd (mOp2 opAdd (mSl (mV 0) none (some (mV 3))) (mTup [mTup [mOp2 opIx (mOp2 opIx (mV 0) (mV 3)) (mC (.int 0)), mCall 13 false [(false, mOp2 opIx (mOp2 opIx (mV 0) (mV 3)) (mC (.int 1))), (false, mSl (mV 1) (some (mC (.int 1))) none), (false, mV 2)]]])) (mSl (mV 0) (some (mOp2 opAdd (mV 3) (mC (.int 1)))) none))))
def b__row_behind : M Gr.Flow := mSeq (mSet 2 (mOp2 opIx (mOp2 opIx (mV 1) (mC (.int 1))) (mOp1 opNeg (mC (.int 1))))) (mSeq (mIf (mTr (mOp2 opEq (mOp2 opIx (mV 1) (mC (.int 0))) (mC (.str [97, 100, 100])))) (mSeq (mSet 3 (mOp2 opAdd (mV 2) (mOp2 opIx (mV 1) (mC (.int 2))))) (mSeq (mIf (mTr (mOp2 (opCmp fun i j => decide (j < i)) (mV 3) (mFn fLen [mV 0]))) (mRt [] (mC .non)) (mNx)) (mRt [] (mOp2 opAdd (mOp2 opAdd (mSl (mV 0) none (some (mV 2))) (mTup [mTup [mOp2 opIx (mV 1) (mC (.int 3)), mSl (mV 0) (some (mV 2)) (some (mV 3))]])) (mSl (mV 0) (some (mV 3)) none))))) (mNx)) (mSeq (mIf (mTr (mOp2 (opCmp fun i j => decide (j ≤ i)) (mV 2) (mFn fLen [mV 0]))) (mRt [] (mC .non)) (mNx)) (mSeq (mIf (mTr (mOp2 opEq (mOp2 opIx (mV 1) (mC (.int 0))) (mC (.str [100, 114, 111, 112])))) (mRt [] (mOp2 opAdd (mOp2 opAdd (mSl (mV 0) none (some (mV 2))) (mOp2 opIx (mOp2 opIx (mV 0) (mV 2)) (mC (.int 1)))) (mSl (mV 0) (some (mOp2 opAdd (mV 2) (mC (.int 1)))) none))) (mNx)) (mRt [] (mOp2 opAdd (mOp2 opAdd (mSl (mV 0) none (some (mV 2))) (mTup [mTup [mOp2 opIx (mV 1) (mC (.int 2)), mOp2 opIx (mOp2 opIx (mV 0) (mV 2)) (mC (.int 1))]])) (mSl (mV 0) (some (mOp2 opAdd (mV 2) (mC (.int 1)))) none))))))
def b_moved_by : M Gr.Flow := mSeq (mSet 2 (mSl (mOp2 opIx (mV 1) (mC (.int 1))) none (some (mOp1 opNeg (mC (.int 1)))))) (mSeq (mSet 3 (mCall 12 false [(false, mV 0), (false, mV 2)])) (mSeq (mSet 4 (mIfE (mTr (mOp2 opIsN (mV 3) (mC .non))) (mC .non) (mCall 14 false [(false, mV 3), (false, mV 1)]))) (mSeq (mIf (mTr (mOp2 opIsN (mV 4) (mC .non))) (mRs 4 [1] [mOp2 opIx (mV 1) (mC (.int 1))]) (mNx)) (mRt [] (mCall 13 false [(false, mV 0), (false, mV 2), (false, mV 4)])))))
def b__checked_move : M Gr.Flow := mSeq (mIf (mNotT (mTr (mCall 11 false [(false, mV 1)]))) (mRs 3 [0] [mV 1]) (mNx)) (mRt [] (mCall 15 false [(false, mV 0), (false, mV 1)]))
def b_step_on : M Gr.Flow := mSeq (mEx (mCall 9 false [(false, mV 0)])) (mRt [] (mCall 16 false [(false, mV 0), (false, mV 1)]))
def b_run_steps : M Gr.Flow := mSeq (mEx (mCall 9 false [(false, mV 0)])) (mSeq (mFor (.nm 2) (iVal (mV 1)) (mSet 0 (mCall 16 false [(false, mV 0), (false, mV 2)]))) (mRt [] (mV 0)))
def b__tree_there : M Gr.Flow := mRt [] (mOp2 opIx (mCall 12 false [(false, mV 0), (false, mSl (mV 1) none (some (mOp1 opNeg (mC (.int 1)))))]) (mOp2 opIx (mV 1) (mOp1 opNeg (mC (.int 1)))))
def b_steps_price : M Gr.Flow := mSeq (mEx (mCall 9 false [(false, mV 0)])) (mSeq (mEx (mCall 6 false [(false, mV 2)])) (mSeq (mSet 3 (mC (.int 0))) (mSeq (mFor (.nm 4) (iVal (mV 1)) (mSeq (mSet 5 (mCall 16 false [(false, mV 0), (false, mV 4)])) (mSeq (mIf (mTr (mOp2 opEq (mOp2 opIx (mV 4) (mC (.int 0))) (mC (.str [100, 114, 111, 112])))) (mSet 3 (mOp2 opAdd (mV 3) (mOp2 opIx (mV 2) (mC (.int 0))))) (mIf (mTr (mOp2 opEq (mOp2 opIx (mV 4) (mC (.int 0))) (mC (.str [97, 100, 100])))) (mSet 3 (mOp2 opAdd (mV 3) (mOp2 opIx (mV 2) (mC (.int 1))))) (mSet 3 (mOp2 opAdd (mV 3) (mCall 7 false [(false, mV 2), (false, mOp2 opIx (mCall 19 false [(false, mV 0), (false, mOp2 opIx (mV 4) (mC (.int 1)))]) (mC (.int 0))), (false, mOp2 opIx (mV 4) (mC (.int 2)))]))))) (mSet 0 (mV 5))))) (mRt [] (mV 3)))))
def b__law_mixed : M Gr.Flow := mSeq (mSet 2 (mOp2 opMod (mFn fInt [mOp2 opAdd (mOp2 opAdd (mOp2 opMul (mV 0) (mC (.int 48271))) (mOp2 opMul (mV 1) (mC (.int 69621)))) (mC (.int 12345))]) (mC (.int 2147483647)))) (mSeq (mSet 3 (mOp2 opMod (mFn fInt [mOp2 opAdd (mOp2 opAdd (mOp2 opMul (mV 2) (mV 2)) (mOp2 opMul (mV 1) (mC (.int 40692)))) (mOp2 opDiv (mV 2) (mC (.int 7)))]) (mC (.int 2147483399)))) (mRt [] (mOp2 opMod (mFn fInt [mOp2 opAdd (mOp2 opAdd (mOp2 opMul (mV 3) (mC (.int 16807))) (mOp2 opDiv (mV 3) (mC (.int 1013)))) (mV 1)]) (mC (.int 998244353)))))
def b__law_draw : M Gr.Flow := mSeq (mPut 0 (mC (.int 3)) (mOp2 opAdd (mOp2 opIx (mV 0) (mC (.int 3))) (mC (.int 1)))) (mSeq (mSet 2 (mOp2 opIx (mV 0) (mC (.int 0)))) (mSeq (mIf (mTr (mOp2 opEq (mFn fLen [mV 2]) (mC (.int 0)))) (mRt [0] (mOp2 opMod (mFn fInt [mCall 21 false [(false, mC (.int 0)), (false, mOp2 opIx (mV 0) (mC (.int 3)))]]) (mV 1))) (mNx)) (mSeq (mIf (mAndT (mTr (mOp2 opEq (mOp2 opIx (mV 0) (mC (.int 4))) (mC (.int 0)))) (mAndT (mTr (mOp2 opEq (mOp2 opIx (mV 0) (mC (.int 2))) (mC (.int 0)))) (mTr (mOp2 (opCmp fun i j => decide (i < j)) (mOp2 opIx (mV 0) (mC (.int 1))) (mFn fLen [mV 2]))))) (mSeq (mSet 3 (mOp2 opIx (mV 2) (mOp2 opIx (mV 0) (mC (.int 1))))) (mSeq (mPut 0 (mC (.int 1)) (mOp2 opAdd (mOp2 opIx (mV 0) (mC (.int 1))) (mC (.int 1)))) (mSeq (mIf (mTr (mOp2 (opCmp fun i j => decide (i < j)) (mV 3) (mOp2 opPow (mC (.int 10)) (mC (.int 18))))) (mRt [0] (mOp2 opMod (mFn fInt [mCall 21 false [(false, mV 3), (false, mOp2 opIx (mV 0) (mC (.int 3)))]]) (mV 1))) (mNx)) (mSeq (mPut 0 (mC (.int 2)) (mV 3)) (mPut 0 (mC (.int 5)) (mC (.int 60))))))) (mNx)) (mSeq (mIf (mOrT (mTr (mOp2 opEq (mOp2 opIx (mV 0) (mC (.int 4))) (mC (.int 1)))) (mTr (mOp2 opEq (mOp2 opIx (mV 0) (mC (.int 2))) (mC (.int 0))))) (mRt [0] (mOp2 opMod (mFn fInt [mCall 21 false [(false, mOp2 opIx (mOp2 opIx (mV 0) (mC (.int 6))) (mOp2 opMod (mFn fInt [mOp2 opIx (mV 0) (mC (.int 3))]) (mFn fLen [mV 2]))), (false, mOp2 opIx (mV 0) (mC (.int 3)))]]) (mV 1))) (mNx)) (mSeq (mSet 4 (mOp2 opMod (mFn fInt [mOp2 opIx (mV 0) (mC (.int 2))]) (mV 1))) (mSeq (mPut 0 (mC (.int 5)) (mOp2 opSub (mOp2 opIx (mV 0) (mC (.int 5))) (mC (.int 1)))) (mSeq (mPut 0 (mC (.int 2)) (mOp2 opMul (mOp2 opDiv (mFn fInt [mOp2 opIx (mV 0) (mC (.int 2))]) (mV 1)) (mFn fInt [mOp2 (opCmp fun i j => decide (j < i)) (mOp2 opIx (mV 0) (mC (.int 5))) (mC (.int 0))]))) (mRt [0] (mV 4)))))))))
def b__law_start : M Gr.Flow := mSeq (mSet 1 (mLst [mFn fList [mV 0], mC (.int 0), mC (.int 0), mC (.int 0), mC (.int 0), mC (.int 0), mComp [2] (.nm 2) (iVal (mV 0)) mYes (mOp2 opMod (mFn fInt [mV 2]) (mC (.int 2147483647)))])) (mSeq (mIf (mOrT (mTr (mOp2 opEq (mFn fLen [mV 0]) (mC (.int 0)))) (mTr (mOp2 opEq (mOp2 opMod (mFn fInt [mOp2 opIx (mV 0) (mC (.int 0))]) (mC (.int 2))) (mC (.int 1))))) (mPut 1 (mC (.int 4)) (mC (.int 1))) (mNx)) (mSeq (mEx (mCall 22 false [(true, mV 1), (false, mC (.int 2))])) (mRt [] (mV 1))))
def b__law_same : M Gr.Flow := mSeq (mIf (mOrT (mTr (mOp1 (isiP [.tT]) (mV 1))) (mTr (mOp1 (isiP [.tL]) (mV 1)))) (mSeq (mIf (mOrT (mTr (mOp2 opNe (mOp1 (isiP [.tT]) (mV 1)) (mOp1 (isiP [.tT]) (mV 0)))) (mTr (mOp2 opNe (mOp1 (isiP [.tL]) (mV 1)) (mOp1 (isiP [.tL]) (mV 0))))) (mRt [] (mC (.bl false))) (mNx)) (mSeq (mIf (mTr (mOp2 opNe (mFn fLen [mV 0]) (mFn fLen [mV 1]))) (mRt [] (mC (.bl false))) (mNx)) (mSeq (mFor (.nm 2) (iR1 (mFn fLen [mV 1])) (mIf (mNotT (mTr (mCall 24 false [(false, mOp2 opIx (mV 0) (mV 2)), (false, mOp2 opIx (mV 1) (mV 2))]))) (mRt [] (mC (.bl false))) (mNx))) (mRt [] (mC (.bl true)))))) (mNx)) (mSeq (mIf (mTr (mOp2 opIsN (mV 1) (mC .non))) (mRt [] (mOp2 opIsN (mV 0) (mC .non))) (mNx)) (mSeq (mIf (mTr (mOp1 (isiP [.tB]) (mV 1))) (mRt [] (mAndV (mOp1 (isiP [.tB]) (mV 0)) (mOp2 opEq (mV 0) (mV 1)))) (mNx)) (mSeq (mIf (mTr (mOp1 (isiP [.tI]) (mV 1))) (mRt [] (mAndV (mOp1 (isiP [.tI]) (mV 0)) (mAndV (mNotV (mOp1 (isiP [.tB]) (mV 0))) (mOp2 opEq (mV 0) (mV 1))))) (mNx)) (mRt [] (mAndV (mOp1 (isiP [.tS]) (mV 0)) (mOp2 opEq (mV 0) (mV 1)))))))
def b__law_pool : M Gr.Flow := mSeq (mSet 1 (mC (.str [97, 98, 99, 100, 101, 102, 103, 104, 105, 106, 107, 108, 109, 110, 111, 112, 113, 114, 115, 116, 117, 118, 119, 120, 121, 122]))) (mSeq (mSet 2 (mMeth isStrP fJoin (mC (.str [])) [mComp [3] (.nm 3) (iR1 (mOp2 opAdd (mC (.int 1)) (mCall 22 false [(true, mV 0), (false, mC (.int 8))]))) mYes (mOp2 opIx (mV 1) (mCall 22 false [(true, mV 0), (false, mC (.int 26))]))])) (mSeq (mSet 4 (mLst [mV 2])) (mSeq (mFor (.nm 3) (iR1 (mOp2 opAdd (mC (.int 1)) (mCall 22 false [(true, mV 0), (false, mC (.int 4))]))) (mSeq (mSet 5 (mCall 22 false [(true, mV 0), (false, mFn fLen [mV 2])])) (mSeq (mSet 6 (mOp2 opIx (mV 1) (mCall 22 false [(true, mV 0), (false, mC (.int 26))]))) (mSeq (mSet 7 (mCall 22 false [(true, mV 0), (false, mC (.int 4))])) (mSeq (mSet 8 (mOp2 opAdd (mOp2 opAdd (mSl (mV 2) none (some (mV 5))) (mV 6)) (mSl (mV 2) (some (mOp2 opAdd (mV 5) (mC (.int 1)))) none))) (mSeq (mIf (mTr (mOp2 opEq (mV 7) (mC (.int 0)))) (mSet 8 (mOp2 opAdd (mSl (mV 2) none (some (mV 5))) (mSl (mV 2) (some (mOp2 opAdd (mV 5) (mC (.int 1)))) none))) (mNx)) (mSeq (mIf (mTr (mOp2 opEq (mV 7) (mC (.int 1)))) (mSet 8 (mSl (mOp2 opAdd (mOp2 opAdd (mSl (mV 2) none (some (mV 5))) (mV 6)) (mSl (mV 2) (some (mV 5)) none)) none (some (mC (.int 8))))) (mNx)) (mSeq (mIf (mTr (mOp2 opEq (mV 7) (mC (.int 2)))) (mSet 8 (mMeth isStrP fJoin (mC (.str [])) [mComp [9] (.nm 9) (iR1 (mOp2 opAdd (mC (.int 1)) (mCall 22 false [(true, mV 0), (false, mC (.int 8))]))) mYes (mOp2 opIx (mV 1) (mCall 22 false [(true, mV 0), (false, mC (.int 26))]))])) (mNx)) (mIf (mAndT (mTr (mOp2 opNe (mV 8) (mC (.str [])))) (mTr (mOp2 opNotIn (mV 8) (mV 4)))) (mEx (mApp 4 (mV 8))) (mNx)))))))))) (mRt [0] (mV 4)))))
def b__law_grown : M Gr.Flow := mSeq (mSet 4 (mOp2 opIx (mLst [mCall 22 false [(true, mV 0), (false, mOp2 opAdd (mV 2) (mC (.int 1)))], mCall 22 false [(true, mV 0), (false, mOp2 opAdd (mV 2) (mC (.int 1)))], mV 2, mCall 22 false [(true, mV 0), (false, mC (.int 3))]]) (mCall 22 false [(true, mV 0), (false, mC (.int 4))]))) (mSeq (mSet 5 (mCall 22 false [(true, mV 0), (false, mC (.int 5))])) (mSeq (mSet 6 (mLst [])) (mSeq (mSet 7 (mOp1 opNeg (mC (.int 1)))) (mSeq (mFor (.nm 8) (iR1 (mV 4)) (mSeq (mSet 9 (mCall 22 false [(true, mV 0), (false, mFn fMin [mFn fInt [mOp2 opAdd (mV 7) (mC (.int 2))], mFn fInt [mV 3]])])) (mSeq (mIf (mTr (mOp2 opEq (mV 5) (mC (.int 0)))) (mSet 9 (mFn fMin [mFn fInt [mOp2 opAdd (mV 7) (mC (.int 1))], mFn fInt [mOp2 opSub (mV 3) (mC (.int 1))]])) (mNx)) (mSeq (mIf (mTr (mOp2 opEq (mV 5) (mC (.int 1)))) (mSet 9 (mC (.int 0))) (mNx)) (mSeq (mSet 7 (mV 9)) (mEx (mApp 6 (mTup [mV 7, mOp2 opIx (mV 1) (mCall 22 false [(true, mV 0), (false, mFn fLen [mV 1])])])))))))) (mRt [0] (mV 6))))))
def b__law_planted : M Gr.Flow := mSeq (mSet 1 (mComp [2] (.nm 2) (iR1 (mC (.int 14))) mYes (mTup []))) (mSeq (mFor (.nm 2) (iRv1 (mFn fLen [mV 0])) (mSeq (mSet 3 (mOp2 opIx (mOp2 opIx (mV 0) (mV 2)) (mC (.int 0)))) (mSeq (mPut 1 (mV 3) (mOp2 opAdd (mTup [mTup [mV 2, mOp2 opIx (mOp2 opIx (mV 0) (mV 2)) (mC (.int 1)), mOp2 opIx (mV 1) (mOp2 opAdd (mV 3) (mC (.int 1)))]]) (mOp2 opIx (mV 1) (mV 3)))) (mPut 1 (mOp2 opAdd (mV 3) (mC (.int 1))) (mTup []))))) (mRt [] (mOp2 opIx (mV 1) (mC (.int 0)))))
def b__law_plain : M Gr.Flow := mRt [] (mFn fTuple [mComp [1] (.nm 1) (iVal (mV 0)) mYes (mTup [mOp2 opIx (mV 1) (mC (.int 1)), mCall 28 false [(false, mOp2 opIx (mV 1) (mC (.int 2)))]])])
def b__law_listed : M Gr.Flow := mSeq (mSet 2 (mLst [])) (mSeq (mFor (.nm 3) (iR1 (mFn fLen [mV 0])) (mSeq (mEx (mApp 2 (mTup [mOp2 opIx (mOp2 opIx (mV 0) (mV 3)) (mC (.int 0)), mOp2 opIx (mOp2 opIx (mV 0) (mV 3)) (mC (.int 1)), mOp2 opAdd (mV 1) (mTup [mV 3])]))) (mSet 2 (mOp2 opAdd (mV 2) (mCall 29 false [(false, mOp2 opIx (mOp2 opIx (mV 0) (mV 3)) (mC (.int 2))), (false, mOp2 opAdd (mV 1) (mTup [mV 3]))]))))) (mRt [] (mV 2)))
def b__law_stepped : M Gr.Flow := mSeq (mSet 3 (mOp2 opIx (mV 1) (mC (.int 0)))) (mSeq (mIf (mTr (mOp2 (opCmp fun i j => decide (j < i)) (mFn fLen [mV 1]) (mC (.int 1)))) (mSeq (mIf (mTr (mOp2 (opCmp fun i j => decide (j ≤ i)) (mV 3) (mFn fLen [mV 0]))) (mRt [] (mC .non)) (mNx)) (mSeq (mSet 4 (mCall 30 false [(false, mOp2 opIx (mOp2 opIx (mV 0) (mV 3)) (mC (.int 2))), (false, mSl (mV 1) (some (mC (.int 1))) none), (false, mV 2)])) (mSeq (mIf (mTr (mOp2 opIsN (mV 4) (mC .non))) (mRt [] (mC .non)) (mNx)) (mRt [] (mOp2 opAdd (mOp2 opAdd (mSl (mV 0) none (some (mV 3))) (mTup [mTup [mOp2 opIx (mOp2 opIx (mV 0) (mV 3)) (mC (.int 0)), mOp2 opIx (mOp2 opIx (mV 0) (mV 3)) (mC (.int 1)), mV 4]])) (mSl (mV 0) (some (mOp2 opAdd (mV 3) (mC (.int 1)))) none)))))) (mNx)) (mSeq (mIf (mTr (mOp2 opEq (mOp2 opIx (mV 2) (mC (.int 0))) (mC (.str [97, 100, 100])))) (mSeq (mIf (mTr (mOp2 (opCmp fun i j => decide (j < i)) (mOp2 opAdd (mV 3) (mOp2 opIx (mV 2) (mC (.int 2)))) (mFn fLen [mV 0]))) (mRt [] (mC .non)) (mNx)) (mRt [] (mOp2 opAdd (mOp2 opAdd (mSl (mV 0) none (some (mV 3))) (mTup [mTup [mOp1 opNeg (mC (.int 1)), mOp2 opIx (mV 2) (mC (.int 3)), mSl (mV 0) (some (mV 3)) (some (mOp2 opAdd (mV 3) (mOp2 opIx (mV 2) (mC (.int 2)))))]])) (mSl (mV 0) (some (mOp2 opAdd (mV 3) (mOp2 opIx (mV 2) (mC (.int 2))))) none)))) (mNx)) (mSeq (mIf (mTr (mOp2 (opCmp fun i j => decide (j ≤ i)) (mV 3) (mFn fLen [mV 0]))) (mRt [] (mC .non)) (mNx)) (mSeq (mIf (mTr (mOp2 opEq (mOp2 opIx (mV 2) (mC (.int 0))) (mC (.str [99, 104, 97, 110, 103, 101])))) (mRt [] (mOp2 opAdd (mOp2 opAdd (mSl (mV 0) none (some (mV 3))) (mTup [mTup [mOp2 opIx (mOp2 opIx (mV 0) (mV 3)) (mC (.int 0)), mOp2 opIx (mV 2) (mC (.int 2)), mOp2 opIx (mOp2 opIx (mV 0) (mV 3)) (mC (.int 2))]])) (mSl (mV 0) (some (mOp2 opAdd (mV 3) (mC (.int 1)))) none))) (mNx)) (mRt [] (mOp2 opAdd (mOp2 opAdd (mSl (mV 0) none (some (mV 3))) (mOp2 opIx (mOp2 opIx (mV 0) (mV 3)) (mC (.int 2)))) (mSl (mV 0) (some (mOp2 opAdd (mV 3) (mC (.int 1)))) none)))))))
def b__law_change : M Gr.Flow := mSeq (mIf (mTr (mOp2 opEq (mV 1) (mV 2))) (mRt [] (mC (.int 0))) (mNx)) (mSeq (mFor (.nm 3) (iVal (mOp2 opIx (mV 0) (mC (.int 3)))) (mIf (mAndT (mTr (mOp2 opEq (mOp2 opIx (mV 3) (mC (.int 0))) (mV 1))) (mTr (mOp2 opEq (mOp2 opIx (mV 3) (mC (.int 1))) (mV 2)))) (mRt [] (mOp2 opIx (mV 3) (mC (.int 2)))) (mNx))) (mRt [] (mOp2 opIx (mV 0) (mC (.int 2)))))
def b__law_prices : M Gr.Flow := mSeq (mSet 2 (mCall 22 false [(true, mV 0), (false, mC (.int 400))])) (mSeq (mIf (mTr (mOp2 opEq (mCall 22 false [(true, mV 0), (false, mC (.int 3))]) (mC (.int 0)))) (mSet 2 (mCall 22 false [(true, mV 0), (false, mC (.int 4))])) (mNx)) (mSeq (mSet 3 (mCall 22 false [(true, mV 0), (false, mC (.int 1000))])) (mSeq (mSet 4 (mFn fMax [mC (.int 0), mFn fInt [mOp2 opSub (mOp2 opMul (mC (.int 2)) (mV 2)) (mV 3)]])) (mSeq (mSet 4 (mOp2 opAdd (mV 4) (mCall 22 false [(true, mV 0), (false, mOp2 opSub (mC (.int 1000)) (mV 4))]))) (mSeq (mSet 5 (mOp2 opAdd (mV 2) (mCall 22 false [(true, mV 0), (false, mOp2 opAdd (mV 2) (mC (.int 1)))]))) (mSeq (mSet 6 (mOp2 opEq (mCall 22 false [(true, mV 0), (false, mC (.int 2))]) (mC (.int 0)))) (mSeq (mIf (mNotT (mTr (mV 6))) (mSeq (mSet 7 (mLst [mC (.int 0), mC (.int 1), mCall 22 false [(true, mV 0), (false, mC (.int 10))], mC (.int 999), mCall 22 false [(true, mV 0), (false, mC (.int 1000))]])) (mSeq (mSet 3 (mOp2 opIx (mV 7) (mCall 22 false [(true, mV 0), (false, mC (.int 5))]))) (mSeq (mSet 4 (mOp2 opIx (mV 7) (mCall 22 false [(true, mV 0), (false, mC (.int 5))]))) (mSet 5 (mOp2 opIx (mV 7) (mCall 22 false [(true, mV 0), (false, mC (.int 5))])))))) (mNx)) (mSeq (mSet 8 (mLst [])) (mSeq (mFor (.nm 9) (iR1 (mCall 22 false [(true, mV 0), (false, mC (.int 7))])) (mSeq (mSet 10 (mOp2 opIx (mV 1) (mCall 22 false [(true, mV 0), (false, mFn fLen [mV 1])]))) (mSeq (mSet 11 (mOp2 opIx (mV 1) (mCall 22 false [(true, mV 0), (false, mFn fLen [mV 1])]))) (mSeq (mSet 12 (mOp2 opAdd (mV 2) (mCall 22 false [(true, mV 0), (false, mOp2 opAdd (mV 2) (mC (.int 1)))]))) (mSeq (mIf (mNotT (mTr (mV 6))) (mSet 12 (mCall 22 false [(true, mV 0), (false, mC (.int 1000))])) (mNx)) (mIf (mAndT (mTr (mOp2 opNe (mV 10) (mV 11))) (mTr (mOp2 opNotIn (mTup [mV 10, mV 11]) (mComp [7] (.nm 7) (iVal (mV 8)) mYes (mSl (mV 7) none (some (mC (.int 2)))))))) (mEx (mApp 8 (mTup [mV 10, mV 11, mV 12]))) (mNx))))))) (mRt [0] (mTup [mV 3, mV 4, mV 5, mFn fTuple [mV 8]])))))))))))
def b__law_chained : M Gr.Flow := mSeq (mFor (.nm 2) (iVal (mV 1)) (mFor (.nm 3) (iVal (mV 1)) (mSeq (mSet 4 (mCall 31 false [(false, mV 0), (false, mV 2), (false, mV 3)])) (mSeq (mIf (mTr (mOp2 (opCmp fun i j => decide (j < i)) (mV 4) (mOp2 opAdd (mOp2 opIx (mV 0) (mC (.int 0))) (mOp2 opIx (mV 0) (mC (.int 1)))))) (mRt [] (mC (.bl false))) (mNx)) (mFor (.nm 5) (iVal (mV 1)) (mIf (mTr (mOp2 (opCmp fun i j => decide (j < i)) (mV 4) (mOp2 opAdd (mCall 31 false [(false, mV 0), (false, mV 2), (false, mV 5)]) (mCall 31 false [(false, mV 0), (false, mV 5), (false, mV 3)])))) (mRt [] (mC (.bl false))) (mNx))))))) (mRt [] (mC (.bl true)))
def b__law_within : M Gr.Flow := mSeq (mSet 3 (mCall 29 false [(false, mV 0), (false, mTup [])])) (mRt [] (mAndV (mOp2 (opCmp fun i j => decide (i ≤ j)) (mFn fLen [mV 3]) (mV 1)) (mOp2 opEq (mFn fLen [mComp [4] (.nm 4) (iVal (mV 3)) (mTr (mOp2 (opCmp fun i j => decide (j < i)) (mFn fLen [mOp2 opIx (mV 4) (mC (.int 2))]) (mV 2))) (mV 4)]) (mC (.int 0)))))
def b__law_step : M Gr.Flow := mSeq (mSet 5 (mCall 29 false [(false, mV 2), (false, mTup [])])) (mSeq (mSet 6 (mOp2 opIx (mV 1) (mCall 22 false [(true, mV 0), (false, mFn fLen [mV 1])]))) (mSeq (mSet 7 (mCall 22 false [(true, mV 0), (false, mC (.int 5))])) (mSeq (mIf (mOrT (mTr (mOp2 (opCmp fun i j => decide (j < i)) (mV 7) (mC (.int 1)))) (mTr (mOp2 opEq (mFn fLen [mV 5]) (mC (.int 0))))) (mSeq (mSet 8 (mCall 22 false [(true, mV 0), (false, mOp2 opAdd (mFn fLen [mV 5]) (mC (.int 1)))])) (mSeq (mSet 9 (mOp2 opIx (mOp2 opAdd (mLst [mTup []]) (mComp [10] (.nm 10) (iVal (mV 5)) mYes (mOp2 opIx (mV 10) (mC (.int 2))))) (mV 8))) (mSeq (mSet 11 (mFn fLen [mComp [10] (.nm 10) (iVal (mV 5)) (mAndT (mTr (mOp2 opEq (mFn fLen [mOp2 opIx (mV 10) (mC (.int 2))]) (mOp2 opAdd (mFn fLen [mV 9]) (mC (.int 1))))) (mTr (mOp2 opEq (mSl (mOp2 opIx (mV 10) (mC (.int 2))) none (some (mFn fLen [mV 9]))) (mV 9)))) (mV 10)])) (mSeq (mSet 12 (mCall 22 false [(true, mV 0), (false, mOp2 opAdd (mV 11) (mC (.int 1)))])) (mSeq (mSet 13 (mTup [mC (.str [97, 100, 100]), mOp2 opAdd (mV 9) (mTup [mCall 22 false [(true, mV 0), (false, mOp2 opAdd (mOp2 opSub (mV 11) (mV 12)) (mC (.int 1)))]]), mV 12, mV 6])) (mIf (mTr (mCall 34 false [(false, mCall 30 false [(false, mV 2), (false, mOp2 opIx (mV 13) (mC (.int 1))), (false, mV 13)]), (false, mV 3), (false, mV 4)])) (mRt [0] (mV 13)) (mNx))))))) (mNx)) (mSeq (mSet 9 (mOp2 opIx (mOp2 opIx (mV 5) (mCall 22 false [(true, mV 0), (false, mFn fLen [mV 5])])) (mC (.int 2)))) (mSeq (mIf (mTr (mOp2 opEq (mV 7) (mC (.int 0)))) (mRt [0] (mTup [mC (.str [99, 104, 97, 110, 103, 101]), mV 9, mV 6])) (mNx)) (mRt [0] (mTup [mC (.str [100, 114, 111, 112]), mV 9])))))))
def b__law_run : M Gr.Flow := mSeq (mSet 3 (mLst [mV 0])) (mSeq (mSet 4 (mC (.int 0))) (mSeq (mFor (.nm 5) (iVal (mV 1)) (mSeq (mIf (mTr (mOp2 opEq (mOp2 opIx (mV 5) (mC (.int 0))) (mC (.str [100, 114, 111, 112])))) (mSet 4 (mOp2 opAdd (mV 4) (mOp2 opIx (mV 2) (mC (.int 0))))) (mIf (mTr (mOp2 opEq (mOp2 opIx (mV 5) (mC (.int 0))) (mC (.str [97, 100, 100])))) (mSet 4 (mOp2 opAdd (mV 4) (mOp2 opIx (mV 2) (mC (.int 1))))) (mFor (.nm 6) (iVal (mCall 29 false [(false, mV 0), (false, mTup [])])) (mIf (mTr (mOp2 opEq (mOp2 opIx (mV 6) (mC (.int 2))) (mOp2 opIx (mV 5) (mC (.int 1))))) (mSet 4 (mOp2 opAdd (mV 4) (mCall 31 false [(false, mV 2), (false, mOp2 opIx (mV 6) (mC (.int 1))), (false, mOp2 opIx (mV 5) (mC (.int 2)))]))) (mNx))))) (mSeq (mSet 0 (mCall 30 false [(false, mV 0), (false, mOp2 opIx (mV 5) (mC (.int 1))), (false, mV 5)])) (mEx (mApp 3 (mV 0)))))) (mRt [] (mTup [mV 3, mV 4]))))
def b__law_no_path : M Gr.Flow := mRt [0] (mOp2 opIx (mLst [mTup [], mTup [mOp1 opNeg (mC (.int 1))], mTup [mC (.bl true)], mLst [mC (.int 0)], mC (.str [48]), mC .non, mC (.int 0), mTup [mC (.int 0), mOp1 opNeg (mC (.int 1))], mTup [mC (.str [48])], mTup [mTup [mC (.int 0)]], mTup [mC (.int 0), mC (.bl false)]]) (mCall 22 false [(true, mV 0), (false, mC (.int 11))]))
def b__law_no_word : M Gr.Flow := mRt [0] (mOp2 opIx (mLst [mC (.str []), mC (.str [65]), mC (.str [97, 66]), mC (.str [97, 49]), mC (.str [97, 98, 99, 100, 101, 102, 103, 104, 105]), mC (.str [97, 32, 98]), mC (.int 5), mC .non, mC (.bl true), mTup [mC (.str [97])], mC (.str [97, 44])]) (mCall 22 false [(true, mV 0), (false, mC (.int 11))]))
def b__law_no_step : M Gr.Flow := mSeq (mSet 2 (mCall 22 false [(true, mV 0), (false, mC (.int 10))])) (mSeq (mIf (mTr (mOp2 (opCmp fun i j => decide (i < j)) (mV 2) (mC (.int 3)))) (mSeq (mSet 3 (mCall 37 false [(true, mV 0)])) (mRt [0] (mOp2 opIx (mLst [mTup [mC (.str [99, 104, 97, 110, 103, 101]), mV 3, mV 1], mTup [mC (.str [100, 114, 111, 112]), mV 3], mTup [mC (.str [97, 100, 100]), mV 3, mC (.int 0), mV 1]]) (mV 2)))) (mNx)) (mSeq (mIf (mTr (mOp2 (opCmp fun i j => decide (i < j)) (mV 2) (mC (.int 5)))) (mSeq (mSet 4 (mCall 38 false [(true, mV 0)])) (mRt [0] (mOp2 opIx (mLst [mTup [mC (.str [99, 104, 97, 110, 103, 101]), mTup [mC (.int 0)], mV 4], mTup [mC (.str [97, 100, 100]), mTup [mC (.int 0)], mC (.int 0), mV 4]]) (mOp2 opSub (mV 2) (mC (.int 3)))))) (mNx)) (mSeq (mIf (mTr (mOp2 opEq (mV 2) (mC (.int 5)))) (mRt [0] (mTup [mC (.str [97, 100, 100]), mTup [mC (.int 0)], mOp2 opIx (mLst [mOp1 opNeg (mC (.int 1)), mC (.bl true), mC (.bl false), mC (.str [49]), mC .non, mTup [mC (.int 1)]]) (mCall 22 false [(true, mV 0), (false, mC (.int 6))]), mV 1])) (mNx)) (mSeq (mIf (mTr (mOp2 opEq (mV 2) (mC (.int 6)))) (mRt [0] (mOp2 opIx (mLst [mTup [], mTup [mC (.str [100, 114, 111, 112])], mTup [mC (.str [99, 104, 97, 110, 103, 101]), mTup [mC (.int 0)]], mTup [mC (.str [97, 100, 100]), mTup [mC (.int 0)], mC (.int 0)], mTup [mC (.int 0)], mTup [mTup [mC (.int 0)], mC (.str [100, 114, 111, 112])]]) (mCall 22 false [(true, mV 0), (false, mC (.int 6))]))) (mNx)) (mSeq (mIf (mTr (mOp2 opEq (mV 2) (mC (.int 7)))) (mRt [0] (mOp2 opIx (mLst [mTup [mC (.str [100, 114, 111, 112]), mTup [mC (.int 0)], mV 1], mTup [mC (.str [99, 104, 97, 110, 103, 101]), mTup [mC (.int 0)], mV 1, mV 1], mTup [mC (.str [97, 100, 100]), mTup [mC (.int 0)], mC (.int 0), mV 1, mC (.int 0)]]) (mCall 22 false [(true, mV 0), (false, mC (.int 3))]))) (mNx)) (mSeq (mIf (mTr (mOp2 opEq (mV 2) (mC (.int 8)))) (mRt [0] (mTup [mOp2 opIx (mLst [mC (.str [109, 111, 118, 101]), mC (.str [68, 114, 111, 112]), mC (.str []), mOp2 opAdd (mV 1) (mC (.str [120])), mC .non, mC (.int 0)]) (mCall 22 false [(true, mV 0), (false, mC (.int 6))]), mTup [mC (.int 0)], mV 1])) (mNx)) (mRt [0] (mTup [mOp2 opIx (mLst [mC (.str [109, 111, 118, 101]), mC (.str [99, 104, 97, 110, 103, 101, 115]), mC (.str [97, 100, 100, 32])]) (mCall 22 false [(true, mV 0), (false, mC (.int 3))]), mTup [mC (.int 0)], mC (.int 0), mV 1]))))))))
def b__law_misfit : M Gr.Flow := mSeq (mSet 3 (mCall 29 false [(false, mV 2), (false, mTup [])])) (mSeq (mSet 4 (mOp2 opIx (mOp2 opAdd (mLst [mTup []]) (mComp [5] (.nm 5) (iVal (mV 3)) mYes (mOp2 opIx (mV 5) (mC (.int 2))))) (mCall 22 false [(true, mV 0), (false, mOp2 opAdd (mFn fLen [mV 3]) (mC (.int 1)))]))) (mSeq (mSet 6 (mFn fLen [mComp [5] (.nm 5) (iVal (mV 3)) (mAndT (mTr (mOp2 opEq (mFn fLen [mOp2 opIx (mV 5) (mC (.int 2))]) (mOp2 opAdd (mFn fLen [mV 4]) (mC (.int 1))))) (mTr (mOp2 opEq (mSl (mOp2 opIx (mV 5) (mC (.int 2))) none (some (mFn fLen [mV 4]))) (mV 4)))) (mV 5)])) (mSeq (mSet 7 (mOp2 opIx (mV 1) (mCall 22 false [(true, mV 0), (false, mFn fLen [mV 1])]))) (mSeq (mSet 8 (mOp2 opAdd (mV 6) (mOp2 opIx (mLst [mC (.int 0), mC (.int 0), mC (.int 1), mCall 22 false [(true, mV 0), (false, mC (.int 9))], mOp2 opSub (mOp2 opPow (mC (.int 10)) (mC (.int 9))) (mC (.int 20))]) (mCall 22 false [(true, mV 0), (false, mC (.int 5))])))) (mSeq (mSet 9 (mCall 22 false [(true, mV 0), (false, mC (.int 4))])) (mSeq (mIf (mTr (mOp2 opEq (mV 9) (mC (.int 0)))) (mRt [0] (mTup [mC (.str [99, 104, 97, 110, 103, 101]), mOp2 opAdd (mV 4) (mTup [mV 8]), mV 7])) (mNx)) (mSeq (mIf (mTr (mOp2 opEq (mV 9) (mC (.int 1)))) (mRt [0] (mTup [mC (.str [100, 114, 111, 112]), mOp2 opAdd (mOp2 opAdd (mV 4) (mTup [mV 8])) (mOp2 opIx (mLst [mTup [], mTup [mC (.int 0)], mTup [mC (.int 0), mC (.int 1)]]) (mCall 22 false [(true, mV 0), (false, mC (.int 3))]))])) (mNx)) (mSeq (mIf (mTr (mOp2 opEq (mV 9) (mC (.int 2)))) (mRt [0] (mTup [mC (.str [97, 100, 100]), mOp2 opAdd (mV 4) (mTup [mV 8, mCall 22 false [(true, mV 0), (false, mC (.int 2))]]), mCall 22 false [(true, mV 0), (false, mC (.int 2))], mV 7])) (mNx)) (mSeq (mSet 10 (mOp2 opIx (mLst [mC (.int 0), mC (.int 1), mV 6, mOp2 opAdd (mV 6) (mC (.int 1)), mOp2 opSub (mOp2 opPow (mC (.int 10)) (mC (.int 9))) (mC (.int 1))]) (mCall 22 false [(true, mV 0), (false, mC (.int 5))]))) (mRt [0] (mTup [mC (.str [97, 100, 100]), mOp2 opAdd (mV 4) (mTup [mOp2 opAdd (mFn fMax [mC (.int 0), mFn fInt [mOp2 opAdd (mOp2 opSub (mV 6) (mV 10)) (mC (.int 1))]]) (mCall 22 false [(true, mV 0), (false, mC (.int 2))])]), mV 10, mV 7])))))))))))
def b__law_asked : M Gr.Flow := mTry (mSeq (mIf (mTr (mOp2 opEq (mV 0) (mC (.int 0)))) (mRt [] (mCall 17 false [(false, mV 1), (false, mV 2)])) (mNx)) (mSeq (mIf (mTr (mOp2 opEq (mV 0) (mC (.int 1)))) (mRt [] (mCall 18 false [(false, mV 1), (false, mV 2)])) (mNx)) (mSeq (mIf (mTr (mOp2 opEq (mV 0) (mC (.int 2)))) (mRt [] (mCall 20 false [(false, mV 1), (false, mV 2), (false, mV 3)])) (mNx)) (mSeq (mIf (mTr (mOp2 opEq (mV 0) (mC (.int 3)))) (mRt [] (mCallK 17 false [0, 1] [(false, mV 1), (false, mV 2)])) (mNx)) (mSeq (mIf (mTr (mOp2 opEq (mV 0) (mC (.int 4)))) (mRt [] (mCallK 18 false [0, 1] [(false, mV 1), (false, mV 2)])) (mNx)) (mRt [] (mCallK 20 false [0, 1, 2] [(false, mV 1), (false, mV 2), (false, mV 3)]))))))) [⟨takes 1, (some 4), mRt [] (mLst [mC (.str [102, 111, 114, 101, 115, 116]), mAtC (okC 0) 4 0, mAndV (mIsX (isC 0) 4) (mIsX isVEc 4)])⟩, ⟨takes 2, (some 4), mRt [] (mLst [mC (.str [112, 114, 105, 99, 101, 115]), mAtC (okC 0) 4 0, mAndV (mIsX (isC 0) 4) (mIsX isVEc 4)])⟩, ⟨takes 3, (some 4), mRt [] (mLst [mC (.str [115, 99, 114, 105, 112, 116]), mAtC (okC 0) 4 0, mAndV (mIsX (isC 0) 4) (mIsX isVEc 4)])⟩, ⟨takes 4, (some 4), mRt [] (mLst [mC (.str [112, 97, 116, 104]), mAtC (okC 1) 4 1, mAndV (mIsX (isC 0) 4) (mIsX isVEc 4)])⟩]
def b__law_bad : M Gr.Flow := mSeq (mIf (mTr (mOp2 opEq (mCall 22 false [(true, mV 0), (false, mC (.int 2))]) (mC (.int 0)))) (mSeq (mSet 3 (mCall 40 false [(true, mV 0), (false, mV 1), (false, mV 2)])) (mRt [0] (mTup [mV 3, mLst [mC (.str [112, 97, 116, 104]), mOp2 opIx (mV 3) (mC (.int 1)), mC (.bl true)]]))) (mNx)) (mSeq (mSet 3 (mCall 39 false [(true, mV 0), (false, mOp2 opIx (mV 1) (mC (.int 0)))])) (mRt [0] (mTup [mV 3, mLst [mC (.str [115, 99, 114, 105, 112, 116]), mV 3, mC (.bl true)]])))
def b__law_no_forest : M Gr.Flow := mSeq (mSet 2 (mCall 38 false [(true, mV 0)])) (mSeq (mSet 3 (mLst [mTup [mTup [mV 1]], mLst [mTup [mV 1, mTup []]], mTup [mV 1, mTup []], mC .non, mC (.int 5), mV 1, mC (.bl true), mTup [mTup [mV 1, mLst []]], mTup [mTup [mV 1, mTup [], mTup []]], mTup [mTup [mV 2, mTup []]]])) (mRt [0] (mOp2 opIx (mOp2 opAdd (mV 3) (mLst [mTup [mTup [mV 1, mTup [mTup [mV 2, mTup []]]]], mTup [mTup [mV 1, mTup []], mC .non], mLst [], mTup [mTup [mV 1, mC .non]]])) (mCall 22 false [(true, mV 0), (false, mC (.int 14))]))))
def b__law_no_prices : M Gr.Flow := mSeq (mSet 2 (mLst [mFn fList [mV 1], mSl (mV 1) none (some (mC (.int 3))), mOp2 opAdd (mV 1) (mTup [mC (.int 0)]), mC .non, mC (.int 7), mOp2 opAdd (mTup [mOp1 opNeg (mC (.int 1))]) (mSl (mV 1) (some (mC (.int 1))) none), mOp2 opAdd (mTup [mC (.bl true)]) (mSl (mV 1) (some (mC (.int 1))) none)])) (mSeq (mSet 2 (mOp2 opAdd (mV 2) (mLst [mOp2 opAdd (mSl (mV 1) none (some (mC (.int 3)))) (mTup [mFn fList [mOp2 opIx (mV 1) (mC (.int 3))]]), mOp2 opAdd (mOp2 opAdd (mSl (mV 1) none (some (mC (.int 2)))) (mTup [mC (.str [49])])) (mSl (mV 1) (some (mC (.int 3))) none), mOp2 opAdd (mSl (mV 1) none (some (mC (.int 3)))) (mTup [mTup [mTup [mC (.str [97]), mC (.str [97]), mC (.int 1)]]])]))) (mSeq (mSet 2 (mOp2 opAdd (mV 2) (mLst [mOp2 opAdd (mSl (mV 1) none (some (mC (.int 3)))) (mTup [mTup [mTup [mC (.str [97]), mC (.str [98]), mC (.int 1)], mTup [mC (.str [97]), mC (.str [98]), mC (.int 2)]]]), mOp2 opAdd (mSl (mV 1) none (some (mC (.int 3)))) (mTup [mTup [mTup [mC (.str [97]), mC (.str [98]), mOp1 opNeg (mC (.int 1))]]])]))) (mRt [0] (mOp2 opIx (mOp2 opAdd (mV 2) (mLst [mOp2 opAdd (mSl (mV 1) none (some (mC (.int 3)))) (mTup [mTup [mTup [mC (.str [97]), mC (.str [66]), mC (.int 1)]]]), mOp2 opAdd (mSl (mV 1) none (some (mC (.int 3)))) (mTup [mTup [mTup [mC (.str [97]), mC (.str [98])]]])])) (mCall 22 false [(true, mV 0), (false, mC (.int 14))])))))
def b_law : M Gr.Flow := mSeq (mSet 1 (mCall 23 false [(false, mV 0)])) (mSeq (mSet 2 (mCall 25 false [(true, mV 1)])) (mSeq (mSet 3 (mCall 32 false [(true, mV 1), (false, mV 2)])) (mSeq (mSet 4 (mCall 27 false [(false, mCall 26 false [(true, mV 1), (false, mV 2), (false, mC (.int 12)), (false, mC (.int 8))])])) (mSeq (mSet 5 (mLst [])) (mSeq (mSet 6 (mV 4)) (mSeq (mFor (.nm 7) (iR1 (mCall 22 false [(true, mV 1), (false, mC (.int 9))])) (mSeq (mEx (mApp 5 (mCall 35 false [(true, mV 1), (false, mV 2), (false, mV 6), (false, mC (.int 12)), (false, mC (.int 8))]))) (mSet 6 (mCall 30 false [(false, mV 6), (false, mOp2 opIx (mOp2 opIx (mV 5) (mV 7)) (mC (.int 1))), (false, mOp2 opIx (mV 5) (mV 7))])))) (mSeq (mSet 8 (mCall 36 false [(false, mV 4), (false, mV 5), (false, mV 3)])) (mSeq (mSet 9 (mCall 28 false [(false, mV 4)])) (mSeq (mSet 10 (mOp2 opMul (mC (.int 3)) (mCall 22 false [(true, mV 1), (false, mC (.int 2))]))) (mSeq (mFor (.nm 7) (iR1 (mFn fLen [mV 5])) (mIf (mNotT (mTr (mCall 24 false [(false, mCall 41 false [(false, mV 10), (false, mCall 28 false [(false, mOp2 opIx (mOp2 opIx (mV 8) (mC (.int 0))) (mV 7))]), (false, mOp2 opIx (mV 5) (mV 7)), (false, mV 3)]), (false, mCall 28 false [(false, mOp2 opIx (mOp2 opIx (mV 8) (mC (.int 0))) (mOp2 opAdd (mV 7) (mC (.int 1))))])]))) (mRt [] (mC (.bl false))) (mNx))) (mSeq (mIf (mNotT (mTr (mCall 24 false [(false, mCall 41 false [(false, mC (.int 1)), (false, mV 9), (false, mFn fTuple [mV 5]), (false, mV 3)]), (false, mCall 28 false [(false, mV 6)])]))) (mRt [] (mC (.bl false))) (mNx)) (mSeq (mSet 11 (mLst [mCall 28 false [(false, mV 6)], mOp2 opIx (mV 8) (mC (.int 1))])) (mSeq (mIf (mTr (mOp2 opEq (mCall 22 false [(true, mV 1), (false, mC (.int 2))]) (mC (.int 0)))) (mSeq (mSet 12 (mCall 22 false [(true, mV 1), (false, mOp2 opAdd (mFn fLen [mV 5]) (mC (.int 1)))])) (mSeq (mSet 13 (mCall 42 false [(true, mV 1), (false, mV 2), (false, mOp2 opIx (mOp2 opIx (mV 8) (mC (.int 0))) (mV 12))])) (mSeq (mSet 11 (mLst [mOp2 opIx (mV 13) (mC (.int 1)), mOp2 opIx (mV 13) (mC (.int 1))])) (mSeq (mIf (mNotT (mTr (mCall 24 false [(false, mCall 41 false [(false, mC (.int 0)), (false, mCall 28 false [(false, mOp2 opIx (mOp2 opIx (mV 8) (mC (.int 0))) (mV 12))]), (false, mOp2 opIx (mV 13) (mC (.int 0))), (false, mV 3)]), (false, mOp2 opIx (mV 13) (mC (.int 1)))]))) (mRt [] (mC (.bl false))) (mNx)) (mSeq (mSet 5 (mOp2 opAdd (mOp2 opAdd (mSl (mV 5) none (some (mV 12))) (mLst [mOp2 opIx (mV 13) (mC (.int 0))])) (mSl (mV 5) (some (mV 12)) none))) (mIf (mTr (mOp2 opEq (mCall 22 false [(true, mV 1), (false, mC (.int 2))]) (mC (.int 0)))) (mEx (mIns 5 (mOp2 opAdd (mOp2 opAdd (mV 12) (mC (.int 1))) (mCall 22 false [(true, mV 1), (false, mOp2 opSub (mFn fLen [mV 5]) (mV 12))])) (mOp2 opIx (mCall 42 false [(true, mV 1), (false, mV 2), (false, mV 4)]) (mC (.int 0))))) (mNx))))))) (mNx)) (mSeq (mSet 14 (mCall 22 false [(true, mV 1), (false, mC (.int 12))])) (mSeq (mIf (mTr (mOp2 opEq (mV 14) (mC (.int 0)))) (mSeq (mSet 9 (mCall 43 false [(true, mV 1), (false, mOp2 opIx (mV 2) (mC (.int 0)))])) (mSet 11 (mLst [mLst [mC (.str [102, 111, 114, 101, 115, 116]), mV 9, mC (.bl true)], mLst [mC (.str [102, 111, 114, 101, 115, 116]), mV 9, mC (.bl true)]]))) (mNx)) (mSeq (mIf (mTr (mOp2 opEq (mV 14) (mC (.int 1)))) (mSeq (mSet 3 (mCall 44 false [(true, mV 1), (false, mV 3)])) (mPut 11 (mC (.int 1)) (mLst [mC (.str [112, 114, 105, 99, 101, 115]), mV 3, mC (.bl true)]))) (mNx)) (mSeq (mSet 15 (mFn fList [mV 5])) (mSeq (mIf (mOrT (mNotT (mTr (mCall 24 false [(false, mCall 41 false [(false, mOp2 opAdd (mV 10) (mC (.int 1))), (false, mV 9), (false, mV 15), (false, mV 3)]), (false, mOp2 opIx (mV 11) (mC (.int 0)))]))) (mNotT (mTr (mCall 24 false [(false, mV 15), (false, mV 5)])))) (mRt [] (mC (.bl false))) (mNx)) (mRt [] (mAndV (mCall 24 false [(false, mCall 41 false [(false, mOp2 opAdd (mV 10) (mC (.int 2))), (false, mV 9), (false, mV 15), (false, mV 3)]), (false, mOp2 opIx (mV 11) (mC (.int 1)))]) (mCall 24 false [(false, mV 15), (false, mV 5)])))))))))))))))))))))
def T : List Df := [⟨[false], 1, false, b_is_int⟩,
  ⟨[false], 1, false, b_is_count⟩,
  ⟨[false, false], 2, false, b_has_size⟩,
  ⟨[false], 2, false, b_is_word⟩,
  ⟨[false], 3, false, b__are_triples⟩,
  ⟨[false], 2, false, b_is_prices⟩,
  ⟨[false], 1, false, b_need_prices⟩,
  ⟨[false, false, false], 6, false, b_price_between⟩,
  ⟨[false], 2, false, b_is_forest_value⟩,
  ⟨[false], 1, false, b_need_forest⟩,
  ⟨[false], 2, false, b__is_path⟩,
  ⟨[false], 1, false, b_is_step⟩,
  ⟨[false, false], 4, false, b_row_at⟩,
  ⟨[false, false, false], 4, false, b__with_row⟩,
  ⟨[false, false], 4, false, b__row_behind⟩,
  ⟨[false, false], 5, false, b_moved_by⟩,
  ⟨[false, false], 2, false, b__checked_move⟩,
  ⟨[false, false], 2, false, b_step_on⟩,
  ⟨[false, false], 3, false, b_run_steps⟩,
  ⟨[false, false], 2, false, b__tree_there⟩,
  ⟨[false, false, false], 6, false, b_steps_price⟩,
  ⟨[false, false], 4, false, b__law_mixed⟩,
  ⟨[true, false], 5, false, b__law_draw⟩,
  ⟨[false], 3, false, b__law_start⟩,
  ⟨[false, false], 3, false, b__law_same⟩,
  ⟨[true], 10, false, b__law_pool⟩,
  ⟨[true, false, false, false], 10, false, b__law_grown⟩,
  ⟨[false], 4, false, b__law_planted⟩,
  ⟨[false], 2, false, b__law_plain⟩,
  ⟨[false, false], 4, false, b__law_listed⟩,
  ⟨[false, false, false], 5, false, b__law_stepped⟩,
  ⟨[false, false, false], 4, false, b__law_change⟩,
  ⟨[true, false], 13, false, b__law_prices⟩,
  ⟨[false, false], 6, false, b__law_chained⟩,
  ⟨[false, false, false], 5, false, b__law_within⟩,
  ⟨[true, false, false, false, false], 14, false, b__law_step⟩,
  ⟨[false, false, false], 7, false, b__law_run⟩,
  ⟨[true], 1, false, b__law_no_path⟩,
  ⟨[true], 1, false, b__law_no_word⟩,
  ⟨[true, false], 5, false, b__law_no_step⟩,
  ⟨[true, false, false], 11, false, b__law_misfit⟩,
  ⟨[false, false, false, false], 5, false, b__law_asked⟩,
  ⟨[true, false, false], 4, false, b__law_bad⟩,
  ⟨[true, false], 4, false, b__law_no_forest⟩,
  ⟨[true, false], 3, false, b__law_no_prices⟩,
  ⟨[false], 16, false, b_law⟩]
/-- what is known of names -/
structure Gx (P : Program) (mg : Str → Option Value) (kx : Kx) : Prop where
  b_ValueError : mg "ValueError" = none
  b_all : mg "all" = none
  b_bool : mg "bool" = none
  b_int : mg "int" = none
  b_isinstance : mg "isinstance" = none
  b_len : mg "len" = none
  b_list : mg "list" = none
  b_max : mg "max" = none
  b_min : mg "min" = none
  b_range : mg "range" = none
  b_reversed : mg "reversed" = none
  b_str : mg "str" = none
  b_tuple : mg "tuple" = none
  k_LETTERS : ∃ t, mg "LETTERS" = some (.str ⟨([97, 98, 99, 100, 101, 102, 103, 104, 105, 106, 107, 108, 109, 110, 111, 112, 113, 114, 115, 116, 117, 118, 119, 120, 121, 122] : List Nat).toArray⟩ t)
  k_MOST_LETTERS : ∃ t, mg "MOST_LETTERS" = some (.int 8 t)
  h_GraftError : HdOk mg kx (takes 0) "GraftError"
  x_InvalidForest : RaiseOk P mg kx 1 "InvalidForest" [0]
  h_InvalidForest : HdOk mg kx (takes 1) "InvalidForest"
  x_InvalidPrices : RaiseOk P mg kx 2 "InvalidPrices" [0]
  h_InvalidPrices : HdOk mg kx (takes 2) "InvalidPrices"
  x_InvalidScript : RaiseOk P mg kx 3 "InvalidScript" [0]
  h_InvalidScript : HdOk mg kx (takes 3) "InvalidScript"
  x_InvalidPath : RaiseOk P mg kx 4 "InvalidPath" [1]
  h_InvalidPath : HdOk mg kx (takes 4) "InvalidPath"
  a_value : AtOk kx (okC 0) 0 "value"
  a_path : AtOk kx (okC 1) 1 "path"
  i_GraftError : IsOk mg kx (isC 0) "GraftError"
  i_ValueError : IsOk mg kx isVEc "ValueError"
/-- the defs at a level -/
structure Fs (P : Program) (w : World) (mg : Str → Option Value) (base : Heap) (kx : Kx) (k : Nat) (call : Nat → List D → Res) : Prop where
  c_is_int : CalOk P w mg base kx k call 0 "is_int" [false] false
  c_is_count : CalOk P w mg base kx k call 1 "is_count" [false] false
  c_has_size : CalOk P w mg base kx k call 2 "has_size" [false, false] false
  c_is_word : CalOk P w mg base kx k call 3 "is_word" [false] false
  c__are_triples : CalOk P w mg base kx k call 4 "_are_triples" [false] false
  c_is_prices : CalOk P w mg base kx k call 5 "is_prices" [false] false
  c_need_prices : CalOk P w mg base kx k call 6 "need_prices" [false] false
  c_price_between : CalOk P w mg base kx k call 7 "price_between" [false, false, false] false
  c_is_forest_value : CalOk P w mg base kx k call 8 "is_forest_value" [false] false
  c_need_forest : CalOk P w mg base kx k call 9 "need_forest" [false] false
  c__is_path : CalOk P w mg base kx k call 10 "_is_path" [false] false
  c_is_step : CalOk P w mg base kx k call 11 "is_step" [false] false
  c_row_at : CalOk P w mg base kx k call 12 "row_at" [false, false] false
  c__with_row : CalOk P w mg base kx k call 13 "_with_row" [false, false, false] false
  c__row_behind : CalOk P w mg base kx k call 14 "_row_behind" [false, false] false
  c_moved_by : CalOk P w mg base kx k call 15 "moved_by" [false, false] false
  c__checked_move : CalOk P w mg base kx k call 16 "_checked_move" [false, false] false
  c_step_on : CalOk P w mg base kx k call 17 "step_on" [false, false] false
  c_run_steps : CalOk P w mg base kx k call 18 "run_steps" [false, false] false
  c__tree_there : CalOk P w mg base kx k call 19 "_tree_there" [false, false] false
  c_steps_price : CalOk P w mg base kx k call 20 "steps_price" [false, false, false] false
  c__law_mixed : CalOk P w mg base kx k call 21 "_law_mixed" [false, false] false
  c__law_draw : CalOk P w mg base kx k call 22 "_law_draw" [true, false] false
  c__law_start : CalOk P w mg base kx k call 23 "_law_start" [false] false
  c__law_same : CalOk P w mg base kx k call 24 "_law_same" [false, false] false
  c__law_pool : CalOk P w mg base kx k call 25 "_law_pool" [true] false
  c__law_grown : CalOk P w mg base kx k call 26 "_law_grown" [true, false, false, false] false
  c__law_planted : CalOk P w mg base kx k call 27 "_law_planted" [false] false
  c__law_plain : CalOk P w mg base kx k call 28 "_law_plain" [false] false
  c__law_listed : CalOk P w mg base kx k call 29 "_law_listed" [false, false] false
  c__law_stepped : CalOk P w mg base kx k call 30 "_law_stepped" [false, false, false] false
  c__law_change : CalOk P w mg base kx k call 31 "_law_change" [false, false, false] false
  c__law_prices : CalOk P w mg base kx k call 32 "_law_prices" [true, false] false
  c__law_chained : CalOk P w mg base kx k call 33 "_law_chained" [false, false] false
  c__law_within : CalOk P w mg base kx k call 34 "_law_within" [false, false, false] false
  c__law_step : CalOk P w mg base kx k call 35 "_law_step" [true, false, false, false, false] false
  c__law_run : CalOk P w mg base kx k call 36 "_law_run" [false, false, false] false
  c__law_no_path : CalOk P w mg base kx k call 37 "_law_no_path" [true] false
  c__law_no_word : CalOk P w mg base kx k call 38 "_law_no_word" [true] false
  c__law_no_step : CalOk P w mg base kx k call 39 "_law_no_step" [true, false] false
  c__law_misfit : CalOk P w mg base kx k call 40 "_law_misfit" [true, false, false] false
  c__law_asked : CalOk P w mg base kx k call 41 "_law_asked" [false, false, false, false] false
  c__law_bad : CalOk P w mg base kx k call 42 "_law_bad" [true, false, false] false
  c__law_no_forest : CalOk P w mg base kx k call 43 "_law_no_forest" [true, false] false
  c__law_no_prices : CalOk P w mg base kx k call 44 "_law_no_prices" [true, false] false
  c_law : CalOk P w mg base kx k call 45 "law" [false] false
  q_0 : CalK P w mg base kx k call 17 "step_on" [false, false] false ["a", "step"] [0, 1]
  q_1 : CalK P w mg base kx k call 18 "run_steps" [false, false] false ["a", "steps"] [0, 1]
  q_2 : CalK P w mg base kx k call 20 "steps_price" [false, false, false] false ["a", "steps", "prices"] [0, 1, 2]
section
variable {P : Program} {w : World} {mg : Str → Option Value} {base : Heap} {kx : Kx} {k : Nat} {call : Nat → List D → Res} {f : Addr} {cdv : Value} {A : Around} {outer : List Env} {s : Shared} {H : Hp} {E : XK}
theorem sc_is_int : FnScope ["value"] ["value"] (defScope (top 9)) := ⟨rfl, rfl, rfl, by decide +kernel, rfl, by decide +kernel, by decide +kernel⟩
theorem p_is_int (G : Gx P mg kx) (F : Fs P w mg base kx k call) (C : CX (cxOf (L2.CX P w) P w kx.K mg base ["value"] "is_int" (defScope (top 9)) f cdv A outer s H E) ⟨kx, [], call, fun cls d _ H' => E cls d H', none⟩ k) : PSs (cxOf (L2.CX P w) P w kx.K mg base ["value"] "is_int" (defScope (top 9)) f cdv A outer s H E) (defBody (top 9)) (rdS ⟨kx, [], call, fun cls d _ H' => E cls d H', none⟩ b_is_int) :=
  (s_one (x_ret (s_andV (e_isi (c := .tI) C.toBX G.b_isinstance G.b_int (e_var C.toBX)) (s_oneV (s_notV (e_isi (c := .tB) C.toBX G.b_isinstance G.b_bool (e_var C.toBX)))))))
theorem sc_is_count : FnScope ["value"] ["value"] (defScope (top 10)) := ⟨rfl, rfl, rfl, by decide +kernel, rfl, by decide +kernel, by decide +kernel⟩
theorem p_is_count (G : Gx P mg kx) (F : Fs P w mg base kx k call) (C : CX (cxOf (L2.CX P w) P w kx.K mg base ["value"] "is_count" (defScope (top 10)) f cdv A outer s H E) ⟨kx, [], call, fun cls d _ H' => E cls d H', none⟩ k) : PSs (cxOf (L2.CX P w) P w kx.K mg base ["value"] "is_count" (defScope (top 10)) f cdv A outer s H E) (defBody (top 10)) (rdS ⟨kx, [], call, fun cls d _ H' => E cls d H', none⟩ b_is_count) :=
  (s_one (x_ret (s_andV (e_call C F.c_is_int (a_cons (e_var C.toBX) a_nil)) (s_oneV (e_cmp c_ge (e_var C.toBX) e_int)))))
theorem sc_has_size : FnScope ["value", "size"] ["value", "size"] (defScope (top 11)) := ⟨rfl, rfl, rfl, by decide +kernel, rfl, by decide +kernel, by decide +kernel⟩
theorem p_has_size (G : Gx P mg kx) (F : Fs P w mg base kx k call) (C : CX (cxOf (L2.CX P w) P w kx.K mg base ["value", "size"] "has_size" (defScope (top 11)) f cdv A outer s H E) ⟨kx, [], call, fun cls d _ H' => E cls d H', none⟩ k) : PSs (cxOf (L2.CX P w) P w kx.K mg base ["value", "size"] "has_size" (defScope (top 11)) f cdv A outer s H E) (defBody (top 11)) (rdS ⟨kx, [], call, fun cls d _ H' => E cls d H', none⟩ b_has_size) :=
  (s_one (x_ret (s_andV (e_isi (c := .tT) C.toBX G.b_isinstance G.b_tuple (e_var C.toBX)) (s_oneV (e_cmp (c_eq C.toBX) (e_len C.toBX G.b_len (e_var C.toBX)) (e_var C.toBX))))))
theorem sc_is_word : FnScope ["value", "sign"] ["value"] (defScope (top 12)) := ⟨rfl, rfl, rfl, by decide +kernel, rfl, by decide +kernel, by decide +kernel⟩
theorem p_is_word (G : Gx P mg kx) (F : Fs P w mg base kx k call) (C : CX (cxOf (L2.CX P w) P w kx.K mg base ["value", "sign"] "is_word" (defScope (top 12)) f cdv A outer s H E) ⟨kx, [], call, fun cls d _ H' => E cls d H', none⟩ k) : PSs (cxOf (L2.CX P w) P w kx.K mg base ["value", "sign"] "is_word" (defScope (top 12)) f cdv A outer s H E) (defBody (top 12)) (rdS ⟨kx, [], call, fun cls d _ H' => E cls d H', none⟩ b_is_word) :=
  (s_seq (s_if (PW.pt (s_or (t_not (t_tr C.toBX (e_isi (c := .tS) C.toBX G.b_isinstance G.b_str (e_var C.toBX)))) (s_or1 (t_not (t_chain c_le c_le e_int (e_len C.toBX G.b_len (e_var C.toBX)) (e_gint G.k_MOST_LETTERS)))))) (s_one (x_ret e_bl)) s_nil) (s_one (x_ret (e_all C G.b_all (e_comp C [("sign", 1)] (i_any C.toBX (e_var C.toBX)) (fun _ _ _ _ _ => (g_nm x_st)) (fun _ _ _ _ _ C => q_nil) (fun _ _ _ _ _ C => (e_cmp (c_in C.toBX) (e_var C.toBX) (e_gstr [97, 98, 99, 100, 101, 102, 103, 104, 105, 106, 107, 108, 109, 110, 111, 112, 113, 114, 115, 116, 117, 118, 119, 120, 121, 122] G.k_LETTERS))))))))
theorem sc__are_triples : FnScope ["table", "seen", "triple"] ["table"] (defScope (top 14)) := ⟨rfl, rfl, rfl, by decide +kernel, rfl, by decide +kernel, by decide +kernel⟩
theorem p__are_triples (G : Gx P mg kx) (F : Fs P w mg base kx k call) (C : CX (cxOf (L2.CX P w) P w kx.K mg base ["table", "seen", "triple"] "_are_triples" (defScope (top 14)) f cdv A outer s H E) ⟨kx, [], call, fun cls d _ H' => E cls d H', none⟩ k) : PSs (cxOf (L2.CX P w) P w kx.K mg base ["table", "seen", "triple"] "_are_triples" (defScope (top 14)) f cdv A outer s H E) (defBody (top 14)) (rdS ⟨kx, [], call, fun cls d _ H' => E cls d H', none⟩ b__are_triples) :=
  (s_seq (s_if (t_not (t_tr C.toBX (e_isi (c := .tT) C.toBX G.b_isinstance G.b_tuple (e_var C.toBX)))) (s_one (x_ret e_bl)) s_nil) (s_seq (x_set C.toBX x_st (e_lst l_nil)) (s_seq (x_for C (g_nm x_st) (i_any C.toBX (e_var C.toBX)) (s_seq (s_if (PW.pt (s_or (t_not (t_tr C.toBX (e_call C F.c_has_size (a_cons (e_var C.toBX) (a_cons e_int a_nil))))) (s_or (t_not (t_tr C.toBX (e_call C F.c_is_word (a_cons (e_ix C.toBX (e_var C.toBX) e_int) a_nil)))) (s_or (t_not (t_tr C.toBX (e_call C F.c_is_word (a_cons (e_ix C.toBX (e_var C.toBX) e_int) a_nil)))) (s_or1 (t_not (t_tr C.toBX (e_call C F.c_is_count (a_cons (e_ix C.toBX (e_var C.toBX) e_int) a_nil))))))))) (s_one (x_ret e_bl)) s_nil) (s_seq (s_if (PW.pt (s_or (t_cmp (c_eq C.toBX) (e_ix C.toBX (e_var C.toBX) e_int) (e_ix C.toBX (e_var C.toBX) e_int)) (s_or1 (t_cmp (c_in C.toBX) (e_sl C.toBX (e_var C.toBX) s_part0 (s_part1 e_int)) (e_var C.toBX))))) (s_one (x_ret e_bl)) s_nil) (s_one (x_expr (e_app e_loc (e_sl C.toBX (e_var C.toBX) s_part0 (s_part1 e_int)))))))) (s_one (x_ret e_bl)))))
theorem sc_is_prices : FnScope ["value", "part"] ["value"] (defScope (top 15)) := ⟨rfl, rfl, rfl, by decide +kernel, rfl, by decide +kernel, by decide +kernel⟩
theorem p_is_prices (G : Gx P mg kx) (F : Fs P w mg base kx k call) (C : CX (cxOf (L2.CX P w) P w kx.K mg base ["value", "part"] "is_prices" (defScope (top 15)) f cdv A outer s H E) ⟨kx, [], call, fun cls d _ H' => E cls d H', none⟩ k) : PSs (cxOf (L2.CX P w) P w kx.K mg base ["value", "part"] "is_prices" (defScope (top 15)) f cdv A outer s H E) (defBody (top 15)) (rdS ⟨kx, [], call, fun cls d _ H' => E cls d H', none⟩ b_is_prices) :=
  (s_seq (s_if (PW.pt (s_or (t_not (t_tr C.toBX (e_call C F.c_has_size (a_cons (e_var C.toBX) (a_cons e_int a_nil))))) (s_or1 (t_not (t_tr C.toBX (e_all C G.b_all (e_comp C [("part", 1)] (i_any C.toBX (e_sl C.toBX (e_var C.toBX) s_part0 (s_part1 e_int))) (fun _ _ _ _ _ => (g_nm x_st)) (fun _ _ _ _ _ C => q_nil) (fun _ _ _ _ _ C => (e_call C F.c_is_count (a_cons (e_var C.toBX) a_nil)))))))))) (s_one (x_ret e_bl)) s_nil) (s_one (x_ret (e_call C F.c__are_triples (a_cons (e_ix C.toBX (e_var C.toBX) e_int) a_nil)))))
theorem sc_need_prices : FnScope ["prices"] ["prices"] (defScope (top 16)) := ⟨rfl, rfl, rfl, by decide +kernel, rfl, by decide +kernel, by decide +kernel⟩
theorem p_need_prices (G : Gx P mg kx) (F : Fs P w mg base kx k call) (C : CX (cxOf (L2.CX P w) P w kx.K mg base ["prices"] "need_prices" (defScope (top 16)) f cdv A outer s H E) ⟨kx, [], call, fun cls d _ H' => E cls d H', none⟩ k) : PSs (cxOf (L2.CX P w) P w kx.K mg base ["prices"] "need_prices" (defScope (top 16)) f cdv A outer s H E) (defBody (top 16)) (rdS ⟨kx, [], call, fun cls d _ H' => E cls d H', none⟩ b_need_prices) :=
  (s_one (s_if (t_not (t_tr C.toBX (e_call C F.c_is_prices (a_cons (e_var C.toBX) a_nil)))) (s_one (x_raise C G.x_InvalidPrices (l_cons (e_var C.toBX) l_nil))) s_nil))
theorem sc_price_between : FnScope ["prices", "word", "other", "first", "second", "price"] ["prices", "word", "other"] (defScope (top 17)) := ⟨rfl, rfl, rfl, by decide +kernel, rfl, by decide +kernel, by decide +kernel⟩
theorem p_price_between (G : Gx P mg kx) (F : Fs P w mg base kx k call) (C : CX (cxOf (L2.CX P w) P w kx.K mg base ["prices", "word", "other", "first", "second", "price"] "price_between" (defScope (top 17)) f cdv A outer s H E) ⟨kx, [], call, fun cls d _ H' => E cls d H', none⟩ k) : PSs (cxOf (L2.CX P w) P w kx.K mg base ["prices", "word", "other", "first", "second", "price"] "price_between" (defScope (top 17)) f cdv A outer s H E) (defBody (top 17)) (rdS ⟨kx, [], call, fun cls d _ H' => E cls d H', none⟩ b_price_between) :=
  (s_seq (s_if (t_cmp (c_eq C.toBX) (e_var C.toBX) (e_var C.toBX)) (s_one (x_ret e_int)) s_nil) (s_seq (x_for C (g_tp (.cons x_st (.cons x_st (.cons x_st .nil)))) (i_any C.toBX (e_ix C.toBX (e_var C.toBX) e_int)) (s_one (s_if (PW.pt (s_and (t_cmp (c_eq C.toBX) (e_var C.toBX) (e_var C.toBX)) (s_and1 (t_cmp (c_eq C.toBX) (e_var C.toBX) (e_var C.toBX))))) (s_one (x_ret (e_var C.toBX))) s_nil))) (s_one (x_ret (e_ix C.toBX (e_var C.toBX) e_int)))))
theorem sc_is_forest_value : FnScope ["value", "tree"] ["value"] (defScope (top 19)) := ⟨rfl, rfl, rfl, by decide +kernel, rfl, by decide +kernel, by decide +kernel⟩
theorem p_is_forest_value (G : Gx P mg kx) (F : Fs P w mg base kx k call) (C : CX (cxOf (L2.CX P w) P w kx.K mg base ["value", "tree"] "is_forest_value" (defScope (top 19)) f cdv A outer s H E) ⟨kx, [], call, fun cls d _ H' => E cls d H', none⟩ k) : PSs (cxOf (L2.CX P w) P w kx.K mg base ["value", "tree"] "is_forest_value" (defScope (top 19)) f cdv A outer s H E) (defBody (top 19)) (rdS ⟨kx, [], call, fun cls d _ H' => E cls d H', none⟩ b_is_forest_value) :=
  (s_seq (s_if (t_not (t_tr C.toBX (e_isi (c := .tT) C.toBX G.b_isinstance G.b_tuple (e_var C.toBX)))) (s_one (x_ret e_bl)) s_nil) (s_seq (x_for C (g_nm x_st) (i_any C.toBX (e_var C.toBX)) (s_one (s_if (PW.pt (s_or (t_not (t_tr C.toBX (e_call C F.c_has_size (a_cons (e_var C.toBX) (a_cons e_int a_nil))))) (s_or (t_not (t_tr C.toBX (e_call C F.c_is_word (a_cons (e_ix C.toBX (e_var C.toBX) e_int) a_nil)))) (s_or1 (t_not (t_tr C.toBX (e_call C F.c_is_forest_value (a_cons (e_ix C.toBX (e_var C.toBX) e_int) a_nil)))))))) (s_one (x_ret e_bl)) s_nil))) (s_one (x_ret e_bl))))
theorem sc_need_forest : FnScope ["a"] ["a"] (defScope (top 20)) := ⟨rfl, rfl, rfl, by decide +kernel, rfl, by decide +kernel, by decide +kernel⟩
theorem p_need_forest (G : Gx P mg kx) (F : Fs P w mg base kx k call) (C : CX (cxOf (L2.CX P w) P w kx.K mg base ["a"] "need_forest" (defScope (top 20)) f cdv A outer s H E) ⟨kx, [], call, fun cls d _ H' => E cls d H', none⟩ k) : PSs (cxOf (L2.CX P w) P w kx.K mg base ["a"] "need_forest" (defScope (top 20)) f cdv A outer s H E) (defBody (top 20)) (rdS ⟨kx, [], call, fun cls d _ H' => E cls d H', none⟩ b_need_forest) :=
  (s_one (s_if (t_not (t_tr C.toBX (e_call C F.c_is_forest_value (a_cons (e_var C.toBX) a_nil)))) (s_one (x_raise C G.x_InvalidForest (l_cons (e_var C.toBX) l_nil))) s_nil))
theorem sc__is_path : FnScope ["value", "at"] ["value"] (defScope (top 22)) := ⟨rfl, rfl, rfl, by decide +kernel, rfl, by decide +kernel, by decide +kernel⟩
theorem p__is_path (G : Gx P mg kx) (F : Fs P w mg base kx k call) (C : CX (cxOf (L2.CX P w) P w kx.K mg base ["value", "at"] "_is_path" (defScope (top 22)) f cdv A outer s H E) ⟨kx, [], call, fun cls d _ H' => E cls d H', none⟩ k) : PSs (cxOf (L2.CX P w) P w kx.K mg base ["value", "at"] "_is_path" (defScope (top 22)) f cdv A outer s H E) (defBody (top 22)) (rdS ⟨kx, [], call, fun cls d _ H' => E cls d H', none⟩ b__is_path) :=
  (s_seq (s_if (PW.pt (s_or (t_not (t_tr C.toBX (e_isi (c := .tT) C.toBX G.b_isinstance G.b_tuple (e_var C.toBX)))) (s_or1 (t_cmp (c_eq C.toBX) (e_len C.toBX G.b_len (e_var C.toBX)) e_int)))) (s_one (x_ret e_bl)) s_nil) (s_seq (x_for C (g_nm x_st) (i_any C.toBX (e_var C.toBX)) (s_one (s_if (t_not (t_tr C.toBX (e_call C F.c_is_count (a_cons (e_var C.toBX) a_nil)))) (s_one (x_ret e_bl)) s_nil))) (s_one (x_ret e_bl))))
theorem sc_is_step : FnScope ["value"] ["value"] (defScope (top 23)) := ⟨rfl, rfl, rfl, by decide +kernel, rfl, by decide +kernel, by decide +kernel⟩
theorem p_is_step (G : Gx P mg kx) (F : Fs P w mg base kx k call) (C : CX (cxOf (L2.CX P w) P w kx.K mg base ["value"] "is_step" (defScope (top 23)) f cdv A outer s H E) ⟨kx, [], call, fun cls d _ H' => E cls d H', none⟩ k) : PSs (cxOf (L2.CX P w) P w kx.K mg base ["value"] "is_step" (defScope (top 23)) f cdv A outer s H E) (defBody (top 23)) (rdS ⟨kx, [], call, fun cls d _ H' => E cls d H', none⟩ b_is_step) :=
  (s_seq (s_if (PW.pt (s_or (t_not (t_tr C.toBX (e_isi (c := .tT) C.toBX G.b_isinstance G.b_tuple (e_var C.toBX)))) (s_or (t_cmp c_lt (e_len C.toBX G.b_len (e_var C.toBX)) e_int) (s_or (t_not (t_tr C.toBX (e_isi (c := .tS) C.toBX G.b_isinstance G.b_str (e_ix C.toBX (e_var C.toBX) e_int)))) (s_or1 (t_not (t_tr C.toBX (e_call C F.c__is_path (a_cons (e_ix C.toBX (e_var C.toBX) e_int) a_nil))))))))) (s_one (x_ret e_bl)) s_nil) (s_seq (s_if (t_cmp (c_eq C.toBX) (e_ix C.toBX (e_var C.toBX) e_int) (e_str [99, 104, 97, 110, 103, 101])) (s_one (x_ret (s_andV (e_call C F.c_has_size (a_cons (e_var C.toBX) (a_cons e_int a_nil))) (s_oneV (e_call C F.c_is_word (a_cons (e_ix C.toBX (e_var C.toBX) e_int) a_nil)))))) s_nil) (s_seq (s_if (t_cmp (c_eq C.toBX) (e_ix C.toBX (e_var C.toBX) e_int) (e_str [97, 100, 100])) (s_one (x_ret (s_andV (e_call C F.c_has_size (a_cons (e_var C.toBX) (a_cons e_int a_nil))) (s_andV (e_call C F.c_is_count (a_cons (e_ix C.toBX (e_var C.toBX) e_int) a_nil)) (s_oneV (e_call C F.c_is_word (a_cons (e_ix C.toBX (e_var C.toBX) e_int) a_nil))))))) s_nil) (s_one (x_ret (s_andV (e_cmp (c_eq C.toBX) (e_ix C.toBX (e_var C.toBX) e_int) (e_str [100, 114, 111, 112])) (s_oneV (e_call C F.c_has_size (a_cons (e_var C.toBX) (a_cons e_int a_nil))))))))))
theorem sc_row_at : FnScope ["a", "path", "row", "at"] ["a", "path"] (defScope (top 24)) := ⟨rfl, rfl, rfl, by decide +kernel, rfl, by decide +kernel, by decide +kernel⟩
theorem p_row_at (G : Gx P mg kx) (F : Fs P w mg base kx k call) (C : CX (cxOf (L2.CX P w) P w kx.K mg base ["a", "path", "row", "at"] "row_at" (defScope (top 24)) f cdv A outer s H E) ⟨kx, [], call, fun cls d _ H' => E cls d H', none⟩ k) : PSs (cxOf (L2.CX P w) P w kx.K mg base ["a", "path", "row", "at"] "row_at" (defScope (top 24)) f cdv A outer s H E) (defBody (top 24)) (rdS ⟨kx, [], call, fun cls d _ H' => E cls d H', none⟩ b_row_at) :=
  (s_seq (x_set C.toBX x_st (e_var C.toBX)) (s_seq (x_for C (g_nm x_st) (i_any C.toBX (e_var C.toBX)) (s_seq (s_if (t_cmp c_ge (e_var C.toBX) (e_len C.toBX G.b_len (e_var C.toBX))) (s_one (x_ret e_non)) s_nil) (s_one (x_set C.toBX x_st (e_ix C.toBX (e_ix C.toBX (e_var C.toBX) (e_var C.toBX)) e_int))))) (s_one (x_ret (e_var C.toBX)))))
theorem sc__with_row : FnScope ["a", "path", "row", "at"] ["a", "path", "row"] (defScope (top 25)) := ⟨rfl, rfl, rfl, by decide +kernel, rfl, by decide +kernel, by decide +kernel⟩
theorem p__with_row (G : Gx P mg kx) (F : Fs P w mg base kx k call) (C : CX (cxOf (L2.CX P w) P w kx.K mg base ["a", "path", "row", "at"] "_with_row" (defScope (top 25)) f cdv A outer s H E) ⟨kx, [], call, fun cls d _ H' => E cls d H', none⟩ k) : PSs (cxOf (L2.CX P w) P w kx.K mg base ["a", "path", "row", "at"] "_with_row" (defScope (top 25)) f cdv A outer s H E) (defBody (top 25)) (rdS ⟨kx, [], call, fun cls d _ H' => E cls d H', none⟩ b__with_row) :=
  (s_seq (s_if (t_cmp (c_eq C.toBX) (e_len C.toBX G.b_len (e_var C.toBX)) e_int) (s_one (x_ret (e_var C.toBX))) s_nil) (s_seq (x_set C.toBX x_st (e_ix C.toBX (e_var C.toBX) e_int)) (s_one (x_ret (e_add C.toBX (e_add C.toBX (e_sl C.toBX (e_var C.toBX) s_part0 (s_part1 (e_var C.toBX))) (e_tup (l_cons (e_tup (l_cons (e_ix C.toBX (e_ix C.toBX (e_var C.toBX) (e_var C.toBX)) e_int) (l_cons (e_call C F.c__with_row (a_cons (e_ix C.toBX (e_ix C.toBX (e_var C.toBX) (e_var C.toBX)) e_int) (a_cons (e_sl C.toBX (e_var C.toBX) (s_part1 e_int) s_part0) (a_cons (e_var C.toBX) a_nil)))) l_nil))) l_nil))) (e_sl C.toBX (e_var C.toBX) (s_part1 (e_add C.toBX (e_var C.toBX) e_int)) s_part0))))))
theorem sc__row_behind : FnScope ["row", "step", "at", "end"] ["row", "step"] (defScope (top 26)) := ⟨rfl, rfl, rfl, by decide +kernel, rfl, by decide +kernel, by decide +kernel⟩
theorem p__row_behind (G : Gx P mg kx) (F : Fs P w mg base kx k call) (C : CX (cxOf (L2.CX P w) P w kx.K mg base ["row", "step", "at", "end"] "_row_behind" (defScope (top 26)) f cdv A outer s H E) ⟨kx, [], call, fun cls d _ H' => E cls d H', none⟩ k) : PSs (cxOf (L2.CX P w) P w kx.K mg base ["row", "step", "at", "end"] "_row_behind" (defScope (top 26)) f cdv A outer s H E) (defBody (top 26)) (rdS ⟨kx, [], call, fun cls d _ H' => E cls d H', none⟩ b__row_behind) :=
  (s_seq (x_set C.toBX x_st (e_ix C.toBX (e_ix C.toBX (e_var C.toBX) e_int) (e_neg e_int))) (s_seq (s_if (t_cmp (c_eq C.toBX) (e_ix C.toBX (e_var C.toBX) e_int) (e_str [97, 100, 100])) (s_seq (x_set C.toBX x_st (e_add C.toBX (e_var C.toBX) (e_ix C.toBX (e_var C.toBX) e_int))) (s_seq (s_if (t_cmp c_gt (e_var C.toBX) (e_len C.toBX G.b_len (e_var C.toBX))) (s_one (x_ret e_non)) s_nil) (s_one (x_ret (e_add C.toBX (e_add C.toBX (e_sl C.toBX (e_var C.toBX) s_part0 (s_part1 (e_var C.toBX))) (e_tup (l_cons (e_tup (l_cons (e_ix C.toBX (e_var C.toBX) e_int) (l_cons (e_sl C.toBX (e_var C.toBX) (s_part1 (e_var C.toBX)) (s_part1 (e_var C.toBX))) l_nil))) l_nil))) (e_sl C.toBX (e_var C.toBX) (s_part1 (e_var C.toBX)) s_part0)))))) s_nil) (s_seq (s_if (t_cmp c_ge (e_var C.toBX) (e_len C.toBX G.b_len (e_var C.toBX))) (s_one (x_ret e_non)) s_nil) (s_seq (s_if (t_cmp (c_eq C.toBX) (e_ix C.toBX (e_var C.toBX) e_int) (e_str [100, 114, 111, 112])) (s_one (x_ret (e_add C.toBX (e_add C.toBX (e_sl C.toBX (e_var C.toBX) s_part0 (s_part1 (e_var C.toBX))) (e_ix C.toBX (e_ix C.toBX (e_var C.toBX) (e_var C.toBX)) e_int)) (e_sl C.toBX (e_var C.toBX) (s_part1 (e_add C.toBX (e_var C.toBX) e_int)) s_part0)))) s_nil) (s_one (x_ret (e_add C.toBX (e_add C.toBX (e_sl C.toBX (e_var C.toBX) s_part0 (s_part1 (e_var C.toBX))) (e_tup (l_cons (e_tup (l_cons (e_ix C.toBX (e_var C.toBX) e_int) (l_cons (e_ix C.toBX (e_ix C.toBX (e_var C.toBX) (e_var C.toBX)) e_int) l_nil))) l_nil))) (e_sl C.toBX (e_var C.toBX) (s_part1 (e_add C.toBX (e_var C.toBX) e_int)) s_part0))))))))
theorem sc_moved_by : FnScope ["a", "step", "over", "row", "behind"] ["a", "step"] (defScope (top 27)) := ⟨rfl, rfl, rfl, by decide +kernel, rfl, by decide +kernel, by decide +kernel⟩
theorem p_moved_by (G : Gx P mg kx) (F : Fs P w mg base kx k call) (C : CX (cxOf (L2.CX P w) P w kx.K mg base ["a", "step", "over", "row", "behind"] "moved_by" (defScope (top 27)) f cdv A outer s H E) ⟨kx, [], call, fun cls d _ H' => E cls d H', none⟩ k) : PSs (cxOf (L2.CX P w) P w kx.K mg base ["a", "step", "over", "row", "behind"] "moved_by" (defScope (top 27)) f cdv A outer s H E) (defBody (top 27)) (rdS ⟨kx, [], call, fun cls d _ H' => E cls d H', none⟩ b_moved_by) :=
  (s_seq (x_set C.toBX x_st (e_sl C.toBX (e_ix C.toBX (e_var C.toBX) e_int) s_part0 (s_part1 (e_neg e_int)))) (s_seq (x_set C.toBX x_st (e_call C F.c_row_at (a_cons (e_var C.toBX) (a_cons (e_var C.toBX) a_nil)))) (s_seq (x_set C.toBX x_st (s_ifE (t_cmp c_isN (e_var C.toBX) e_non) e_non (e_call C F.c__row_behind (a_cons (e_var C.toBX) (a_cons (e_var C.toBX) a_nil))))) (s_seq (s_if (t_cmp c_isN (e_var C.toBX) e_non) (s_one (x_raise C G.x_InvalidPath (l_cons (e_ix C.toBX (e_var C.toBX) e_int) l_nil))) s_nil) (s_one (x_ret (e_call C F.c__with_row (a_cons (e_var C.toBX) (a_cons (e_var C.toBX) (a_cons (e_var C.toBX) a_nil))))))))))
theorem sc__checked_move : FnScope ["a", "step"] ["a", "step"] (defScope (top 28)) := ⟨rfl, rfl, rfl, by decide +kernel, rfl, by decide +kernel, by decide +kernel⟩
theorem p__checked_move (G : Gx P mg kx) (F : Fs P w mg base kx k call) (C : CX (cxOf (L2.CX P w) P w kx.K mg base ["a", "step"] "_checked_move" (defScope (top 28)) f cdv A outer s H E) ⟨kx, [], call, fun cls d _ H' => E cls d H', none⟩ k) : PSs (cxOf (L2.CX P w) P w kx.K mg base ["a", "step"] "_checked_move" (defScope (top 28)) f cdv A outer s H E) (defBody (top 28)) (rdS ⟨kx, [], call, fun cls d _ H' => E cls d H', none⟩ b__checked_move) :=
  (s_seq (s_if (t_not (t_tr C.toBX (e_call C F.c_is_step (a_cons (e_var C.toBX) a_nil)))) (s_one (x_raise C G.x_InvalidScript (l_cons (e_var C.toBX) l_nil))) s_nil) (s_one (x_ret (e_call C F.c_moved_by (a_cons (e_var C.toBX) (a_cons (e_var C.toBX) a_nil))))))
theorem sc_step_on : FnScope ["a", "step"] ["a", "step"] (defScope (top 29)) := ⟨rfl, rfl, rfl, by decide +kernel, rfl, by decide +kernel, by decide +kernel⟩
theorem p_step_on (G : Gx P mg kx) (F : Fs P w mg base kx k call) (C : CX (cxOf (L2.CX P w) P w kx.K mg base ["a", "step"] "step_on" (defScope (top 29)) f cdv A outer s H E) ⟨kx, [], call, fun cls d _ H' => E cls d H', none⟩ k) : PSs (cxOf (L2.CX P w) P w kx.K mg base ["a", "step"] "step_on" (defScope (top 29)) f cdv A outer s H E) (defBody (top 29)) (rdS ⟨kx, [], call, fun cls d _ H' => E cls d H', none⟩ b_step_on) :=
  (s_seq (x_expr (e_call C F.c_need_forest (a_cons (e_var C.toBX) a_nil))) (s_one (x_ret (e_call C F.c__checked_move (a_cons (e_var C.toBX) (a_cons (e_var C.toBX) a_nil))))))
theorem sc_run_steps : FnScope ["a", "steps", "step"] ["a", "steps"] (defScope (top 30)) := ⟨rfl, rfl, rfl, by decide +kernel, rfl, by decide +kernel, by decide +kernel⟩
theorem p_run_steps (G : Gx P mg kx) (F : Fs P w mg base kx k call) (C : CX (cxOf (L2.CX P w) P w kx.K mg base ["a", "steps", "step"] "run_steps" (defScope (top 30)) f cdv A outer s H E) ⟨kx, [], call, fun cls d _ H' => E cls d H', none⟩ k) : PSs (cxOf (L2.CX P w) P w kx.K mg base ["a", "steps", "step"] "run_steps" (defScope (top 30)) f cdv A outer s H E) (defBody (top 30)) (rdS ⟨kx, [], call, fun cls d _ H' => E cls d H', none⟩ b_run_steps) :=
  (s_seq (x_expr (e_call C F.c_need_forest (a_cons (e_var C.toBX) a_nil))) (s_seq (x_for C (g_nm x_st) (i_any C.toBX (e_var C.toBX)) (s_one (x_set C.toBX x_st (e_call C F.c__checked_move (a_cons (e_var C.toBX) (a_cons (e_var C.toBX) a_nil)))))) (s_one (x_ret (e_var C.toBX)))))
theorem sc__tree_there : FnScope ["a", "path"] ["a", "path"] (defScope (top 31)) := ⟨rfl, rfl, rfl, by decide +kernel, rfl, by decide +kernel, by decide +kernel⟩
theorem p__tree_there (G : Gx P mg kx) (F : Fs P w mg base kx k call) (C : CX (cxOf (L2.CX P w) P w kx.K mg base ["a", "path"] "_tree_there" (defScope (top 31)) f cdv A outer s H E) ⟨kx, [], call, fun cls d _ H' => E cls d H', none⟩ k) : PSs (cxOf (L2.CX P w) P w kx.K mg base ["a", "path"] "_tree_there" (defScope (top 31)) f cdv A outer s H E) (defBody (top 31)) (rdS ⟨kx, [], call, fun cls d _ H' => E cls d H', none⟩ b__tree_there) :=
  (s_one (x_ret (e_ix C.toBX (e_call C F.c_row_at (a_cons (e_var C.toBX) (a_cons (e_sl C.toBX (e_var C.toBX) s_part0 (s_part1 (e_neg e_int))) a_nil))) (e_ix C.toBX (e_var C.toBX) (e_neg e_int)))))
theorem sc_steps_price : FnScope ["a", "steps", "prices", "total", "step", "behind"] ["a", "steps", "prices"] (defScope (top 32)) := ⟨rfl, rfl, rfl, by decide +kernel, rfl, by decide +kernel, by decide +kernel⟩
theorem p_steps_price (G : Gx P mg kx) (F : Fs P w mg base kx k call) (C : CX (cxOf (L2.CX P w) P w kx.K mg base ["a", "steps", "prices", "total", "step", "behind"] "steps_price" (defScope (top 32)) f cdv A outer s H E) ⟨kx, [], call, fun cls d _ H' => E cls d H', none⟩ k) : PSs (cxOf (L2.CX P w) P w kx.K mg base ["a", "steps", "prices", "total", "step", "behind"] "steps_price" (defScope (top 32)) f cdv A outer s H E) (defBody (top 32)) (rdS ⟨kx, [], call, fun cls d _ H' => E cls d H', none⟩ b_steps_price) :=
  (s_seq (x_expr (e_call C F.c_need_forest (a_cons (e_var C.toBX) a_nil))) (s_seq (x_expr (e_call C F.c_need_prices (a_cons (e_var C.toBX) a_nil))) (s_seq (x_set C.toBX x_st e_int) (s_seq (x_for C (g_nm x_st) (i_any C.toBX (e_var C.toBX)) (s_seq (x_set C.toBX x_st (e_call C F.c__checked_move (a_cons (e_var C.toBX) (a_cons (e_var C.toBX) a_nil)))) (s_seq (s_if (t_cmp (c_eq C.toBX) (e_ix C.toBX (e_var C.toBX) e_int) (e_str [100, 114, 111, 112])) (s_one (x_set C.toBX x_st (e_add C.toBX (e_var C.toBX) (e_ix C.toBX (e_var C.toBX) e_int)))) (s_one (s_if (t_cmp (c_eq C.toBX) (e_ix C.toBX (e_var C.toBX) e_int) (e_str [97, 100, 100])) (s_one (x_set C.toBX x_st (e_add C.toBX (e_var C.toBX) (e_ix C.toBX (e_var C.toBX) e_int)))) (s_one (x_set C.toBX x_st (e_add C.toBX (e_var C.toBX) (e_call C F.c_price_between (a_cons (e_var C.toBX) (a_cons (e_ix C.toBX (e_call C F.c__tree_there (a_cons (e_var C.toBX) (a_cons (e_ix C.toBX (e_var C.toBX) e_int) a_nil))) e_int) (a_cons (e_ix C.toBX (e_var C.toBX) e_int) a_nil)))))))))) (s_one (x_set C.toBX x_st (e_var C.toBX)))))) (s_one (x_ret (e_var C.toBX)))))))
theorem sc__law_mixed : FnScope ["_law_cell", "_law_turn", "_law_one", "_law_two"] ["_law_cell", "_law_turn"] (defScope (top 34)) := ⟨rfl, rfl, rfl, by decide +kernel, rfl, by decide +kernel, by decide +kernel⟩
theorem p__law_mixed (G : Gx P mg kx) (F : Fs P w mg base kx k call) (C : CX (cxOf (L2.CX P w) P w kx.K mg base ["_law_cell", "_law_turn", "_law_one", "_law_two"] "_law_mixed" (defScope (top 34)) f cdv A outer s H E) ⟨kx, [], call, fun cls d _ H' => E cls d H', none⟩ k) : PSs (cxOf (L2.CX P w) P w kx.K mg base ["_law_cell", "_law_turn", "_law_one", "_law_two"] "_law_mixed" (defScope (top 34)) f cdv A outer s H E) (defBody (top 34)) (rdS ⟨kx, [], call, fun cls d _ H' => E cls d H', none⟩ b__law_mixed) :=
  (s_seq (x_set C.toBX x_st (e_mod (e_intF G.b_int (e_add C.toBX (e_add C.toBX (e_mul (e_var C.toBX) e_int) (e_mul (e_var C.toBX) e_int)) e_int)) e_int)) (s_seq (x_set C.toBX x_st (e_mod (e_intF G.b_int (e_add C.toBX (e_add C.toBX (e_mul (e_var C.toBX) (e_var C.toBX)) (e_mul (e_var C.toBX) e_int)) (e_div (e_var C.toBX) e_int))) e_int)) (s_one (x_ret (e_mod (e_intF G.b_int (e_add C.toBX (e_add C.toBX (e_mul (e_var C.toBX) e_int) (e_div (e_var C.toBX) e_int)) (e_var C.toBX))) e_int)))))
theorem sc__law_draw : FnScope ["_law_state", "_law_limit", "_law_cells", "_law_cell", "_law_found"] ["_law_state", "_law_limit"] (defScope (top 35)) := ⟨rfl, rfl, rfl, by decide +kernel, rfl, by decide +kernel, by decide +kernel⟩
theorem p__law_draw (G : Gx P mg kx) (F : Fs P w mg base kx k call) (C : CX (cxOf (L2.CX P w) P w kx.K mg base ["_law_state", "_law_limit", "_law_cells", "_law_cell", "_law_found"] "_law_draw" (defScope (top 35)) f cdv A outer s H E) ⟨kx, [0], call, fun cls d _ H' => E cls d H', none⟩ k) : PSs (cxOf (L2.CX P w) P w kx.K mg base ["_law_state", "_law_limit", "_law_cells", "_law_cell", "_law_found"] "_law_draw" (defScope (top 35)) f cdv A outer s H E) (defBody (top 35)) (rdS ⟨kx, [0], call, fun cls d _ H' => E cls d H', none⟩ b__law_draw) :=
  (s_seq (x_put e_loc e_int (e_add C.toBX (e_ix C.toBX (e_var C.toBX) e_int) e_int)) (s_seq (x_set C.toBX x_st (e_ix C.toBX (e_var C.toBX) e_int)) (s_seq (s_if (t_cmp (c_eq C.toBX) (e_len C.toBX G.b_len (e_var C.toBX)) e_int) (s_one (x_ret (e_mod (e_intF G.b_int (e_call C F.c__law_mixed (a_cons e_int (a_cons (e_ix C.toBX (e_var C.toBX) e_int) a_nil)))) (e_var C.toBX)))) s_nil) (s_seq (s_if (PW.pt (s_and (t_cmp (c_eq C.toBX) (e_ix C.toBX (e_var C.toBX) e_int) e_int) (s_and (t_cmp (c_eq C.toBX) (e_ix C.toBX (e_var C.toBX) e_int) e_int) (s_and1 (t_cmp c_lt (e_ix C.toBX (e_var C.toBX) e_int) (e_len C.toBX G.b_len (e_var C.toBX))))))) (s_seq (x_set C.toBX x_st (e_ix C.toBX (e_var C.toBX) (e_ix C.toBX (e_var C.toBX) e_int))) (s_seq (x_put e_loc e_int (e_add C.toBX (e_ix C.toBX (e_var C.toBX) e_int) e_int)) (s_seq (s_if (t_cmp c_lt (e_var C.toBX) (e_pow e_int e_int)) (s_one (x_ret (e_mod (e_intF G.b_int (e_call C F.c__law_mixed (a_cons (e_var C.toBX) (a_cons (e_ix C.toBX (e_var C.toBX) e_int) a_nil)))) (e_var C.toBX)))) s_nil) (s_seq (x_put e_loc e_int (e_var C.toBX)) (s_one (x_put e_loc e_int e_int)))))) s_nil) (s_seq (s_if (PW.pt (s_or (t_cmp (c_eq C.toBX) (e_ix C.toBX (e_var C.toBX) e_int) e_int) (s_or1 (t_cmp (c_eq C.toBX) (e_ix C.toBX (e_var C.toBX) e_int) e_int)))) (s_one (x_ret (e_mod (e_intF G.b_int (e_call C F.c__law_mixed (a_cons (e_ix C.toBX (e_ix C.toBX (e_var C.toBX) e_int) (e_mod (e_intF G.b_int (e_ix C.toBX (e_var C.toBX) e_int)) (e_len C.toBX G.b_len (e_var C.toBX)))) (a_cons (e_ix C.toBX (e_var C.toBX) e_int) a_nil)))) (e_var C.toBX)))) s_nil) (s_seq (x_set C.toBX x_st (e_mod (e_intF G.b_int (e_ix C.toBX (e_var C.toBX) e_int)) (e_var C.toBX))) (s_seq (x_put e_loc e_int (e_sub (e_ix C.toBX (e_var C.toBX) e_int) e_int)) (s_seq (x_put e_loc e_int (e_mul (e_div (e_intF G.b_int (e_ix C.toBX (e_var C.toBX) e_int)) (e_var C.toBX)) (e_intF G.b_int (e_cmp c_gt (e_ix C.toBX (e_var C.toBX) e_int) e_int)))) (s_one (x_ret (e_var C.toBX)))))))))))
theorem sc__law_start : FnScope ["_law_script", "_law_state", "_law_cell"] ["_law_script"] (defScope (top 36)) := ⟨rfl, rfl, rfl, by decide +kernel, rfl, by decide +kernel, by decide +kernel⟩
theorem p__law_start (G : Gx P mg kx) (F : Fs P w mg base kx k call) (C : CX (cxOf (L2.CX P w) P w kx.K mg base ["_law_script", "_law_state", "_law_cell"] "_law_start" (defScope (top 36)) f cdv A outer s H E) ⟨kx, [], call, fun cls d _ H' => E cls d H', none⟩ k) : PSs (cxOf (L2.CX P w) P w kx.K mg base ["_law_script", "_law_state", "_law_cell"] "_law_start" (defScope (top 36)) f cdv A outer s H E) (defBody (top 36)) (rdS ⟨kx, [], call, fun cls d _ H' => E cls d H', none⟩ b__law_start) :=
  (s_seq (x_set C.toBX x_st (e_lst (l_cons (e_list C.toBX G.b_list (e_var C.toBX)) (l_cons e_int (l_cons e_int (l_cons e_int (l_cons e_int (l_cons e_int (l_cons (e_comp C [("_law_cell", 2)] (i_any C.toBX (e_var C.toBX)) (fun _ _ _ _ _ => (g_nm x_st)) (fun _ _ _ _ _ C => q_nil) (fun _ _ _ _ _ C => (e_mod (e_intF G.b_int (e_var C.toBX)) e_int))) l_nil))))))))) (s_seq (s_if (PW.pt (s_or (t_cmp (c_eq C.toBX) (e_len C.toBX G.b_len (e_var C.toBX)) e_int) (s_or1 (t_cmp (c_eq C.toBX) (e_mod (e_intF G.b_int (e_ix C.toBX (e_var C.toBX) e_int)) e_int) e_int)))) (s_one (x_put e_loc e_int e_int)) s_nil) (s_seq (x_expr (e_call C F.c__law_draw (a_cons (e_var C.toBX) (a_cons e_int a_nil)))) (s_one (x_ret (e_var C.toBX))))))
theorem sc__law_same : FnScope ["_law_actual", "_law_due", "_law_k"] ["_law_actual", "_law_due"] (defScope (top 37)) := ⟨rfl, rfl, rfl, by decide +kernel, rfl, by decide +kernel, by decide +kernel⟩
theorem p__law_same (G : Gx P mg kx) (F : Fs P w mg base kx k call) (C : CX (cxOf (L2.CX P w) P w kx.K mg base ["_law_actual", "_law_due", "_law_k"] "_law_same" (defScope (top 37)) f cdv A outer s H E) ⟨kx, [], call, fun cls d _ H' => E cls d H', none⟩ k) : PSs (cxOf (L2.CX P w) P w kx.K mg base ["_law_actual", "_law_due", "_law_k"] "_law_same" (defScope (top 37)) f cdv A outer s H E) (defBody (top 37)) (rdS ⟨kx, [], call, fun cls d _ H' => E cls d H', none⟩ b__law_same) :=
  (s_seq (s_if (PW.pt (s_or (t_tr C.toBX (e_isi (c := .tT) C.toBX G.b_isinstance G.b_tuple (e_var C.toBX))) (s_or1 (t_tr C.toBX (e_isi (c := .tL) C.toBX G.b_isinstance G.b_list (e_var C.toBX)))))) (s_seq (s_if (PW.pt (s_or (t_cmp (c_ne C.toBX) (e_isi (c := .tT) C.toBX G.b_isinstance G.b_tuple (e_var C.toBX)) (e_isi (c := .tT) C.toBX G.b_isinstance G.b_tuple (e_var C.toBX))) (s_or1 (t_cmp (c_ne C.toBX) (e_isi (c := .tL) C.toBX G.b_isinstance G.b_list (e_var C.toBX)) (e_isi (c := .tL) C.toBX G.b_isinstance G.b_list (e_var C.toBX)))))) (s_one (x_ret e_bl)) s_nil) (s_seq (s_if (t_cmp (c_ne C.toBX) (e_len C.toBX G.b_len (e_var C.toBX)) (e_len C.toBX G.b_len (e_var C.toBX))) (s_one (x_ret e_bl)) s_nil) (s_seq (x_for C (g_nm x_st) (i_range1 G.b_range (e_len C.toBX G.b_len (e_var C.toBX))) (s_one (s_if (t_not (t_tr C.toBX (e_call C F.c__law_same (a_cons (e_ix C.toBX (e_var C.toBX) (e_var C.toBX)) (a_cons (e_ix C.toBX (e_var C.toBX) (e_var C.toBX)) a_nil))))) (s_one (x_ret e_bl)) s_nil))) (s_one (x_ret e_bl))))) s_nil) (s_seq (s_if (t_cmp c_isN (e_var C.toBX) e_non) (s_one (x_ret (e_cmp c_isN (e_var C.toBX) e_non))) s_nil) (s_seq (s_if (t_tr C.toBX (e_isi (c := .tB) C.toBX G.b_isinstance G.b_bool (e_var C.toBX))) (s_one (x_ret (s_andV (e_isi (c := .tB) C.toBX G.b_isinstance G.b_bool (e_var C.toBX)) (s_oneV (e_cmp (c_eq C.toBX) (e_var C.toBX) (e_var C.toBX)))))) s_nil) (s_seq (s_if (t_tr C.toBX (e_isi (c := .tI) C.toBX G.b_isinstance G.b_int (e_var C.toBX))) (s_one (x_ret (s_andV (e_isi (c := .tI) C.toBX G.b_isinstance G.b_int (e_var C.toBX)) (s_andV (s_notV (e_isi (c := .tB) C.toBX G.b_isinstance G.b_bool (e_var C.toBX))) (s_oneV (e_cmp (c_eq C.toBX) (e_var C.toBX) (e_var C.toBX))))))) s_nil) (s_one (x_ret (s_andV (e_isi (c := .tS) C.toBX G.b_isinstance G.b_str (e_var C.toBX)) (s_oneV (e_cmp (c_eq C.toBX) (e_var C.toBX) (e_var C.toBX))))))))))
theorem sc__law_pool : FnScope ["_law_state", "_law_letters", "_law_base", "_law_k", "_law_words", "_law_at", "_law_letter", "_law_kind", "_law_word", "_law_j"] ["_law_state"] (defScope (top 38)) := ⟨rfl, rfl, rfl, by decide +kernel, rfl, by decide +kernel, by decide +kernel⟩
theorem p__law_pool (G : Gx P mg kx) (F : Fs P w mg base kx k call) (C : CX (cxOf (L2.CX P w) P w kx.K mg base ["_law_state", "_law_letters", "_law_base", "_law_k", "_law_words", "_law_at", "_law_letter", "_law_kind", "_law_word", "_law_j"] "_law_pool" (defScope (top 38)) f cdv A outer s H E) ⟨kx, [0], call, fun cls d _ H' => E cls d H', none⟩ k) : PSs (cxOf (L2.CX P w) P w kx.K mg base ["_law_state", "_law_letters", "_law_base", "_law_k", "_law_words", "_law_at", "_law_letter", "_law_kind", "_law_word", "_law_j"] "_law_pool" (defScope (top 38)) f cdv A outer s H E) (defBody (top 38)) (rdS ⟨kx, [0], call, fun cls d _ H' => E cls d H', none⟩ b__law_pool) :=
  (s_seq (x_set C.toBX x_st (e_str [97, 98, 99, 100, 101, 102, 103, 104, 105, 106, 107, 108, 109, 110, 111, 112, 113, 114, 115, 116, 117, 118, 119, 120, 121, 122])) (s_seq (x_set C.toBX x_st (e_join C.toBX (e_str []) (e_comp C [("_law_k", 3)] (i_range1 G.b_range (e_add C.toBX e_int (e_call C F.c__law_draw (a_cons (e_var C.toBX) (a_cons e_int a_nil))))) (fun _ _ _ _ _ => (g_nm x_st)) (fun _ _ _ _ _ C => q_nil) (fun _ _ _ _ _ C => (e_ix C.toBX (e_var C.toBX) (e_call C F.c__law_draw (a_cons (e_var C.toBX) (a_cons e_int a_nil)))))))) (s_seq (x_set C.toBX x_st (e_lst (l_cons (e_var C.toBX) l_nil))) (s_seq (x_for C (g_nm x_st) (i_range1 G.b_range (e_add C.toBX e_int (e_call C F.c__law_draw (a_cons (e_var C.toBX) (a_cons e_int a_nil))))) (s_seq (x_set C.toBX x_st (e_call C F.c__law_draw (a_cons (e_var C.toBX) (a_cons (e_len C.toBX G.b_len (e_var C.toBX)) a_nil)))) (s_seq (x_set C.toBX x_st (e_ix C.toBX (e_var C.toBX) (e_call C F.c__law_draw (a_cons (e_var C.toBX) (a_cons e_int a_nil))))) (s_seq (x_set C.toBX x_st (e_call C F.c__law_draw (a_cons (e_var C.toBX) (a_cons e_int a_nil)))) (s_seq (x_set C.toBX x_st (e_add C.toBX (e_add C.toBX (e_sl C.toBX (e_var C.toBX) s_part0 (s_part1 (e_var C.toBX))) (e_var C.toBX)) (e_sl C.toBX (e_var C.toBX) (s_part1 (e_add C.toBX (e_var C.toBX) e_int)) s_part0))) (s_seq (s_if (t_cmp (c_eq C.toBX) (e_var C.toBX) e_int) (s_one (x_set C.toBX x_st (e_add C.toBX (e_sl C.toBX (e_var C.toBX) s_part0 (s_part1 (e_var C.toBX))) (e_sl C.toBX (e_var C.toBX) (s_part1 (e_add C.toBX (e_var C.toBX) e_int)) s_part0)))) s_nil) (s_seq (s_if (t_cmp (c_eq C.toBX) (e_var C.toBX) e_int) (s_one (x_set C.toBX x_st (e_sl C.toBX (e_add C.toBX (e_add C.toBX (e_sl C.toBX (e_var C.toBX) s_part0 (s_part1 (e_var C.toBX))) (e_var C.toBX)) (e_sl C.toBX (e_var C.toBX) (s_part1 (e_var C.toBX)) s_part0)) s_part0 (s_part1 e_int)))) s_nil) (s_seq (s_if (t_cmp (c_eq C.toBX) (e_var C.toBX) e_int) (s_one (x_set C.toBX x_st (e_join C.toBX (e_str []) (e_comp C [("_law_j", 9)] (i_range1 G.b_range (e_add C.toBX e_int (e_call C F.c__law_draw (a_cons (e_var C.toBX) (a_cons e_int a_nil))))) (fun _ _ _ _ _ => (g_nm x_st)) (fun _ _ _ _ _ C => q_nil) (fun _ _ _ _ _ C => (e_ix C.toBX (e_var C.toBX) (e_call C F.c__law_draw (a_cons (e_var C.toBX) (a_cons e_int a_nil))))))))) s_nil) (s_one (s_if (PW.pt (s_and (t_cmp (c_ne C.toBX) (e_var C.toBX) (e_str [])) (s_and1 (t_cmp (c_notIn C.toBX) (e_var C.toBX) (e_var C.toBX))))) (s_one (x_expr (e_app e_loc (e_var C.toBX)))) s_nil)))))))))) (s_one (x_ret (e_var C.toBX)))))))
theorem sc__law_grown : FnScope ["_law_state", "_law_words", "_law_most", "_law_deep", "_law_size", "_law_kind", "_law_flat", "_law_low", "_law_k", "_law_step_here"] ["_law_state", "_law_words", "_law_most", "_law_deep"] (defScope (top 39)) := ⟨rfl, rfl, rfl, by decide +kernel, rfl, by decide +kernel, by decide +kernel⟩
theorem p__law_grown (G : Gx P mg kx) (F : Fs P w mg base kx k call) (C : CX (cxOf (L2.CX P w) P w kx.K mg base ["_law_state", "_law_words", "_law_most", "_law_deep", "_law_size", "_law_kind", "_law_flat", "_law_low", "_law_k", "_law_step_here"] "_law_grown" (defScope (top 39)) f cdv A outer s H E) ⟨kx, [0], call, fun cls d _ H' => E cls d H', none⟩ k) : PSs (cxOf (L2.CX P w) P w kx.K mg base ["_law_state", "_law_words", "_law_most", "_law_deep", "_law_size", "_law_kind", "_law_flat", "_law_low", "_law_k", "_law_step_here"] "_law_grown" (defScope (top 39)) f cdv A outer s H E) (defBody (top 39)) (rdS ⟨kx, [0], call, fun cls d _ H' => E cls d H', none⟩ b__law_grown) :=
  (s_seq (x_set C.toBX x_st (e_ix C.toBX (e_lst (l_cons (e_call C F.c__law_draw (a_cons (e_var C.toBX) (a_cons (e_add C.toBX (e_var C.toBX) e_int) a_nil))) (l_cons (e_call C F.c__law_draw (a_cons (e_var C.toBX) (a_cons (e_add C.toBX (e_var C.toBX) e_int) a_nil))) (l_cons (e_var C.toBX) (l_cons (e_call C F.c__law_draw (a_cons (e_var C.toBX) (a_cons e_int a_nil))) l_nil))))) (e_call C F.c__law_draw (a_cons (e_var C.toBX) (a_cons e_int a_nil))))) (s_seq (x_set C.toBX x_st (e_call C F.c__law_draw (a_cons (e_var C.toBX) (a_cons e_int a_nil)))) (s_seq (x_set C.toBX x_st (e_lst l_nil)) (s_seq (x_set C.toBX x_st (e_neg e_int)) (s_seq (x_for C (g_nm x_st) (i_range1 G.b_range (e_var C.toBX)) (s_seq (x_set C.toBX x_st (e_call C F.c__law_draw (a_cons (e_var C.toBX) (a_cons (e_min2 C G.b_min (e_intF G.b_int (e_add C.toBX (e_var C.toBX) e_int)) (e_intF G.b_int (e_var C.toBX))) a_nil)))) (s_seq (s_if (t_cmp (c_eq C.toBX) (e_var C.toBX) e_int) (s_one (x_set C.toBX x_st (e_min2 C G.b_min (e_intF G.b_int (e_add C.toBX (e_var C.toBX) e_int)) (e_intF G.b_int (e_sub (e_var C.toBX) e_int))))) s_nil) (s_seq (s_if (t_cmp (c_eq C.toBX) (e_var C.toBX) e_int) (s_one (x_set C.toBX x_st e_int)) s_nil) (s_seq (x_set C.toBX x_st (e_var C.toBX)) (s_one (x_expr (e_app e_loc (e_tup (l_cons (e_var C.toBX) (l_cons (e_ix C.toBX (e_var C.toBX) (e_call C F.c__law_draw (a_cons (e_var C.toBX) (a_cons (e_len C.toBX G.b_len (e_var C.toBX)) a_nil)))) l_nil))))))))))) (s_one (x_ret (e_var C.toBX))))))))
theorem sc__law_planted : FnScope ["_law_flat", "_law_rows", "_law_k", "_law_deep"] ["_law_flat"] (defScope (top 40)) := ⟨rfl, rfl, rfl, by decide +kernel, rfl, by decide +kernel, by decide +kernel⟩
theorem p__law_planted (G : Gx P mg kx) (F : Fs P w mg base kx k call) (C : CX (cxOf (L2.CX P w) P w kx.K mg base ["_law_flat", "_law_rows", "_law_k", "_law_deep"] "_law_planted" (defScope (top 40)) f cdv A outer s H E) ⟨kx, [], call, fun cls d _ H' => E cls d H', none⟩ k) : PSs (cxOf (L2.CX P w) P w kx.K mg base ["_law_flat", "_law_rows", "_law_k", "_law_deep"] "_law_planted" (defScope (top 40)) f cdv A outer s H E) (defBody (top 40)) (rdS ⟨kx, [], call, fun cls d _ H' => E cls d H', none⟩ b__law_planted) :=
  (s_seq (x_setC C [("_law_k", 2)] x_st (i_range1 G.b_range e_int) (fun _ _ _ _ _ => (g_nm x_st)) (fun _ _ _ _ _ C => q_nil) (fun _ _ _ _ _ C => (e_tup l_nil))) (s_seq (x_for C (g_nm x_st) (i_rev1 G.b_reversed G.b_range (e_len C.toBX G.b_len (e_var C.toBX))) (s_seq (x_set C.toBX x_st (e_ix C.toBX (e_ix C.toBX (e_var C.toBX) (e_var C.toBX)) e_int)) (s_seq (x_put e_loc (e_var C.toBX) (e_add C.toBX (e_tup (l_cons (e_tup (l_cons (e_var C.toBX) (l_cons (e_ix C.toBX (e_ix C.toBX (e_var C.toBX) (e_var C.toBX)) e_int) (l_cons (e_ix C.toBX (e_var C.toBX) (e_add C.toBX (e_var C.toBX) e_int)) l_nil)))) l_nil)) (e_ix C.toBX (e_var C.toBX) (e_var C.toBX)))) (s_one (x_put e_loc (e_add C.toBX (e_var C.toBX) e_int) (e_tup l_nil)))))) (s_one (x_ret (e_ix C.toBX (e_var C.toBX) e_int)))))
theorem sc__law_plain : FnScope ["_law_row", "_law_node"] ["_law_row"] (defScope (top 41)) := ⟨rfl, rfl, rfl, by decide +kernel, rfl, by decide +kernel, by decide +kernel⟩
theorem p__law_plain (G : Gx P mg kx) (F : Fs P w mg base kx k call) (C : CX (cxOf (L2.CX P w) P w kx.K mg base ["_law_row", "_law_node"] "_law_plain" (defScope (top 41)) f cdv A outer s H E) ⟨kx, [], call, fun cls d _ H' => E cls d H', none⟩ k) : PSs (cxOf (L2.CX P w) P w kx.K mg base ["_law_row", "_law_node"] "_law_plain" (defScope (top 41)) f cdv A outer s H E) (defBody (top 41)) (rdS ⟨kx, [], call, fun cls d _ H' => E cls d H', none⟩ b__law_plain) :=
  (s_one (x_ret (e_tuple C.toBX G.b_tuple (e_comp C [("_law_node", 1)] (i_any C.toBX (e_var C.toBX)) (fun _ _ _ _ _ => (g_nm x_st)) (fun _ _ _ _ _ C => q_nil) (fun _ _ _ _ _ C => (e_tup (l_cons (e_ix C.toBX (e_var C.toBX) e_int) (l_cons (e_call C F.c__law_plain (a_cons (e_ix C.toBX (e_var C.toBX) e_int) a_nil)) l_nil))))))))
theorem sc__law_listed : FnScope ["_law_row", "_law_path", "_law_found", "_law_k"] ["_law_row", "_law_path"] (defScope (top 42)) := ⟨rfl, rfl, rfl, by decide +kernel, rfl, by decide +kernel, by decide +kernel⟩
theorem p__law_listed (G : Gx P mg kx) (F : Fs P w mg base kx k call) (C : CX (cxOf (L2.CX P w) P w kx.K mg base ["_law_row", "_law_path", "_law_found", "_law_k"] "_law_listed" (defScope (top 42)) f cdv A outer s H E) ⟨kx, [], call, fun cls d _ H' => E cls d H', none⟩ k) : PSs (cxOf (L2.CX P w) P w kx.K mg base ["_law_row", "_law_path", "_law_found", "_law_k"] "_law_listed" (defScope (top 42)) f cdv A outer s H E) (defBody (top 42)) (rdS ⟨kx, [], call, fun cls d _ H' => E cls d H', none⟩ b__law_listed) :=
  (s_seq (x_set C.toBX x_st (e_lst l_nil)) (s_seq (x_for C (g_nm x_st) (i_range1 G.b_range (e_len C.toBX G.b_len (e_var C.toBX))) (s_seq (x_expr (e_app e_loc (e_tup (l_cons (e_ix C.toBX (e_ix C.toBX (e_var C.toBX) (e_var C.toBX)) e_int) (l_cons (e_ix C.toBX (e_ix C.toBX (e_var C.toBX) (e_var C.toBX)) e_int) (l_cons (e_add C.toBX (e_var C.toBX) (e_tup (l_cons (e_var C.toBX) l_nil))) l_nil)))))) (s_one (x_set C.toBX x_st (e_add C.toBX (e_var C.toBX) (e_call C F.c__law_listed (a_cons (e_ix C.toBX (e_ix C.toBX (e_var C.toBX) (e_var C.toBX)) e_int) (a_cons (e_add C.toBX (e_var C.toBX) (e_tup (l_cons (e_var C.toBX) l_nil))) a_nil)))))))) (s_one (x_ret (e_var C.toBX)))))
theorem sc__law_stepped : FnScope ["_law_row", "_law_path", "_law_step_here", "_law_at", "_law_inner"] ["_law_row", "_law_path", "_law_step_here"] (defScope (top 43)) := ⟨rfl, rfl, rfl, by decide +kernel, rfl, by decide +kernel, by decide +kernel⟩
theorem p__law_stepped (G : Gx P mg kx) (F : Fs P w mg base kx k call) (C : CX (cxOf (L2.CX P w) P w kx.K mg base ["_law_row", "_law_path", "_law_step_here", "_law_at", "_law_inner"] "_law_stepped" (defScope (top 43)) f cdv A outer s H E) ⟨kx, [], call, fun cls d _ H' => E cls d H', none⟩ k) : PSs (cxOf (L2.CX P w) P w kx.K mg base ["_law_row", "_law_path", "_law_step_here", "_law_at", "_law_inner"] "_law_stepped" (defScope (top 43)) f cdv A outer s H E) (defBody (top 43)) (rdS ⟨kx, [], call, fun cls d _ H' => E cls d H', none⟩ b__law_stepped) :=
  (s_seq (x_set C.toBX x_st (e_ix C.toBX (e_var C.toBX) e_int)) (s_seq (s_if (t_cmp c_gt (e_len C.toBX G.b_len (e_var C.toBX)) e_int) (s_seq (s_if (t_cmp c_ge (e_var C.toBX) (e_len C.toBX G.b_len (e_var C.toBX))) (s_one (x_ret e_non)) s_nil) (s_seq (x_set C.toBX x_st (e_call C F.c__law_stepped (a_cons (e_ix C.toBX (e_ix C.toBX (e_var C.toBX) (e_var C.toBX)) e_int) (a_cons (e_sl C.toBX (e_var C.toBX) (s_part1 e_int) s_part0) (a_cons (e_var C.toBX) a_nil))))) (s_seq (s_if (t_cmp c_isN (e_var C.toBX) e_non) (s_one (x_ret e_non)) s_nil) (s_one (x_ret (e_add C.toBX (e_add C.toBX (e_sl C.toBX (e_var C.toBX) s_part0 (s_part1 (e_var C.toBX))) (e_tup (l_cons (e_tup (l_cons (e_ix C.toBX (e_ix C.toBX (e_var C.toBX) (e_var C.toBX)) e_int) (l_cons (e_ix C.toBX (e_ix C.toBX (e_var C.toBX) (e_var C.toBX)) e_int) (l_cons (e_var C.toBX) l_nil)))) l_nil))) (e_sl C.toBX (e_var C.toBX) (s_part1 (e_add C.toBX (e_var C.toBX) e_int)) s_part0))))))) s_nil) (s_seq (s_if (t_cmp (c_eq C.toBX) (e_ix C.toBX (e_var C.toBX) e_int) (e_str [97, 100, 100])) (s_seq (s_if (t_cmp c_gt (e_add C.toBX (e_var C.toBX) (e_ix C.toBX (e_var C.toBX) e_int)) (e_len C.toBX G.b_len (e_var C.toBX))) (s_one (x_ret e_non)) s_nil) (s_one (x_ret (e_add C.toBX (e_add C.toBX (e_sl C.toBX (e_var C.toBX) s_part0 (s_part1 (e_var C.toBX))) (e_tup (l_cons (e_tup (l_cons (e_neg e_int) (l_cons (e_ix C.toBX (e_var C.toBX) e_int) (l_cons (e_sl C.toBX (e_var C.toBX) (s_part1 (e_var C.toBX)) (s_part1 (e_add C.toBX (e_var C.toBX) (e_ix C.toBX (e_var C.toBX) e_int)))) l_nil)))) l_nil))) (e_sl C.toBX (e_var C.toBX) (s_part1 (e_add C.toBX (e_var C.toBX) (e_ix C.toBX (e_var C.toBX) e_int))) s_part0))))) s_nil) (s_seq (s_if (t_cmp c_ge (e_var C.toBX) (e_len C.toBX G.b_len (e_var C.toBX))) (s_one (x_ret e_non)) s_nil) (s_seq (s_if (t_cmp (c_eq C.toBX) (e_ix C.toBX (e_var C.toBX) e_int) (e_str [99, 104, 97, 110, 103, 101])) (s_one (x_ret (e_add C.toBX (e_add C.toBX (e_sl C.toBX (e_var C.toBX) s_part0 (s_part1 (e_var C.toBX))) (e_tup (l_cons (e_tup (l_cons (e_ix C.toBX (e_ix C.toBX (e_var C.toBX) (e_var C.toBX)) e_int) (l_cons (e_ix C.toBX (e_var C.toBX) e_int) (l_cons (e_ix C.toBX (e_ix C.toBX (e_var C.toBX) (e_var C.toBX)) e_int) l_nil)))) l_nil))) (e_sl C.toBX (e_var C.toBX) (s_part1 (e_add C.toBX (e_var C.toBX) e_int)) s_part0)))) s_nil) (s_one (x_ret (e_add C.toBX (e_add C.toBX (e_sl C.toBX (e_var C.toBX) s_part0 (s_part1 (e_var C.toBX))) (e_ix C.toBX (e_ix C.toBX (e_var C.toBX) (e_var C.toBX)) e_int)) (e_sl C.toBX (e_var C.toBX) (s_part1 (e_add C.toBX (e_var C.toBX) e_int)) s_part0)))))))))
theorem sc__law_change : FnScope ["_law_prices_here", "_law_word", "_law_other", "_law_row"] ["_law_prices_here", "_law_word", "_law_other"] (defScope (top 44)) := ⟨rfl, rfl, rfl, by decide +kernel, rfl, by decide +kernel, by decide +kernel⟩
theorem p__law_change (G : Gx P mg kx) (F : Fs P w mg base kx k call) (C : CX (cxOf (L2.CX P w) P w kx.K mg base ["_law_prices_here", "_law_word", "_law_other", "_law_row"] "_law_change" (defScope (top 44)) f cdv A outer s H E) ⟨kx, [], call, fun cls d _ H' => E cls d H', none⟩ k) : PSs (cxOf (L2.CX P w) P w kx.K mg base ["_law_prices_here", "_law_word", "_law_other", "_law_row"] "_law_change" (defScope (top 44)) f cdv A outer s H E) (defBody (top 44)) (rdS ⟨kx, [], call, fun cls d _ H' => E cls d H', none⟩ b__law_change) :=
  (s_seq (s_if (t_cmp (c_eq C.toBX) (e_var C.toBX) (e_var C.toBX)) (s_one (x_ret e_int)) s_nil) (s_seq (x_for C (g_nm x_st) (i_any C.toBX (e_ix C.toBX (e_var C.toBX) e_int)) (s_one (s_if (PW.pt (s_and (t_cmp (c_eq C.toBX) (e_ix C.toBX (e_var C.toBX) e_int) (e_var C.toBX)) (s_and1 (t_cmp (c_eq C.toBX) (e_ix C.toBX (e_var C.toBX) e_int) (e_var C.toBX))))) (s_one (x_ret (e_ix C.toBX (e_var C.toBX) e_int))) s_nil))) (s_one (x_ret (e_ix C.toBX (e_var C.toBX) e_int)))))
theorem sc__law_prices : FnScope ["_law_state", "_law_words", "_law_low", "_law_drop", "_law_add", "_law_change_here", "_law_chained_here", "_law_row", "_law_table", "_law_k", "_law_word", "_law_other", "_law_price"] ["_law_state", "_law_words"] (defScope (top 45)) := ⟨rfl, rfl, rfl, by decide +kernel, rfl, by decide +kernel, by decide +kernel⟩
theorem p__law_prices (G : Gx P mg kx) (F : Fs P w mg base kx k call) (C : CX (cxOf (L2.CX P w) P w kx.K mg base ["_law_state", "_law_words", "_law_low", "_law_drop", "_law_add", "_law_change_here", "_law_chained_here", "_law_row", "_law_table", "_law_k", "_law_word", "_law_other", "_law_price"] "_law_prices" (defScope (top 45)) f cdv A outer s H E) ⟨kx, [0], call, fun cls d _ H' => E cls d H', none⟩ k) : PSs (cxOf (L2.CX P w) P w kx.K mg base ["_law_state", "_law_words", "_law_low", "_law_drop", "_law_add", "_law_change_here", "_law_chained_here", "_law_row", "_law_table", "_law_k", "_law_word", "_law_other", "_law_price"] "_law_prices" (defScope (top 45)) f cdv A outer s H E) (defBody (top 45)) (rdS ⟨kx, [0], call, fun cls d _ H' => E cls d H', none⟩ b__law_prices) :=
  (s_seq (x_set C.toBX x_st (e_call C F.c__law_draw (a_cons (e_var C.toBX) (a_cons e_int a_nil)))) (s_seq (s_if (t_cmp (c_eq C.toBX) (e_call C F.c__law_draw (a_cons (e_var C.toBX) (a_cons e_int a_nil))) e_int) (s_one (x_set C.toBX x_st (e_call C F.c__law_draw (a_cons (e_var C.toBX) (a_cons e_int a_nil))))) s_nil) (s_seq (x_set C.toBX x_st (e_call C F.c__law_draw (a_cons (e_var C.toBX) (a_cons e_int a_nil)))) (s_seq (x_set C.toBX x_st (e_max2 C G.b_max e_int (e_intF G.b_int (e_sub (e_mul e_int (e_var C.toBX)) (e_var C.toBX))))) (s_seq (x_set C.toBX x_st (e_add C.toBX (e_var C.toBX) (e_call C F.c__law_draw (a_cons (e_var C.toBX) (a_cons (e_sub e_int (e_var C.toBX)) a_nil))))) (s_seq (x_set C.toBX x_st (e_add C.toBX (e_var C.toBX) (e_call C F.c__law_draw (a_cons (e_var C.toBX) (a_cons (e_add C.toBX (e_var C.toBX) e_int) a_nil))))) (s_seq (x_set C.toBX x_st (e_cmp (c_eq C.toBX) (e_call C F.c__law_draw (a_cons (e_var C.toBX) (a_cons e_int a_nil))) e_int)) (s_seq (s_if (t_not (t_tr C.toBX (e_var C.toBX))) (s_seq (x_set C.toBX x_st (e_lst (l_cons e_int (l_cons e_int (l_cons (e_call C F.c__law_draw (a_cons (e_var C.toBX) (a_cons e_int a_nil))) (l_cons e_int (l_cons (e_call C F.c__law_draw (a_cons (e_var C.toBX) (a_cons e_int a_nil))) l_nil))))))) (s_seq (x_set C.toBX x_st (e_ix C.toBX (e_var C.toBX) (e_call C F.c__law_draw (a_cons (e_var C.toBX) (a_cons e_int a_nil))))) (s_seq (x_set C.toBX x_st (e_ix C.toBX (e_var C.toBX) (e_call C F.c__law_draw (a_cons (e_var C.toBX) (a_cons e_int a_nil))))) (s_one (x_set C.toBX x_st (e_ix C.toBX (e_var C.toBX) (e_call C F.c__law_draw (a_cons (e_var C.toBX) (a_cons e_int a_nil))))))))) s_nil) (s_seq (x_set C.toBX x_st (e_lst l_nil)) (s_seq (x_for C (g_nm x_st) (i_range1 G.b_range (e_call C F.c__law_draw (a_cons (e_var C.toBX) (a_cons e_int a_nil)))) (s_seq (x_set C.toBX x_st (e_ix C.toBX (e_var C.toBX) (e_call C F.c__law_draw (a_cons (e_var C.toBX) (a_cons (e_len C.toBX G.b_len (e_var C.toBX)) a_nil))))) (s_seq (x_set C.toBX x_st (e_ix C.toBX (e_var C.toBX) (e_call C F.c__law_draw (a_cons (e_var C.toBX) (a_cons (e_len C.toBX G.b_len (e_var C.toBX)) a_nil))))) (s_seq (x_set C.toBX x_st (e_add C.toBX (e_var C.toBX) (e_call C F.c__law_draw (a_cons (e_var C.toBX) (a_cons (e_add C.toBX (e_var C.toBX) e_int) a_nil))))) (s_seq (s_if (t_not (t_tr C.toBX (e_var C.toBX))) (s_one (x_set C.toBX x_st (e_call C F.c__law_draw (a_cons (e_var C.toBX) (a_cons e_int a_nil))))) s_nil) (s_one (s_if (PW.pt (s_and (t_cmp (c_ne C.toBX) (e_var C.toBX) (e_var C.toBX)) (s_and1 (t_cmp (c_notIn C.toBX) (e_tup (l_cons (e_var C.toBX) (l_cons (e_var C.toBX) l_nil))) (e_comp C [("_law_row", 7)] (i_any C.toBX (e_var C.toBX)) (fun _ _ _ _ _ => (g_nm x_st)) (fun _ _ _ _ _ C => q_nil) (fun _ _ _ _ _ C => (e_sl C.toBX (e_var C.toBX) s_part0 (s_part1 e_int)))))))) (s_one (x_expr (e_app e_loc (e_tup (l_cons (e_var C.toBX) (l_cons (e_var C.toBX) (l_cons (e_var C.toBX) l_nil))))))) s_nil))))))) (s_one (x_ret (e_tup (l_cons (e_var C.toBX) (l_cons (e_var C.toBX) (l_cons (e_var C.toBX) (l_cons (e_tuple C.toBX G.b_tuple (e_var C.toBX)) l_nil)))))))))))))))))
theorem sc__law_chained : FnScope ["_law_prices_here", "_law_words", "_law_word", "_law_other", "_law_change_here", "_law_between"] ["_law_prices_here", "_law_words"] (defScope (top 46)) := ⟨rfl, rfl, rfl, by decide +kernel, rfl, by decide +kernel, by decide +kernel⟩
theorem p__law_chained (G : Gx P mg kx) (F : Fs P w mg base kx k call) (C : CX (cxOf (L2.CX P w) P w kx.K mg base ["_law_prices_here", "_law_words", "_law_word", "_law_other", "_law_change_here", "_law_between"] "_law_chained" (defScope (top 46)) f cdv A outer s H E) ⟨kx, [], call, fun cls d _ H' => E cls d H', none⟩ k) : PSs (cxOf (L2.CX P w) P w kx.K mg base ["_law_prices_here", "_law_words", "_law_word", "_law_other", "_law_change_here", "_law_between"] "_law_chained" (defScope (top 46)) f cdv A outer s H E) (defBody (top 46)) (rdS ⟨kx, [], call, fun cls d _ H' => E cls d H', none⟩ b__law_chained) :=
  (s_seq (x_for C (g_nm x_st) (i_any C.toBX (e_var C.toBX)) (s_one (x_for C (g_nm x_st) (i_any C.toBX (e_var C.toBX)) (s_seq (x_set C.toBX x_st (e_call C F.c__law_change (a_cons (e_var C.toBX) (a_cons (e_var C.toBX) (a_cons (e_var C.toBX) a_nil))))) (s_seq (s_if (t_cmp c_gt (e_var C.toBX) (e_add C.toBX (e_ix C.toBX (e_var C.toBX) e_int) (e_ix C.toBX (e_var C.toBX) e_int))) (s_one (x_ret e_bl)) s_nil) (s_one (x_for C (g_nm x_st) (i_any C.toBX (e_var C.toBX)) (s_one (s_if (t_cmp c_gt (e_var C.toBX) (e_add C.toBX (e_call C F.c__law_change (a_cons (e_var C.toBX) (a_cons (e_var C.toBX) (a_cons (e_var C.toBX) a_nil)))) (e_call C F.c__law_change (a_cons (e_var C.toBX) (a_cons (e_var C.toBX) (a_cons (e_var C.toBX) a_nil)))))) (s_one (x_ret e_bl)) s_nil))))))))) (s_one (x_ret e_bl)))
theorem sc__law_within : FnScope ["_law_row", "_law_most", "_law_deep", "_law_listed_here", "_law_node"] ["_law_row", "_law_most", "_law_deep"] (defScope (top 47)) := ⟨rfl, rfl, rfl, by decide +kernel, rfl, by decide +kernel, by decide +kernel⟩
theorem p__law_within (G : Gx P mg kx) (F : Fs P w mg base kx k call) (C : CX (cxOf (L2.CX P w) P w kx.K mg base ["_law_row", "_law_most", "_law_deep", "_law_listed_here", "_law_node"] "_law_within" (defScope (top 47)) f cdv A outer s H E) ⟨kx, [], call, fun cls d _ H' => E cls d H', none⟩ k) : PSs (cxOf (L2.CX P w) P w kx.K mg base ["_law_row", "_law_most", "_law_deep", "_law_listed_here", "_law_node"] "_law_within" (defScope (top 47)) f cdv A outer s H E) (defBody (top 47)) (rdS ⟨kx, [], call, fun cls d _ H' => E cls d H', none⟩ b__law_within) :=
  (s_seq (x_set C.toBX x_st (e_call C F.c__law_listed (a_cons (e_var C.toBX) (a_cons (e_tup l_nil) a_nil)))) (s_one (x_ret (s_andV (e_cmp c_le (e_len C.toBX G.b_len (e_var C.toBX)) (e_var C.toBX)) (s_oneV (e_cmp (c_eq C.toBX) (e_len C.toBX G.b_len (e_comp C [("_law_node", 4)] (i_any C.toBX (e_var C.toBX)) (fun _ _ _ _ _ => (g_nm x_st)) (fun _ _ _ _ _ C => (q_one (t_cmp c_gt (e_len C.toBX G.b_len (e_ix C.toBX (e_var C.toBX) e_int)) (e_var C.toBX)))) (fun _ _ _ _ _ C => (e_var C.toBX)))) e_int))))))
theorem sc__law_step : FnScope ["_law_state", "_law_words", "_law_row", "_law_most", "_law_deep", "_law_listed_here", "_law_word", "_law_kind", "_law_inner", "_law_path", "_law_node", "_law_many", "_law_count", "_law_step_here"] ["_law_state", "_law_words", "_law_row", "_law_most", "_law_deep"] (defScope (top 48)) := ⟨rfl, rfl, rfl, by decide +kernel, rfl, by decide +kernel, by decide +kernel⟩
theorem p__law_step (G : Gx P mg kx) (F : Fs P w mg base kx k call) (C : CX (cxOf (L2.CX P w) P w kx.K mg base ["_law_state", "_law_words", "_law_row", "_law_most", "_law_deep", "_law_listed_here", "_law_word", "_law_kind", "_law_inner", "_law_path", "_law_node", "_law_many", "_law_count", "_law_step_here"] "_law_step" (defScope (top 48)) f cdv A outer s H E) ⟨kx, [0], call, fun cls d _ H' => E cls d H', none⟩ k) : PSs (cxOf (L2.CX P w) P w kx.K mg base ["_law_state", "_law_words", "_law_row", "_law_most", "_law_deep", "_law_listed_here", "_law_word", "_law_kind", "_law_inner", "_law_path", "_law_node", "_law_many", "_law_count", "_law_step_here"] "_law_step" (defScope (top 48)) f cdv A outer s H E) (defBody (top 48)) (rdS ⟨kx, [0], call, fun cls d _ H' => E cls d H', none⟩ b__law_step) :=
  (s_seq (x_set C.toBX x_st (e_call C F.c__law_listed (a_cons (e_var C.toBX) (a_cons (e_tup l_nil) a_nil)))) (s_seq (x_set C.toBX x_st (e_ix C.toBX (e_var C.toBX) (e_call C F.c__law_draw (a_cons (e_var C.toBX) (a_cons (e_len C.toBX G.b_len (e_var C.toBX)) a_nil))))) (s_seq (x_set C.toBX x_st (e_call C F.c__law_draw (a_cons (e_var C.toBX) (a_cons e_int a_nil)))) (s_seq (s_if (PW.pt (s_or (t_cmp c_gt (e_var C.toBX) e_int) (s_or1 (t_cmp (c_eq C.toBX) (e_len C.toBX G.b_len (e_var C.toBX)) e_int)))) (s_seq (x_set C.toBX x_st (e_call C F.c__law_draw (a_cons (e_var C.toBX) (a_cons (e_add C.toBX (e_len C.toBX G.b_len (e_var C.toBX)) e_int) a_nil)))) (s_seq (x_set C.toBX x_st (e_ix C.toBX (e_add C.toBX (e_lst (l_cons (e_tup l_nil) l_nil)) (e_comp C [("_law_node", 10)] (i_any C.toBX (e_var C.toBX)) (fun _ _ _ _ _ => (g_nm x_st)) (fun _ _ _ _ _ C => q_nil) (fun _ _ _ _ _ C => (e_ix C.toBX (e_var C.toBX) e_int)))) (e_var C.toBX))) (s_seq (x_set C.toBX x_st (e_len C.toBX G.b_len (e_comp C [("_law_node", 10)] (i_any C.toBX (e_var C.toBX)) (fun _ _ _ _ _ => (g_nm x_st)) (fun _ _ _ _ _ C => (q_one (PW.pt (s_and (t_cmp (c_eq C.toBX) (e_len C.toBX G.b_len (e_ix C.toBX (e_var C.toBX) e_int)) (e_add C.toBX (e_len C.toBX G.b_len (e_var C.toBX)) e_int)) (s_and1 (t_cmp (c_eq C.toBX) (e_sl C.toBX (e_ix C.toBX (e_var C.toBX) e_int) s_part0 (s_part1 (e_len C.toBX G.b_len (e_var C.toBX)))) (e_var C.toBX))))))) (fun _ _ _ _ _ C => (e_var C.toBX))))) (s_seq (x_set C.toBX x_st (e_call C F.c__law_draw (a_cons (e_var C.toBX) (a_cons (e_add C.toBX (e_var C.toBX) e_int) a_nil)))) (s_seq (x_set C.toBX x_st (e_tup (l_cons (e_str [97, 100, 100]) (l_cons (e_add C.toBX (e_var C.toBX) (e_tup (l_cons (e_call C F.c__law_draw (a_cons (e_var C.toBX) (a_cons (e_add C.toBX (e_sub (e_var C.toBX) (e_var C.toBX)) e_int) a_nil))) l_nil))) (l_cons (e_var C.toBX) (l_cons (e_var C.toBX) l_nil)))))) (s_one (s_if (t_tr C.toBX (e_call C F.c__law_within (a_cons (e_call C F.c__law_stepped (a_cons (e_var C.toBX) (a_cons (e_ix C.toBX (e_var C.toBX) e_int) (a_cons (e_var C.toBX) a_nil)))) (a_cons (e_var C.toBX) (a_cons (e_var C.toBX) a_nil))))) (s_one (x_ret (e_var C.toBX))) s_nil))))))) s_nil) (s_seq (x_set C.toBX x_st (e_ix C.toBX (e_ix C.toBX (e_var C.toBX) (e_call C F.c__law_draw (a_cons (e_var C.toBX) (a_cons (e_len C.toBX G.b_len (e_var C.toBX)) a_nil)))) e_int)) (s_seq (s_if (t_cmp (c_eq C.toBX) (e_var C.toBX) e_int) (s_one (x_ret (e_tup (l_cons (e_str [99, 104, 97, 110, 103, 101]) (l_cons (e_var C.toBX) (l_cons (e_var C.toBX) l_nil)))))) s_nil) (s_one (x_ret (e_tup (l_cons (e_str [100, 114, 111, 112]) (l_cons (e_var C.toBX) l_nil)))))))))))
theorem sc__law_run : FnScope ["_law_row", "_law_steps", "_law_prices_here", "_law_rows", "_law_price", "_law_step_here", "_law_node"] ["_law_row", "_law_steps", "_law_prices_here"] (defScope (top 49)) := ⟨rfl, rfl, rfl, by decide +kernel, rfl, by decide +kernel, by decide +kernel⟩
theorem p__law_run (G : Gx P mg kx) (F : Fs P w mg base kx k call) (C : CX (cxOf (L2.CX P w) P w kx.K mg base ["_law_row", "_law_steps", "_law_prices_here", "_law_rows", "_law_price", "_law_step_here", "_law_node"] "_law_run" (defScope (top 49)) f cdv A outer s H E) ⟨kx, [], call, fun cls d _ H' => E cls d H', none⟩ k) : PSs (cxOf (L2.CX P w) P w kx.K mg base ["_law_row", "_law_steps", "_law_prices_here", "_law_rows", "_law_price", "_law_step_here", "_law_node"] "_law_run" (defScope (top 49)) f cdv A outer s H E) (defBody (top 49)) (rdS ⟨kx, [], call, fun cls d _ H' => E cls d H', none⟩ b__law_run) :=
  (s_seq (x_set C.toBX x_st (e_lst (l_cons (e_var C.toBX) l_nil))) (s_seq (x_set C.toBX x_st e_int) (s_seq (x_for C (g_nm x_st) (i_any C.toBX (e_var C.toBX)) (s_seq (s_if (t_cmp (c_eq C.toBX) (e_ix C.toBX (e_var C.toBX) e_int) (e_str [100, 114, 111, 112])) (s_one (x_set C.toBX x_st (e_add C.toBX (e_var C.toBX) (e_ix C.toBX (e_var C.toBX) e_int)))) (s_one (s_if (t_cmp (c_eq C.toBX) (e_ix C.toBX (e_var C.toBX) e_int) (e_str [97, 100, 100])) (s_one (x_set C.toBX x_st (e_add C.toBX (e_var C.toBX) (e_ix C.toBX (e_var C.toBX) e_int)))) (s_one (x_for C (g_nm x_st) (i_any C.toBX (e_call C F.c__law_listed (a_cons (e_var C.toBX) (a_cons (e_tup l_nil) a_nil)))) (s_one (s_if (t_cmp (c_eq C.toBX) (e_ix C.toBX (e_var C.toBX) e_int) (e_ix C.toBX (e_var C.toBX) e_int)) (s_one (x_set C.toBX x_st (e_add C.toBX (e_var C.toBX) (e_call C F.c__law_change (a_cons (e_var C.toBX) (a_cons (e_ix C.toBX (e_var C.toBX) e_int) (a_cons (e_ix C.toBX (e_var C.toBX) e_int) a_nil))))))) s_nil))))))) (s_seq (x_set C.toBX x_st (e_call C F.c__law_stepped (a_cons (e_var C.toBX) (a_cons (e_ix C.toBX (e_var C.toBX) e_int) (a_cons (e_var C.toBX) a_nil))))) (s_one (x_expr (e_app e_loc (e_var C.toBX))))))) (s_one (x_ret (e_tup (l_cons (e_var C.toBX) (l_cons (e_var C.toBX) l_nil))))))))
theorem sc__law_no_path : FnScope ["_law_state"] ["_law_state"] (defScope (top 50)) := ⟨rfl, rfl, rfl, by decide +kernel, rfl, by decide +kernel, by decide +kernel⟩
theorem p__law_no_path (G : Gx P mg kx) (F : Fs P w mg base kx k call) (C : CX (cxOf (L2.CX P w) P w kx.K mg base ["_law_state"] "_law_no_path" (defScope (top 50)) f cdv A outer s H E) ⟨kx, [0], call, fun cls d _ H' => E cls d H', none⟩ k) : PSs (cxOf (L2.CX P w) P w kx.K mg base ["_law_state"] "_law_no_path" (defScope (top 50)) f cdv A outer s H E) (defBody (top 50)) (rdS ⟨kx, [0], call, fun cls d _ H' => E cls d H', none⟩ b__law_no_path) :=
  (s_one (x_ret (e_ix C.toBX (e_lst (l_cons (e_tup l_nil) (l_cons (e_tup (l_cons (e_neg e_int) l_nil)) (l_cons (e_tup (l_cons e_bl l_nil)) (l_cons (e_lst (l_cons e_int l_nil)) (l_cons (e_str [48]) (l_cons e_non (l_cons e_int (l_cons (e_tup (l_cons e_int (l_cons (e_neg e_int) l_nil))) (l_cons (e_tup (l_cons (e_str [48]) l_nil)) (l_cons (e_tup (l_cons (e_tup (l_cons e_int l_nil)) l_nil)) (l_cons (e_tup (l_cons e_int (l_cons e_bl l_nil))) l_nil)))))))))))) (e_call C F.c__law_draw (a_cons (e_var C.toBX) (a_cons e_int a_nil))))))
theorem sc__law_no_word : FnScope ["_law_state"] ["_law_state"] (defScope (top 51)) := ⟨rfl, rfl, rfl, by decide +kernel, rfl, by decide +kernel, by decide +kernel⟩
theorem p__law_no_word (G : Gx P mg kx) (F : Fs P w mg base kx k call) (C : CX (cxOf (L2.CX P w) P w kx.K mg base ["_law_state"] "_law_no_word" (defScope (top 51)) f cdv A outer s H E) ⟨kx, [0], call, fun cls d _ H' => E cls d H', none⟩ k) : PSs (cxOf (L2.CX P w) P w kx.K mg base ["_law_state"] "_law_no_word" (defScope (top 51)) f cdv A outer s H E) (defBody (top 51)) (rdS ⟨kx, [0], call, fun cls d _ H' => E cls d H', none⟩ b__law_no_word) :=
  (s_one (x_ret (e_ix C.toBX (e_lst (l_cons (e_str []) (l_cons (e_str [65]) (l_cons (e_str [97, 66]) (l_cons (e_str [97, 49]) (l_cons (e_str [97, 98, 99, 100, 101, 102, 103, 104, 105]) (l_cons (e_str [97, 32, 98]) (l_cons e_int (l_cons e_non (l_cons e_bl (l_cons (e_tup (l_cons (e_str [97]) l_nil)) (l_cons (e_str [97, 44]) l_nil)))))))))))) (e_call C F.c__law_draw (a_cons (e_var C.toBX) (a_cons e_int a_nil))))))
theorem sc__law_no_step : FnScope ["_law_state", "_law_word", "_law_kind", "_law_path", "_law_bad_here"] ["_law_state", "_law_word"] (defScope (top 52)) := ⟨rfl, rfl, rfl, by decide +kernel, rfl, by decide +kernel, by decide +kernel⟩
theorem p__law_no_step (G : Gx P mg kx) (F : Fs P w mg base kx k call) (C : CX (cxOf (L2.CX P w) P w kx.K mg base ["_law_state", "_law_word", "_law_kind", "_law_path", "_law_bad_here"] "_law_no_step" (defScope (top 52)) f cdv A outer s H E) ⟨kx, [0], call, fun cls d _ H' => E cls d H', none⟩ k) : PSs (cxOf (L2.CX P w) P w kx.K mg base ["_law_state", "_law_word", "_law_kind", "_law_path", "_law_bad_here"] "_law_no_step" (defScope (top 52)) f cdv A outer s H E) (defBody (top 52)) (rdS ⟨kx, [0], call, fun cls d _ H' => E cls d H', none⟩ b__law_no_step) :=
  (s_seq (x_set C.toBX x_st (e_call C F.c__law_draw (a_cons (e_var C.toBX) (a_cons e_int a_nil)))) (s_seq (s_if (t_cmp c_lt (e_var C.toBX) e_int) (s_seq (x_set C.toBX x_st (e_call C F.c__law_no_path (a_cons (e_var C.toBX) a_nil))) (s_one (x_ret (e_ix C.toBX (e_lst (l_cons (e_tup (l_cons (e_str [99, 104, 97, 110, 103, 101]) (l_cons (e_var C.toBX) (l_cons (e_var C.toBX) l_nil)))) (l_cons (e_tup (l_cons (e_str [100, 114, 111, 112]) (l_cons (e_var C.toBX) l_nil))) (l_cons (e_tup (l_cons (e_str [97, 100, 100]) (l_cons (e_var C.toBX) (l_cons e_int (l_cons (e_var C.toBX) l_nil))))) l_nil)))) (e_var C.toBX))))) s_nil) (s_seq (s_if (t_cmp c_lt (e_var C.toBX) e_int) (s_seq (x_set C.toBX x_st (e_call C F.c__law_no_word (a_cons (e_var C.toBX) a_nil))) (s_one (x_ret (e_ix C.toBX (e_lst (l_cons (e_tup (l_cons (e_str [99, 104, 97, 110, 103, 101]) (l_cons (e_tup (l_cons e_int l_nil)) (l_cons (e_var C.toBX) l_nil)))) (l_cons (e_tup (l_cons (e_str [97, 100, 100]) (l_cons (e_tup (l_cons e_int l_nil)) (l_cons e_int (l_cons (e_var C.toBX) l_nil))))) l_nil))) (e_sub (e_var C.toBX) e_int))))) s_nil) (s_seq (s_if (t_cmp (c_eq C.toBX) (e_var C.toBX) e_int) (s_one (x_ret (e_tup (l_cons (e_str [97, 100, 100]) (l_cons (e_tup (l_cons e_int l_nil)) (l_cons (e_ix C.toBX (e_lst (l_cons (e_neg e_int) (l_cons e_bl (l_cons e_bl (l_cons (e_str [49]) (l_cons e_non (l_cons (e_tup (l_cons e_int l_nil)) l_nil))))))) (e_call C F.c__law_draw (a_cons (e_var C.toBX) (a_cons e_int a_nil)))) (l_cons (e_var C.toBX) l_nil))))))) s_nil) (s_seq (s_if (t_cmp (c_eq C.toBX) (e_var C.toBX) e_int) (s_one (x_ret (e_ix C.toBX (e_lst (l_cons (e_tup l_nil) (l_cons (e_tup (l_cons (e_str [100, 114, 111, 112]) l_nil)) (l_cons (e_tup (l_cons (e_str [99, 104, 97, 110, 103, 101]) (l_cons (e_tup (l_cons e_int l_nil)) l_nil))) (l_cons (e_tup (l_cons (e_str [97, 100, 100]) (l_cons (e_tup (l_cons e_int l_nil)) (l_cons e_int l_nil)))) (l_cons (e_tup (l_cons e_int l_nil)) (l_cons (e_tup (l_cons (e_tup (l_cons e_int l_nil)) (l_cons (e_str [100, 114, 111, 112]) l_nil))) l_nil))))))) (e_call C F.c__law_draw (a_cons (e_var C.toBX) (a_cons e_int a_nil)))))) s_nil) (s_seq (s_if (t_cmp (c_eq C.toBX) (e_var C.toBX) e_int) (s_one (x_ret (e_ix C.toBX (e_lst (l_cons (e_tup (l_cons (e_str [100, 114, 111, 112]) (l_cons (e_tup (l_cons e_int l_nil)) (l_cons (e_var C.toBX) l_nil)))) (l_cons (e_tup (l_cons (e_str [99, 104, 97, 110, 103, 101]) (l_cons (e_tup (l_cons e_int l_nil)) (l_cons (e_var C.toBX) (l_cons (e_var C.toBX) l_nil))))) (l_cons (e_tup (l_cons (e_str [97, 100, 100]) (l_cons (e_tup (l_cons e_int l_nil)) (l_cons e_int (l_cons (e_var C.toBX) (l_cons e_int l_nil)))))) l_nil)))) (e_call C F.c__law_draw (a_cons (e_var C.toBX) (a_cons e_int a_nil)))))) s_nil) (s_seq (s_if (t_cmp (c_eq C.toBX) (e_var C.toBX) e_int) (s_one (x_ret (e_tup (l_cons (e_ix C.toBX (e_lst (l_cons (e_str [109, 111, 118, 101]) (l_cons (e_str [68, 114, 111, 112]) (l_cons (e_str []) (l_cons (e_add C.toBX (e_var C.toBX) (e_str [120])) (l_cons e_non (l_cons e_int l_nil))))))) (e_call C F.c__law_draw (a_cons (e_var C.toBX) (a_cons e_int a_nil)))) (l_cons (e_tup (l_cons e_int l_nil)) (l_cons (e_var C.toBX) l_nil)))))) s_nil) (s_one (x_ret (e_tup (l_cons (e_ix C.toBX (e_lst (l_cons (e_str [109, 111, 118, 101]) (l_cons (e_str [99, 104, 97, 110, 103, 101, 115]) (l_cons (e_str [97, 100, 100, 32]) l_nil)))) (e_call C F.c__law_draw (a_cons (e_var C.toBX) (a_cons e_int a_nil)))) (l_cons (e_tup (l_cons e_int l_nil)) (l_cons e_int (l_cons (e_var C.toBX) l_nil))))))))))))))
theorem sc__law_misfit : FnScope ["_law_state", "_law_words", "_law_row", "_law_listed_here", "_law_path", "_law_node", "_law_many", "_law_word", "_law_beyond", "_law_kind", "_law_count"] ["_law_state", "_law_words", "_law_row"] (defScope (top 53)) := ⟨rfl, rfl, rfl, by decide +kernel, rfl, by decide +kernel, by decide +kernel⟩
theorem p__law_misfit (G : Gx P mg kx) (F : Fs P w mg base kx k call) (C : CX (cxOf (L2.CX P w) P w kx.K mg base ["_law_state", "_law_words", "_law_row", "_law_listed_here", "_law_path", "_law_node", "_law_many", "_law_word", "_law_beyond", "_law_kind", "_law_count"] "_law_misfit" (defScope (top 53)) f cdv A outer s H E) ⟨kx, [0], call, fun cls d _ H' => E cls d H', none⟩ k) : PSs (cxOf (L2.CX P w) P w kx.K mg base ["_law_state", "_law_words", "_law_row", "_law_listed_here", "_law_path", "_law_node", "_law_many", "_law_word", "_law_beyond", "_law_kind", "_law_count"] "_law_misfit" (defScope (top 53)) f cdv A outer s H E) (defBody (top 53)) (rdS ⟨kx, [0], call, fun cls d _ H' => E cls d H', none⟩ b__law_misfit) :=
  (s_seq (x_set C.toBX x_st (e_call C F.c__law_listed (a_cons (e_var C.toBX) (a_cons (e_tup l_nil) a_nil)))) (s_seq (x_set C.toBX x_st (e_ix C.toBX (e_add C.toBX (e_lst (l_cons (e_tup l_nil) l_nil)) (e_comp C [("_law_node", 5)] (i_any C.toBX (e_var C.toBX)) (fun _ _ _ _ _ => (g_nm x_st)) (fun _ _ _ _ _ C => q_nil) (fun _ _ _ _ _ C => (e_ix C.toBX (e_var C.toBX) e_int)))) (e_call C F.c__law_draw (a_cons (e_var C.toBX) (a_cons (e_add C.toBX (e_len C.toBX G.b_len (e_var C.toBX)) e_int) a_nil))))) (s_seq (x_set C.toBX x_st (e_len C.toBX G.b_len (e_comp C [("_law_node", 5)] (i_any C.toBX (e_var C.toBX)) (fun _ _ _ _ _ => (g_nm x_st)) (fun _ _ _ _ _ C => (q_one (PW.pt (s_and (t_cmp (c_eq C.toBX) (e_len C.toBX G.b_len (e_ix C.toBX (e_var C.toBX) e_int)) (e_add C.toBX (e_len C.toBX G.b_len (e_var C.toBX)) e_int)) (s_and1 (t_cmp (c_eq C.toBX) (e_sl C.toBX (e_ix C.toBX (e_var C.toBX) e_int) s_part0 (s_part1 (e_len C.toBX G.b_len (e_var C.toBX)))) (e_var C.toBX))))))) (fun _ _ _ _ _ C => (e_var C.toBX))))) (s_seq (x_set C.toBX x_st (e_ix C.toBX (e_var C.toBX) (e_call C F.c__law_draw (a_cons (e_var C.toBX) (a_cons (e_len C.toBX G.b_len (e_var C.toBX)) a_nil))))) (s_seq (x_set C.toBX x_st (e_add C.toBX (e_var C.toBX) (e_ix C.toBX (e_lst (l_cons e_int (l_cons e_int (l_cons e_int (l_cons (e_call C F.c__law_draw (a_cons (e_var C.toBX) (a_cons e_int a_nil))) (l_cons (e_sub (e_pow e_int e_int) e_int) l_nil)))))) (e_call C F.c__law_draw (a_cons (e_var C.toBX) (a_cons e_int a_nil)))))) (s_seq (x_set C.toBX x_st (e_call C F.c__law_draw (a_cons (e_var C.toBX) (a_cons e_int a_nil)))) (s_seq (s_if (t_cmp (c_eq C.toBX) (e_var C.toBX) e_int) (s_one (x_ret (e_tup (l_cons (e_str [99, 104, 97, 110, 103, 101]) (l_cons (e_add C.toBX (e_var C.toBX) (e_tup (l_cons (e_var C.toBX) l_nil))) (l_cons (e_var C.toBX) l_nil)))))) s_nil) (s_seq (s_if (t_cmp (c_eq C.toBX) (e_var C.toBX) e_int) (s_one (x_ret (e_tup (l_cons (e_str [100, 114, 111, 112]) (l_cons (e_add C.toBX (e_add C.toBX (e_var C.toBX) (e_tup (l_cons (e_var C.toBX) l_nil))) (e_ix C.toBX (e_lst (l_cons (e_tup l_nil) (l_cons (e_tup (l_cons e_int l_nil)) (l_cons (e_tup (l_cons e_int (l_cons e_int l_nil))) l_nil)))) (e_call C F.c__law_draw (a_cons (e_var C.toBX) (a_cons e_int a_nil))))) l_nil))))) s_nil) (s_seq (s_if (t_cmp (c_eq C.toBX) (e_var C.toBX) e_int) (s_one (x_ret (e_tup (l_cons (e_str [97, 100, 100]) (l_cons (e_add C.toBX (e_var C.toBX) (e_tup (l_cons (e_var C.toBX) (l_cons (e_call C F.c__law_draw (a_cons (e_var C.toBX) (a_cons e_int a_nil))) l_nil)))) (l_cons (e_call C F.c__law_draw (a_cons (e_var C.toBX) (a_cons e_int a_nil))) (l_cons (e_var C.toBX) l_nil))))))) s_nil) (s_seq (x_set C.toBX x_st (e_ix C.toBX (e_lst (l_cons e_int (l_cons e_int (l_cons (e_var C.toBX) (l_cons (e_add C.toBX (e_var C.toBX) e_int) (l_cons (e_sub (e_pow e_int e_int) e_int) l_nil)))))) (e_call C F.c__law_draw (a_cons (e_var C.toBX) (a_cons e_int a_nil))))) (s_one (x_ret (e_tup (l_cons (e_str [97, 100, 100]) (l_cons (e_add C.toBX (e_var C.toBX) (e_tup (l_cons (e_add C.toBX (e_max2 C G.b_max e_int (e_intF G.b_int (e_add C.toBX (e_sub (e_var C.toBX) (e_var C.toBX)) e_int))) (e_call C F.c__law_draw (a_cons (e_var C.toBX) (a_cons e_int a_nil)))) l_nil))) (l_cons (e_var C.toBX) (l_cons (e_var C.toBX) l_nil)))))))))))))))))
theorem sc__law_asked : FnScope ["_law_kind", "_law_a", "_law_steps", "_law_prices_here", "e"] ["_law_kind", "_law_a", "_law_steps", "_law_prices_here"] (defScope (top 54)) := ⟨rfl, rfl, rfl, by decide +kernel, rfl, by decide +kernel, by decide +kernel⟩
theorem p__law_asked (G : Gx P mg kx) (F : Fs P w mg base kx k call) (C : CX (cxOf (L2.CX P w) P w kx.K mg base ["_law_kind", "_law_a", "_law_steps", "_law_prices_here", "e"] "_law_asked" (defScope (top 54)) f cdv A outer s H E) ⟨kx, [], call, fun cls d _ H' => E cls d H', none⟩ k) : PSs (cxOf (L2.CX P w) P w kx.K mg base ["_law_kind", "_law_a", "_law_steps", "_law_prices_here", "e"] "_law_asked" (defScope (top 54)) f cdv A outer s H E) (defBody (top 54)) (rdS ⟨kx, [], call, fun cls d _ H' => E cls d H', none⟩ b__law_asked) :=
  (s_one (x_try C (fun C => (s_seq (s_if (t_cmp (c_eq C.toBX) (e_var C.toBX) e_int) (s_one (x_ret (e_call C F.c_step_on (a_cons (e_var C.toBX) (a_cons (e_var C.toBX) a_nil))))) s_nil) (s_seq (s_if (t_cmp (c_eq C.toBX) (e_var C.toBX) e_int) (s_one (x_ret (e_call C F.c_run_steps (a_cons (e_var C.toBX) (a_cons (e_var C.toBX) a_nil))))) s_nil) (s_seq (s_if (t_cmp (c_eq C.toBX) (e_var C.toBX) e_int) (s_one (x_ret (e_call C F.c_steps_price (a_cons (e_var C.toBX) (a_cons (e_var C.toBX) (a_cons (e_var C.toBX) a_nil)))))) s_nil) (s_seq (s_if (t_cmp (c_eq C.toBX) (e_var C.toBX) e_int) (s_one (x_ret (e_callK C F.q_0 (k_cons (e_var C.toBX) (k_cons (e_var C.toBX) k_nil))))) s_nil) (s_seq (s_if (t_cmp (c_eq C.toBX) (e_var C.toBX) e_int) (s_one (x_ret (e_callK C F.q_1 (k_cons (e_var C.toBX) (k_cons (e_var C.toBX) k_nil))))) s_nil) (s_one (x_ret (e_callK C F.q_2 (k_cons (e_var C.toBX) (k_cons (e_var C.toBX) (k_cons (e_var C.toBX) k_nil)))))))))))) (h_yes C G.h_InvalidForest (fun a oe cls d pn hz hf B => (s_one (x_ret (e_lst (l_cons (e_str [102, 111, 114, 101, 115, 116]) (l_cons (e_at B hz hf G.a_value) (l_cons (s_andV (e_isx B hz hf G.i_GraftError G.b_isinstance) (s_oneV (e_isx B hz hf G.i_ValueError G.b_isinstance))) l_nil))))))) (h_yes C G.h_InvalidPrices (fun a oe cls d pn hz hf B => (s_one (x_ret (e_lst (l_cons (e_str [112, 114, 105, 99, 101, 115]) (l_cons (e_at B hz hf G.a_value) (l_cons (s_andV (e_isx B hz hf G.i_GraftError G.b_isinstance) (s_oneV (e_isx B hz hf G.i_ValueError G.b_isinstance))) l_nil))))))) (h_yes C G.h_InvalidScript (fun a oe cls d pn hz hf B => (s_one (x_ret (e_lst (l_cons (e_str [115, 99, 114, 105, 112, 116]) (l_cons (e_at B hz hf G.a_value) (l_cons (s_andV (e_isx B hz hf G.i_GraftError G.b_isinstance) (s_oneV (e_isx B hz hf G.i_ValueError G.b_isinstance))) l_nil))))))) (h_yes C G.h_InvalidPath (fun a oe cls d pn hz hf B => (s_one (x_ret (e_lst (l_cons (e_str [112, 97, 116, 104]) (l_cons (e_at B hz hf G.a_path) (l_cons (s_andV (e_isx B hz hf G.i_GraftError G.b_isinstance) (s_oneV (e_isx B hz hf G.i_ValueError G.b_isinstance))) l_nil))))))) h_nil))))))
theorem sc__law_bad : FnScope ["_law_state", "_law_words", "_law_row", "_law_step_here"] ["_law_state", "_law_words", "_law_row"] (defScope (top 55)) := ⟨rfl, rfl, rfl, by decide +kernel, rfl, by decide +kernel, by decide +kernel⟩
theorem p__law_bad (G : Gx P mg kx) (F : Fs P w mg base kx k call) (C : CX (cxOf (L2.CX P w) P w kx.K mg base ["_law_state", "_law_words", "_law_row", "_law_step_here"] "_law_bad" (defScope (top 55)) f cdv A outer s H E) ⟨kx, [0], call, fun cls d _ H' => E cls d H', none⟩ k) : PSs (cxOf (L2.CX P w) P w kx.K mg base ["_law_state", "_law_words", "_law_row", "_law_step_here"] "_law_bad" (defScope (top 55)) f cdv A outer s H E) (defBody (top 55)) (rdS ⟨kx, [0], call, fun cls d _ H' => E cls d H', none⟩ b__law_bad) :=
  (s_seq (s_if (t_cmp (c_eq C.toBX) (e_call C F.c__law_draw (a_cons (e_var C.toBX) (a_cons e_int a_nil))) e_int) (s_seq (x_set C.toBX x_st (e_call C F.c__law_misfit (a_cons (e_var C.toBX) (a_cons (e_var C.toBX) (a_cons (e_var C.toBX) a_nil))))) (s_one (x_ret (e_tup (l_cons (e_var C.toBX) (l_cons (e_lst (l_cons (e_str [112, 97, 116, 104]) (l_cons (e_ix C.toBX (e_var C.toBX) e_int) (l_cons e_bl l_nil)))) l_nil)))))) s_nil) (s_seq (x_set C.toBX x_st (e_call C F.c__law_no_step (a_cons (e_var C.toBX) (a_cons (e_ix C.toBX (e_var C.toBX) e_int) a_nil)))) (s_one (x_ret (e_tup (l_cons (e_var C.toBX) (l_cons (e_lst (l_cons (e_str [115, 99, 114, 105, 112, 116]) (l_cons (e_var C.toBX) (l_cons e_bl l_nil)))) l_nil)))))))
theorem sc__law_no_forest : FnScope ["_law_state", "_law_word", "_law_bad_here", "_law_row"] ["_law_state", "_law_word"] (defScope (top 56)) := ⟨rfl, rfl, rfl, by decide +kernel, rfl, by decide +kernel, by decide +kernel⟩
theorem p__law_no_forest (G : Gx P mg kx) (F : Fs P w mg base kx k call) (C : CX (cxOf (L2.CX P w) P w kx.K mg base ["_law_state", "_law_word", "_law_bad_here", "_law_row"] "_law_no_forest" (defScope (top 56)) f cdv A outer s H E) ⟨kx, [0], call, fun cls d _ H' => E cls d H', none⟩ k) : PSs (cxOf (L2.CX P w) P w kx.K mg base ["_law_state", "_law_word", "_law_bad_here", "_law_row"] "_law_no_forest" (defScope (top 56)) f cdv A outer s H E) (defBody (top 56)) (rdS ⟨kx, [0], call, fun cls d _ H' => E cls d H', none⟩ b__law_no_forest) :=
  (s_seq (x_set C.toBX x_st (e_call C F.c__law_no_word (a_cons (e_var C.toBX) a_nil))) (s_seq (x_set C.toBX x_st (e_lst (l_cons (e_tup (l_cons (e_tup (l_cons (e_var C.toBX) l_nil)) l_nil)) (l_cons (e_lst (l_cons (e_tup (l_cons (e_var C.toBX) (l_cons (e_tup l_nil) l_nil))) l_nil)) (l_cons (e_tup (l_cons (e_var C.toBX) (l_cons (e_tup l_nil) l_nil))) (l_cons e_non (l_cons e_int (l_cons (e_var C.toBX) (l_cons e_bl (l_cons (e_tup (l_cons (e_tup (l_cons (e_var C.toBX) (l_cons (e_lst l_nil) l_nil))) l_nil)) (l_cons (e_tup (l_cons (e_tup (l_cons (e_var C.toBX) (l_cons (e_tup l_nil) (l_cons (e_tup l_nil) l_nil)))) l_nil)) (l_cons (e_tup (l_cons (e_tup (l_cons (e_var C.toBX) (l_cons (e_tup l_nil) l_nil))) l_nil)) l_nil)))))))))))) (s_one (x_ret (e_ix C.toBX (e_add C.toBX (e_var C.toBX) (e_lst (l_cons (e_tup (l_cons (e_tup (l_cons (e_var C.toBX) (l_cons (e_tup (l_cons (e_tup (l_cons (e_var C.toBX) (l_cons (e_tup l_nil) l_nil))) l_nil)) l_nil))) l_nil)) (l_cons (e_tup (l_cons (e_tup (l_cons (e_var C.toBX) (l_cons (e_tup l_nil) l_nil))) (l_cons e_non l_nil))) (l_cons (e_lst l_nil) (l_cons (e_tup (l_cons (e_tup (l_cons (e_var C.toBX) (l_cons e_non l_nil))) l_nil)) l_nil)))))) (e_call C F.c__law_draw (a_cons (e_var C.toBX) (a_cons e_int a_nil))))))))
theorem sc__law_no_prices : FnScope ["_law_state", "_law_prices_here", "_law_row"] ["_law_state", "_law_prices_here"] (defScope (top 57)) := ⟨rfl, rfl, rfl, by decide +kernel, rfl, by decide +kernel, by decide +kernel⟩
theorem p__law_no_prices (G : Gx P mg kx) (F : Fs P w mg base kx k call) (C : CX (cxOf (L2.CX P w) P w kx.K mg base ["_law_state", "_law_prices_here", "_law_row"] "_law_no_prices" (defScope (top 57)) f cdv A outer s H E) ⟨kx, [0], call, fun cls d _ H' => E cls d H', none⟩ k) : PSs (cxOf (L2.CX P w) P w kx.K mg base ["_law_state", "_law_prices_here", "_law_row"] "_law_no_prices" (defScope (top 57)) f cdv A outer s H E) (defBody (top 57)) (rdS ⟨kx, [0], call, fun cls d _ H' => E cls d H', none⟩ b__law_no_prices) :=
  (s_seq (x_set C.toBX x_st (e_lst (l_cons (e_list C.toBX G.b_list (e_var C.toBX)) (l_cons (e_sl C.toBX (e_var C.toBX) s_part0 (s_part1 e_int)) (l_cons (e_add C.toBX (e_var C.toBX) (e_tup (l_cons e_int l_nil))) (l_cons e_non (l_cons e_int (l_cons (e_add C.toBX (e_tup (l_cons (e_neg e_int) l_nil)) (e_sl C.toBX (e_var C.toBX) (s_part1 e_int) s_part0)) (l_cons (e_add C.toBX (e_tup (l_cons e_bl l_nil)) (e_sl C.toBX (e_var C.toBX) (s_part1 e_int) s_part0)) l_nil))))))))) (s_seq (x_set C.toBX x_st (e_add C.toBX (e_var C.toBX) (e_lst (l_cons (e_add C.toBX (e_sl C.toBX (e_var C.toBX) s_part0 (s_part1 e_int)) (e_tup (l_cons (e_list C.toBX G.b_list (e_ix C.toBX (e_var C.toBX) e_int)) l_nil))) (l_cons (e_add C.toBX (e_add C.toBX (e_sl C.toBX (e_var C.toBX) s_part0 (s_part1 e_int)) (e_tup (l_cons (e_str [49]) l_nil))) (e_sl C.toBX (e_var C.toBX) (s_part1 e_int) s_part0)) (l_cons (e_add C.toBX (e_sl C.toBX (e_var C.toBX) s_part0 (s_part1 e_int)) (e_tup (l_cons (e_tup (l_cons (e_tup (l_cons (e_str [97]) (l_cons (e_str [97]) (l_cons e_int l_nil)))) l_nil)) l_nil))) l_nil)))))) (s_seq (x_set C.toBX x_st (e_add C.toBX (e_var C.toBX) (e_lst (l_cons (e_add C.toBX (e_sl C.toBX (e_var C.toBX) s_part0 (s_part1 e_int)) (e_tup (l_cons (e_tup (l_cons (e_tup (l_cons (e_str [97]) (l_cons (e_str [98]) (l_cons e_int l_nil)))) (l_cons (e_tup (l_cons (e_str [97]) (l_cons (e_str [98]) (l_cons e_int l_nil)))) l_nil))) l_nil))) (l_cons (e_add C.toBX (e_sl C.toBX (e_var C.toBX) s_part0 (s_part1 e_int)) (e_tup (l_cons (e_tup (l_cons (e_tup (l_cons (e_str [97]) (l_cons (e_str [98]) (l_cons (e_neg e_int) l_nil)))) l_nil)) l_nil))) l_nil))))) (s_one (x_ret (e_ix C.toBX (e_add C.toBX (e_var C.toBX) (e_lst (l_cons (e_add C.toBX (e_sl C.toBX (e_var C.toBX) s_part0 (s_part1 e_int)) (e_tup (l_cons (e_tup (l_cons (e_tup (l_cons (e_str [97]) (l_cons (e_str [66]) (l_cons e_int l_nil)))) l_nil)) l_nil))) (l_cons (e_add C.toBX (e_sl C.toBX (e_var C.toBX) s_part0 (s_part1 e_int)) (e_tup (l_cons (e_tup (l_cons (e_tup (l_cons (e_str [97]) (l_cons (e_str [98]) l_nil))) l_nil)) l_nil))) l_nil)))) (e_call C F.c__law_draw (a_cons (e_var C.toBX) (a_cons e_int a_nil)))))))))
theorem sc_law : FnScope ["_law_script", "_law_state", "_law_words", "_law_prices_here", "_law_row", "_law_steps", "_law_here", "_law_k", "_law_run_here", "_law_a", "_law_named", "_law_due", "_law_at", "_law_bad_here", "_law_wrong", "_law_passed"] ["_law_script"] (defScope (top 58)) := ⟨rfl, rfl, rfl, by decide +kernel, rfl, by decide +kernel, by decide +kernel⟩
theorem p_law (G : Gx P mg kx) (F : Fs P w mg base kx k call) (C : CX (cxOf (L2.CX P w) P w kx.K mg base ["_law_script", "_law_state", "_law_words", "_law_prices_here", "_law_row", "_law_steps", "_law_here", "_law_k", "_law_run_here", "_law_a", "_law_named", "_law_due", "_law_at", "_law_bad_here", "_law_wrong", "_law_passed"] "law" (defScope (top 58)) f cdv A outer s H E) ⟨kx, [], call, fun cls d _ H' => E cls d H', none⟩ k) : PSs (cxOf (L2.CX P w) P w kx.K mg base ["_law_script", "_law_state", "_law_words", "_law_prices_here", "_law_row", "_law_steps", "_law_here", "_law_k", "_law_run_here", "_law_a", "_law_named", "_law_due", "_law_at", "_law_bad_here", "_law_wrong", "_law_passed"] "law" (defScope (top 58)) f cdv A outer s H E) (defBody (top 58)) (rdS ⟨kx, [], call, fun cls d _ H' => E cls d H', none⟩ b_law) :=
  (s_seq (x_set C.toBX x_st (e_call C F.c__law_start (a_cons (e_var C.toBX) a_nil))) (s_seq (x_set C.toBX x_st (e_call C F.c__law_pool (a_cons (e_var C.toBX) a_nil))) (s_seq (x_set C.toBX x_st (e_call C F.c__law_prices (a_cons (e_var C.toBX) (a_cons (e_var C.toBX) a_nil)))) (s_seq (x_set C.toBX x_st (e_call C F.c__law_planted (a_cons (e_call C F.c__law_grown (a_cons (e_var C.toBX) (a_cons (e_var C.toBX) (a_cons e_int (a_cons e_int a_nil))))) a_nil))) (s_seq (x_set C.toBX x_st (e_lst l_nil)) (s_seq (x_set C.toBX x_st (e_var C.toBX)) (s_seq (x_for C (g_nm x_st) (i_range1 G.b_range (e_call C F.c__law_draw (a_cons (e_var C.toBX) (a_cons e_int a_nil)))) (s_seq (x_expr (e_app e_loc (e_call C F.c__law_step (a_cons (e_var C.toBX) (a_cons (e_var C.toBX) (a_cons (e_var C.toBX) (a_cons e_int (a_cons e_int a_nil)))))))) (s_one (x_set C.toBX x_st (e_call C F.c__law_stepped (a_cons (e_var C.toBX) (a_cons (e_ix C.toBX (e_ix C.toBX (e_var C.toBX) (e_var C.toBX)) e_int) (a_cons (e_ix C.toBX (e_var C.toBX) (e_var C.toBX)) a_nil)))))))) (s_seq (x_set C.toBX x_st (e_call C F.c__law_run (a_cons (e_var C.toBX) (a_cons (e_var C.toBX) (a_cons (e_var C.toBX) a_nil))))) (s_seq (x_set C.toBX x_st (e_call C F.c__law_plain (a_cons (e_var C.toBX) a_nil))) (s_seq (x_set C.toBX x_st (e_mul e_int (e_call C F.c__law_draw (a_cons (e_var C.toBX) (a_cons e_int a_nil))))) (s_seq (x_for C (g_nm x_st) (i_range1 G.b_range (e_len C.toBX G.b_len (e_var C.toBX))) (s_one (s_if (t_not (t_tr C.toBX (e_call C F.c__law_same (a_cons (e_call C F.c__law_asked (a_cons (e_var C.toBX) (a_cons (e_call C F.c__law_plain (a_cons (e_ix C.toBX (e_ix C.toBX (e_var C.toBX) e_int) (e_var C.toBX)) a_nil)) (a_cons (e_ix C.toBX (e_var C.toBX) (e_var C.toBX)) (a_cons (e_var C.toBX) a_nil))))) (a_cons (e_call C F.c__law_plain (a_cons (e_ix C.toBX (e_ix C.toBX (e_var C.toBX) e_int) (e_add C.toBX (e_var C.toBX) e_int)) a_nil)) a_nil))))) (s_one (x_ret e_bl)) s_nil))) (s_seq (s_if (t_not (t_tr C.toBX (e_call C F.c__law_same (a_cons (e_call C F.c__law_asked (a_cons e_int (a_cons (e_var C.toBX) (a_cons (e_tuple C.toBX G.b_tuple (e_var C.toBX)) (a_cons (e_var C.toBX) a_nil))))) (a_cons (e_call C F.c__law_plain (a_cons (e_var C.toBX) a_nil)) a_nil))))) (s_one (x_ret e_bl)) s_nil) (s_seq (x_set C.toBX x_st (e_lst (l_cons (e_call C F.c__law_plain (a_cons (e_var C.toBX) a_nil)) (l_cons (e_ix C.toBX (e_var C.toBX) e_int) l_nil)))) (s_seq (s_if (t_cmp (c_eq C.toBX) (e_call C F.c__law_draw (a_cons (e_var C.toBX) (a_cons e_int a_nil))) e_int) (s_seq (x_set C.toBX x_st (e_call C F.c__law_draw (a_cons (e_var C.toBX) (a_cons (e_add C.toBX (e_len C.toBX G.b_len (e_var C.toBX)) e_int) a_nil)))) (s_seq (x_set C.toBX x_st (e_call C F.c__law_bad (a_cons (e_var C.toBX) (a_cons (e_var C.toBX) (a_cons (e_ix C.toBX (e_ix C.toBX (e_var C.toBX) e_int) (e_var C.toBX)) a_nil))))) (s_seq (x_set C.toBX x_st (e_lst (l_cons (e_ix C.toBX (e_var C.toBX) e_int) (l_cons (e_ix C.toBX (e_var C.toBX) e_int) l_nil)))) (s_seq (s_if (t_not (t_tr C.toBX (e_call C F.c__law_same (a_cons (e_call C F.c__law_asked (a_cons e_int (a_cons (e_call C F.c__law_plain (a_cons (e_ix C.toBX (e_ix C.toBX (e_var C.toBX) e_int) (e_var C.toBX)) a_nil)) (a_cons (e_ix C.toBX (e_var C.toBX) e_int) (a_cons (e_var C.toBX) a_nil))))) (a_cons (e_ix C.toBX (e_var C.toBX) e_int) a_nil))))) (s_one (x_ret e_bl)) s_nil) (s_seq (x_set C.toBX x_st (e_add C.toBX (e_add C.toBX (e_sl C.toBX (e_var C.toBX) s_part0 (s_part1 (e_var C.toBX))) (e_lst (l_cons (e_ix C.toBX (e_var C.toBX) e_int) l_nil))) (e_sl C.toBX (e_var C.toBX) (s_part1 (e_var C.toBX)) s_part0))) (s_one (s_if (t_cmp (c_eq C.toBX) (e_call C F.c__law_draw (a_cons (e_var C.toBX) (a_cons e_int a_nil))) e_int) (s_one (x_expr (e_ins e_loc (e_add C.toBX (e_add C.toBX (e_var C.toBX) e_int) (e_call C F.c__law_draw (a_cons (e_var C.toBX) (a_cons (e_sub (e_len C.toBX G.b_len (e_var C.toBX)) (e_var C.toBX)) a_nil)))) (e_ix C.toBX (e_call C F.c__law_bad (a_cons (e_var C.toBX) (a_cons (e_var C.toBX) (a_cons (e_var C.toBX) a_nil)))) e_int)))) s_nil))))))) s_nil) (s_seq (x_set C.toBX x_st (e_call C F.c__law_draw (a_cons (e_var C.toBX) (a_cons e_int a_nil)))) (s_seq (s_if (t_cmp (c_eq C.toBX) (e_var C.toBX) e_int) (s_seq (x_set C.toBX x_st (e_call C F.c__law_no_forest (a_cons (e_var C.toBX) (a_cons (e_ix C.toBX (e_var C.toBX) e_int) a_nil)))) (s_one (x_set C.toBX x_st (e_lst (l_cons (e_lst (l_cons (e_str [102, 111, 114, 101, 115, 116]) (l_cons (e_var C.toBX) (l_cons e_bl l_nil)))) (l_cons (e_lst (l_cons (e_str [102, 111, 114, 101, 115, 116]) (l_cons (e_var C.toBX) (l_cons e_bl l_nil)))) l_nil)))))) s_nil) (s_seq (s_if (t_cmp (c_eq C.toBX) (e_var C.toBX) e_int) (s_seq (x_set C.toBX x_st (e_call C F.c__law_no_prices (a_cons (e_var C.toBX) (a_cons (e_var C.toBX) a_nil)))) (s_one (x_put e_loc e_int (e_lst (l_cons (e_str [112, 114, 105, 99, 101, 115]) (l_cons (e_var C.toBX) (l_cons e_bl l_nil))))))) s_nil) (s_seq (x_set C.toBX x_st (e_list C.toBX G.b_list (e_var C.toBX))) (s_seq (s_if (PW.pt (s_or (t_not (t_tr C.toBX (e_call C F.c__law_same (a_cons (e_call C F.c__law_asked (a_cons (e_add C.toBX (e_var C.toBX) e_int) (a_cons (e_var C.toBX) (a_cons (e_var C.toBX) (a_cons (e_var C.toBX) a_nil))))) (a_cons (e_ix C.toBX (e_var C.toBX) e_int) a_nil))))) (s_or1 (t_not (t_tr C.toBX (e_call C F.c__law_same (a_cons (e_var C.toBX) (a_cons (e_var C.toBX) a_nil)))))))) (s_one (x_ret e_bl)) s_nil) (s_one (x_ret (s_andV (e_call C F.c__law_same (a_cons (e_call C F.c__law_asked (a_cons (e_add C.toBX (e_var C.toBX) e_int) (a_cons (e_var C.toBX) (a_cons (e_var C.toBX) (a_cons (e_var C.toBX) a_nil))))) (a_cons (e_ix C.toBX (e_var C.toBX) e_int) a_nil))) (s_oneV (e_call C F.c__law_same (a_cons (e_var C.toBX) (a_cons (e_var C.toBX) a_nil))))))))))))))))))))))))))
end
end Gbk20
set_option Elab.async false
set_option linter.all false
set_option maxRecDepth 100000
set_option maxHeartbeats 0
/-! printed by gen.py: the defs of the row as small semantics, and that their bodies keep it -/
namespace Gbk20
open PySem PySem.Spec L2 Gr
abbrev Pg : Program := PySem.Challenge.pw_graftbook_k20_steps_run
def dD (x : Str) (i : Nat) : He.DefD := ⟨(x, none), x, x, defArgs (top i), defBody (top i), defScope (top i), [], []⟩
def fn : List He.DefD := [dD "is_int" 9, dD "is_count" 10, dD "has_size" 11, dD "is_word" 12, dD "_are_triples" 14, dD "is_prices" 15, dD "need_prices" 16, dD "price_between" 17, dD "is_forest_value" 19, dD "need_forest" 20, dD "_is_path" 22, dD "is_step" 23, dD "row_at" 24, dD "_with_row" 25, dD "_row_behind" 26, dD "moved_by" 27, dD "_checked_move" 28, dD "step_on" 29, dD "run_steps" 30, dD "_tree_there" 31, dD "steps_price" 32, dD "_law_mixed" 34, dD "_law_draw" 35, dD "_law_start" 36, dD "_law_same" 37, dD "_law_pool" 38, dD "_law_grown" 39, dD "_law_planted" 40, dD "_law_plain" 41, dD "_law_listed" 42, dD "_law_stepped" 43, dD "_law_change" 44, dD "_law_prices" 45, dD "_law_chained" 46, dD "_law_within" 47, dD "_law_step" 48, dD "_law_run" 49, dD "_law_no_path" 50, dD "_law_no_word" 51, dD "_law_no_step" 52, dD "_law_misfit" 53, dD "_law_asked" 54, dD "_law_bad" 55, dD "_law_no_forest" 56, dD "_law_no_prices" 57, dD "law" 58]
def fa : List He.Fa := [.glo "is_int", .glo "is_count", .glo "has_size", .glo "is_word", .glo "_are_triples", .glo "is_prices", .glo "need_prices", .glo "price_between", .glo "is_forest_value", .glo "need_forest", .glo "_is_path", .glo "is_step", .glo "row_at", .glo "_with_row", .glo "_row_behind", .glo "moved_by", .glo "_checked_move", .glo "step_on", .glo "run_steps", .glo "_tree_there", .glo "steps_price", .glo "_law_mixed", .glo "_law_draw", .glo "_law_start", .glo "_law_same", .glo "_law_pool", .glo "_law_grown", .glo "_law_planted", .glo "_law_plain", .glo "_law_listed", .glo "_law_stepped", .glo "_law_change", .glo "_law_prices", .glo "_law_chained", .glo "_law_within", .glo "_law_step", .glo "_law_run", .glo "_law_no_path", .glo "_law_no_word", .glo "_law_no_step", .glo "_law_misfit", .glo "_law_asked", .glo "_law_bad", .glo "_law_no_forest", .glo "_law_no_prices", .glo "law", .free "ValueError", .free "all", .free "bool", .free "int", .free "isinstance", .free "len", .free "list", .free "max", .free "min", .free "range", .free "reversed", .free "str", .free "tuple", .str "LETTERS" "abcdefghijklmnopqrstuvwxyz", .int "MOST_LETTERS" 8, .exm "GraftError" "GraftError" true, .exm "InvalidForest" "GraftError" true, .exm "InvalidPrices" "GraftError" true, .exm "InvalidScript" "GraftError" true, .exm "InvalidPath" "GraftError" true, .exm "GraftError" "InvalidForest" false, .exm "InvalidForest" "InvalidForest" true, .exm "InvalidPrices" "InvalidForest" false, .exm "InvalidScript" "InvalidForest" false, .exm "InvalidPath" "InvalidForest" false, .exm "GraftError" "InvalidPrices" false, .exm "InvalidForest" "InvalidPrices" false, .exm "InvalidPrices" "InvalidPrices" true, .exm "InvalidScript" "InvalidPrices" false, .exm "InvalidPath" "InvalidPrices" false, .exm "GraftError" "InvalidScript" false, .exm "InvalidForest" "InvalidScript" false, .exm "InvalidPrices" "InvalidScript" false, .exm "InvalidScript" "InvalidScript" true, .exm "InvalidPath" "InvalidScript" false, .exm "GraftError" "InvalidPath" false, .exm "InvalidForest" "InvalidPath" false, .exm "InvalidPrices" "InvalidPath" false, .exm "InvalidScript" "InvalidPath" false, .exm "InvalidPath" "InvalidPath" true]
def cl : List Str := ["GraftError", "InvalidForest", "InvalidPrices", "InvalidScript", "InvalidPath"]
def xd_InvalidForest : XD := ⟨"InvalidForest", "InvalidForest.__init__", ["value"], defArgs (iniOf (top 2)), defBody (iniOf (top 2)), defScope (iniOf (top 2))⟩
theorem xs_InvalidForest : PySem.GrX.XS Pg ["value"] (defArgs (iniOf (top 2))) (defBody (iniOf (top 2))) (defScope (iniOf (top 2))) :=
  ⟨⟨_, _, _, _, _, _, _, _, [⟨"value", _, _, _, _⟩], rfl, rfl, rfl⟩, ⟨_, rfl, rfl⟩, by decide +kernel, rfl, rfl, by decide +kernel, by decide +kernel, rfl, rfl, rfl, by decide +kernel, by decide +kernel, by decide, fun us hl s K q kV doc pm an cda cc ct => match us, hl with | [_, _], _ => .of_eq (by first | rfl | with_unfolding_all rfl)⟩
def xd_InvalidPrices : XD := ⟨"InvalidPrices", "InvalidPrices.__init__", ["value"], defArgs (iniOf (top 3)), defBody (iniOf (top 3)), defScope (iniOf (top 3))⟩
theorem xs_InvalidPrices : PySem.GrX.XS Pg ["value"] (defArgs (iniOf (top 3))) (defBody (iniOf (top 3))) (defScope (iniOf (top 3))) :=
  ⟨⟨_, _, _, _, _, _, _, _, [⟨"value", _, _, _, _⟩], rfl, rfl, rfl⟩, ⟨_, rfl, rfl⟩, by decide +kernel, rfl, rfl, by decide +kernel, by decide +kernel, rfl, rfl, rfl, by decide +kernel, by decide +kernel, by decide, fun us hl s K q kV doc pm an cda cc ct => match us, hl with | [_, _], _ => .of_eq (by first | rfl | with_unfolding_all rfl)⟩
def xd_InvalidScript : XD := ⟨"InvalidScript", "InvalidScript.__init__", ["value"], defArgs (iniOf (top 4)), defBody (iniOf (top 4)), defScope (iniOf (top 4))⟩
theorem xs_InvalidScript : PySem.GrX.XS Pg ["value"] (defArgs (iniOf (top 4))) (defBody (iniOf (top 4))) (defScope (iniOf (top 4))) :=
  ⟨⟨_, _, _, _, _, _, _, _, [⟨"value", _, _, _, _⟩], rfl, rfl, rfl⟩, ⟨_, rfl, rfl⟩, by decide +kernel, rfl, rfl, by decide +kernel, by decide +kernel, rfl, rfl, rfl, by decide +kernel, by decide +kernel, by decide, fun us hl s K q kV doc pm an cda cc ct => match us, hl with | [_, _], _ => .of_eq (by first | rfl | with_unfolding_all rfl)⟩
def xd_InvalidPath : XD := ⟨"InvalidPath", "InvalidPath.__init__", ["path"], defArgs (iniOf (top 5)), defBody (iniOf (top 5)), defScope (iniOf (top 5))⟩
theorem xs_InvalidPath : PySem.GrX.XS Pg ["path"] (defArgs (iniOf (top 5))) (defBody (iniOf (top 5))) (defScope (iniOf (top 5))) :=
  ⟨⟨_, _, _, _, _, _, _, _, [⟨"path", _, _, _, _⟩], rfl, rfl, rfl⟩, ⟨_, rfl, rfl⟩, by decide +kernel, rfl, rfl, by decide +kernel, by decide +kernel, rfl, rfl, rfl, by decide +kernel, by decide +kernel, by decide, fun us hl s K q kV doc pm an cda cc ct => match us, hl with | [_, _], _ => .of_eq (by first | rfl | with_unfolding_all rfl)⟩
def xsL : List XD := [xd_InvalidForest, xd_InvalidPrices, xd_InvalidScript, xd_InvalidPath]
def ats : List Str := ["value", "path"]
def dN : List Str := ("is_int" : Str) :: ("is_count" : Str) :: ("has_size" : Str) :: ("is_word" : Str) :: ("_are_triples" : Str) :: ("is_prices" : Str) :: ("need_prices" : Str) :: ("price_between" : Str) :: ("is_forest_value" : Str) :: ("need_forest" : Str) :: ("_is_path" : Str) :: ("is_step" : Str) :: ("row_at" : Str) :: ("_with_row" : Str) :: ("_row_behind" : Str) :: ("moved_by" : Str) :: ("_checked_move" : Str) :: ("step_on" : Str) :: ("run_steps" : Str) :: ("_tree_there" : Str) :: ("steps_price" : Str) :: ("_law_mixed" : Str) :: ("_law_draw" : Str) :: ("_law_start" : Str) :: ("_law_same" : Str) :: ("_law_pool" : Str) :: ("_law_grown" : Str) :: ("_law_planted" : Str) :: ("_law_plain" : Str) :: ("_law_listed" : Str) :: ("_law_stepped" : Str) :: ("_law_change" : Str) :: ("_law_prices" : Str) :: ("_law_chained" : Str) :: ("_law_within" : Str) :: ("_law_step" : Str) :: ("_law_run" : Str) :: ("_law_no_path" : Str) :: ("_law_no_word" : Str) :: ("_law_no_step" : Str) :: ("_law_misfit" : Str) :: ("_law_asked" : Str) :: ("_law_bad" : Str) :: ("_law_no_forest" : Str) :: ("_law_no_prices" : Str) :: ("law" : Str) :: []
def mkKx (K : PySem.W.Frag) : Kx := ⟨K, ats, fun i => He.ga K (cl.getD i ""), fun i => He.ga K (dN.getD i "")⟩
section
variable {K : PySem.W.Frag} {h : Heap} {mg : Str → Option Value} {w : World} {base : Heap}
theorem ats_inj {K : PySem.W.Frag} : ∀ i j : Nat, (mkKx K).ats[i]? = (mkKx K).ats[j]? → i < (mkKx K).ats.length → i = j := fun i j e hi => by
  have nd : ats.Nodup := by decide +kernel
  exact (List.getElem?_inj hi nd).mp e
theorem tk_GraftError (c : SaysE fa fn cl xsL Pg.main.file K) : ∀ (y : Nat) (b : Bool), takes 0 y = some b → PySem.W.exmOne K (.ref ((mkKx K).ca y)) (.ref (He.ga K "GraftError")) = some b := fun y b => match y with
  | 0 => fun hy => by
    cases hy
    exact of_decide_eq_true (c.d.fact 61 (f := .exm "GraftError" "GraftError" true) rfl)
  | 1 => fun hy => by
    cases hy
    exact of_decide_eq_true (c.d.fact 62 (f := .exm "InvalidForest" "GraftError" true) rfl)
  | 2 => fun hy => by
    cases hy
    exact of_decide_eq_true (c.d.fact 63 (f := .exm "InvalidPrices" "GraftError" true) rfl)
  | 3 => fun hy => by
    cases hy
    exact of_decide_eq_true (c.d.fact 64 (f := .exm "InvalidScript" "GraftError" true) rfl)
  | 4 => fun hy => by
    cases hy
    exact of_decide_eq_true (c.d.fact 65 (f := .exm "InvalidPath" "GraftError" true) rfl)
  | n + 5 => fun hy => by simp [takes, tkT] at hy
theorem tk_InvalidForest (c : SaysE fa fn cl xsL Pg.main.file K) : ∀ (y : Nat) (b : Bool), takes 1 y = some b → PySem.W.exmOne K (.ref ((mkKx K).ca y)) (.ref (He.ga K "InvalidForest")) = some b := fun y b => match y with
  | 0 => fun hy => by
    cases hy
    exact of_decide_eq_true (c.d.fact 66 (f := .exm "GraftError" "InvalidForest" false) rfl)
  | 1 => fun hy => by
    cases hy
    exact of_decide_eq_true (c.d.fact 67 (f := .exm "InvalidForest" "InvalidForest" true) rfl)
  | 2 => fun hy => by
    cases hy
    exact of_decide_eq_true (c.d.fact 68 (f := .exm "InvalidPrices" "InvalidForest" false) rfl)
  | 3 => fun hy => by
    cases hy
    exact of_decide_eq_true (c.d.fact 69 (f := .exm "InvalidScript" "InvalidForest" false) rfl)
  | 4 => fun hy => by
    cases hy
    exact of_decide_eq_true (c.d.fact 70 (f := .exm "InvalidPath" "InvalidForest" false) rfl)
  | n + 5 => fun hy => by simp [takes, tkT] at hy
theorem tk_InvalidPrices (c : SaysE fa fn cl xsL Pg.main.file K) : ∀ (y : Nat) (b : Bool), takes 2 y = some b → PySem.W.exmOne K (.ref ((mkKx K).ca y)) (.ref (He.ga K "InvalidPrices")) = some b := fun y b => match y with
  | 0 => fun hy => by
    cases hy
    exact of_decide_eq_true (c.d.fact 71 (f := .exm "GraftError" "InvalidPrices" false) rfl)
  | 1 => fun hy => by
    cases hy
    exact of_decide_eq_true (c.d.fact 72 (f := .exm "InvalidForest" "InvalidPrices" false) rfl)
  | 2 => fun hy => by
    cases hy
    exact of_decide_eq_true (c.d.fact 73 (f := .exm "InvalidPrices" "InvalidPrices" true) rfl)
  | 3 => fun hy => by
    cases hy
    exact of_decide_eq_true (c.d.fact 74 (f := .exm "InvalidScript" "InvalidPrices" false) rfl)
  | 4 => fun hy => by
    cases hy
    exact of_decide_eq_true (c.d.fact 75 (f := .exm "InvalidPath" "InvalidPrices" false) rfl)
  | n + 5 => fun hy => by simp [takes, tkT] at hy
theorem tk_InvalidScript (c : SaysE fa fn cl xsL Pg.main.file K) : ∀ (y : Nat) (b : Bool), takes 3 y = some b → PySem.W.exmOne K (.ref ((mkKx K).ca y)) (.ref (He.ga K "InvalidScript")) = some b := fun y b => match y with
  | 0 => fun hy => by
    cases hy
    exact of_decide_eq_true (c.d.fact 76 (f := .exm "GraftError" "InvalidScript" false) rfl)
  | 1 => fun hy => by
    cases hy
    exact of_decide_eq_true (c.d.fact 77 (f := .exm "InvalidForest" "InvalidScript" false) rfl)
  | 2 => fun hy => by
    cases hy
    exact of_decide_eq_true (c.d.fact 78 (f := .exm "InvalidPrices" "InvalidScript" false) rfl)
  | 3 => fun hy => by
    cases hy
    exact of_decide_eq_true (c.d.fact 79 (f := .exm "InvalidScript" "InvalidScript" true) rfl)
  | 4 => fun hy => by
    cases hy
    exact of_decide_eq_true (c.d.fact 80 (f := .exm "InvalidPath" "InvalidScript" false) rfl)
  | n + 5 => fun hy => by simp [takes, tkT] at hy
theorem tk_InvalidPath (c : SaysE fa fn cl xsL Pg.main.file K) : ∀ (y : Nat) (b : Bool), takes 4 y = some b → PySem.W.exmOne K (.ref ((mkKx K).ca y)) (.ref (He.ga K "InvalidPath")) = some b := fun y b => match y with
  | 0 => fun hy => by
    cases hy
    exact of_decide_eq_true (c.d.fact 81 (f := .exm "GraftError" "InvalidPath" false) rfl)
  | 1 => fun hy => by
    cases hy
    exact of_decide_eq_true (c.d.fact 82 (f := .exm "InvalidForest" "InvalidPath" false) rfl)
  | 2 => fun hy => by
    cases hy
    exact of_decide_eq_true (c.d.fact 83 (f := .exm "InvalidPrices" "InvalidPath" false) rfl)
  | 3 => fun hy => by
    cases hy
    exact of_decide_eq_true (c.d.fact 84 (f := .exm "InvalidScript" "InvalidPath" false) rfl)
  | 4 => fun hy => by
    cases hy
    exact of_decide_eq_true (c.d.fact 85 (f := .exm "InvalidPath" "InvalidPath" true) rfl)
  | n + 5 => fun hy => by simp [takes, tkT] at hy
theorem ok_value (X : K.In h) (Gn : h.Ns mainGlobals mg) (c : SaysE fa fn cl xsL Pg.main.file K) : ∀ y, okC 0 y = true → XR K ((mkKx K).ca y) ["value"] := fun y => match y with
  | 0 => fun hy => by simp [okC, okT] at hy
  | 1 => fun _ => ⟨(cls_ok X Gn (c.c "InvalidForest" (by decide))).ga, (cls_ok X Gn (c.c "InvalidForest" (by decide))).gg, (cls_ok X Gn (c.c "InvalidForest" (by decide))).T.exC, (cls_ok X Gn (c.c "InvalidForest" (by decide))).hdC, fun g hg => by
      have e := List.mem_singleton.mp hg
      subst e
      exact (ini_ok (P := Pg) X Gn (c.w xd_InvalidForest (by simp [xsL])) (cls_ok X Gn (c.c "InvalidForest" (by decide))) (c.i xd_InvalidForest (by simp [xsL]))).2 _ (by decide)⟩
  | 2 => fun _ => ⟨(cls_ok X Gn (c.c "InvalidPrices" (by decide))).ga, (cls_ok X Gn (c.c "InvalidPrices" (by decide))).gg, (cls_ok X Gn (c.c "InvalidPrices" (by decide))).T.exC, (cls_ok X Gn (c.c "InvalidPrices" (by decide))).hdC, fun g hg => by
      have e := List.mem_singleton.mp hg
      subst e
      exact (ini_ok (P := Pg) X Gn (c.w xd_InvalidPrices (by simp [xsL])) (cls_ok X Gn (c.c "InvalidPrices" (by decide))) (c.i xd_InvalidPrices (by simp [xsL]))).2 _ (by decide)⟩
  | 3 => fun _ => ⟨(cls_ok X Gn (c.c "InvalidScript" (by decide))).ga, (cls_ok X Gn (c.c "InvalidScript" (by decide))).gg, (cls_ok X Gn (c.c "InvalidScript" (by decide))).T.exC, (cls_ok X Gn (c.c "InvalidScript" (by decide))).hdC, fun g hg => by
      have e := List.mem_singleton.mp hg
      subst e
      exact (ini_ok (P := Pg) X Gn (c.w xd_InvalidScript (by simp [xsL])) (cls_ok X Gn (c.c "InvalidScript" (by decide))) (c.i xd_InvalidScript (by simp [xsL]))).2 _ (by decide)⟩
  | n + 4 => fun hy => by simp [okC, okT] at hy
theorem ok_path (X : K.In h) (Gn : h.Ns mainGlobals mg) (c : SaysE fa fn cl xsL Pg.main.file K) : ∀ y, okC 1 y = true → XR K ((mkKx K).ca y) ["path"] := fun y => match y with
  | 0 => fun hy => by simp [okC, okT] at hy
  | 1 => fun hy => by simp [okC, okT] at hy
  | 2 => fun hy => by simp [okC, okT] at hy
  | 3 => fun hy => by simp [okC, okT] at hy
  | 4 => fun _ => ⟨(cls_ok X Gn (c.c "InvalidPath" (by decide))).ga, (cls_ok X Gn (c.c "InvalidPath" (by decide))).gg, (cls_ok X Gn (c.c "InvalidPath" (by decide))).T.exC, (cls_ok X Gn (c.c "InvalidPath" (by decide))).hdC, fun g hg => by
      have e := List.mem_singleton.mp hg
      subst e
      exact (ini_ok (P := Pg) X Gn (c.w xd_InvalidPath (by simp [xsL])) (cls_ok X Gn (c.c "InvalidPath" (by decide))) (c.i xd_InvalidPath (by simp [xsL]))).2 _ (by decide)⟩
  | n + 5 => fun hy => by simp [okC, okT] at hy
theorem cls_all (X : K.In h) (Gn : h.Ns mainGlobals mg) (c : SaysE fa fn cl xsL Pg.main.file K) : ∀ y, y < 5 → L2.ExcC K ((mkKx K).ca y) ∧ PySem.W.subIn K (.ref ((mkKx K).ca y)) (.type "ValueError") = some true := fun y => match y with
  | 0 => fun _ => ⟨(cls_ok X Gn (c.c "GraftError" (by decide))).ex, (cls_ok X Gn (c.c "GraftError" (by decide))).ve⟩
  | 1 => fun _ => ⟨(cls_ok X Gn (c.c "InvalidForest" (by decide))).ex, (cls_ok X Gn (c.c "InvalidForest" (by decide))).ve⟩
  | 2 => fun _ => ⟨(cls_ok X Gn (c.c "InvalidPrices" (by decide))).ex, (cls_ok X Gn (c.c "InvalidPrices" (by decide))).ve⟩
  | 3 => fun _ => ⟨(cls_ok X Gn (c.c "InvalidScript" (by decide))).ex, (cls_ok X Gn (c.c "InvalidScript" (by decide))).ve⟩
  | 4 => fun _ => ⟨(cls_ok X Gn (c.c "InvalidPath" (by decide))).ex, (cls_ok X Gn (c.c "InvalidPath" (by decide))).ve⟩
  | n + 5 => fun hy => absurd hy (by omega)
theorem lt_isC : ∀ {i y : Nat}, isC i y = true → y < 5 := fun {i y} hy => by
  have key : ∀ r ∈ tkT, r.length = 5 := by decide
  have h2 : takes i y = some true := beq_iff_eq.mp hy
  unfold takes at h2
  obtain ⟨r, h3, h4⟩ := Option.bind_eq_some_iff.mp h2
  have := key r (List.mem_of_getElem? h3)
  have := (List.getElem?_eq_some_iff.mp h4).1
  omega
theorem gx (X : K.In h) (Gn : h.Ns mainGlobals mg) (c : SaysE fa fn cl xsL Pg.main.file K) : Gx Pg mg (mkKx K) := {
  b_ValueError := He.free_ok X Gn (c.d.fact 46 (f := .free "ValueError") rfl),
  b_all := He.free_ok X Gn (c.d.fact 47 (f := .free "all") rfl),
  b_bool := He.free_ok X Gn (c.d.fact 48 (f := .free "bool") rfl),
  b_int := He.free_ok X Gn (c.d.fact 49 (f := .free "int") rfl),
  b_isinstance := He.free_ok X Gn (c.d.fact 50 (f := .free "isinstance") rfl),
  b_len := He.free_ok X Gn (c.d.fact 51 (f := .free "len") rfl),
  b_list := He.free_ok X Gn (c.d.fact 52 (f := .free "list") rfl),
  b_max := He.free_ok X Gn (c.d.fact 53 (f := .free "max") rfl),
  b_min := He.free_ok X Gn (c.d.fact 54 (f := .free "min") rfl),
  b_range := He.free_ok X Gn (c.d.fact 55 (f := .free "range") rfl),
  b_reversed := He.free_ok X Gn (c.d.fact 56 (f := .free "reversed") rfl),
  b_str := He.free_ok X Gn (c.d.fact 57 (f := .free "str") rfl),
  b_tuple := He.free_ok X Gn (c.d.fact 58 (f := .free "tuple") rfl),
  k_LETTERS := He.str_ok X Gn (x := "LETTERS") (z := "abcdefghijklmnopqrstuvwxyz") (c.d.fact 59 rfl),
  k_MOST_LETTERS := He.int_ok X Gn (x := "MOST_LETTERS") (c.d.fact 60 rfl),
  h_GraftError := ⟨_, (cls_ok X Gn (c.c "GraftError" (by decide))).gm, fun y b hy => tk_GraftError c y b hy⟩,
  x_InvalidForest := ⟨(cls_ok X Gn (c.c "InvalidForest" (by decide))).gm, _, _, _, _, _, _, (ini_ok (P := Pg) X Gn (c.w xd_InvalidForest (by simp [xsL])) (cls_ok X Gn (c.c "InvalidForest" (by decide))) (c.i xd_InvalidForest (by simp [xsL]))).1, xs_InvalidForest, (ini_ok (P := Pg) X Gn (c.w xd_InvalidForest (by simp [xsL])) (cls_ok X Gn (c.c "InvalidForest" (by decide))) (c.i xd_InvalidForest (by simp [xsL]))).2, by decide, ⟨rfl, trivial⟩⟩,
  h_InvalidForest := ⟨_, (cls_ok X Gn (c.c "InvalidForest" (by decide))).gm, fun y b hy => tk_InvalidForest c y b hy⟩,
  x_InvalidPrices := ⟨(cls_ok X Gn (c.c "InvalidPrices" (by decide))).gm, _, _, _, _, _, _, (ini_ok (P := Pg) X Gn (c.w xd_InvalidPrices (by simp [xsL])) (cls_ok X Gn (c.c "InvalidPrices" (by decide))) (c.i xd_InvalidPrices (by simp [xsL]))).1, xs_InvalidPrices, (ini_ok (P := Pg) X Gn (c.w xd_InvalidPrices (by simp [xsL])) (cls_ok X Gn (c.c "InvalidPrices" (by decide))) (c.i xd_InvalidPrices (by simp [xsL]))).2, by decide, ⟨rfl, trivial⟩⟩,
  h_InvalidPrices := ⟨_, (cls_ok X Gn (c.c "InvalidPrices" (by decide))).gm, fun y b hy => tk_InvalidPrices c y b hy⟩,
  x_InvalidScript := ⟨(cls_ok X Gn (c.c "InvalidScript" (by decide))).gm, _, _, _, _, _, _, (ini_ok (P := Pg) X Gn (c.w xd_InvalidScript (by simp [xsL])) (cls_ok X Gn (c.c "InvalidScript" (by decide))) (c.i xd_InvalidScript (by simp [xsL]))).1, xs_InvalidScript, (ini_ok (P := Pg) X Gn (c.w xd_InvalidScript (by simp [xsL])) (cls_ok X Gn (c.c "InvalidScript" (by decide))) (c.i xd_InvalidScript (by simp [xsL]))).2, by decide, ⟨rfl, trivial⟩⟩,
  h_InvalidScript := ⟨_, (cls_ok X Gn (c.c "InvalidScript" (by decide))).gm, fun y b hy => tk_InvalidScript c y b hy⟩,
  x_InvalidPath := ⟨(cls_ok X Gn (c.c "InvalidPath" (by decide))).gm, _, _, _, _, _, _, (ini_ok (P := Pg) X Gn (c.w xd_InvalidPath (by simp [xsL])) (cls_ok X Gn (c.c "InvalidPath" (by decide))) (c.i xd_InvalidPath (by simp [xsL]))).1, xs_InvalidPath, (ini_ok (P := Pg) X Gn (c.w xd_InvalidPath (by simp [xsL])) (cls_ok X Gn (c.c "InvalidPath" (by decide))) (c.i xd_InvalidPath (by simp [xsL]))).2, by decide, ⟨rfl, trivial⟩⟩,
  h_InvalidPath := ⟨_, (cls_ok X Gn (c.c "InvalidPath" (by decide))).gm, fun y b hy => tk_InvalidPath c y b hy⟩,
  a_value := ⟨rfl, ats_inj, fun y hy => ok_value X Gn c y hy⟩,
  a_path := ⟨rfl, ats_inj, fun y hy => ok_path X Gn c y hy⟩,
  i_GraftError := ⟨_, _, .inl ⟨_, (cls_ok X Gn (c.c "GraftError" (by decide))).gm, rfl, rfl⟩, fun y hy => ⟨(cls_all X Gn c y (lt_isC hy)).1, kit_of_exm (tk_GraftError c y true (beq_iff_eq.mp hy))⟩⟩,
  i_ValueError := ⟨_, _, .inr ⟨He.free_ok X Gn (c.d.fact 46 (f := .free "ValueError") rfl), rfl, rfl, rfl⟩, fun y hy => ⟨(cls_all X Gn c y (of_decide_eq_true hy)).1, kit_ve (cls_all X Gn c y (of_decide_eq_true hy)).2⟩⟩
  }
theorem bd_is_int {fd : FuncData} (D : FunD K "is_int" "is_int" (defArgs (top 9)) (defBody (top 9)) (defScope (top 9)) [] [] (He.ga K "is_int") fd) : Binds K fd ["value"] [] := D.bindsN (fun _ _ _ _ _ _ us hl => match us, hl with | [_], _ => rfl)
theorem bd_is_count {fd : FuncData} (D : FunD K "is_count" "is_count" (defArgs (top 10)) (defBody (top 10)) (defScope (top 10)) [] [] (He.ga K "is_count") fd) : Binds K fd ["value"] [] := D.bindsN (fun _ _ _ _ _ _ us hl => match us, hl with | [_], _ => rfl)
theorem bd_has_size {fd : FuncData} (D : FunD K "has_size" "has_size" (defArgs (top 11)) (defBody (top 11)) (defScope (top 11)) [] [] (He.ga K "has_size") fd) : Binds K fd ["value", "size"] [] := D.bindsN (fun _ _ _ _ _ _ us hl => match us, hl with | [_, _], _ => rfl)
theorem bd_is_word {fd : FuncData} (D : FunD K "is_word" "is_word" (defArgs (top 12)) (defBody (top 12)) (defScope (top 12)) [] [] (He.ga K "is_word") fd) : Binds K fd ["value"] [] := D.bindsN (fun _ _ _ _ _ _ us hl => match us, hl with | [_], _ => rfl)
theorem bd__are_triples {fd : FuncData} (D : FunD K "_are_triples" "_are_triples" (defArgs (top 14)) (defBody (top 14)) (defScope (top 14)) [] [] (He.ga K "_are_triples") fd) : Binds K fd ["table"] [] := D.bindsN (fun _ _ _ _ _ _ us hl => match us, hl with | [_], _ => rfl)
theorem bd_is_prices {fd : FuncData} (D : FunD K "is_prices" "is_prices" (defArgs (top 15)) (defBody (top 15)) (defScope (top 15)) [] [] (He.ga K "is_prices") fd) : Binds K fd ["value"] [] := D.bindsN (fun _ _ _ _ _ _ us hl => match us, hl with | [_], _ => rfl)
theorem bd_need_prices {fd : FuncData} (D : FunD K "need_prices" "need_prices" (defArgs (top 16)) (defBody (top 16)) (defScope (top 16)) [] [] (He.ga K "need_prices") fd) : Binds K fd ["prices"] [] := D.bindsN (fun _ _ _ _ _ _ us hl => match us, hl with | [_], _ => rfl)
theorem bd_price_between {fd : FuncData} (D : FunD K "price_between" "price_between" (defArgs (top 17)) (defBody (top 17)) (defScope (top 17)) [] [] (He.ga K "price_between") fd) : Binds K fd ["prices", "word", "other"] [] := D.bindsN (fun _ _ _ _ _ _ us hl => match us, hl with | [_, _, _], _ => rfl)
theorem bd_is_forest_value {fd : FuncData} (D : FunD K "is_forest_value" "is_forest_value" (defArgs (top 19)) (defBody (top 19)) (defScope (top 19)) [] [] (He.ga K "is_forest_value") fd) : Binds K fd ["value"] [] := D.bindsN (fun _ _ _ _ _ _ us hl => match us, hl with | [_], _ => rfl)
theorem bd_need_forest {fd : FuncData} (D : FunD K "need_forest" "need_forest" (defArgs (top 20)) (defBody (top 20)) (defScope (top 20)) [] [] (He.ga K "need_forest") fd) : Binds K fd ["a"] [] := D.bindsN (fun _ _ _ _ _ _ us hl => match us, hl with | [_], _ => rfl)
theorem bd__is_path {fd : FuncData} (D : FunD K "_is_path" "_is_path" (defArgs (top 22)) (defBody (top 22)) (defScope (top 22)) [] [] (He.ga K "_is_path") fd) : Binds K fd ["value"] [] := D.bindsN (fun _ _ _ _ _ _ us hl => match us, hl with | [_], _ => rfl)
theorem bd_is_step {fd : FuncData} (D : FunD K "is_step" "is_step" (defArgs (top 23)) (defBody (top 23)) (defScope (top 23)) [] [] (He.ga K "is_step") fd) : Binds K fd ["value"] [] := D.bindsN (fun _ _ _ _ _ _ us hl => match us, hl with | [_], _ => rfl)
theorem bd_row_at {fd : FuncData} (D : FunD K "row_at" "row_at" (defArgs (top 24)) (defBody (top 24)) (defScope (top 24)) [] [] (He.ga K "row_at") fd) : Binds K fd ["a", "path"] [] := D.bindsN (fun _ _ _ _ _ _ us hl => match us, hl with | [_, _], _ => rfl)
theorem bd__with_row {fd : FuncData} (D : FunD K "_with_row" "_with_row" (defArgs (top 25)) (defBody (top 25)) (defScope (top 25)) [] [] (He.ga K "_with_row") fd) : Binds K fd ["a", "path", "row"] [] := D.bindsN (fun _ _ _ _ _ _ us hl => match us, hl with | [_, _, _], _ => rfl)
theorem bd__row_behind {fd : FuncData} (D : FunD K "_row_behind" "_row_behind" (defArgs (top 26)) (defBody (top 26)) (defScope (top 26)) [] [] (He.ga K "_row_behind") fd) : Binds K fd ["row", "step"] [] := D.bindsN (fun _ _ _ _ _ _ us hl => match us, hl with | [_, _], _ => rfl)
theorem bd_moved_by {fd : FuncData} (D : FunD K "moved_by" "moved_by" (defArgs (top 27)) (defBody (top 27)) (defScope (top 27)) [] [] (He.ga K "moved_by") fd) : Binds K fd ["a", "step"] [] := D.bindsN (fun _ _ _ _ _ _ us hl => match us, hl with | [_, _], _ => rfl)
theorem bd__checked_move {fd : FuncData} (D : FunD K "_checked_move" "_checked_move" (defArgs (top 28)) (defBody (top 28)) (defScope (top 28)) [] [] (He.ga K "_checked_move") fd) : Binds K fd ["a", "step"] [] := D.bindsN (fun _ _ _ _ _ _ us hl => match us, hl with | [_, _], _ => rfl)
theorem bd_step_on {fd : FuncData} (D : FunD K "step_on" "step_on" (defArgs (top 29)) (defBody (top 29)) (defScope (top 29)) [] [] (He.ga K "step_on") fd) : Binds K fd ["a", "step"] [] := D.bindsN (fun _ _ _ _ _ _ us hl => match us, hl with | [_, _], _ => rfl)
theorem bd_run_steps {fd : FuncData} (D : FunD K "run_steps" "run_steps" (defArgs (top 30)) (defBody (top 30)) (defScope (top 30)) [] [] (He.ga K "run_steps") fd) : Binds K fd ["a", "steps"] [] := D.bindsN (fun _ _ _ _ _ _ us hl => match us, hl with | [_, _], _ => rfl)
theorem bd__tree_there {fd : FuncData} (D : FunD K "_tree_there" "_tree_there" (defArgs (top 31)) (defBody (top 31)) (defScope (top 31)) [] [] (He.ga K "_tree_there") fd) : Binds K fd ["a", "path"] [] := D.bindsN (fun _ _ _ _ _ _ us hl => match us, hl with | [_, _], _ => rfl)
theorem bd_steps_price {fd : FuncData} (D : FunD K "steps_price" "steps_price" (defArgs (top 32)) (defBody (top 32)) (defScope (top 32)) [] [] (He.ga K "steps_price") fd) : Binds K fd ["a", "steps", "prices"] [] := D.bindsN (fun _ _ _ _ _ _ us hl => match us, hl with | [_, _, _], _ => rfl)
theorem bd__law_mixed {fd : FuncData} (D : FunD K "_law_mixed" "_law_mixed" (defArgs (top 34)) (defBody (top 34)) (defScope (top 34)) [] [] (He.ga K "_law_mixed") fd) : Binds K fd ["_law_cell", "_law_turn"] [] := D.bindsN (fun _ _ _ _ _ _ us hl => match us, hl with | [_, _], _ => rfl)
theorem bd__law_draw {fd : FuncData} (D : FunD K "_law_draw" "_law_draw" (defArgs (top 35)) (defBody (top 35)) (defScope (top 35)) [] [] (He.ga K "_law_draw") fd) : Binds K fd ["_law_state", "_law_limit"] [] := D.bindsN (fun _ _ _ _ _ _ us hl => match us, hl with | [_, _], _ => rfl)
theorem bd__law_start {fd : FuncData} (D : FunD K "_law_start" "_law_start" (defArgs (top 36)) (defBody (top 36)) (defScope (top 36)) [] [] (He.ga K "_law_start") fd) : Binds K fd ["_law_script"] [] := D.bindsN (fun _ _ _ _ _ _ us hl => match us, hl with | [_], _ => rfl)
theorem bd__law_same {fd : FuncData} (D : FunD K "_law_same" "_law_same" (defArgs (top 37)) (defBody (top 37)) (defScope (top 37)) [] [] (He.ga K "_law_same") fd) : Binds K fd ["_law_actual", "_law_due"] [] := D.bindsN (fun _ _ _ _ _ _ us hl => match us, hl with | [_, _], _ => rfl)
theorem bd__law_pool {fd : FuncData} (D : FunD K "_law_pool" "_law_pool" (defArgs (top 38)) (defBody (top 38)) (defScope (top 38)) [] [] (He.ga K "_law_pool") fd) : Binds K fd ["_law_state"] [] := D.bindsN (fun _ _ _ _ _ _ us hl => match us, hl with | [_], _ => rfl)
theorem bd__law_grown {fd : FuncData} (D : FunD K "_law_grown" "_law_grown" (defArgs (top 39)) (defBody (top 39)) (defScope (top 39)) [] [] (He.ga K "_law_grown") fd) : Binds K fd ["_law_state", "_law_words", "_law_most", "_law_deep"] [] := D.bindsN (fun _ _ _ _ _ _ us hl => match us, hl with | [_, _, _, _], _ => rfl)
theorem bd__law_planted {fd : FuncData} (D : FunD K "_law_planted" "_law_planted" (defArgs (top 40)) (defBody (top 40)) (defScope (top 40)) [] [] (He.ga K "_law_planted") fd) : Binds K fd ["_law_flat"] [] := D.bindsN (fun _ _ _ _ _ _ us hl => match us, hl with | [_], _ => rfl)
theorem bd__law_plain {fd : FuncData} (D : FunD K "_law_plain" "_law_plain" (defArgs (top 41)) (defBody (top 41)) (defScope (top 41)) [] [] (He.ga K "_law_plain") fd) : Binds K fd ["_law_row"] [] := D.bindsN (fun _ _ _ _ _ _ us hl => match us, hl with | [_], _ => rfl)
theorem bd__law_listed {fd : FuncData} (D : FunD K "_law_listed" "_law_listed" (defArgs (top 42)) (defBody (top 42)) (defScope (top 42)) [] [] (He.ga K "_law_listed") fd) : Binds K fd ["_law_row", "_law_path"] [] := D.bindsN (fun _ _ _ _ _ _ us hl => match us, hl with | [_, _], _ => rfl)
theorem bd__law_stepped {fd : FuncData} (D : FunD K "_law_stepped" "_law_stepped" (defArgs (top 43)) (defBody (top 43)) (defScope (top 43)) [] [] (He.ga K "_law_stepped") fd) : Binds K fd ["_law_row", "_law_path", "_law_step_here"] [] := D.bindsN (fun _ _ _ _ _ _ us hl => match us, hl with | [_, _, _], _ => rfl)
theorem bd__law_change {fd : FuncData} (D : FunD K "_law_change" "_law_change" (defArgs (top 44)) (defBody (top 44)) (defScope (top 44)) [] [] (He.ga K "_law_change") fd) : Binds K fd ["_law_prices_here", "_law_word", "_law_other"] [] := D.bindsN (fun _ _ _ _ _ _ us hl => match us, hl with | [_, _, _], _ => rfl)
theorem bd__law_prices {fd : FuncData} (D : FunD K "_law_prices" "_law_prices" (defArgs (top 45)) (defBody (top 45)) (defScope (top 45)) [] [] (He.ga K "_law_prices") fd) : Binds K fd ["_law_state", "_law_words"] [] := D.bindsN (fun _ _ _ _ _ _ us hl => match us, hl with | [_, _], _ => rfl)
theorem bd__law_chained {fd : FuncData} (D : FunD K "_law_chained" "_law_chained" (defArgs (top 46)) (defBody (top 46)) (defScope (top 46)) [] [] (He.ga K "_law_chained") fd) : Binds K fd ["_law_prices_here", "_law_words"] [] := D.bindsN (fun _ _ _ _ _ _ us hl => match us, hl with | [_, _], _ => rfl)
theorem bd__law_within {fd : FuncData} (D : FunD K "_law_within" "_law_within" (defArgs (top 47)) (defBody (top 47)) (defScope (top 47)) [] [] (He.ga K "_law_within") fd) : Binds K fd ["_law_row", "_law_most", "_law_deep"] [] := D.bindsN (fun _ _ _ _ _ _ us hl => match us, hl with | [_, _, _], _ => rfl)
theorem bd__law_step {fd : FuncData} (D : FunD K "_law_step" "_law_step" (defArgs (top 48)) (defBody (top 48)) (defScope (top 48)) [] [] (He.ga K "_law_step") fd) : Binds K fd ["_law_state", "_law_words", "_law_row", "_law_most", "_law_deep"] [] := D.bindsN (fun _ _ _ _ _ _ us hl => match us, hl with | [_, _, _, _, _], _ => rfl)
theorem bd__law_run {fd : FuncData} (D : FunD K "_law_run" "_law_run" (defArgs (top 49)) (defBody (top 49)) (defScope (top 49)) [] [] (He.ga K "_law_run") fd) : Binds K fd ["_law_row", "_law_steps", "_law_prices_here"] [] := D.bindsN (fun _ _ _ _ _ _ us hl => match us, hl with | [_, _, _], _ => rfl)
theorem bd__law_no_path {fd : FuncData} (D : FunD K "_law_no_path" "_law_no_path" (defArgs (top 50)) (defBody (top 50)) (defScope (top 50)) [] [] (He.ga K "_law_no_path") fd) : Binds K fd ["_law_state"] [] := D.bindsN (fun _ _ _ _ _ _ us hl => match us, hl with | [_], _ => rfl)
theorem bd__law_no_word {fd : FuncData} (D : FunD K "_law_no_word" "_law_no_word" (defArgs (top 51)) (defBody (top 51)) (defScope (top 51)) [] [] (He.ga K "_law_no_word") fd) : Binds K fd ["_law_state"] [] := D.bindsN (fun _ _ _ _ _ _ us hl => match us, hl with | [_], _ => rfl)
theorem bd__law_no_step {fd : FuncData} (D : FunD K "_law_no_step" "_law_no_step" (defArgs (top 52)) (defBody (top 52)) (defScope (top 52)) [] [] (He.ga K "_law_no_step") fd) : Binds K fd ["_law_state", "_law_word"] [] := D.bindsN (fun _ _ _ _ _ _ us hl => match us, hl with | [_, _], _ => rfl)
theorem bd__law_misfit {fd : FuncData} (D : FunD K "_law_misfit" "_law_misfit" (defArgs (top 53)) (defBody (top 53)) (defScope (top 53)) [] [] (He.ga K "_law_misfit") fd) : Binds K fd ["_law_state", "_law_words", "_law_row"] [] := D.bindsN (fun _ _ _ _ _ _ us hl => match us, hl with | [_, _, _], _ => rfl)
theorem bd__law_asked {fd : FuncData} (D : FunD K "_law_asked" "_law_asked" (defArgs (top 54)) (defBody (top 54)) (defScope (top 54)) [] [] (He.ga K "_law_asked") fd) : Binds K fd ["_law_kind", "_law_a", "_law_steps", "_law_prices_here"] [] := D.bindsN (fun _ _ _ _ _ _ us hl => match us, hl with | [_, _, _, _], _ => rfl)
theorem bd__law_bad {fd : FuncData} (D : FunD K "_law_bad" "_law_bad" (defArgs (top 55)) (defBody (top 55)) (defScope (top 55)) [] [] (He.ga K "_law_bad") fd) : Binds K fd ["_law_state", "_law_words", "_law_row"] [] := D.bindsN (fun _ _ _ _ _ _ us hl => match us, hl with | [_, _, _], _ => rfl)
theorem bd__law_no_forest {fd : FuncData} (D : FunD K "_law_no_forest" "_law_no_forest" (defArgs (top 56)) (defBody (top 56)) (defScope (top 56)) [] [] (He.ga K "_law_no_forest") fd) : Binds K fd ["_law_state", "_law_word"] [] := D.bindsN (fun _ _ _ _ _ _ us hl => match us, hl with | [_, _], _ => rfl)
theorem bd__law_no_prices {fd : FuncData} (D : FunD K "_law_no_prices" "_law_no_prices" (defArgs (top 57)) (defBody (top 57)) (defScope (top 57)) [] [] (He.ga K "_law_no_prices") fd) : Binds K fd ["_law_state", "_law_prices_here"] [] := D.bindsN (fun _ _ _ _ _ _ us hl => match us, hl with | [_, _], _ => rfl)
theorem bd_law {fd : FuncData} (D : FunD K "law" "law" (defArgs (top 58)) (defBody (top 58)) (defScope (top 58)) [] [] (He.ga K "law") fd) : Binds K fd ["_law_script"] [] := D.bindsN (fun _ _ _ _ _ _ us hl => match us, hl with | [_], _ => rfl)
theorem kb_0 {fd : FuncData} (D : FunD K "step_on" "step_on" (defArgs (top 29)) (defBody (top 29)) (defScope (top 29)) [] [] (He.ga K "step_on") fd) : KwB K fd ["a", "step"] ["a", "step"] [0, 1] := kwB_of D fun _ _ _ _ _ _ us hl => match us, hl with | [_, _], _ => by first | rfl | with_unfolding_all rfl | kernel_rfl
theorem kb_1 {fd : FuncData} (D : FunD K "run_steps" "run_steps" (defArgs (top 30)) (defBody (top 30)) (defScope (top 30)) [] [] (He.ga K "run_steps") fd) : KwB K fd ["a", "steps"] ["a", "steps"] [0, 1] := kwB_of D fun _ _ _ _ _ _ us hl => match us, hl with | [_, _], _ => by first | rfl | with_unfolding_all rfl | kernel_rfl
theorem kb_2 {fd : FuncData} (D : FunD K "steps_price" "steps_price" (defArgs (top 32)) (defBody (top 32)) (defScope (top 32)) [] [] (He.ga K "steps_price") fd) : KwB K fd ["a", "steps", "prices"] ["a", "steps", "prices"] [0, 1, 2] := kwB_of D fun _ _ _ _ _ _ us hl => match us, hl with | [_, _, _], _ => by first | rfl | with_unfolding_all rfl | kernel_rfl
theorem lv (X : K.In h) (Gn : h.Ns mainGlobals mg) (c : SaysE fa fn cl xsL Pg.main.file K) : ∀ k, Fs Pg w mg base (mkKx K) k (callN T k)
  | 0 => {
    c_is_int := by
      obtain ⟨fd, D⟩ := c.d.def_ 0 (d := dD "is_int" 9) rfl
      exact ⟨He.glo_ok X Gn (c.d.fact 0 (f := .glo "is_int") rfl), D.kp, ⟨fd, _, bd_is_int D, def_0 rfl⟩, fun _ _ => trivial⟩
    c_is_count := by
      obtain ⟨fd, D⟩ := c.d.def_ 1 (d := dD "is_count" 10) rfl
      exact ⟨He.glo_ok X Gn (c.d.fact 1 (f := .glo "is_count") rfl), D.kp, ⟨fd, _, bd_is_count D, def_0 rfl⟩, fun _ _ => trivial⟩
    c_has_size := by
      obtain ⟨fd, D⟩ := c.d.def_ 2 (d := dD "has_size" 11) rfl
      exact ⟨He.glo_ok X Gn (c.d.fact 2 (f := .glo "has_size") rfl), D.kp, ⟨fd, _, bd_has_size D, def_0 rfl⟩, fun _ _ => trivial⟩
    c_is_word := by
      obtain ⟨fd, D⟩ := c.d.def_ 3 (d := dD "is_word" 12) rfl
      exact ⟨He.glo_ok X Gn (c.d.fact 3 (f := .glo "is_word") rfl), D.kp, ⟨fd, _, bd_is_word D, def_0 rfl⟩, fun _ _ => trivial⟩
    c__are_triples := by
      obtain ⟨fd, D⟩ := c.d.def_ 4 (d := dD "_are_triples" 14) rfl
      exact ⟨He.glo_ok X Gn (c.d.fact 4 (f := .glo "_are_triples") rfl), D.kp, ⟨fd, _, bd__are_triples D, def_0 rfl⟩, fun _ _ => trivial⟩
    c_is_prices := by
      obtain ⟨fd, D⟩ := c.d.def_ 5 (d := dD "is_prices" 15) rfl
      exact ⟨He.glo_ok X Gn (c.d.fact 5 (f := .glo "is_prices") rfl), D.kp, ⟨fd, _, bd_is_prices D, def_0 rfl⟩, fun _ _ => trivial⟩
    c_need_prices := by
      obtain ⟨fd, D⟩ := c.d.def_ 6 (d := dD "need_prices" 16) rfl
      exact ⟨He.glo_ok X Gn (c.d.fact 6 (f := .glo "need_prices") rfl), D.kp, ⟨fd, _, bd_need_prices D, def_0 rfl⟩, fun _ _ => trivial⟩
    c_price_between := by
      obtain ⟨fd, D⟩ := c.d.def_ 7 (d := dD "price_between" 17) rfl
      exact ⟨He.glo_ok X Gn (c.d.fact 7 (f := .glo "price_between") rfl), D.kp, ⟨fd, _, bd_price_between D, def_0 rfl⟩, fun _ _ => trivial⟩
    c_is_forest_value := by
      obtain ⟨fd, D⟩ := c.d.def_ 8 (d := dD "is_forest_value" 19) rfl
      exact ⟨He.glo_ok X Gn (c.d.fact 8 (f := .glo "is_forest_value") rfl), D.kp, ⟨fd, _, bd_is_forest_value D, def_0 rfl⟩, fun _ _ => trivial⟩
    c_need_forest := by
      obtain ⟨fd, D⟩ := c.d.def_ 9 (d := dD "need_forest" 20) rfl
      exact ⟨He.glo_ok X Gn (c.d.fact 9 (f := .glo "need_forest") rfl), D.kp, ⟨fd, _, bd_need_forest D, def_0 rfl⟩, fun _ _ => trivial⟩
    c__is_path := by
      obtain ⟨fd, D⟩ := c.d.def_ 10 (d := dD "_is_path" 22) rfl
      exact ⟨He.glo_ok X Gn (c.d.fact 10 (f := .glo "_is_path") rfl), D.kp, ⟨fd, _, bd__is_path D, def_0 rfl⟩, fun _ _ => trivial⟩
    c_is_step := by
      obtain ⟨fd, D⟩ := c.d.def_ 11 (d := dD "is_step" 23) rfl
      exact ⟨He.glo_ok X Gn (c.d.fact 11 (f := .glo "is_step") rfl), D.kp, ⟨fd, _, bd_is_step D, def_0 rfl⟩, fun _ _ => trivial⟩
    c_row_at := by
      obtain ⟨fd, D⟩ := c.d.def_ 12 (d := dD "row_at" 24) rfl
      exact ⟨He.glo_ok X Gn (c.d.fact 12 (f := .glo "row_at") rfl), D.kp, ⟨fd, _, bd_row_at D, def_0 rfl⟩, fun _ _ => trivial⟩
    c__with_row := by
      obtain ⟨fd, D⟩ := c.d.def_ 13 (d := dD "_with_row" 25) rfl
      exact ⟨He.glo_ok X Gn (c.d.fact 13 (f := .glo "_with_row") rfl), D.kp, ⟨fd, _, bd__with_row D, def_0 rfl⟩, fun _ _ => trivial⟩
    c__row_behind := by
      obtain ⟨fd, D⟩ := c.d.def_ 14 (d := dD "_row_behind" 26) rfl
      exact ⟨He.glo_ok X Gn (c.d.fact 14 (f := .glo "_row_behind") rfl), D.kp, ⟨fd, _, bd__row_behind D, def_0 rfl⟩, fun _ _ => trivial⟩
    c_moved_by := by
      obtain ⟨fd, D⟩ := c.d.def_ 15 (d := dD "moved_by" 27) rfl
      exact ⟨He.glo_ok X Gn (c.d.fact 15 (f := .glo "moved_by") rfl), D.kp, ⟨fd, _, bd_moved_by D, def_0 rfl⟩, fun _ _ => trivial⟩
    c__checked_move := by
      obtain ⟨fd, D⟩ := c.d.def_ 16 (d := dD "_checked_move" 28) rfl
      exact ⟨He.glo_ok X Gn (c.d.fact 16 (f := .glo "_checked_move") rfl), D.kp, ⟨fd, _, bd__checked_move D, def_0 rfl⟩, fun _ _ => trivial⟩
    c_step_on := by
      obtain ⟨fd, D⟩ := c.d.def_ 17 (d := dD "step_on" 29) rfl
      exact ⟨He.glo_ok X Gn (c.d.fact 17 (f := .glo "step_on") rfl), D.kp, ⟨fd, _, bd_step_on D, def_0 rfl⟩, fun _ _ => trivial⟩
    c_run_steps := by
      obtain ⟨fd, D⟩ := c.d.def_ 18 (d := dD "run_steps" 30) rfl
      exact ⟨He.glo_ok X Gn (c.d.fact 18 (f := .glo "run_steps") rfl), D.kp, ⟨fd, _, bd_run_steps D, def_0 rfl⟩, fun _ _ => trivial⟩
    c__tree_there := by
      obtain ⟨fd, D⟩ := c.d.def_ 19 (d := dD "_tree_there" 31) rfl
      exact ⟨He.glo_ok X Gn (c.d.fact 19 (f := .glo "_tree_there") rfl), D.kp, ⟨fd, _, bd__tree_there D, def_0 rfl⟩, fun _ _ => trivial⟩
    c_steps_price := by
      obtain ⟨fd, D⟩ := c.d.def_ 20 (d := dD "steps_price" 32) rfl
      exact ⟨He.glo_ok X Gn (c.d.fact 20 (f := .glo "steps_price") rfl), D.kp, ⟨fd, _, bd_steps_price D, def_0 rfl⟩, fun _ _ => trivial⟩
    c__law_mixed := by
      obtain ⟨fd, D⟩ := c.d.def_ 21 (d := dD "_law_mixed" 34) rfl
      exact ⟨He.glo_ok X Gn (c.d.fact 21 (f := .glo "_law_mixed") rfl), D.kp, ⟨fd, _, bd__law_mixed D, def_0 rfl⟩, fun _ _ => trivial⟩
    c__law_draw := by
      obtain ⟨fd, D⟩ := c.d.def_ 22 (d := dD "_law_draw" 35) rfl
      exact ⟨He.glo_ok X Gn (c.d.fact 22 (f := .glo "_law_draw") rfl), D.kp, ⟨fd, _, bd__law_draw D, def_0 rfl⟩, fun _ _ => trivial⟩
    c__law_start := by
      obtain ⟨fd, D⟩ := c.d.def_ 23 (d := dD "_law_start" 36) rfl
      exact ⟨He.glo_ok X Gn (c.d.fact 23 (f := .glo "_law_start") rfl), D.kp, ⟨fd, _, bd__law_start D, def_0 rfl⟩, fun _ _ => trivial⟩
    c__law_same := by
      obtain ⟨fd, D⟩ := c.d.def_ 24 (d := dD "_law_same" 37) rfl
      exact ⟨He.glo_ok X Gn (c.d.fact 24 (f := .glo "_law_same") rfl), D.kp, ⟨fd, _, bd__law_same D, def_0 rfl⟩, fun _ _ => trivial⟩
    c__law_pool := by
      obtain ⟨fd, D⟩ := c.d.def_ 25 (d := dD "_law_pool" 38) rfl
      exact ⟨He.glo_ok X Gn (c.d.fact 25 (f := .glo "_law_pool") rfl), D.kp, ⟨fd, _, bd__law_pool D, def_0 rfl⟩, fun _ _ => trivial⟩
    c__law_grown := by
      obtain ⟨fd, D⟩ := c.d.def_ 26 (d := dD "_law_grown" 39) rfl
      exact ⟨He.glo_ok X Gn (c.d.fact 26 (f := .glo "_law_grown") rfl), D.kp, ⟨fd, _, bd__law_grown D, def_0 rfl⟩, fun _ _ => trivial⟩
    c__law_planted := by
      obtain ⟨fd, D⟩ := c.d.def_ 27 (d := dD "_law_planted" 40) rfl
      exact ⟨He.glo_ok X Gn (c.d.fact 27 (f := .glo "_law_planted") rfl), D.kp, ⟨fd, _, bd__law_planted D, def_0 rfl⟩, fun _ _ => trivial⟩
    c__law_plain := by
      obtain ⟨fd, D⟩ := c.d.def_ 28 (d := dD "_law_plain" 41) rfl
      exact ⟨He.glo_ok X Gn (c.d.fact 28 (f := .glo "_law_plain") rfl), D.kp, ⟨fd, _, bd__law_plain D, def_0 rfl⟩, fun _ _ => trivial⟩
    c__law_listed := by
      obtain ⟨fd, D⟩ := c.d.def_ 29 (d := dD "_law_listed" 42) rfl
      exact ⟨He.glo_ok X Gn (c.d.fact 29 (f := .glo "_law_listed") rfl), D.kp, ⟨fd, _, bd__law_listed D, def_0 rfl⟩, fun _ _ => trivial⟩
    c__law_stepped := by
      obtain ⟨fd, D⟩ := c.d.def_ 30 (d := dD "_law_stepped" 43) rfl
      exact ⟨He.glo_ok X Gn (c.d.fact 30 (f := .glo "_law_stepped") rfl), D.kp, ⟨fd, _, bd__law_stepped D, def_0 rfl⟩, fun _ _ => trivial⟩
    c__law_change := by
      obtain ⟨fd, D⟩ := c.d.def_ 31 (d := dD "_law_change" 44) rfl
      exact ⟨He.glo_ok X Gn (c.d.fact 31 (f := .glo "_law_change") rfl), D.kp, ⟨fd, _, bd__law_change D, def_0 rfl⟩, fun _ _ => trivial⟩
    c__law_prices := by
      obtain ⟨fd, D⟩ := c.d.def_ 32 (d := dD "_law_prices" 45) rfl
      exact ⟨He.glo_ok X Gn (c.d.fact 32 (f := .glo "_law_prices") rfl), D.kp, ⟨fd, _, bd__law_prices D, def_0 rfl⟩, fun _ _ => trivial⟩
    c__law_chained := by
      obtain ⟨fd, D⟩ := c.d.def_ 33 (d := dD "_law_chained" 46) rfl
      exact ⟨He.glo_ok X Gn (c.d.fact 33 (f := .glo "_law_chained") rfl), D.kp, ⟨fd, _, bd__law_chained D, def_0 rfl⟩, fun _ _ => trivial⟩
    c__law_within := by
      obtain ⟨fd, D⟩ := c.d.def_ 34 (d := dD "_law_within" 47) rfl
      exact ⟨He.glo_ok X Gn (c.d.fact 34 (f := .glo "_law_within") rfl), D.kp, ⟨fd, _, bd__law_within D, def_0 rfl⟩, fun _ _ => trivial⟩
    c__law_step := by
      obtain ⟨fd, D⟩ := c.d.def_ 35 (d := dD "_law_step" 48) rfl
      exact ⟨He.glo_ok X Gn (c.d.fact 35 (f := .glo "_law_step") rfl), D.kp, ⟨fd, _, bd__law_step D, def_0 rfl⟩, fun _ _ => trivial⟩
    c__law_run := by
      obtain ⟨fd, D⟩ := c.d.def_ 36 (d := dD "_law_run" 49) rfl
      exact ⟨He.glo_ok X Gn (c.d.fact 36 (f := .glo "_law_run") rfl), D.kp, ⟨fd, _, bd__law_run D, def_0 rfl⟩, fun _ _ => trivial⟩
    c__law_no_path := by
      obtain ⟨fd, D⟩ := c.d.def_ 37 (d := dD "_law_no_path" 50) rfl
      exact ⟨He.glo_ok X Gn (c.d.fact 37 (f := .glo "_law_no_path") rfl), D.kp, ⟨fd, _, bd__law_no_path D, def_0 rfl⟩, fun _ _ => trivial⟩
    c__law_no_word := by
      obtain ⟨fd, D⟩ := c.d.def_ 38 (d := dD "_law_no_word" 51) rfl
      exact ⟨He.glo_ok X Gn (c.d.fact 38 (f := .glo "_law_no_word") rfl), D.kp, ⟨fd, _, bd__law_no_word D, def_0 rfl⟩, fun _ _ => trivial⟩
    c__law_no_step := by
      obtain ⟨fd, D⟩ := c.d.def_ 39 (d := dD "_law_no_step" 52) rfl
      exact ⟨He.glo_ok X Gn (c.d.fact 39 (f := .glo "_law_no_step") rfl), D.kp, ⟨fd, _, bd__law_no_step D, def_0 rfl⟩, fun _ _ => trivial⟩
    c__law_misfit := by
      obtain ⟨fd, D⟩ := c.d.def_ 40 (d := dD "_law_misfit" 53) rfl
      exact ⟨He.glo_ok X Gn (c.d.fact 40 (f := .glo "_law_misfit") rfl), D.kp, ⟨fd, _, bd__law_misfit D, def_0 rfl⟩, fun _ _ => trivial⟩
    c__law_asked := by
      obtain ⟨fd, D⟩ := c.d.def_ 41 (d := dD "_law_asked" 54) rfl
      exact ⟨He.glo_ok X Gn (c.d.fact 41 (f := .glo "_law_asked") rfl), D.kp, ⟨fd, _, bd__law_asked D, def_0 rfl⟩, fun _ _ => trivial⟩
    c__law_bad := by
      obtain ⟨fd, D⟩ := c.d.def_ 42 (d := dD "_law_bad" 55) rfl
      exact ⟨He.glo_ok X Gn (c.d.fact 42 (f := .glo "_law_bad") rfl), D.kp, ⟨fd, _, bd__law_bad D, def_0 rfl⟩, fun _ _ => trivial⟩
    c__law_no_forest := by
      obtain ⟨fd, D⟩ := c.d.def_ 43 (d := dD "_law_no_forest" 56) rfl
      exact ⟨He.glo_ok X Gn (c.d.fact 43 (f := .glo "_law_no_forest") rfl), D.kp, ⟨fd, _, bd__law_no_forest D, def_0 rfl⟩, fun _ _ => trivial⟩
    c__law_no_prices := by
      obtain ⟨fd, D⟩ := c.d.def_ 44 (d := dD "_law_no_prices" 57) rfl
      exact ⟨He.glo_ok X Gn (c.d.fact 44 (f := .glo "_law_no_prices") rfl), D.kp, ⟨fd, _, bd__law_no_prices D, def_0 rfl⟩, fun _ _ => trivial⟩
    c_law := by
      obtain ⟨fd, D⟩ := c.d.def_ 45 (d := dD "law" 58) rfl
      exact ⟨He.glo_ok X Gn (c.d.fact 45 (f := .glo "law") rfl), D.kp, ⟨fd, _, bd_law D, def_0 rfl⟩, fun _ _ => trivial⟩
    q_0 := by
      obtain ⟨fd, D⟩ := c.d.def_ 17 (d := dD "step_on" 29) rfl
      exact ⟨He.glo_ok X Gn (c.d.fact 17 (f := .glo "step_on") rfl), D.kp, ⟨fd, _, kb_0 D, def_0 rfl⟩, fun _ _ => trivial⟩
    q_1 := by
      obtain ⟨fd, D⟩ := c.d.def_ 18 (d := dD "run_steps" 30) rfl
      exact ⟨He.glo_ok X Gn (c.d.fact 18 (f := .glo "run_steps") rfl), D.kp, ⟨fd, _, kb_1 D, def_0 rfl⟩, fun _ _ => trivial⟩
    q_2 := by
      obtain ⟨fd, D⟩ := c.d.def_ 20 (d := dD "steps_price" 32) rfl
      exact ⟨He.glo_ok X Gn (c.d.fact 20 (f := .glo "steps_price") rfl), D.kp, ⟨fd, _, kb_2 D, def_0 rfl⟩, fun _ _ => trivial⟩
    }
  | k + 1 => {
    c_is_int := by
      obtain ⟨fd, D⟩ := c.d.def_ 0 (d := dD "is_int" 9) rfl
      exact ⟨He.glo_ok X Gn (c.d.fact 0 (f := .glo "is_int") rfl), D.kp, ⟨fd, _, bd_is_int D, def_ok (df := ⟨[false], 1, false, b_is_int⟩) D sc_is_int rfl rfl (fun _ _ _ _ _ _ C => p_is_int (gx X Gn c) (lv X Gn c k) C)⟩, call_pr (T := T) (f := 0) rfl (k + 1)⟩
    c_is_count := by
      obtain ⟨fd, D⟩ := c.d.def_ 1 (d := dD "is_count" 10) rfl
      exact ⟨He.glo_ok X Gn (c.d.fact 1 (f := .glo "is_count") rfl), D.kp, ⟨fd, _, bd_is_count D, def_ok (df := ⟨[false], 1, false, b_is_count⟩) D sc_is_count rfl rfl (fun _ _ _ _ _ _ C => p_is_count (gx X Gn c) (lv X Gn c k) C)⟩, call_pr (T := T) (f := 1) rfl (k + 1)⟩
    c_has_size := by
      obtain ⟨fd, D⟩ := c.d.def_ 2 (d := dD "has_size" 11) rfl
      exact ⟨He.glo_ok X Gn (c.d.fact 2 (f := .glo "has_size") rfl), D.kp, ⟨fd, _, bd_has_size D, def_ok (df := ⟨[false, false], 2, false, b_has_size⟩) D sc_has_size rfl rfl (fun _ _ _ _ _ _ C => p_has_size (gx X Gn c) (lv X Gn c k) C)⟩, call_pr (T := T) (f := 2) rfl (k + 1)⟩
    c_is_word := by
      obtain ⟨fd, D⟩ := c.d.def_ 3 (d := dD "is_word" 12) rfl
      exact ⟨He.glo_ok X Gn (c.d.fact 3 (f := .glo "is_word") rfl), D.kp, ⟨fd, _, bd_is_word D, def_ok (df := ⟨[false], 2, false, b_is_word⟩) D sc_is_word rfl rfl (fun _ _ _ _ _ _ C => p_is_word (gx X Gn c) (lv X Gn c k) C)⟩, call_pr (T := T) (f := 3) rfl (k + 1)⟩
    c__are_triples := by
      obtain ⟨fd, D⟩ := c.d.def_ 4 (d := dD "_are_triples" 14) rfl
      exact ⟨He.glo_ok X Gn (c.d.fact 4 (f := .glo "_are_triples") rfl), D.kp, ⟨fd, _, bd__are_triples D, def_ok (df := ⟨[false], 3, false, b__are_triples⟩) D sc__are_triples rfl rfl (fun _ _ _ _ _ _ C => p__are_triples (gx X Gn c) (lv X Gn c k) C)⟩, call_pr (T := T) (f := 4) rfl (k + 1)⟩
    c_is_prices := by
      obtain ⟨fd, D⟩ := c.d.def_ 5 (d := dD "is_prices" 15) rfl
      exact ⟨He.glo_ok X Gn (c.d.fact 5 (f := .glo "is_prices") rfl), D.kp, ⟨fd, _, bd_is_prices D, def_ok (df := ⟨[false], 2, false, b_is_prices⟩) D sc_is_prices rfl rfl (fun _ _ _ _ _ _ C => p_is_prices (gx X Gn c) (lv X Gn c k) C)⟩, call_pr (T := T) (f := 5) rfl (k + 1)⟩
    c_need_prices := by
      obtain ⟨fd, D⟩ := c.d.def_ 6 (d := dD "need_prices" 16) rfl
      exact ⟨He.glo_ok X Gn (c.d.fact 6 (f := .glo "need_prices") rfl), D.kp, ⟨fd, _, bd_need_prices D, def_ok (df := ⟨[false], 1, false, b_need_prices⟩) D sc_need_prices rfl rfl (fun _ _ _ _ _ _ C => p_need_prices (gx X Gn c) (lv X Gn c k) C)⟩, call_pr (T := T) (f := 6) rfl (k + 1)⟩
    c_price_between := by
      obtain ⟨fd, D⟩ := c.d.def_ 7 (d := dD "price_between" 17) rfl
      exact ⟨He.glo_ok X Gn (c.d.fact 7 (f := .glo "price_between") rfl), D.kp, ⟨fd, _, bd_price_between D, def_ok (df := ⟨[false, false, false], 6, false, b_price_between⟩) D sc_price_between rfl rfl (fun _ _ _ _ _ _ C => p_price_between (gx X Gn c) (lv X Gn c k) C)⟩, call_pr (T := T) (f := 7) rfl (k + 1)⟩
    c_is_forest_value := by
      obtain ⟨fd, D⟩ := c.d.def_ 8 (d := dD "is_forest_value" 19) rfl
      exact ⟨He.glo_ok X Gn (c.d.fact 8 (f := .glo "is_forest_value") rfl), D.kp, ⟨fd, _, bd_is_forest_value D, def_ok (df := ⟨[false], 2, false, b_is_forest_value⟩) D sc_is_forest_value rfl rfl (fun _ _ _ _ _ _ C => p_is_forest_value (gx X Gn c) (lv X Gn c k) C)⟩, call_pr (T := T) (f := 8) rfl (k + 1)⟩
    c_need_forest := by
      obtain ⟨fd, D⟩ := c.d.def_ 9 (d := dD "need_forest" 20) rfl
      exact ⟨He.glo_ok X Gn (c.d.fact 9 (f := .glo "need_forest") rfl), D.kp, ⟨fd, _, bd_need_forest D, def_ok (df := ⟨[false], 1, false, b_need_forest⟩) D sc_need_forest rfl rfl (fun _ _ _ _ _ _ C => p_need_forest (gx X Gn c) (lv X Gn c k) C)⟩, call_pr (T := T) (f := 9) rfl (k + 1)⟩
    c__is_path := by
      obtain ⟨fd, D⟩ := c.d.def_ 10 (d := dD "_is_path" 22) rfl
      exact ⟨He.glo_ok X Gn (c.d.fact 10 (f := .glo "_is_path") rfl), D.kp, ⟨fd, _, bd__is_path D, def_ok (df := ⟨[false], 2, false, b__is_path⟩) D sc__is_path rfl rfl (fun _ _ _ _ _ _ C => p__is_path (gx X Gn c) (lv X Gn c k) C)⟩, call_pr (T := T) (f := 10) rfl (k + 1)⟩
    c_is_step := by
      obtain ⟨fd, D⟩ := c.d.def_ 11 (d := dD "is_step" 23) rfl
      exact ⟨He.glo_ok X Gn (c.d.fact 11 (f := .glo "is_step") rfl), D.kp, ⟨fd, _, bd_is_step D, def_ok (df := ⟨[false], 1, false, b_is_step⟩) D sc_is_step rfl rfl (fun _ _ _ _ _ _ C => p_is_step (gx X Gn c) (lv X Gn c k) C)⟩, call_pr (T := T) (f := 11) rfl (k + 1)⟩
    c_row_at := by
      obtain ⟨fd, D⟩ := c.d.def_ 12 (d := dD "row_at" 24) rfl
      exact ⟨He.glo_ok X Gn (c.d.fact 12 (f := .glo "row_at") rfl), D.kp, ⟨fd, _, bd_row_at D, def_ok (df := ⟨[false, false], 4, false, b_row_at⟩) D sc_row_at rfl rfl (fun _ _ _ _ _ _ C => p_row_at (gx X Gn c) (lv X Gn c k) C)⟩, call_pr (T := T) (f := 12) rfl (k + 1)⟩
    c__with_row := by
      obtain ⟨fd, D⟩ := c.d.def_ 13 (d := dD "_with_row" 25) rfl
      exact ⟨He.glo_ok X Gn (c.d.fact 13 (f := .glo "_with_row") rfl), D.kp, ⟨fd, _, bd__with_row D, def_ok (df := ⟨[false, false, false], 4, false, b__with_row⟩) D sc__with_row rfl rfl (fun _ _ _ _ _ _ C => p__with_row (gx X Gn c) (lv X Gn c k) C)⟩, call_pr (T := T) (f := 13) rfl (k + 1)⟩
    c__row_behind := by
      obtain ⟨fd, D⟩ := c.d.def_ 14 (d := dD "_row_behind" 26) rfl
      exact ⟨He.glo_ok X Gn (c.d.fact 14 (f := .glo "_row_behind") rfl), D.kp, ⟨fd, _, bd__row_behind D, def_ok (df := ⟨[false, false], 4, false, b__row_behind⟩) D sc__row_behind rfl rfl (fun _ _ _ _ _ _ C => p__row_behind (gx X Gn c) (lv X Gn c k) C)⟩, call_pr (T := T) (f := 14) rfl (k + 1)⟩
    c_moved_by := by
      obtain ⟨fd, D⟩ := c.d.def_ 15 (d := dD "moved_by" 27) rfl
      exact ⟨He.glo_ok X Gn (c.d.fact 15 (f := .glo "moved_by") rfl), D.kp, ⟨fd, _, bd_moved_by D, def_ok (df := ⟨[false, false], 5, false, b_moved_by⟩) D sc_moved_by rfl rfl (fun _ _ _ _ _ _ C => p_moved_by (gx X Gn c) (lv X Gn c k) C)⟩, call_pr (T := T) (f := 15) rfl (k + 1)⟩
    c__checked_move := by
      obtain ⟨fd, D⟩ := c.d.def_ 16 (d := dD "_checked_move" 28) rfl
      exact ⟨He.glo_ok X Gn (c.d.fact 16 (f := .glo "_checked_move") rfl), D.kp, ⟨fd, _, bd__checked_move D, def_ok (df := ⟨[false, false], 2, false, b__checked_move⟩) D sc__checked_move rfl rfl (fun _ _ _ _ _ _ C => p__checked_move (gx X Gn c) (lv X Gn c k) C)⟩, call_pr (T := T) (f := 16) rfl (k + 1)⟩
    c_step_on := by
      obtain ⟨fd, D⟩ := c.d.def_ 17 (d := dD "step_on" 29) rfl
      exact ⟨He.glo_ok X Gn (c.d.fact 17 (f := .glo "step_on") rfl), D.kp, ⟨fd, _, bd_step_on D, def_ok (df := ⟨[false, false], 2, false, b_step_on⟩) D sc_step_on rfl rfl (fun _ _ _ _ _ _ C => p_step_on (gx X Gn c) (lv X Gn c k) C)⟩, call_pr (T := T) (f := 17) rfl (k + 1)⟩
    c_run_steps := by
      obtain ⟨fd, D⟩ := c.d.def_ 18 (d := dD "run_steps" 30) rfl
      exact ⟨He.glo_ok X Gn (c.d.fact 18 (f := .glo "run_steps") rfl), D.kp, ⟨fd, _, bd_run_steps D, def_ok (df := ⟨[false, false], 3, false, b_run_steps⟩) D sc_run_steps rfl rfl (fun _ _ _ _ _ _ C => p_run_steps (gx X Gn c) (lv X Gn c k) C)⟩, call_pr (T := T) (f := 18) rfl (k + 1)⟩
    c__tree_there := by
      obtain ⟨fd, D⟩ := c.d.def_ 19 (d := dD "_tree_there" 31) rfl
      exact ⟨He.glo_ok X Gn (c.d.fact 19 (f := .glo "_tree_there") rfl), D.kp, ⟨fd, _, bd__tree_there D, def_ok (df := ⟨[false, false], 2, false, b__tree_there⟩) D sc__tree_there rfl rfl (fun _ _ _ _ _ _ C => p__tree_there (gx X Gn c) (lv X Gn c k) C)⟩, call_pr (T := T) (f := 19) rfl (k + 1)⟩
    c_steps_price := by
      obtain ⟨fd, D⟩ := c.d.def_ 20 (d := dD "steps_price" 32) rfl
      exact ⟨He.glo_ok X Gn (c.d.fact 20 (f := .glo "steps_price") rfl), D.kp, ⟨fd, _, bd_steps_price D, def_ok (df := ⟨[false, false, false], 6, false, b_steps_price⟩) D sc_steps_price rfl rfl (fun _ _ _ _ _ _ C => p_steps_price (gx X Gn c) (lv X Gn c k) C)⟩, call_pr (T := T) (f := 20) rfl (k + 1)⟩
    c__law_mixed := by
      obtain ⟨fd, D⟩ := c.d.def_ 21 (d := dD "_law_mixed" 34) rfl
      exact ⟨He.glo_ok X Gn (c.d.fact 21 (f := .glo "_law_mixed") rfl), D.kp, ⟨fd, _, bd__law_mixed D, def_ok (df := ⟨[false, false], 4, false, b__law_mixed⟩) D sc__law_mixed rfl rfl (fun _ _ _ _ _ _ C => p__law_mixed (gx X Gn c) (lv X Gn c k) C)⟩, call_pr (T := T) (f := 21) rfl (k + 1)⟩
    c__law_draw := by
      obtain ⟨fd, D⟩ := c.d.def_ 22 (d := dD "_law_draw" 35) rfl
      exact ⟨He.glo_ok X Gn (c.d.fact 22 (f := .glo "_law_draw") rfl), D.kp, ⟨fd, _, bd__law_draw D, def_ok (df := ⟨[true, false], 5, false, b__law_draw⟩) D sc__law_draw rfl rfl (fun _ _ _ _ _ _ C => p__law_draw (gx X Gn c) (lv X Gn c k) C)⟩, call_pr (T := T) (f := 22) rfl (k + 1)⟩
    c__law_start := by
      obtain ⟨fd, D⟩ := c.d.def_ 23 (d := dD "_law_start" 36) rfl
      exact ⟨He.glo_ok X Gn (c.d.fact 23 (f := .glo "_law_start") rfl), D.kp, ⟨fd, _, bd__law_start D, def_ok (df := ⟨[false], 3, false, b__law_start⟩) D sc__law_start rfl rfl (fun _ _ _ _ _ _ C => p__law_start (gx X Gn c) (lv X Gn c k) C)⟩, call_pr (T := T) (f := 23) rfl (k + 1)⟩
    c__law_same := by
      obtain ⟨fd, D⟩ := c.d.def_ 24 (d := dD "_law_same" 37) rfl
      exact ⟨He.glo_ok X Gn (c.d.fact 24 (f := .glo "_law_same") rfl), D.kp, ⟨fd, _, bd__law_same D, def_ok (df := ⟨[false, false], 3, false, b__law_same⟩) D sc__law_same rfl rfl (fun _ _ _ _ _ _ C => p__law_same (gx X Gn c) (lv X Gn c k) C)⟩, call_pr (T := T) (f := 24) rfl (k + 1)⟩
    c__law_pool := by
      obtain ⟨fd, D⟩ := c.d.def_ 25 (d := dD "_law_pool" 38) rfl
      exact ⟨He.glo_ok X Gn (c.d.fact 25 (f := .glo "_law_pool") rfl), D.kp, ⟨fd, _, bd__law_pool D, def_ok (df := ⟨[true], 10, false, b__law_pool⟩) D sc__law_pool rfl rfl (fun _ _ _ _ _ _ C => p__law_pool (gx X Gn c) (lv X Gn c k) C)⟩, call_pr (T := T) (f := 25) rfl (k + 1)⟩
    c__law_grown := by
      obtain ⟨fd, D⟩ := c.d.def_ 26 (d := dD "_law_grown" 39) rfl
      exact ⟨He.glo_ok X Gn (c.d.fact 26 (f := .glo "_law_grown") rfl), D.kp, ⟨fd, _, bd__law_grown D, def_ok (df := ⟨[true, false, false, false], 10, false, b__law_grown⟩) D sc__law_grown rfl rfl (fun _ _ _ _ _ _ C => p__law_grown (gx X Gn c) (lv X Gn c k) C)⟩, call_pr (T := T) (f := 26) rfl (k + 1)⟩
    c__law_planted := by
      obtain ⟨fd, D⟩ := c.d.def_ 27 (d := dD "_law_planted" 40) rfl
      exact ⟨He.glo_ok X Gn (c.d.fact 27 (f := .glo "_law_planted") rfl), D.kp, ⟨fd, _, bd__law_planted D, def_ok (df := ⟨[false], 4, false, b__law_planted⟩) D sc__law_planted rfl rfl (fun _ _ _ _ _ _ C => p__law_planted (gx X Gn c) (lv X Gn c k) C)⟩, call_pr (T := T) (f := 27) rfl (k + 1)⟩
    c__law_plain := by
      obtain ⟨fd, D⟩ := c.d.def_ 28 (d := dD "_law_plain" 41) rfl
      exact ⟨He.glo_ok X Gn (c.d.fact 28 (f := .glo "_law_plain") rfl), D.kp, ⟨fd, _, bd__law_plain D, def_ok (df := ⟨[false], 2, false, b__law_plain⟩) D sc__law_plain rfl rfl (fun _ _ _ _ _ _ C => p__law_plain (gx X Gn c) (lv X Gn c k) C)⟩, call_pr (T := T) (f := 28) rfl (k + 1)⟩
    c__law_listed := by
      obtain ⟨fd, D⟩ := c.d.def_ 29 (d := dD "_law_listed" 42) rfl
      exact ⟨He.glo_ok X Gn (c.d.fact 29 (f := .glo "_law_listed") rfl), D.kp, ⟨fd, _, bd__law_listed D, def_ok (df := ⟨[false, false], 4, false, b__law_listed⟩) D sc__law_listed rfl rfl (fun _ _ _ _ _ _ C => p__law_listed (gx X Gn c) (lv X Gn c k) C)⟩, call_pr (T := T) (f := 29) rfl (k + 1)⟩
    c__law_stepped := by
      obtain ⟨fd, D⟩ := c.d.def_ 30 (d := dD "_law_stepped" 43) rfl
      exact ⟨He.glo_ok X Gn (c.d.fact 30 (f := .glo "_law_stepped") rfl), D.kp, ⟨fd, _, bd__law_stepped D, def_ok (df := ⟨[false, false, false], 5, false, b__law_stepped⟩) D sc__law_stepped rfl rfl (fun _ _ _ _ _ _ C => p__law_stepped (gx X Gn c) (lv X Gn c k) C)⟩, call_pr (T := T) (f := 30) rfl (k + 1)⟩
    c__law_change := by
      obtain ⟨fd, D⟩ := c.d.def_ 31 (d := dD "_law_change" 44) rfl
      exact ⟨He.glo_ok X Gn (c.d.fact 31 (f := .glo "_law_change") rfl), D.kp, ⟨fd, _, bd__law_change D, def_ok (df := ⟨[false, false, false], 4, false, b__law_change⟩) D sc__law_change rfl rfl (fun _ _ _ _ _ _ C => p__law_change (gx X Gn c) (lv X Gn c k) C)⟩, call_pr (T := T) (f := 31) rfl (k + 1)⟩
    c__law_prices := by
      obtain ⟨fd, D⟩ := c.d.def_ 32 (d := dD "_law_prices" 45) rfl
      exact ⟨He.glo_ok X Gn (c.d.fact 32 (f := .glo "_law_prices") rfl), D.kp, ⟨fd, _, bd__law_prices D, def_ok (df := ⟨[true, false], 13, false, b__law_prices⟩) D sc__law_prices rfl rfl (fun _ _ _ _ _ _ C => p__law_prices (gx X Gn c) (lv X Gn c k) C)⟩, call_pr (T := T) (f := 32) rfl (k + 1)⟩
    c__law_chained := by
      obtain ⟨fd, D⟩ := c.d.def_ 33 (d := dD "_law_chained" 46) rfl
      exact ⟨He.glo_ok X Gn (c.d.fact 33 (f := .glo "_law_chained") rfl), D.kp, ⟨fd, _, bd__law_chained D, def_ok (df := ⟨[false, false], 6, false, b__law_chained⟩) D sc__law_chained rfl rfl (fun _ _ _ _ _ _ C => p__law_chained (gx X Gn c) (lv X Gn c k) C)⟩, call_pr (T := T) (f := 33) rfl (k + 1)⟩
    c__law_within := by
      obtain ⟨fd, D⟩ := c.d.def_ 34 (d := dD "_law_within" 47) rfl
      exact ⟨He.glo_ok X Gn (c.d.fact 34 (f := .glo "_law_within") rfl), D.kp, ⟨fd, _, bd__law_within D, def_ok (df := ⟨[false, false, false], 5, false, b__law_within⟩) D sc__law_within rfl rfl (fun _ _ _ _ _ _ C => p__law_within (gx X Gn c) (lv X Gn c k) C)⟩, call_pr (T := T) (f := 34) rfl (k + 1)⟩
    c__law_step := by
      obtain ⟨fd, D⟩ := c.d.def_ 35 (d := dD "_law_step" 48) rfl
      exact ⟨He.glo_ok X Gn (c.d.fact 35 (f := .glo "_law_step") rfl), D.kp, ⟨fd, _, bd__law_step D, def_ok (df := ⟨[true, false, false, false, false], 14, false, b__law_step⟩) D sc__law_step rfl rfl (fun _ _ _ _ _ _ C => p__law_step (gx X Gn c) (lv X Gn c k) C)⟩, call_pr (T := T) (f := 35) rfl (k + 1)⟩
    c__law_run := by
      obtain ⟨fd, D⟩ := c.d.def_ 36 (d := dD "_law_run" 49) rfl
      exact ⟨He.glo_ok X Gn (c.d.fact 36 (f := .glo "_law_run") rfl), D.kp, ⟨fd, _, bd__law_run D, def_ok (df := ⟨[false, false, false], 7, false, b__law_run⟩) D sc__law_run rfl rfl (fun _ _ _ _ _ _ C => p__law_run (gx X Gn c) (lv X Gn c k) C)⟩, call_pr (T := T) (f := 36) rfl (k + 1)⟩
    c__law_no_path := by
      obtain ⟨fd, D⟩ := c.d.def_ 37 (d := dD "_law_no_path" 50) rfl
      exact ⟨He.glo_ok X Gn (c.d.fact 37 (f := .glo "_law_no_path") rfl), D.kp, ⟨fd, _, bd__law_no_path D, def_ok (df := ⟨[true], 1, false, b__law_no_path⟩) D sc__law_no_path rfl rfl (fun _ _ _ _ _ _ C => p__law_no_path (gx X Gn c) (lv X Gn c k) C)⟩, call_pr (T := T) (f := 37) rfl (k + 1)⟩
    c__law_no_word := by
      obtain ⟨fd, D⟩ := c.d.def_ 38 (d := dD "_law_no_word" 51) rfl
      exact ⟨He.glo_ok X Gn (c.d.fact 38 (f := .glo "_law_no_word") rfl), D.kp, ⟨fd, _, bd__law_no_word D, def_ok (df := ⟨[true], 1, false, b__law_no_word⟩) D sc__law_no_word rfl rfl (fun _ _ _ _ _ _ C => p__law_no_word (gx X Gn c) (lv X Gn c k) C)⟩, call_pr (T := T) (f := 38) rfl (k + 1)⟩
    c__law_no_step := by
      obtain ⟨fd, D⟩ := c.d.def_ 39 (d := dD "_law_no_step" 52) rfl
      exact ⟨He.glo_ok X Gn (c.d.fact 39 (f := .glo "_law_no_step") rfl), D.kp, ⟨fd, _, bd__law_no_step D, def_ok (df := ⟨[true, false], 5, false, b__law_no_step⟩) D sc__law_no_step rfl rfl (fun _ _ _ _ _ _ C => p__law_no_step (gx X Gn c) (lv X Gn c k) C)⟩, call_pr (T := T) (f := 39) rfl (k + 1)⟩
    c__law_misfit := by
      obtain ⟨fd, D⟩ := c.d.def_ 40 (d := dD "_law_misfit" 53) rfl
      exact ⟨He.glo_ok X Gn (c.d.fact 40 (f := .glo "_law_misfit") rfl), D.kp, ⟨fd, _, bd__law_misfit D, def_ok (df := ⟨[true, false, false], 11, false, b__law_misfit⟩) D sc__law_misfit rfl rfl (fun _ _ _ _ _ _ C => p__law_misfit (gx X Gn c) (lv X Gn c k) C)⟩, call_pr (T := T) (f := 40) rfl (k + 1)⟩
    c__law_asked := by
      obtain ⟨fd, D⟩ := c.d.def_ 41 (d := dD "_law_asked" 54) rfl
      exact ⟨He.glo_ok X Gn (c.d.fact 41 (f := .glo "_law_asked") rfl), D.kp, ⟨fd, _, bd__law_asked D, def_ok (df := ⟨[false, false, false, false], 5, false, b__law_asked⟩) D sc__law_asked rfl rfl (fun _ _ _ _ _ _ C => p__law_asked (gx X Gn c) (lv X Gn c k) C)⟩, call_pr (T := T) (f := 41) rfl (k + 1)⟩
    c__law_bad := by
      obtain ⟨fd, D⟩ := c.d.def_ 42 (d := dD "_law_bad" 55) rfl
      exact ⟨He.glo_ok X Gn (c.d.fact 42 (f := .glo "_law_bad") rfl), D.kp, ⟨fd, _, bd__law_bad D, def_ok (df := ⟨[true, false, false], 4, false, b__law_bad⟩) D sc__law_bad rfl rfl (fun _ _ _ _ _ _ C => p__law_bad (gx X Gn c) (lv X Gn c k) C)⟩, call_pr (T := T) (f := 42) rfl (k + 1)⟩
    c__law_no_forest := by
      obtain ⟨fd, D⟩ := c.d.def_ 43 (d := dD "_law_no_forest" 56) rfl
      exact ⟨He.glo_ok X Gn (c.d.fact 43 (f := .glo "_law_no_forest") rfl), D.kp, ⟨fd, _, bd__law_no_forest D, def_ok (df := ⟨[true, false], 4, false, b__law_no_forest⟩) D sc__law_no_forest rfl rfl (fun _ _ _ _ _ _ C => p__law_no_forest (gx X Gn c) (lv X Gn c k) C)⟩, call_pr (T := T) (f := 43) rfl (k + 1)⟩
    c__law_no_prices := by
      obtain ⟨fd, D⟩ := c.d.def_ 44 (d := dD "_law_no_prices" 57) rfl
      exact ⟨He.glo_ok X Gn (c.d.fact 44 (f := .glo "_law_no_prices") rfl), D.kp, ⟨fd, _, bd__law_no_prices D, def_ok (df := ⟨[true, false], 3, false, b__law_no_prices⟩) D sc__law_no_prices rfl rfl (fun _ _ _ _ _ _ C => p__law_no_prices (gx X Gn c) (lv X Gn c k) C)⟩, call_pr (T := T) (f := 44) rfl (k + 1)⟩
    c_law := by
      obtain ⟨fd, D⟩ := c.d.def_ 45 (d := dD "law" 58) rfl
      exact ⟨He.glo_ok X Gn (c.d.fact 45 (f := .glo "law") rfl), D.kp, ⟨fd, _, bd_law D, def_ok (df := ⟨[false], 16, false, b_law⟩) D sc_law rfl rfl (fun _ _ _ _ _ _ C => p_law (gx X Gn c) (lv X Gn c k) C)⟩, call_pr (T := T) (f := 45) rfl (k + 1)⟩
    q_0 := by
      obtain ⟨fd, D⟩ := c.d.def_ 17 (d := dD "step_on" 29) rfl
      exact ⟨He.glo_ok X Gn (c.d.fact 17 (f := .glo "step_on") rfl), D.kp, ⟨fd, _, kb_0 D, def_ok (df := ⟨[false, false], 2, false, b_step_on⟩) D sc_step_on rfl rfl (fun _ _ _ _ _ _ C => p_step_on (gx X Gn c) (lv X Gn c k) C)⟩, call_pr (T := T) (f := 17) rfl (k + 1)⟩
    q_1 := by
      obtain ⟨fd, D⟩ := c.d.def_ 18 (d := dD "run_steps" 30) rfl
      exact ⟨He.glo_ok X Gn (c.d.fact 18 (f := .glo "run_steps") rfl), D.kp, ⟨fd, _, kb_1 D, def_ok (df := ⟨[false, false], 3, false, b_run_steps⟩) D sc_run_steps rfl rfl (fun _ _ _ _ _ _ C => p_run_steps (gx X Gn c) (lv X Gn c k) C)⟩, call_pr (T := T) (f := 18) rfl (k + 1)⟩
    q_2 := by
      obtain ⟨fd, D⟩ := c.d.def_ 20 (d := dD "steps_price" 32) rfl
      exact ⟨He.glo_ok X Gn (c.d.fact 20 (f := .glo "steps_price") rfl), D.kp, ⟨fd, _, kb_2 D, def_ok (df := ⟨[false, false, false], 6, false, b_steps_price⟩) D sc_steps_price rfl rfl (fun _ _ _ _ _ _ C => p_steps_price (gx X Gn c) (lv X Gn c k) C)⟩, call_pr (T := T) (f := 20) rfl (k + 1)⟩
    }
end
end Gbk20
set_option Elab.async false
set_option linter.all false
set_option maxRecDepth 100000
set_option maxHeartbeats 0
/-! printed by gen.py: the defs of the row as small semantics, and that their bodies keep it -/
namespace Gbk20
open PySem PySem.Spec L2 Gr
def nm0 : List Str := ["GraftError", "InvalidForest", "InvalidPrices", "InvalidScript", "InvalidPath", "LETTERS", "MOST_LETTERS", "is_int", "is_count", "has_size", "is_word", "_are_triples", "is_prices", "need_prices", "price_between", "is_forest_value", "need_forest", "_is_path", "is_step", "row_at", "_with_row", "_row_behind", "moved_by", "_checked_move", "step_on", "run_steps", "_tree_there", "steps_price", "_law_mixed", "_law_draw"]
def nm1 : List Str := ["_law_start", "_law_same", "_law_pool", "_law_grown", "_law_planted", "_law_plain", "_law_listed", "_law_stepped", "_law_change", "_law_prices", "_law_chained", "_law_within", "_law_step", "_law_run", "_law_no_path", "_law_no_word", "_law_no_step", "_law_misfit", "_law_asked", "_law_bad", "_law_no_forest", "_law_no_prices"]
def names : List Str := nm0 ++ nm1
abbrev Rw : PySem.W.OpenRow := PySem.W.OpenLaw.row PySem.Challenge.rw_graftbook_k20_steps_run
abbrev hk : PySem.W.Hook := hookE 4 fa fn cl xsL Pg.main.file
def ob (s : PySem.W.SharedT) : AlE := obsEG 4 fa fn cl xsL Pg.main.file (HandSHeadRun.getT s)
theorem ob_eq (s : PySem.W.SharedT) : ob s = hk.obs s.abs := obsEG_eq (HandSHeadRun.getT_eq s)
theorem run (w : World) : HandSHeadRun.RunEq Rw (PySem.W.view Rw.prog [58]) hk ob 6000 names w := by
  intro os
  kernel_rfl
end Gbk20
set_option linter.all false
set_option maxRecDepth 100000
/-! V0: the small semantics, run by simp; what comes next has a name, so that simp leaves it alone till it is reached. -/
namespace Gr
def oD (o : Option D) (e : Ev) : Out Rv := match o with
  | some d => .ok (.val d) e
  | none => .stk
def ap1 (f : P → Option D) (x : Option P) (e : Ev) : Out Rv := match x with
  | some x => oD (f x) e
  | none => .stk
def ap2 (f : P → P → Option D) (x y : Option P) (e : Ev) : Out Rv := match x, y with
  | some x, some y => oD (f x y) e
  | _, _ => .stk
def apF (f : List P → Option D) (o : Option (List P)) (e : Ev) : Out Rv := match o with
  | some ps => oD (f ps) e
  | none => .stk
def vG (i : Nat) (s : Sl) (e : Ev) : Out Rv := match s with
  | some (.pure p) => .ok (.val (.pure p)) e
  | some (.ols _) => .ok (.slot i) e
  | some (.odc _ _) => .ok (.slot i) e
  | _ => .stk
def kL (c : Ct) : Rv → Ev → Out P := fun r e1 => leakR r c e1
def kO1 (f : P → Option D) : Rv → Ev → Out Rv := fun r e1 => ap1 f (r.pv e1) e1
def kO2b (f : P → P → Option D) (r : Rv) : Rv → Ev → Out Rv := fun s e2 => ap2 f (r.pv e2) (s.pv e2) e2
def kO2 (f : P → P → Option D) (b : M Rv) (c : Ct) : Rv → Ev → Out Rv := fun r e1 => (b (c.lock r.lks) e1).andThen (kO2b f r)
def kLsb (p : P) : List P → Ev → Out (List P) := fun ps e2 => .ok (p :: ps) e2
def kLs (ms : List (M Rv)) (c : Ct) : P → Ev → Out (List P) := fun p e1 => (mLs ms c e1).andThen (kLsb p)
def kTup : List P → Ev → Out Rv := fun ps e1 => .ok (.val (.pure (.tup ps))) e1
def kLst : List P → Ev → Out Rv := fun ps e1 => .ok (.val (.ols ps)) e1
def apT (x : Option P) (e : Ev) : Out Bool := match x with
  | some x => ofOpt (truP x) e
  | none => .stk
def kTr : Rv → Ev → Out Bool := fun r e1 => apT (r.pv e1) e1
def kNotT : Bool → Ev → Out Bool := fun b e1 => .ok (!b) e1
def kAndT (u : M Bool) (c : Ct) : Bool → Ev → Out Bool := fun b e1 => if b = true then u c e1 else .ok false e1
def kOrT (u : M Bool) (c : Ct) : Bool → Ev → Out Bool := fun b e1 => if b = true then .ok true e1 else u c e1
def apN (x : Option P) (e : Ev) : Out Rv := match x with
  | some (.bl b) => .ok (.val (.pure (.bl (!b)))) e
  | _ => .stk
def kNotV : Rv → Ev → Out Rv := fun r e1 => apN (r.pv e1) e1
def apA (b : M Rv) (c : Ct) (x : Option P) (e : Ev) : Out Rv := match x with
  | some (.bl true) => b c e
  | some (.bl false) => .ok (.val (.pure (.bl false))) e
  | _ => .stk
def kAndV (b : M Rv) (c : Ct) : Rv → Ev → Out Rv := fun r e1 => apA b c (r.pv e1) e1
def apO (b : M Rv) (c : Ct) (x : Option P) (e : Ev) : Out Rv := match x with
  | some (.bl true) => .ok (.val (.pure (.bl true))) e
  | some (.bl false) => b c e
  | _ => .stk
def kOrV (b : M Rv) (c : Ct) : Rv → Ev → Out Rv := fun r e1 => apO b c (r.pv e1) e1
def kIfE (a b : M Rv) (c : Ct) : Bool → Ev → Out Rv := fun k e1 => if k = true then a c e1 else b c e1
def apC4 (g : P → P → Option D) (y z : Option P) (e : Ev) : Out Rv := match y, z with
  | some y, some z => (match g y z with
    | some (.pure (.bl k)) => .ok (.val (.pure (.bl k))) e
    | _ => .stk)
  | _, _ => .stk
def kC3 (g : P → P → Option D) (s : Rv) : Rv → Ev → Out Rv := fun t e3 => apC4 g (s.pv e3) (t.pv e3) e3
def apC (f g : P → P → Option D) (d : M Rv) (c : Ct) (r s : Rv) (x y : Option P) (e2 : Ev) : Out Rv := match x, y with
  | some x, some y => (match f x y with
    | some (.pure (.bl true)) => (d ((c.lock r.lks).lock s.lks) e2).andThen (kC3 g s)
    | some (.pure (.bl false)) => .ok (.val (.pure (.bl false))) e2
    | _ => .stk)
  | _, _ => .stk
def kC2 (f g : P → P → Option D) (d : M Rv) (c : Ct) (r : Rv) : Rv → Ev → Out Rv := fun s e2 => apC f g d c r s (r.pv e2) (s.pv e2) e2
def kC1 (f g : P → P → Option D) (b d : M Rv) (c : Ct) : Rv → Ev → Out Rv := fun r e1 => (b (c.lock r.lks) e1).andThen (kC2 f g d c r)
def kA2 (r : Rv) : List Rv → Ev → Out (List Rv) := fun rs e2 => .ok (r :: rs) e2
def kA1 (pr : Bool) (ms : List (Bool × M Rv)) (c : Ct) : P → Ev → Out (List Rv) := fun p e2 => (evAs pr ms c e2).andThen (kA2 (.val (.pure p)))
def kA (pr mp : Bool) (ms : List (Bool × M Rv)) (c : Ct) : Rv → Ev → Out (List Rv) := fun r e1 =>
    if (mp || pr) = true then (evAs pr ms (c.lock r.lks) e1).andThen (kA2 r)
    else (leakR r c e1).andThen (kA1 pr ms c)
def kFn (f : List P → Option D) : List Rv → Ev → Out Rv := fun rs e1 => apF f (rs.mapM (Rv.pv e1)) e1
def kCall (f : Nat) (pr : Bool) (fl : List Bool) (c : Ct) : List Rv → Ev → Out Rv := fun rs e1 => callR f pr fl c rs e1
def kCallK (f : Nat) (pr : Bool) (ix : List Nat) (fl : List Bool) (c : Ct) : List Rv → Ev → Out Rv := fun rs e1 => callR f pr (pick ix fl) c (pick ix rs) e1
def kSeq (b : M Flow) (c : Ct) : Flow → Ev → Out Flow := fun f e1 => match f with
  | .nx => b c e1
  | f => .ok f e1
def kEx : Rv → Ev → Out Flow := fun _ e1 => .ok .nx e1
def kRt1 : P → Ev → Out Flow := fun p e2 => .ok (.rt (.pure p)) e2
def kRt (mps : List Nat) (c : Ct) : Rv → Ev → Out Flow := fun r e1 => match r with
  | .val d => .ok (.rt d) e1
  | .slot i => if mps.contains i then (leakR (.slot i) c e1).andThen kRt1
    else if c.lk.contains i then .stk else match getS e1 i with
    | some d => .ok (.rt d) (e1.set i none)
    | none => .stk
def kIf (a b : M Flow) (c : Ct) : Bool → Ev → Out Flow := fun k e1 => if k = true then a c e1 else b c e1
def setB (o : Option Ev) : Out Flow := match o with
  | some e2 => .ok .nx e2
  | none => .stk
def kSet1 (c : Ct) (i : Nat) : P → Ev → Out Flow := fun p e2 => setB (bindN c i (.pure p) e2)
def kSet (c : Ct) (i : Nat) : Rv → Ev → Out Flow := fun r e1 => match r with
  | .val d => setB (bindN c i d e1)
  | .slot j => (leakR (.slot j) c e1).andThen (kSet1 c i)
def apSetT (c : Ct) (is : List Nat) (p : P) (e : Ev) : Out Flow := match p with
  | .tup ps => setB (bindNs c is ps e)
  | _ => .stk
def kSetT (c : Ct) (is : List Nat) : P → Ev → Out Flow := fun p e => apSetT c is p e
def kPar (c : Ct) (i j : Nat) : List P → Ev → Out Flow := fun ps e1 => setB (bindNs c [i, j] ps e1)
def apAug (f : P → P → Option D) (c : Ct) (i : Nat) (x : P) (y : Option P) (e1 : Ev) : Out Flow := match y with
    | some y => (match f x y with
      | some d => setB (bindN c i d e1)
      | none => .stk)
    | none => .stk
def kAug (f : P → P → Option D) (c : Ct) (i : Nat) (x : P) : Rv → Ev → Out Flow := fun r e1 => apAug f c i x (r.pv e1) e1
def augG (f : P → P → Option D) (c : Ct) (i : Nat) (m : M Rv) (s : Sl) (e : Ev) : Out Flow := match s with
  | some (.pure x) => (m c e).andThen (kAug f c i x)
  | _ => .stk
def apPut (i : Nat) (p : P) (s : Sl) (k : Option P) (e2 : Ev) : Out Flow := match s, k with
    | some (.ols xs), some (.int j) => (match ixOf xs.length j with
      | some n => .ok .nx (e2.set i (some (.ols (xs.set n p))))
      | none => .stk)
    | _, _ => .stk
def kPut2 (c : Ct) (i : Nat) (p : P) : Rv → Ev → Out Flow := fun r e2 => if c.lk.contains i then .stk else apPut i p (getS e2 i) (r.pv e2) e2
def putG (k : M Rv) (c : Ct) (i : Nat) (p : P) (s : Sl) (e1 : Ev) : Out Flow := match s with
  | some (.ols _) => (k (c.lock [i]) e1).andThen (kPut2 c i p)
  | _ => .stk
def kPut (k : M Rv) (c : Ct) (i : Nat) : P → Ev → Out Flow := fun p e1 => putG k c i p (getS e1 i) e1
def apApp (i : Nat) (p : P) (s : Sl) (e1 : Ev) : Out Rv := match s with
    | some (.ols xs) => if xs.length < line then .ok (.val (.pure .non)) (e1.set i (some (.ols (xs ++ [p])))) else .stk
    | _ => .stk
def kApp (c : Ct) (i : Nat) : P → Ev → Out Rv := fun p e1 => if c.lk.contains i then .stk else apApp i p (getS e1 i) e1
def appG (v : M Rv) (c : Ct) (i : Nat) (s : Sl) (e : Ev) : Out Rv := match s with
  | some (.ols _) => (mLeak v (c.lock [i]) e).andThen (kApp c i)
  | _ => .stk
def apIns (i : Nat) (j : Int) (p : P) (s : Sl) (e2 : Ev) : Out Rv := match s with
      | some (.ols xs) => if xs.length < line then .ok (.val (.pure .non)) (e2.set i (some (.ols (insAt xs j.toNat p)))) else .stk
      | _ => .stk
def kIns2 (c : Ct) (i : Nat) (j : Int) : P → Ev → Out Rv := fun p e2 => if (c.lk.contains i || !(decide (0 ≤ j) && okR j)) = true then .stk else apIns i j p (getS e2 i) e2
def insK (v : M Rv) (c : Ct) (i : Nat) (x : Option P) (e1 : Ev) : Out Rv := match x with
    | some (.int j) => (mLeak v (c.lock [i]) e1).andThen (kIns2 c i j)
    | _ => .stk
def kIns (v : M Rv) (c : Ct) (i : Nat) : Rv → Ev → Out Rv := fun r e1 => insK v c i (r.pv e1) e1
def insG (k v : M Rv) (c : Ct) (i : Nat) (s : Sl) (e : Ev) : Out Rv := match s with
  | some (.ols _) => (k (c.lock [i]) e).andThen (kIns v c i)
  | _ => .stk
def apIt (l : List Nat) (x : Option (List P)) (e : Ev) : Out (List P × List Nat) := match x with
  | some xs => .ok (xs, l) e
  | none => .stk
def kIv : Rv → Ev → Out (List P × List Nat) := fun r e1 => apIt r.lks ((r.pv e1).bind itemsOf) e1
def apR1 (x : Option P) (e1 : Ev) : Out (List P × List Nat) := match x with
  | some (.int j) => if okR j = true then .ok (upTo 0 j.toNat, []) e1 else .stk
  | _ => .stk
def kR1 : Rv → Ev → Out (List P × List Nat) := fun r e1 => apR1 (r.pv e1) e1
def apR2 (x y : Option P) (e2 : Ev) : Out (List P × List Nat) := match x, y with
  | some (.int i), some (.int j) => if (okR i && okR j) = true then .ok (upTo i (j - i).toNat, []) e2 else .stk
  | _, _ => .stk
def kR2b (r : Rv) : Rv → Ev → Out (List P × List Nat) := fun s e2 => apR2 (r.pv e2) (s.pv e2) e2
def kR2 (b : M Rv) (c : Ct) : Rv → Ev → Out (List P × List Nat) := fun r e1 => (b (c.lock r.lks) e1).andThen (kR2b r)
def oComp (o : Out (List P)) : Out Rv := match o with
    | .ok ps e2 => .ok (.val (.ols ps)) e2
    | _ => .stk
def kComp (own : List Nat) (tg : Tg) (t : M Bool) (elt : M Rv) (c : Ct) : List P × List Nat → Ev → Out Rv := fun xl e1 =>
  if (decide (xl.1.length ≤ line) && own.all fun i => !(xl.2 ++ c.lk).contains i) = true then oComp (compF tg t elt own (c.lock xl.2) xl.1 (wipeE e1 own)) else .stk
def kFor (tg : Tg) (body : M Flow) (c : Ct) : List P × List Nat → Ev → Out Flow := fun xl e1 => forF tg body (c.lock xl.2) xl.1 e1
def kFF (tg : Tg) (body : M Flow) (c : Ct) (xs : List P) : Flow → Ev → Out Flow := fun f e2 => match f with
      | .nx => forF tg body c xs e2
      | .ct => forF tg body c xs e2
      | .bk => .ok .nx e2
      | .rt d => .ok (.rt d) e2
def forG (tg : Tg) (body : M Flow) (c : Ct) (xs : List P) (o : Option Ev) : Out Flow := match o with
  | some e1 => (body c e1).andThen (kFF tg body c xs)
  | none => .stk
def kRs (x : Nat) (ats : List Nat) : List P → Ev → Out Flow := fun ps e1 => .rs x (ats.zip ps).reverse e1
def apAt (o : Option P) (e : Ev) : Out Rv := match o with
    | some p => .ok (.val (.pure p)) e
    | none => .stk
def atG (ok : Nat → Bool) (f : Nat) (s : Sl) (e : Ev) : Out Rv := match s with
  | some (.exn c fs) => if ok c = true then apAt (fs.lookup f) e else .stk
  | _ => .stk
def tryG (hs : List Hd) (c : Ct) (o : Out Flow) : Out Flow := match o with
  | .rs x fs e1 => hdF x fs hs c e1
  | o => o
def slOut (l u : Option Int) (x : Option P) (e3 : Ev) : Out Rv := match x with
  | some p => oD (slP p l u) e3
  | none => .stk
def kSl3 (r : Rv) (l : Option Int) : Option Int → Ev → Out Rv := fun u e3 => slOut l u (r.pv e3) e3
def kSl2 (hi : Option (M Rv)) (c : Ct) (r : Rv) : Option Int → Ev → Out Rv := fun l e2 => (mPart hi (c.lock r.lks) e2).andThen (kSl3 r l)
def kSl1 (lo hi : Option (M Rv)) (c : Ct) : Rv → Ev → Out Rv := fun r e1 => (mPart lo (c.lock r.lks) e1).andThen (kSl2 hi c r)
def methO (f : P → List P → Option D) (p : Option P) (ps : Option (List P)) (e2 : Ev) : Out Rv := match p, ps with
    | some p, some ps => oD (f p ps) e2
    | _, _ => .stk
def kMe2 (f : P → List P → Option D) (r : Rv) : List Rv → Ev → Out Rv := fun rs e2 => methO f (r.pv e2) (rs.mapM (Rv.pv e2)) e2
def methG (ty : P → Bool) (f : P → List P → Option D) (as : List (M Rv)) (c : Ct) (r : Rv) (x : Option P) (e1 : Ev) : Out Rv := match x with
  | some p0 => if ty p0 = true then (evAs true (as.map fun m => (false, m)) (c.lock r.lks) e1).andThen (kMe2 f r) else .stk
  | none => .stk
def kMe (ty : P → Bool) (f : P → List P → Option D) (as : List (M Rv)) (c : Ct) : Rv → Ev → Out Rv := fun r e1 => methG ty f as c r (r.pv e1) e1

def putO (i : Nat) (p : P) (xs : List P) (o : Option Nat) (e : Ev) : Out Flow := match o with
  | some n => .ok .nx (e.set i (some (.ols (xs.set n p))))
  | none => .stk
def retR (fl : List Bool) (rs : List Rv) (e1 : Ev) (r : Res) : Out Rv := match r with
  | .ok r ws => .ok (.val r) (backW fl rs ws e1)
  | .rs x fs ws => .rs x fs (backW fl rs ws e1)
  | .stk => .stk
def cR (f : Nat) (fl : List Bool) (c : Ct) (rs : List Rv) (e1 : Ev) (o : Option (List D)) : Out Rv := match o with
  | some ds => if argFit fl ds = true then retR fl rs e1 (c.call f ds) else .stk
  | none => .stk
def finW (pr : Bool) (d : D) (o : Option (List D)) : Res := match o with
  | some ws => if (d.flat && (!pr || (d.bare && ws.all D.bareIn))) = true then .ok d ws else .stk
  | none => .stk
def finX (pr : Bool) (x : Nat) (fs : List (Nat × P)) (o : Option (List D)) : Res := match o with
  | some ws => if (!pr || ((fs.all fun q => q.2.bare) && ws.all D.bareIn)) = true then .rs x fs ws else .stk
  | none => .stk
def endR (mp : List Bool) (pr : Bool) (o : Out Flow) : Res := match o with
  | .ok (.rt d) e => finW pr d (wsOf mp e)
  | .ok .nx e => finW pr (.pure .non) (wsOf mp e)
  | .ok _ _ => .stk
  | .rs x fs e => finX pr x fs (wsOf mp e)
  | .stk => .stk
theorem callN_s {T : List Df} {k f : Nat} {d : Df} {ds : List D} (h : T[f]? = some d) : callN T (k + 1) f ds = runD d (callN T k) ds := by
  show (match T[f]? with | some d => runD d (callN T k) ds | none => .stk) = _
  rw [h]
section
variable {α β : Type} {a : α} {e e1 : Ev} {c : Ct} {p x y z : P} {d : D} {i j : Nat} {xn : Nat} {fs : List (Nat × P)} {k : α → Ev → Out β} {pr mp b : Bool} {m : M Rv} {ms : List (M Rv)} {t u : M Bool} {r s : Rv} {xs ys : List P} {n : Nat} {A B : M Rv} {S S2 : M Flow}
@[simp] theorem at_ok : (Out.ok a e).andThen k = k a e := (rfl)
@[simp] theorem at_rs : (Out.rs xn fs e : Out α).andThen k = .rs xn fs e := (rfl)
@[simp] theorem at_stk : (Out.stk : Out α).andThen k = .stk := (rfl)
@[simp] theorem oo_some : ofOpt (some a) e = .ok a e := (rfl)
@[simp] theorem oD_some : oD (some d) e = .ok (.val d) e := (rfl)
@[simp] theorem getS_0 {s : Sl} {e : Ev} : getS (s :: e) 0 = s := (rfl)
@[simp] theorem getS_s {s : Sl} {e : Ev} {n : Nat} : getS (s :: e) (n + 1) = getS e n := by simp [getS]
@[simp] theorem pv_pure : (D.pure p).pv = some p := (rfl)
@[simp] theorem pv_ols {xs : List P} : (D.ols xs).pv = some (.lst xs) := (rfl)
@[simp] theorem rpv_val : (Rv.val d).pv e = d.pv := (rfl)
@[simp] theorem rpv_slot : (Rv.slot i).pv e = (getS e i).bind D.pv := (rfl)
@[simp] theorem lks_val : (Rv.val d).lks = [] := (rfl)
@[simp] theorem lks_slot : (Rv.slot i).lks = [i] := (rfl)
@[simp] theorem lock_call {l : List Nat} : (c.lock l).call = c.call := (rfl)
@[simp] theorem lock_lk {l : List Nat} : (c.lock l).lk = l ++ c.lk := (rfl)
@[simp] theorem lock_nil : c.lock [] = c := (rfl)
@[simp] theorem r_C : mC p c e = .ok (.val (.pure p)) e := (rfl)
@[simp] theorem r_V : mV i c e = vG i (getS e i) e := (rfl)
@[simp] theorem vG_p : vG i (some (.pure p)) e = .ok (.val (.pure p)) e := (rfl)
@[simp] theorem vG_o : vG i (some (.ols xs)) e = .ok (.slot i) e := (rfl)
@[simp] theorem leak_p : leakR (.val (.pure p)) c e = .ok p e := (rfl)
@[simp] theorem leak_o {xs : List P} : leakR (.val (.ols xs)) c e = .ok (.lst xs) e := (rfl)
@[simp] theorem leak_s : leakR (.slot i) c e = if c.lk.contains i then .stk else match (getS e i).bind D.pv with
    | some p => .ok p (e.set i (some (.pure p)))
    | none => .stk := (rfl)
@[simp] theorem r_leak : mLeak m c e = (m c e).andThen (kL c) := (rfl)
@[simp] theorem q_L : kL c r e = leakR r c e := (rfl)
@[simp] theorem r_op1 {f : P → Option D} : mOp1 f m c e = (m c e).andThen (kO1 f) := (rfl)
@[simp] theorem q_O1 {f : P → Option D} : kO1 f r e = ap1 f (r.pv e) e := (rfl)
@[simp] theorem ap1_s {f : P → Option D} : ap1 f (some x) e = oD (f x) e := (rfl)
@[simp] theorem r_op2 {f : P → P → Option D} : mOp2 f A B c e = (A c e).andThen (kO2 f B c) := (rfl)
@[simp] theorem q_O2 {f : P → P → Option D} : kO2 f B c r e = (B (c.lock r.lks) e).andThen (kO2b f r) := (rfl)
@[simp] theorem q_O2b {f : P → P → Option D} : kO2b f r s e = ap2 f (r.pv e) (s.pv e) e := (rfl)
@[simp] theorem ap2_s {f : P → P → Option D} : ap2 f (some x) (some y) e = oD (f x y) e := (rfl)
@[simp] theorem r_ls0 : mLs [] c e = .ok [] e := (rfl)
@[simp] theorem r_ls : mLs (m :: ms) c e = (mLeak m c e).andThen (kLs ms c) := (rfl)
@[simp] theorem q_Ls : kLs ms c p e = (mLs ms c e).andThen (kLsb p) := (rfl)
@[simp] theorem q_Lsb : kLsb p xs e = .ok (p :: xs) e := (rfl)
@[simp] theorem r_tup : mTup ms c e = (mLs ms c e).andThen kTup := (rfl)
@[simp] theorem q_tup : kTup xs e = .ok (.val (.pure (.tup xs))) e := (rfl)
@[simp] theorem r_lst : mLst ms c e = (mLs ms c e).andThen kLst := (rfl)
@[simp] theorem q_lst : kLst xs e = .ok (.val (.ols xs)) e := (rfl)
@[simp] theorem r_tr : mTr m c e = (m c e).andThen kTr := (rfl)
@[simp] theorem q_tr : kTr r e = apT (r.pv e) e := (rfl)
@[simp] theorem apT_s : apT (some x) e = ofOpt (truP x) e := (rfl)
@[simp] theorem tru_bl : truP (.bl b) = some b := (rfl)
@[simp] theorem tru_int {i : Int} : truP (.int i) = some (i != 0) := (rfl)
@[simp] theorem tru_non : truP .non = some false := (rfl)
@[simp] theorem tru_tup : truP (.tup xs) = some (!xs.isEmpty) := (rfl)
@[simp] theorem tru_lst : truP (.lst xs) = some (!xs.isEmpty) := (rfl)
@[simp] theorem r_notT : mNotT t c e = (t c e).andThen kNotT := (rfl)
@[simp] theorem q_notT : kNotT b e = .ok (!b) e := (rfl)
@[simp] theorem r_andT : mAndT t u c e = (t c e).andThen (kAndT u c) := (rfl)
@[simp] theorem q_andT1 : kAndT u c true e = u c e := (rfl)
@[simp] theorem q_andT0 : kAndT u c false e = .ok false e := (rfl)
@[simp] theorem r_orT : mOrT t u c e = (t c e).andThen (kOrT u c) := (rfl)
@[simp] theorem q_orT1 : kOrT u c true e = .ok true e := (rfl)
@[simp] theorem q_orT0 : kOrT u c false e = u c e := (rfl)
@[simp] theorem r_notV : mNotV m c e = (m c e).andThen kNotV := (rfl)
@[simp] theorem q_notV : kNotV r e = apN (r.pv e) e := (rfl)
@[simp] theorem apN_s : apN (some (.bl b)) e = .ok (.val (.pure (.bl (!b)))) e := (rfl)
@[simp] theorem r_andV : mAndV A B c e = (A c e).andThen (kAndV B c) := (rfl)
@[simp] theorem q_andV : kAndV B c r e = apA B c (r.pv e) e := (rfl)
@[simp] theorem apA_1 : apA B c (some (.bl true)) e = B c e := (rfl)
@[simp] theorem apA_0 : apA B c (some (.bl false)) e = .ok (.val (.pure (.bl false))) e := (rfl)
@[simp] theorem r_orV : mOrV A B c e = (A c e).andThen (kOrV B c) := (rfl)
@[simp] theorem q_orV : kOrV B c r e = apO B c (r.pv e) e := (rfl)
@[simp] theorem apO_1 : apO B c (some (.bl true)) e = .ok (.val (.pure (.bl true))) e := (rfl)
@[simp] theorem apO_0 : apO B c (some (.bl false)) e = B c e := (rfl)
@[simp] theorem r_ifE : mIfE t A B c e = (t c e).andThen (kIfE A B c) := (rfl)
@[simp] theorem q_ifE1 : kIfE A B c true e = A c e := (rfl)
@[simp] theorem q_ifE0 : kIfE A B c false e = B c e := (rfl)
section
variable {f g : P → P → Option D} {D0 : M Rv}
@[simp] theorem r_chain : mChain f g A B D0 c e = (A c e).andThen (kC1 f g B D0 c) := (rfl)
@[simp] theorem q_C1 : kC1 f g B D0 c r e = (B (c.lock r.lks) e).andThen (kC2 f g D0 c r) := (rfl)
@[simp] theorem q_C2 : kC2 f g D0 c r s e = apC f g D0 c r s (r.pv e) (s.pv e) e := (rfl)
theorem apC_1 (h : f x y = some (.pure (.bl true))) : apC f g D0 c r s (some x) (some y) e = (D0 ((c.lock r.lks).lock s.lks) e).andThen (kC3 g s) := by simp [apC, h]
theorem apC_0 (h : f x y = some (.pure (.bl false))) : apC f g D0 c r s (some x) (some y) e = .ok (.val (.pure (.bl false))) e := by simp [apC, h]
@[simp] theorem q_C3 : kC3 g s r e = apC4 g (s.pv e) (r.pv e) e := (rfl)
end
@[simp] theorem apC_b {f : Int → Int → Bool} {g : P → P → Option D} {D0 : M Rv} {i j : Int} : apC (opCmp f) g D0 c r s (some (.int i)) (some (.int j)) e = if f i j = true then (D0 ((c.lock r.lks).lock s.lks) e).andThen (kC3 g s) else .ok (.val (.pure (.bl false))) e := by
  cases h : f i j <;> simp [apC, opCmp, h]
@[simp] theorem apC4_b {f : Int → Int → Bool} {i j : Int} : apC4 (opCmp f) (some (.int i)) (some (.int j)) e = .ok (.val (.pure (.bl (f i j)))) e := (rfl)
section
variable {as : List (Bool × M Rv)} {rs : List Rv} {fl : List Bool} {f : Nat} {ix : List Nat}
@[simp] theorem r_as0 : evAs pr [] c e = .ok [] e := (rfl)
@[simp] theorem r_as : evAs pr ((mp, m) :: as) c e = (m c e).andThen (kA pr mp as c) := (rfl)
@[simp] theorem q_A1 : kA true mp as c r e = (evAs true as (c.lock r.lks) e).andThen (kA2 r) := by simp [kA]
@[simp] theorem q_A2 : kA false true as c r e = (evAs false as (c.lock r.lks) e).andThen (kA2 r) := (rfl)
@[simp] theorem q_A3 : kA false false as c r e = (leakR r c e).andThen (kA1 false as c) := (rfl)
@[simp] theorem q_A4 : kA1 pr as c p e = (evAs pr as c e).andThen (kA2 (.val (.pure p))) := (rfl)
@[simp] theorem q_A5 : kA2 r rs e = .ok (r :: rs) e := (rfl)
@[simp] theorem r_fn {f : List P → Option D} : mFn f ms c e = (evAs true (ms.map fun m => (false, m)) c e).andThen (kFn f) := (rfl)
@[simp] theorem q_fn {f : List P → Option D} : kFn f rs e = apF f (rs.mapM (Rv.pv e)) e := (rfl)
@[simp] theorem apF_s {f : List P → Option D} : apF f (some xs) e = oD (f xs) e := (rfl)
@[simp] theorem r_call : mCall f pr as c e = (evAs pr as c e).andThen (kCall f pr (as.map (·.1)) c) := (rfl)
@[simp] theorem q_call : kCall f pr fl c rs e = callR f pr fl c rs e := (rfl)
@[simp] theorem r_callK : mCallK f pr ix as c e = (evAs pr as c e).andThen (kCallK f pr ix (as.map (·.1)) c) := (rfl)
@[simp] theorem q_callK : kCallK f pr ix fl c rs e = callR f pr (pick ix fl) c (pick ix rs) e := (rfl)
end
section
variable {f : Nat} {fl : List Bool} {rs : List Rv} {ds ws : List D} {l : List Nat} {call : Nat → List D → Res} {body : M Flow}
@[simp] theorem r_callR : callR f pr fl c rs e = if agOk c.lk pr fl rs = true then cR f fl c rs e (argD e fl rs) else .stk := by
  unfold callR cR retR
  rfl
@[simp] theorem cR_s : cR f fl c rs e (some ds) = if argFit fl ds = true then retR fl rs e (c.call f ds) else .stk := (rfl)
@[simp] theorem retR_o : retR fl rs e (.ok d ws) = .ok (.val d) (backW fl rs ws e) := (rfl)
@[simp] theorem retR_r : retR fl rs e (.rs xn fs ws) = .rs xn fs (backW fl rs ws e) := (rfl)
@[simp] theorem ag_ok : agOk l pr fl rs = ((pr || (seenS fl rs).isEmpty) && noDup (mpS fl rs) && (mpS fl rs).all fun i => !l.contains i && !(seenS fl rs).contains i) := (rfl)
@[simp] theorem mpS_0 : mpS [] rs = [] := by cases rs <;> rfl
@[simp] theorem mpS_t : mpS (true :: fl) (.slot i :: rs) = i :: mpS fl rs := (rfl)
@[simp] theorem mpS_v : mpS (b :: fl) (.val d :: rs) = mpS fl rs := by cases b <;> rfl
@[simp] theorem mpS_f : mpS (false :: fl) (r :: rs) = mpS fl rs := by cases r <;> rfl
@[simp] theorem seen_0 : seenS [] rs = [] := by cases rs <;> rfl
@[simp] theorem seen_t : seenS (true :: fl) (r :: rs) = seenS fl rs := by cases r <;> rfl
@[simp] theorem seen_v : seenS (b :: fl) (.val d :: rs) = seenS fl rs := by cases b <;> rfl
@[simp] theorem seen_f : seenS (false :: fl) (.slot i :: rs) = i :: seenS fl rs := (rfl)
@[simp] theorem noDup_0 : noDup [] = true := (rfl)
@[simp] theorem noDup_s : noDup (i :: l) = (!l.contains i && noDup l) := (rfl)
@[simp] theorem argD_0 : argD e [] [] = some [] := (rfl)
@[simp] theorem argD_tv : argD e (true :: fl) (.val d :: rs) = (argD e fl rs).map (d :: ·) := (rfl)
@[simp] theorem argD_ts : argD e (true :: fl) (.slot i :: rs) = match getS e i with
  | some d => (argD e fl rs).map (d :: ·)
  | none => none := (rfl)
@[simp] theorem argD_f : argD e (false :: fl) (r :: rs) = match r.pv e with
    | some p => (argD e fl rs).map (.pure p :: ·)
    | none => none := by cases r <;> rfl
@[simp] theorem backW_0 : backW [] rs ws e = e := by cases rs <;> rfl
@[simp] theorem backW_ts : backW (true :: fl) (.slot i :: rs) (d :: ws) e = backW fl rs ws (e.set i (some d)) := (rfl)
@[simp] theorem backW_tv {w : D} : backW (true :: fl) (.val d :: rs) (w :: ws) e = backW fl rs ws e := (rfl)
@[simp] theorem backW_f : backW (false :: fl) (r :: rs) ws e = backW fl rs ws e := by cases r <;> rfl
@[simp] theorem fit_0 : argFit [] [] = true := (rfl)
@[simp] theorem fit_l : argFit (true :: fl) (.ols xs :: ds) = argFit fl ds := (rfl)
@[simp] theorem fit_d : argFit (true :: fl) (.odc xs ys :: ds) = argFit fl ds := (rfl)
@[simp] theorem fit_p : argFit (false :: fl) (.pure p :: ds) = argFit fl ds := (rfl)
theorem run_s (h : argFit fl ds = true) (h2 : ds.length ≤ n) : runD ⟨fl, n, pr, body⟩ call ds = endR fl pr (body ⟨call, []⟩ (ds.map some ++ List.replicate (n - ds.length) none)) := by
  unfold runD endR finW finX Df.end_
  simp only [h, h2, Bool.true_and, decide_true, if_true]
  all_goals rfl
@[simp] theorem end_rt : endR fl pr (.ok (.rt d) e) = finW pr d (wsOf fl e) := (rfl)
@[simp] theorem end_nx : endR fl pr (.ok .nx e) = finW pr (.pure .non) (wsOf fl e) := (rfl)
@[simp] theorem end_rs : endR fl pr (.rs xn fs e) = finX pr xn fs (wsOf fl e) := (rfl)
@[simp] theorem ws_0 : wsOf [] e = some [] := by cases e <;> rfl
@[simp] theorem ws_t : wsOf (true :: fl) (some (.ols xs) :: e) = (wsOf fl e).map (.ols xs :: ·) := (rfl)
@[simp] theorem ws_f {s : Sl} : wsOf (false :: fl) (s :: e) = wsOf fl e := (rfl)
@[simp] theorem fin_p : finW false (.pure p) (some ws) = .ok (.pure p) ws := (rfl)
@[simp] theorem fin_l : finW false (.ols xs) (some ws) = .ok (.ols xs) ws := (rfl)
@[simp] theorem fin_x : finX false xn fs (some ws) = .rs xn fs ws := (rfl)
end
@[simp] theorem r_seq : mSeq S S2 c e = (S c e).andThen (kSeq S2 c) := (rfl)
@[simp] theorem q_seq_n : kSeq S c .nx e = S c e := (rfl)
@[simp] theorem q_seq_b : kSeq S c .bk e = .ok .bk e := (rfl)
@[simp] theorem q_seq_c : kSeq S c .ct e = .ok .ct e := (rfl)
@[simp] theorem q_seq_r : kSeq S c (.rt d) e = .ok (.rt d) e := (rfl)
@[simp] theorem r_nx : mNx c e = .ok .nx e := (rfl)
@[simp] theorem r_bk : mBk c e = .ok .bk e := (rfl)
@[simp] theorem r_ct : mCt c e = .ok .ct e := (rfl)
@[simp] theorem r_ex : mEx m c e = (m c e).andThen kEx := (rfl)
@[simp] theorem q_ex : kEx r e = .ok .nx e := (rfl)
section
variable {mps : List Nat}
@[simp] theorem r_rt : mRt mps m c e = (m c e).andThen (kRt mps c) := (rfl)
@[simp] theorem q_rt_v : kRt mps c (.val d) e = .ok (.rt d) e := (rfl)
@[simp] theorem q_rt_s : kRt mps c (.slot i) e = if mps.contains i then (leakR (.slot i) c e).andThen kRt1
    else if c.lk.contains i then .stk else match getS e i with
    | some d => .ok (.rt d) (e.set i none)
    | none => .stk := (rfl)
@[simp] theorem q_rt1 : kRt1 p e = .ok (.rt (.pure p)) e := (rfl)
end
@[simp] theorem r_if : mIf t S S2 c e = (t c e).andThen (kIf S S2 c) := (rfl)
@[simp] theorem q_if1 : kIf S S2 c true e = S c e := (rfl)
@[simp] theorem q_if0 : kIf S S2 c false e = S2 c e := (rfl)
@[simp] theorem r_set : mSet i m c e = (m c e).andThen (kSet c i) := (rfl)
@[simp] theorem q_set_v : kSet c i (.val d) e = setB (bindN c i d e) := (rfl)
@[simp] theorem q_set_s : kSet c i (.slot j) e = (leakR (.slot j) c e).andThen (kSet1 c i) := (rfl)
@[simp] theorem q_set1 : kSet1 c i p e = setB (bindN c i (.pure p) e) := (rfl)
@[simp] theorem setB_s : setB (some e) = .ok .nx e := (rfl)
@[simp] theorem r_bindN : bindN c i d e = if (c.lk.contains i || decide (e.length ≤ i)) = true then none else some (e.set i (some d)) := (rfl)
@[simp] theorem r_setT {is : List Nat} : mSetT is m c e = (mLeak m c e).andThen (kSetT c is) := (rfl)
@[simp] theorem q_setT {is : List Nat} : kSetT c is p e = apSetT c is p e := (rfl)
@[simp] theorem apSetT_s {is : List Nat} : apSetT c is (.tup xs) e = setB (bindNs c is xs e) := (rfl)
@[simp] theorem r_bindNs0 : bindNs c [] [] e = some e := (rfl)
@[simp] theorem r_bindNs {is : List Nat} : bindNs c (i :: is) (p :: xs) e = (bindN c i (.pure p) e).bind (bindNs c is xs) := (rfl)
@[simp] theorem r_par : mPar i j A B c e = (mLs [A, B] c e).andThen (kPar c i j) := (rfl)
@[simp] theorem q_par : kPar c i j xs e = setB (bindNs c [i, j] xs e) := (rfl)
section
variable {f : P → P → Option D}
@[simp] theorem r_aug : mAug f i m c e = augG f c i m (getS e i) e := (rfl)
@[simp] theorem augG_s : augG f c i m (some (.pure x)) e = (m c e).andThen (kAug f c i x) := (rfl)
@[simp] theorem q_aug : kAug f c i x r e = apAug f c i x (r.pv e) e := (rfl)
theorem apAug_s (h : f x y = some d) : apAug f c i x (some y) e = setB (bindN c i d e) := by simp [apAug, h]
end
@[simp] theorem r_put : mPut i A B c e = (mLeak B c e).andThen (kPut A c i) := (rfl)
@[simp] theorem q_put : kPut A c i p e = putG A c i p (getS e i) e := (rfl)
@[simp] theorem putG_s : putG A c i p (some (.ols xs)) e = (A (c.lock [i]) e).andThen (kPut2 c i p) := (rfl)
@[simp] theorem q_put2 : kPut2 c i p r e = if c.lk.contains i then .stk else apPut i p (getS e i) (r.pv e) e := (rfl)
@[simp] theorem apPut_s {j : Int} : apPut i p (some (.ols xs)) (some (.int j)) e = putO i p xs (ixOf xs.length j) e := (rfl)
@[simp] theorem putO_s : putO i p xs (some n) e = .ok .nx (e.set i (some (.ols (xs.set n p)))) := (rfl)
@[simp] theorem r_app : mApp i m c e = appG m c i (getS e i) e := (rfl)
@[simp] theorem appG_s : appG m c i (some (.ols xs)) e = (mLeak m (c.lock [i]) e).andThen (kApp c i) := (rfl)
@[simp] theorem q_app : kApp c i p e = if c.lk.contains i then .stk else apApp i p (getS e i) e := (rfl)
@[simp] theorem apApp_s : apApp i p (some (.ols xs)) e = if xs.length < line then .ok (.val (.pure .non)) (e.set i (some (.ols (xs ++ [p])))) else .stk := (rfl)
@[simp] theorem r_ins : mIns i A B c e = insG A B c i (getS e i) e := (rfl)
@[simp] theorem insG_s : insG A B c i (some (.ols xs)) e = (A (c.lock [i]) e).andThen (kIns B c i) := (rfl)
@[simp] theorem q_ins : kIns B c i r e = insK B c i (r.pv e) e := (rfl)
@[simp] theorem insK_s {j : Int} : insK B c i (some (.int j)) e = (mLeak B (c.lock [i]) e).andThen (kIns2 c i j) := (rfl)
@[simp] theorem q_ins2 {j : Int} : kIns2 c i j p e = if (c.lk.contains i || !(decide (0 ≤ j) && okR j)) = true then .stk else apIns i j p (getS e i) e := (rfl)
@[simp] theorem apIns_s {j : Int} : apIns i j p (some (.ols xs)) e = if xs.length < line then .ok (.val (.pure .non)) (e.set i (some (.ols (insAt xs j.toNat p)))) else .stk := (rfl)
section
variable {tg : Tg} {it : MI} {xl : List P × List Nat} {own l : List Nat}
@[simp] theorem r_iV : iVal m c e = (m c e).andThen kIv := (rfl)
@[simp] theorem q_iV : kIv r e = apIt r.lks ((r.pv e).bind itemsOf) e := (rfl)
@[simp] theorem apIt_s : apIt l (some xs) e = .ok (xs, l) e := (rfl)
@[simp] theorem itm_lst : itemsOf (.lst xs) = some xs := (rfl)
@[simp] theorem itm_tup : itemsOf (.tup xs) = some xs := (rfl)
@[simp] theorem itm_inp {ns : List Int} : itemsOf (.inp ns) = some (ns.map .int) := (rfl)
@[simp] theorem itm_str {s : List Nat} : itemsOf (.str s) = some (s.map fun c => .str [c]) := (rfl)
@[simp] theorem r_iR1 : iR1 m c e = (m c e).andThen kR1 := (rfl)
@[simp] theorem q_iR1 : kR1 r e = apR1 (r.pv e) e := (rfl)
@[simp] theorem apR1_s {j : Int} : apR1 (some (.int j)) e = if okR j = true then .ok (upTo 0 j.toNat, []) e else .stk := (rfl)
@[simp] theorem r_iR2 : iR2 A B c e = (A c e).andThen (kR2 B c) := (rfl)
@[simp] theorem q_iR2 : kR2 B c r e = (B (c.lock r.lks) e).andThen (kR2b r) := (rfl)
@[simp] theorem q_iR2b : kR2b r s e = apR2 (r.pv e) (s.pv e) e := (rfl)
@[simp] theorem apR2_s {i j : Int} : apR2 (some (.int i)) (some (.int j)) e = if (okR i && okR j) = true then .ok (upTo i (j - i).toNat, []) e else .stk := (rfl)
@[simp] theorem r_comp : mComp own tg it t m c e = (it c e).andThen (kComp own tg t m c) := (rfl)
@[simp] theorem r_for : mFor tg it S c e = (it c e).andThen (kFor tg S c) := (rfl)
@[simp] theorem q_for : kFor tg S c xl e = forF tg S (c.lock xl.2) xl.1 e := (rfl)
@[simp] theorem q_comp : kComp own tg t m c xl e = if (decide (xl.1.length ≤ line) && own.all fun i => !(xl.2 ++ c.lk).contains i) = true then oComp (compF tg t m own (c.lock xl.2) xl.1 (wipeE e own)) else .stk := (rfl)
@[simp] theorem oComp_s : oComp (.ok xs e) = .ok (.val (.ols xs)) e := (rfl)
@[simp] theorem wipe_0 : wipeE e [] = e := (rfl)
@[simp] theorem wipe_s {is : List Nat} : wipeE e (i :: is) = (wipeE e is).set i none := (rfl)
@[simp] theorem forF_0 : forF tg S c [] e = .ok .nx e := (rfl)
theorem forF_s : forF tg S c (x :: xs) e = forG tg S c xs (bindT c tg x e) := (rfl)
@[simp] theorem forG_s : forG tg S c xs (some e) = (S c e).andThen (kFF tg S c xs) := (rfl)
@[simp] theorem q_ff_n : kFF tg S c xs .nx e = forF tg S c xs e := (rfl)
@[simp] theorem q_ff_c : kFF tg S c xs .ct e = forF tg S c xs e := (rfl)
@[simp] theorem q_ff_b : kFF tg S c xs .bk e = .ok .nx e := (rfl)
@[simp] theorem q_ff_r : kFF tg S c xs (.rt d) e = .ok (.rt d) e := (rfl)
@[simp] theorem r_bindT : bindT c (.nm i) p e = bindN c i (.pure p) e := (rfl)
@[simp] theorem r_bindTp {is : List Nat} : bindT c (.tp is) (.tup xs) e = bindNs c is xs e := (rfl)
end
@[simp] theorem r_rs {ats : List Nat} : mRs i ats ms c e = (mLs ms c e).andThen (kRs i ats) := (rfl)
@[simp] theorem q_rs {ats : List Nat} : kRs i ats xs e = .rs i (ats.zip xs).reverse e := (rfl)
@[simp] theorem r_atC {ok : Nat → Bool} : mAtC ok i j c e = atG ok j (getS e i) e := (rfl)
@[simp] theorem atG_s {ok : Nat → Bool} : atG ok j (some (.exn xn fs)) e = if ok xn = true then apAt (fs.lookup j) e else .stk := (rfl)
@[simp] theorem apAt_s : apAt (some p) e = .ok (.val (.pure p)) e := (rfl)
section
variable {hs : List Hd} {f : Flow}
@[simp] theorem r_try : mTry S hs c e = tryG hs c (S c e) := by
  unfold mTry tryG
  rfl
@[simp] theorem tryG_o : tryG hs c (.ok f e) = .ok f e := (rfl)
@[simp] theorem tryG_r : tryG hs c (.rs xn fs e) = hdF xn fs hs c e := (rfl)
end
section
variable {lo hi : Option (M Rv)} {l u : Option Int}
@[simp] theorem r_sl : mSl m lo hi c e = (m c e).andThen (kSl1 lo hi c) := (rfl)
@[simp] theorem q_sl1 : kSl1 lo hi c r e = (mPart lo (c.lock r.lks) e).andThen (kSl2 hi c r) := (rfl)
@[simp] theorem q_sl2 : kSl2 hi c r l e = (mPart hi (c.lock r.lks) e).andThen (kSl3 r l) := (rfl)
@[simp] theorem q_sl3 : kSl3 r l u e = slOut l u (r.pv e) e := (rfl)
@[simp] theorem slOut_s : slOut l u (some p) e = oD (slP p l u) e := (rfl)
end
section
variable {ty : P → Bool} {f : P → List P → Option D} {rs : List Rv}
@[simp] theorem r_meth : mMeth ty f m ms c e = (m c e).andThen (kMe ty f ms c) := (rfl)
@[simp] theorem q_me : kMe ty f ms c r e = methG ty f ms c r (r.pv e) e := (rfl)
@[simp] theorem methG_s : methG ty f ms c r (some x) e = if ty x = true then (evAs true (ms.map fun m => (false, m)) (c.lock r.lks) e).andThen (kMe2 f r) else .stk := (rfl)
@[simp] theorem q_me2 : kMe2 f r rs e = methO f (r.pv e) (rs.mapM (Rv.pv e)) e := (rfl)
@[simp] theorem methO_s : methO f (some x) (some xs) e = oD (f x xs) e := (rfl)
end
@[simp] theorem add_i {i j : Int} : opAdd (.int i) (.int j) = some (.pure (.int (i + j))) := (rfl)
@[simp] theorem sub_i {i j : Int} : opSub (.int i) (.int j) = some (.pure (.int (i - j))) := (rfl)
@[simp] theorem cmp_i {f : Int → Int → Bool} {i j : Int} : opCmp f (.int i) (.int j) = some (.pure (.bl (f i j))) := (rfl)
@[simp] theorem int_i {i : Int} : fInt [.int i] = some (.pure (.int i)) := (rfl)
@[simp] theorem int_b {b : Bool} : fInt [.bl b] = some (.pure (.int (if b then 1 else 0))) := (rfl)
theorem mod_i {i j : Int} (h : j ≠ 0) : opMod (.int i) (.int j) = some (.pure (.int (i.fmod j))) := by simp [opMod, h]
theorem div_i {i j : Int} (h : j ≠ 0) (h2 : j.natAbs < 1073741824) : opDiv (.int i) (.int j) = some (.pure (.int (i.fdiv j))) := by simp [opDiv, h, h2]
theorem ixOf_p {n : Nat} {k : Int} (h : 0 ≤ k) (h2 : k < n) : ixOf n k = some k.toNat := by simp [ixOf, h, h2]
@[simp] theorem ix_l {k : Int} : opIx (.lst xs) (.int k) = (ixOf xs.length k).bind fun j => (xs[j]?).map .pure := (rfl)
@[simp] theorem ix_t {k : Int} : opIx (.tup xs) (.int k) = (ixOf xs.length k).bind fun j => (xs[j]?).map .pure := (rfl)
end
/-- a def that is called -/
theorem call_s {T : List Df} {k f : Nat} {fl : List Bool} {n : Nat} {pr : Bool} {body : M Flow} {ds : List D} (h : T[f]? = some ⟨fl, n, pr, body⟩) (h1 : argFit fl ds = true) (h2 : ds.length ≤ n) : callN T (k + 1) f ds = endR fl pr (body ⟨callN T k, []⟩ (ds.map some ++ List.replicate (n - ds.length) none)) := by
  rw [callN_s h, run_s h1 h2]
end Gr
set_option linter.all false
set_option maxRecDepth 100000
/-! V1: what the laws' own helpers have in common: numbers drawn. -/
namespace Gr
def cMix : M Gr.Flow := mSeq (mSet 2 (mOp2 opMod (mFn fInt [mOp2 opAdd (mOp2 opAdd (mOp2 opMul (mV 0) (mC (.int 48271))) (mOp2 opMul (mV 1) (mC (.int 69621)))) (mC (.int 12345))]) (mC (.int 2147483647)))) (mRt [] (mOp2 opMod (mFn fInt [mOp2 opAdd (mOp2 opAdd (mOp2 opMul (mV 2) (mV 2)) (mOp2 opMul (mV 2) (mC (.int 16807)))) (mOp2 opMul (mV 1) (mC (.int 7919)))]) (mC (.int 2147483629))))
def cDraw (iM : Nat) : M Gr.Flow := mSeq (mIf (mTr (mOp2 (opCmp fun i j => decide (j < i)) (mOp2 opIx (mV 0) (mC (.int 0))) (mC (.int 0)))) (mSeq (mSet 2 (mOp2 opMod (mFn fInt [mOp2 opIx (mV 0) (mC (.int 0))]) (mV 1))) (mSeq (mPut 0 (mC (.int 0)) (mOp2 opDiv (mOp2 opIx (mV 0) (mC (.int 0))) (mV 1))) (mRt [0] (mV 2)))) (mNx)) (mSeq (mPut 0 (mC (.int 1)) (mOp2 opAdd (mOp2 opIx (mV 0) (mC (.int 1))) (mC (.int 1)))) (mRt [0] (mOp2 opMod (mFn fInt [mCall iM false [(false, mOp2 opIx (mV 0) (mC (.int 2))), (false, mOp2 opIx (mV 0) (mC (.int 1)))]]) (mV 1))))
theorem mulOk_r {i j : Int} (h : -big64 < j ∧ j < big64) : mulOk i j = true := by simp [mulOk, h.1, h.2]
def mixV (c s : Int) : Int :=
  let x := (c * 48271 + s * 69621 + 12345).fmod 2147483647
  (x * x + x * 16807 + s * 7919).fmod 2147483629
theorem mix_s {T : List Df} {iM : Nat} (h : T[iM]? = some ⟨[false, false], 3, false, cMix⟩) (k : Nat) (c s : Int) : callN T (k + 1) iM [.pure (.int c), .pure (.int s)] = .ok (.pure (.int (mixV c s))) [] := by
  rw [call_s h rfl (by simp)]
  have m1 : mulOk c 48271 = true := mulOk_r (by decide)
  have m2 : mulOk s 69621 = true := mulOk_r (by decide)
  have m3 : mulOk s 7919 = true := mulOk_r (by decide)
  unfold mixV
  generalize hx : (c * 48271 + s * 69621 + 12345).fmod 2147483647 = x
  have b1 : 0 ≤ x := by rw [← hx]; exact Int.fmod_nonneg_of_pos _ (by decide)
  have b2 : x < 2147483647 := by rw [← hx]; exact Int.fmod_lt_of_pos _ (by decide)
  have m4 : mulOk x x = true := mulOk_r (by unfold big64; omega)
  have m5 : mulOk x 16807 = true := mulOk_r (by decide)
  simp [cMix, opMul, opMod, m1, m2, m3, hx, m4, m5]
/-- a box: the digits left, how many draws were mixed, the number -/
structure Bx where
  a : Int
  s : Int
  c : Int
def Bx.d (b : Bx) : D := .ols [.int b.a, .int b.s, .int b.c]
def dV (b : Bx) (n : Int) : Int := if 0 < b.a then b.a.fmod n else (mixV b.c (b.s + 1)).fmod n
def dB (b : Bx) (n : Int) : Bx := if 0 < b.a then ⟨b.a.fdiv n, b.s, b.c⟩ else ⟨b.a, b.s + 1, b.c⟩
theorem dV_lo (b : Bx) {n : Int} (h : 0 < n) : 0 ≤ dV b n := by
  unfold dV
  split <;> exact Int.fmod_nonneg_of_pos _ h
theorem dV_hi (b : Bx) {n : Int} (h : 0 < n) : dV b n < n := by
  unfold dV
  split <;> exact Int.fmod_lt_of_pos _ h
/-- a table whose draws stand there -/
structure DrawT (T : List Df) (iM iD : Nat) : Prop where
  m : T[iM]? = some ⟨[false, false], 3, false, cMix⟩
  d : T[iD]? = some ⟨[true, false], 3, false, cDraw iM⟩
theorem draw_s {T : List Df} {iM iD : Nat} (h : DrawT T iM iD) (k : Nat) (b : Bx) {n : Int} (hn : 0 < n) (hn2 : n < 1073741824) :
    callN T (k + 2) iD [b.d, .pure (.int n)] = .ok (.pure (.int (dV b n))) [(dB b n).d] := by
  rw [call_s h.d rfl (by simp)]
  have n0 : n ≠ 0 := by omega
  have n1 : n.natAbs < 1073741824 := by omega
  unfold dV dB
  by_cases ha : 0 < b.a
  · simp [Bx.d, cDraw, ha, opMod, n0, n1, opDiv, ixOf]
  · simp [Bx.d, cDraw, ha, opMod, n0, n1, opDiv, ixOf, mix_s h.m]
end Gr
set_option linter.all false
set_option maxRecDepth 100000
/-! V2: loops. -/
namespace Gr
/-- for: I holds of what is left, at each turn's start -/
theorem for_inv {tg : Tg} {body : M Gr.Flow} {c : Ct} (I : List P → Ev → Prop) (R : D → Ev → Prop) (h : ∀ x rest e, I (x :: rest) e → ∃ e1, bindT c tg x e = some e1 ∧
    ((∃ e2, body c e1 = .ok .nx e2 ∧ I rest e2) ∨ (∃ e2, body c e1 = .ok .ct e2 ∧ I rest e2) ∨ (∃ d e2, body c e1 = .ok (.rt d) e2 ∧ R d e2))) :
    ∀ xs e, I xs e → (∃ e', forF tg body c xs e = .ok .nx e' ∧ I [] e') ∨ ∃ d e', forF tg body c xs e = .ok (.rt d) e' ∧ R d e'
  | [], e, i => .inl ⟨e, rfl, i⟩
  | x :: xs, e, i => by
    obtain ⟨e1, h1, h2⟩ := h x xs e i
    rcases h2 with ⟨e2, h2, i2⟩ | ⟨e2, h2, i2⟩ | ⟨d, e2, h2, r⟩
    · have := for_inv I R h xs e2 i2
      simpa [forF, h1, h2] using this
    · have := for_inv I R h xs e2 i2
      simpa [forF, h1, h2] using this
    · exact .inr ⟨d, e2, by simp [forF, h1, h2], r⟩
/-- .. that goes through -/
theorem for_all {tg : Tg} {body : M Gr.Flow} {c : Ct} (I : List P → Ev → Prop) (h : ∀ x rest e, I (x :: rest) e → ∃ e1 e2, bindT c tg x e = some e1 ∧ body c e1 = .ok .nx e2 ∧ I rest e2) (xs : List P) (e : Ev) (i : I xs e) :
    ∃ e', forF tg body c xs e = .ok .nx e' ∧ I [] e' := by
  rcases for_inv I (fun _ _ => False) (fun x rest e i => by
    obtain ⟨e1, e2, h1, h2, h3⟩ := h x rest e i
    exact ⟨e1, h1, .inl ⟨e2, h2, h3⟩⟩) xs e i with h | ⟨_, _, _, z⟩
  · exact h
  · exact z.elim
def oB (body : M Gr.Flow) (c : Ct) : Option Ev → Out Gr.Flow
  | some e => body c e
  | none => .stk
@[simp] theorem oB_s {body : M Gr.Flow} {c : Ct} {e : Ev} : oB body c (some e) = body c e := (rfl)
/-- what a turn ends in -/
def Post (N : Ev → Prop) (R : D → Ev → Prop) : Out Gr.Flow → Prop
  | .ok .nx e => N e
  | .ok .ct e => N e
  | .ok (.rt d) e => R d e
  | _ => False
section
variable {N : Ev → Prop} {R : D → Ev → Prop} {e : Ev} {d : D}
@[simp] theorem post_n : Post N R (.ok .nx e) = N e := (rfl)
@[simp] theorem post_c : Post N R (.ok .ct e) = N e := (rfl)
@[simp] theorem post_r : Post N R (.ok (.rt d) e) = R d e := (rfl)
end
theorem for_post {tg : Tg} {body : M Gr.Flow} {c : Ct} {xs : List P} {e : Ev} (I : List P → Ev → Prop) (R : D → Ev → Prop) (i : I xs e) (h : ∀ x rest e, I (x :: rest) e → Post (I rest) R (oB body c (bindT c tg x e))) :
    (∃ e', forF tg body c xs e = .ok .nx e' ∧ I [] e') ∨ ∃ d e', forF tg body c xs e = .ok (.rt d) e' ∧ R d e' := by
  refine for_inv I R (fun x rest e i => ?_) xs e i
  have := h x rest e i
  cases hb : bindT c tg x e with
  | none => simp [hb, oB, Post] at this
  | some e1 =>
    refine ⟨e1, rfl, ?_⟩
    rw [hb] at this
    simp only [oB_s] at this
    revert this
    cases body c e1 with
    | ok f e2 => cases f with
      | nx => exact fun h => .inl ⟨e2, rfl, h⟩
      | ct => exact fun h => .inr (.inl ⟨e2, rfl, h⟩)
      | rt d => exact fun h => .inr (.inr ⟨d, e2, rfl, h⟩)
      | bk => exact False.elim
    | rs _ _ _ => exact False.elim
    | stk => exact False.elim
/-- each item is well -/
theorem for_mem {tg : Tg} {body : M Gr.Flow} {c : Ct} {xs : List P} {e : Ev} (G : P → Prop) (I : Ev → Prop) (hx : ∀ x ∈ xs, G x) (i : I e) (h : ∀ x e, G x → I e → Post I (fun _ _ => False) (oB body c (bindT c tg x e))) :
    ∃ e', forF tg body c xs e = .ok .nx e' ∧ I e' := by
  rcases for_post (tg := tg) (body := body) (c := c) (xs := xs) (e := e) (fun rest e => (∀ x ∈ rest, G x) ∧ I e) (fun _ _ => False) ⟨hx, i⟩ (fun x rest e ⟨g, i⟩ => by
    have := h x e (g x List.mem_cons_self) i
    revert this
    cases oB body c (bindT c tg x e) with
    | ok f e2 => cases f with
      | nx => exact fun h => ⟨fun y hy => g y (List.mem_cons_of_mem _ hy), h⟩
      | ct => exact fun h => ⟨fun y hy => g y (List.mem_cons_of_mem _ hy), h⟩
      | rt d => exact False.elim
      | bk => exact False.elim
    | rs _ _ _ => exact False.elim
    | stk => exact False.elim) with ⟨e', h1, h2⟩ | ⟨_, _, _, z⟩
  · exact ⟨e', h1, h2.2⟩
  · exact z.elim
theorem for_nx {tg : Tg} {body : M Gr.Flow} {c : Ct} {xs : List P} {e : Ev} {Q : Ev → Prop} (I : List P → Ev → Prop) (i : I xs e) (h : ∀ x rest e, I (x :: rest) e → Post (I rest) (fun _ _ => False) (oB body c (bindT c tg x e))) (hQ : ∀ e, I [] e → Q e) :
    ∃ e', forF tg body c xs e = .ok .nx e' ∧ Q e' := by
  rcases for_post (tg := tg) (body := body) (c := c) (xs := xs) (e := e) I (fun _ _ => False) i h with ⟨e', h1, h2⟩ | ⟨_, _, _, z⟩
  · exact ⟨e', h1, hQ e' h2⟩
  · exact z.elim
/-- a test of each item: falls out with d at the first that fails -/
theorem for_tst {tg : Tg} {body : M Gr.Flow} {c : Ct} {d : D} (t : P → Bool) (I J : Ev → Prop) : ∀ {xs : List P} {e : Ev}, I e → (∀ x ∈ xs, ∀ e, I e → (t x = true → ∃ e2, oB body c (bindT c tg x e) = .ok .nx e2 ∧ I e2) ∧ (t x = false → ∃ e2, oB body c (bindT c tg x e) = .ok (.rt d) e2 ∧ J e2)) →
    (xs.all t = true → ∃ e', forF tg body c xs e = .ok .nx e' ∧ I e') ∧ (xs.all t = false → ∃ e', forF tg body c xs e = .ok (.rt d) e' ∧ J e')
  | [], e, i, _ => ⟨fun _ => ⟨e, rfl, i⟩, fun h => by simp at h⟩
  | x :: xs, e, i, h => by
    have hx := h x List.mem_cons_self e i
    have hr := fun y hy => h y (List.mem_cons_of_mem x hy)
    cases hb : bindT c tg x e with
    | none =>
      rw [hb] at hx
      cases ht : t x
      · obtain ⟨_, h, _⟩ := hx.2 ht
        simp [oB] at h
      · obtain ⟨_, h, _⟩ := hx.1 ht
        simp [oB] at h
    | some e1 =>
      rw [hb] at hx
      simp only [oB_s] at hx
      cases ht : t x
      · obtain ⟨e2, h1, h2⟩ := hx.2 ht
        refine ⟨fun h => by simp [ht] at h, fun _ => ⟨e2, by simp [forF_s, hb, h1], h2⟩⟩
      · obtain ⟨e2, h1, h2⟩ := hx.1 ht
        have ih := for_tst t I J h2 hr
        simp only [List.all_cons, ht, Bool.true_and, forF_s, hb, forG_s, h1, at_ok, q_ff_n]
        exact ih
def TstR (d : D) (b : Bool) (I J : Ev → Prop) (o : Out Gr.Flow) : Prop := (b = true → ∃ e', o = .ok .nx e' ∧ I e') ∧ (b = false → ∃ e', o = .ok (.rt d) e' ∧ J e')
@[simp] theorem tstR_t {d : D} {I J : Ev → Prop} {e : Ev} : TstR d true I J (.ok .nx e) ↔ I e := by simp [TstR]
@[simp] theorem tstR_f {d : D} {I J : Ev → Prop} {e : Ev} : TstR d false I J (.ok (.rt d) e) ↔ J e := by simp [TstR]
theorem TstR.mono {d : D} {b : Bool} {I J I2 J2 : Ev → Prop} {o : Out Gr.Flow} (h : TstR d b I J o) (h1 : ∀ e, I e → I2 e) (h2 : ∀ e, J e → J2 e) : TstR d b I2 J2 o := ⟨fun hb => by
  obtain ⟨e, k1, k2⟩ := h.1 hb
  exact ⟨e, k1, h1 e k2⟩, fun hb => by
  obtain ⟨e, k1, k2⟩ := h.2 hb
  exact ⟨e, k1, h2 e k2⟩⟩
theorem for_tstR {tg : Tg} {body : M Gr.Flow} {c : Ct} {d : D} (t : P → Bool) (I J : Ev → Prop) {xs : List P} {e : Ev} (i : I e) (h : ∀ x ∈ xs, ∀ e, I e → TstR d (t x) I J (oB body c (bindT c tg x e))) : TstR d (xs.all t) I J (forF tg body c xs e) := for_tst t I J i h
def elB (elt : M Rv) (c : Ct) : Option Ev → Out P
  | some e => mLeak elt c e
  | none => .stk
@[simp] theorem elB_s {elt : M Rv} {c : Ct} {e : Ev} : elB elt c (some e) = (elt c e).andThen (kL c) := (rfl)
def PostE (own : List Nat) (Q : P → Ev → Prop) : Out P → Prop
  | .ok p e => Q p (wipeE e own)
  | _ => False
@[simp] theorem postE_o {own : List Nat} {Q : P → Ev → Prop} {p : P} {e : Ev} : PostE own Q (.ok p e) = Q p (wipeE e own) := (rfl)
/-- a comprehension without a test -/
theorem comp_inv {tg : Tg} {elt : M Rv} {own : List Nat} {c : Ct} (I : Ev → Prop) (G : P → Prop) (K : P → P → Prop) (h : ∀ x e, G x → I e → PostE own (fun p e => K x p ∧ I e) (elB elt c (bindT c tg x e))) :
    ∀ xs e, (∀ x ∈ xs, G x) → I e → ∃ ps e', compF tg mYes elt own c xs e = .ok ps e' ∧ I e' ∧ ps.length = xs.length ∧ (∀ p ∈ ps, ∃ x ∈ xs, K x p)
  | [], e, _, i => ⟨[], e, rfl, i, rfl, fun _ h => by simp at h⟩
  | x :: xs, e, g, i => by
    have := h x e (g x List.mem_cons_self) i
    cases hb : bindT c tg x e with
    | none => simp [hb, elB, PostE] at this
    | some e1 =>
      rw [hb] at this
      simp only [elB] at this
      cases hm : mLeak elt c e1 with
      | rs _ _ _ => rw [hm] at this; exact this.elim
      | stk => rw [hm] at this; exact this.elim
      | ok p e3 =>
        rw [hm] at this
        obtain ⟨ps, e', k1, k2, k3, k4⟩ := comp_inv I G K h xs _ (fun y hy => g y (List.mem_cons_of_mem _ hy)) this.2
        refine ⟨p :: ps, e', ?_, k2, by simp [k3], fun q hq => ?_⟩
        · simp only [compF, hb, mYes, hm, k1]
        · rcases List.mem_cons.mp hq with rfl | hq
          · exact ⟨x, List.mem_cons_self, this.1⟩
          · obtain ⟨y, hy, hk⟩ := k4 q hq
            exact ⟨y, List.mem_cons_of_mem _ hy, hk⟩
/-- .. over items that are known, the slots as they were -/
theorem comp_map {tg : Tg} {elt : M Rv} {own : List Nat} {c : Ct} (f : P → P) {e : Ev} : ∀ {xs : List P}, (∀ x ∈ xs, PostE own (fun p e' => p = f x ∧ e' = e) (elB elt c (bindT c tg x e))) → compF tg mYes elt own c xs e = .ok (xs.map f) e
  | [], _ => rfl
  | x :: xs, h => by
    have := h x List.mem_cons_self
    have ih := comp_map (tg := tg) (elt := elt) (own := own) (c := c) f (e := e) (xs := xs) fun y hy => h y (List.mem_cons_of_mem _ hy)
    cases hb : bindT c tg x e with
    | none => simp [hb, elB, PostE] at this
    | some e1 =>
      rw [hb] at this
      simp only [elB] at this
      cases hm : mLeak elt c e1 with
      | rs _ _ _ => rw [hm] at this; exact this.elim
      | stk => rw [hm] at this; exact this.elim
      | ok p e3 =>
        rw [hm] at this
        obtain ⟨rfl, h3⟩ := this
        simp only [compF, hb, mYes, hm, h3, ih, List.map_cons]
theorem upTo_mem {x : P} : ∀ {n : Nat} {lo : Int}, x ∈ upTo lo n → ∃ i : Int, x = .int i ∧ lo ≤ i ∧ i < lo + n
  | 0, lo, h => by simp [upTo] at h
  | n + 1, lo, h => by
    simp only [upTo, List.mem_cons] at h
    rcases h with rfl | h
    · exact ⟨lo, rfl, by omega, by omega⟩
    · obtain ⟨i, rfl, h1, h2⟩ := upTo_mem h
      exact ⟨i, rfl, by omega, by omega⟩
theorem okR_small {i : Int} (h1 : -1000000000 ≤ i) (h2 : i ≤ 1000000000) : okR i = true := by
  unfold okR b62
  simp only [Bool.and_eq_true, decide_eq_true_eq]
  omega
/-! ### words -/
def isLet (c : Nat) : Prop := 97 ≤ c ∧ c ≤ 122
def isWordL (s : List Nat) : Prop := 1 ≤ s.length ∧ s.length ≤ 8 ∧ ∀ c ∈ s, isLet c
def isWordP : P → Prop
  | .str s => isWordL s
  | _ => False
def abc : List Nat := [97, 98, 99, 100, 101, 102, 103, 104, 105, 106, 107, 108, 109, 110, 111, 112, 113, 114, 115, 116, 117, 118, 119, 120, 121, 122]
theorem abc_at {v : Int} (h0 : 0 ≤ v) (h1 : v < 26) : ∃ c, opIx (.str abc) (.int v) = some (.pure (.str [c])) ∧ isLet c := by
  obtain ⟨n, rfl⟩ : ∃ n : Nat, v = n := ⟨v.toNat, by omega⟩
  have hn : n < 26 := by omega
  have key : ∀ n : Nat, n < 26 → abc[n]? = some (97 + n) := by decide
  refine ⟨97 + n, ?_, ⟨by omega, by omega⟩⟩
  have hi : (n : Int) < 26 := by omega
  simp only [opIx, show abc.length = 26 from rfl]
  have : ixOf 26 (n : Int) = some n := by simp [ixOf, hi]
  simp [this, key n hn, show (26 : Nat) < line by decide]
theorem abc3_at {v : Int} (h0 : 0 ≤ v) (h1 : v < 3) : ∃ c, opIx (.str [97, 98, 99]) (.int v) = some (.pure (.str [c])) ∧ isLet c := by
  obtain ⟨n, rfl⟩ : ∃ n : Nat, v = n := ⟨v.toNat, by omega⟩
  have hn : n < 3 := by omega
  have key : ∀ n : Nat, n < 3 → ([97, 98, 99] : List Nat)[n]? = some (97 + n) := by decide
  refine ⟨97 + n, ?_, ⟨by omega, by omega⟩⟩
  simp only [opIx, show ([97, 98, 99] : List Nat).length = 3 from rfl]
  have : ixOf 3 (n : Int) = some n := by simp [ixOf]; omega
  simp [this, key n hn, show (3 : Nat) < line by decide]
theorem strs_single : ∀ {ps : List P}, (∀ p ∈ ps, ∃ c, p = .str [c] ∧ isLet c) → ∃ cs : List Nat, strsP ps = some (cs.map fun c => [c]) ∧ cs.length = ps.length ∧ ∀ c ∈ cs, isLet c
  | [], _ => ⟨[], rfl, rfl, fun c h => by cases h⟩
  | p :: ps, h => by
    obtain ⟨c, rfl, hc⟩ := h p List.mem_cons_self
    obtain ⟨cs, h1, h2, h3⟩ := strs_single fun q hq => h q (List.mem_cons_of_mem _ hq)
    refine ⟨c :: cs, by simp [strsP, h1], by simp [h2], fun x hx => ?_⟩
    rcases List.mem_cons.mp hx with rfl | hx
    · exact hc
    · exact h3 x hx
theorem join_single : ∀ (cs : List Nat), joinP [] (cs.map fun c => [c]) = cs
  | [] => rfl
  | [c] => rfl
  | c :: d :: r => by
    have := join_single (d :: r)
    simp only [List.map_cons] at this ⊢
    simp only [joinP, this]
    rfl
theorem lens_single (cs : List Nat) : lensP (cs.map fun c => [c]) = cs.length := by
  induction cs with
  | nil => rfl
  | cons c cs ih =>
    simp only [lensP, List.map_cons, List.sum_cons, List.length_cons, List.length_nil] at ih ⊢
    omega
def cWord (iD : Nat) : M Gr.Flow := mSeq (mIf (mTr (mOp2 (opCmp fun i j => decide (j < i)) (mCall iD false [(true, mV 0), (false, mC (.int 4))]) (mC (.int 0)))) (mRt [0] (mOp2 opIx (mC (.str [97, 98, 99])) (mCall iD false [(true, mV 0), (false, mC (.int 3))]))) (mNx)) (mSeq (mSet 1 (mOp2 opAdd (mC (.int 1)) (mCall iD false [(true, mV 0), (false, mC (.int 8))]))) (mRt [0] (mMeth isStrP fJoin (mC (.str [])) [mComp [2] (.nm 2) (iR1 (mV 1)) mYes (mOp2 opIx (mC (.str [97, 98, 99, 100, 101, 102, 103, 104, 105, 106, 107, 108, 109, 110, 111, 112, 113, 114, 115, 116, 117, 118, 119, 120, 121, 122])) (mCall iD false [(true, mV 0), (false, mC (.int 26))]))])))
end Gr
set_option linter.all false
set_option maxRecDepth 100000
/-! V3: alike, boxes, words. -/
namespace Gr
theorem beq_dec {α : Type} [BEq α] [LawfulBEq α] [DecidableEq α] (a b : α) : (a == b) = decide (a = b) := by
  by_cases h : a = b
  · simp [h]
  · simp [h]
@[simp] theorem ne_bb {a b : Bool} : opNe (.bl a) (.bl b) = some (.pure (.bl (!decide (a = b)))) := by simp [opNe, P.dep, eqP, beq_dec]
@[simp] theorem ne_ii {a b : Int} : opNe (.int a) (.int b) = some (.pure (.bl (!decide (a = b)))) := by simp [opNe, P.dep, eqP, beq_dec]
@[simp] theorem ne_ss {a b : List Nat} : opNe (.str a) (.str b) = some (.pure (.bl (!decide (a = b)))) := by simp [opNe, P.dep, eqP, beq_dec]
@[simp] theorem eq_bb {a b : Bool} : opEq (.bl a) (.bl b) = some (.pure (.bl (decide (a = b)))) := by simp [opEq, P.dep, eqP, beq_dec]
@[simp] theorem eq_ii {a b : Int} : opEq (.int a) (.int b) = some (.pure (.bl (decide (a = b)))) := by simp [opEq, P.dep, eqP, beq_dec]
@[simp] theorem eq_ss {a b : List Nat} : opEq (.str a) (.str b) = some (.pure (.bl (decide (a = b)))) := by simp [opEq, P.dep, eqP, beq_dec]
@[simp] theorem len_l {xs : List P} : fLen [.lst xs] = some (.pure (.int xs.length)) := (rfl)
@[simp] theorem len_t {xs : List P} : fLen [.tup xs] = some (.pure (.int xs.length)) := (rfl)
def alk : Nat → P → Prop
  | 0, .tup _ => False
  | 0, .lst _ => False
  | n + 1, .tup xs => xs.length ≤ line ∧ ∀ x ∈ xs, alk n x
  | n + 1, .lst xs => xs.length ≤ line ∧ ∀ x ∈ xs, alk n x
  | _, .dct _ _ => False
  | _, .inp _ => False
  | _, _ => True
def cAlike (iA : Nat) : M Gr.Flow := mSeq (mIf (mTr (mOp1 (isiP [.tT, .tL]) (mV 1))) (mSeq (mIf (mOrT (mTr (mOp2 opNe (mOp1 (isiP [.tT]) (mV 0)) (mOp1 (isiP [.tT]) (mV 1)))) (mTr (mOp2 opNe (mOp1 (isiP [.tL]) (mV 0)) (mOp1 (isiP [.tL]) (mV 1))))) (mRt [] (mC (.bl false))) (mNx)) (mSeq (mIf (mTr (mOp2 opNe (mFn fLen [mV 0]) (mFn fLen [mV 1]))) (mRt [] (mC (.bl false))) (mNx)) (mSeq (mFor (.nm 2) (iR1 (mFn fLen [mV 1])) (mIf (mNotT (mTr (mCall iA false [(false, mOp2 opIx (mV 0) (mV 2)), (false, mOp2 opIx (mV 1) (mV 2))]))) (mRt [] (mC (.bl false))) (mNx))) (mRt [] (mC (.bl true)))))) (mNx)) (mSeq (mIf (mTr (mOp2 opIsN (mV 1) (mC .non))) (mRt [] (mOp2 opIsN (mV 0) (mC .non))) (mNx)) (mSeq (mIf (mTr (mOp1 (isiP [.tB]) (mV 1))) (mRt [] (mAndV (mOp1 (isiP [.tB]) (mV 0)) (mOp2 opEq (mV 0) (mV 1)))) (mNx)) (mSeq (mIf (mTr (mOp1 (isiP [.tS]) (mV 1))) (mRt [] (mAndV (mOp1 (isiP [.tS]) (mV 0)) (mOp2 opEq (mV 0) (mV 1)))) (mNx)) (mRt [] (mAndV (mOp1 (isiP [.tI]) (mV 0)) (mAndV (mNotV (mOp1 (isiP [.tB]) (mV 0))) (mOp2 opEq (mV 0) (mV 1))))))))
theorem upTo_memN {x : P} {n : Nat} (h : x ∈ upTo 0 n) : ∃ i : Nat, x = .int i ∧ i < n := by
  obtain ⟨i, rfl, h1, h2⟩ := upTo_mem h
  refine ⟨i.toNat, ?_, by omega⟩
  rw [Int.toNat_of_nonneg h1]
theorem okR_len {n : Nat} (h : n ≤ line) : okR (n : Int) = true := by
  have : (n : Int) ≤ 16000000 := by exact Int.ofNat_le.mpr h
  exact okR_small (by omega) (by omega)
theorem alike_seq {T : List Df} {iA : Nat} (h : T[iA]? = some ⟨[false, false], 3, false, cAlike iA⟩) {n : Nat} (ih : ∀ p k, alk n p → callN T (k + n + 1) iA [.pure p, .pure p] = .ok (.pure (.bl true)) []) (k : Nat) {xs : List P} (h1 : xs.length ≤ line) (h2 : ∀ x ∈ xs, alk n x) {p : P} (hp : p = .tup xs ∨ p = .lst xs) : callN T (k + n + 1 + 1) iA [.pure p, .pure p] = .ok (.pure (.bl true)) [] := by
  have ho := okR_len h1
  rcases hp with hp | hp
  all_goals
    rw [call_s h (by simp) (by simp)]
    simp [hp, cAlike, isiP, isOne, ho]
    generalize hF : forF _ _ _ _ _ = o
    obtain ⟨e', h3, x, rfl⟩ : ∃ e', o = .ok .nx e' ∧ ∃ x, e' = [some (.pure p), some (.pure p), x] := by
      subst hF
      refine for_mem (fun x => ∃ i : Nat, x = .int i ∧ i < xs.length) _ (fun x hx => upTo_memN hx) (by simp [hp]) fun x e hx i => ?_
      obtain ⟨j, rfl, hj⟩ := hx
      obtain ⟨z, rfl⟩ := i
      have hc := ih _ k (h2 _ (List.getElem_mem hj))
      simp [hp, ixOf, hj, hc]
    subst h3
    simp
theorem alike_s {T : List Df} {iA : Nat} (h : T[iA]? = some ⟨[false, false], 3, false, cAlike iA⟩) : ∀ (n : Nat) (p : P) (k : Nat), alk n p → callN T (k + n + 1) iA [.pure p, .pure p] = .ok (.pure (.bl true)) []
  | n, .non, k, _ => by rw [call_s h rfl (by simp)]; simp [cAlike, isiP, isOne, opIsN, isNon]
  | n, .bl b, k, _ => by rw [call_s h rfl (by simp)]; simp [cAlike, isiP, isOne, opIsN, isNon]
  | n, .int i, k, _ => by rw [call_s h rfl (by simp)]; simp [cAlike, isiP, isOne, opIsN, isNon]
  | n, .str s, k, _ => by rw [call_s h rfl (by simp)]; simp [cAlike, isiP, isOne, opIsN, isNon]
  | 0, .tup xs, k, h => by simp [alk] at h
  | 0, .lst xs, k, h => by simp [alk] at h
  | n + 1, .tup xs, k, ha => by
    simp only [alk] at ha
    exact alike_seq h (alike_s h n) k ha.1 ha.2 (.inl rfl)
  | n + 1, .lst xs, k, ha => by
    simp only [alk] at ha
    exact alike_seq h (alike_s h n) k ha.1 ha.2 (.inr rfl)
  | 0, .dct _ _, k, h => by simp [alk] at h
  | 0, .inp _, k, h => by simp [alk] at h
  | n + 1, .dct _ _, k, h => by simp [alk] at h
  | n + 1, .inp _, k, h => by simp [alk] at h
end Gr
set_option linter.all false
set_option maxRecDepth 100000
/-! V4: boxes, words, prices. -/
namespace Gr
def cCell : M Gr.Flow := mSeq (mIf (mTr (mOp2 (opCmp fun i j => decide (i < j)) (mV 1) (mFn fLen [mV 0]))) (mRt [] (mOp2 opIx (mV 0) (mV 1))) (mNx)) (mRt [] (mC (.int 0)))
def cBox (iC : Nat) : M Gr.Flow := mSeq (mSet 2 (mCall iC false [(false, mV 0), (false, mV 1)])) (mRt [] (mLst [mFn fMax [mC (.int 0), mOp2 opSub (mV 2) (mOp2 opPow (mC (.int 10)) (mC (.int 18)))], mC (.int 0), mV 2]))
@[simp] theorem len_i {ns : List Int} : fLen [.inp ns] = some (.pure (.int ns.length)) := (rfl)
@[simp] theorem ix_i {ns : List Int} {k : Int} : opIx (.inp ns) (.int k) = (ixOf ns.length k).bind fun j => (ns[j]?).map fun i => .pure (.int i) := (rfl)
def cellV (ns : List Int) (n : Nat) : Int := (ns[n]?).getD 0
theorem cell_s {T : List Df} {iC : Nat} (h : T[iC]? = some ⟨[false, false], 2, false, cCell⟩) (k : Nat) (ns : List Int) (n : Nat) : callN T (k + 1) iC [.pure (.inp ns), .pure (.int n)] = .ok (.pure (.int (cellV ns n))) [] := by
  rw [call_s h (by simp) (by simp)]
  by_cases hn : n < ns.length
  · simp [cCell, cellV, hn, ixOf]
  · simp [cCell, cellV, hn, ixOf]
def boxV (ns : List Int) (n : Nat) : Bx := ⟨if 1000000000000000000 < cellV ns n then cellV ns n - 1000000000000000000 else 0, 0, cellV ns n⟩
theorem box_s {T : List Df} {iC iB : Nat} (hC : T[iC]? = some ⟨[false, false], 2, false, cCell⟩) (h : T[iB]? = some ⟨[false, false], 3, false, cBox iC⟩) (k : Nat) (ns : List Int) (n : Nat) : callN T (k + 2) iB [.pure (.inp ns), .pure (.int n)] = .ok (boxV ns n).d [] := by
  rw [call_s h (by simp) (by simp)]
  simp [cBox, cell_s hC, opPow, fMax, Bx.d, boxV]
theorem ws_all : ∀ (mp : List Bool) (e : Ev), (mp.all fun b => !b) = true → mp.length ≤ e.length → wsOf mp e = some []
  | [], e, _, _ => ws_0
  | false :: mp, s :: e, h, h2 => by
    simp only [ws_f]
    exact ws_all mp e (by simpa using h) (by simpa using h2)
  | true :: mp, _, h, _ => by simp at h
  | _ :: _, [], _, h => by simp at h
/-! boxes as data -/
section
variable {b : Bx} {e : Ev} {c : Ct} {i : Nat} {fl : List Bool} {ds : List D}
@[simp] theorem vG_b : vG i (some b.d) e = .ok (.slot i) e := (rfl)
@[simp] theorem fit_b : argFit (true :: fl) (b.d :: ds) = argFit fl ds := (rfl)
@[simp] theorem ws_b : wsOf (true :: fl) (some b.d :: e) = (wsOf fl e).map (b.d :: ·) := (rfl)
end
theorem Bx.d_inj {a b : Bx} (h : a.d = b.d) : a = b := by
  cases a; cases b
  simp [Bx.d] at h
  simp [h]
def outB : Res → Bx
  | .ok _ [.ols [.int a, .int s, .int c]] => ⟨a, s, c⟩
  | _ => ⟨0, 0, 0⟩
@[simp] theorem outB_d {d : D} {b : Bx} : outB (.ok d [b.d]) = b := (rfl)
def outS : Res → List Nat
  | .ok (.pure (.str s)) _ => s
  | _ => []
@[simp] theorem outS_s {s : List Nat} {ws : List D} : outS (.ok (.pure (.str s)) ws) = s := (rfl)
def outI : Res → Int
  | .ok (.pure (.int s)) _ => s
  | _ => 0
@[simp] theorem outI_s {s : Int} {ws : List D} : outI (.ok (.pure (.int s)) ws) = s := (rfl)
def outL : Res → List P
  | .ok (.ols s) _ => s
  | _ => []
@[simp] theorem outL_s {s : List P} {ws : List D} : outL (.ok (.ols s) ws) = s := (rfl)
def outP : Res → P
  | .ok (.pure s) _ => s
  | _ => .non
@[simp] theorem outP_s {s : P} {ws : List D} : outP (.ok (.pure s) ws) = s := (rfl)
@[simp] theorem okR_m {a : Int} (h : -1000000000 ≤ a) (h2 : a ≤ 1000000000) : okR a = true := okR_small h h2
theorem word_r {T : List Df} {iM iD iW : Nat} (h : DrawT T iM iD) (hW : T[iW]? = some ⟨[true], 3, false, cWord iD⟩) (k : Nat) (b : Bx) :
    ∃ w b', callN T (k + 3) iW [b.d] = .ok (.pure (.str w)) [Bx.d b'] ∧ isWordL w := by
  rw [call_s hW (by simp) (by simp)]
  by_cases h4 : 0 < dV b 4
  · obtain ⟨c, h1, h2⟩ := abc3_at (dV_lo (dB b 4) (n := 3) (by decide)) (dV_hi (dB b 4) (by decide))
    refine ⟨[c], dB (dB b 4) 3, ?_, by simp, by simp, by simpa using h2⟩
    simp [cWord, draw_s h, h4, h1]
  · have l8 := dV_lo (dB b 4) (n := 8) (by decide)
    have u8 := dV_hi (dB b 4) (n := 8) (by decide)
    have ho : okR (1 + dV (dB b 4) 8) = true := okR_small (by omega) (by omega)
    have hl : (upTo 0 (1 + dV (dB b 4) 8).toNat).length = (1 + dV (dB b 4) 8).toNat := upTo_len _ _
    simp [cWord, draw_s h, h4, ho, hl, isStrP, show (1 + dV (dB b 4) 8).toNat ≤ line by unfold line; omega]
    generalize hF : compF _ _ _ _ _ _ _ = o
    obtain ⟨ps, e', h1, ⟨b', rfl⟩, h2, h3⟩ : ∃ ps e', o = .ok ps e' ∧ (∃ b' : Bx, e' = [some b'.d, some (.pure (.int (1 + dV (dB b 4) 8))), none]) ∧ ps.length = (1 + dV (dB b 4) 8).toNat ∧ ∀ p ∈ ps, ∃ x ∈ upTo 0 (1 + dV (dB b 4) 8).toNat, ∃ c, p = .str [c] ∧ isLet c := by
      subst hF
      have := comp_inv (tg := .nm 2) (elt := mOp2 opIx (mC (.str abc)) (mCall iD false [(true, mV 0), (false, mC (.int 26))])) (own := [2]) (c := ⟨callN T (k + 2), []⟩)
        (fun e => ∃ b' : Bx, e = [some b'.d, some (.pure (.int (1 + dV (dB b 4) 8))), none]) (fun _ => True) (fun _ p => ∃ c, p = .str [c] ∧ isLet c)
        (fun x e _ i => by
          obtain ⟨b1, rfl⟩ := i
          obtain ⟨c, h1, h2⟩ := abc_at (dV_lo b1 (n := 26) (by decide)) (dV_hi b1 (by decide))
          simp [draw_s h, h1, h2]
          exact ⟨_, rfl⟩) (upTo 0 (1 + dV (dB b 4) 8).toNat) [some (dB (dB b 4) 8).d, some (.pure (.int (1 + dV (dB b 4) 8))), none] (fun _ _ => trivial) ⟨_, rfl⟩
      rw [hl] at this
      exact this
    subst h1
    obtain ⟨cs, k1, k2, k3⟩ := strs_single (ps := ps) fun p hp => by
      obtain ⟨_, _, h⟩ := h3 p hp
      exact h
    refine ⟨cs, ⟨b', ?_⟩, by omega, by omega, k3⟩
    simp [fJoin, k1, lens_single, join_single, show cs.length ≤ line by unfold line; omega]
noncomputable def wordV (T : List Df) (i k : Nat) (b : Bx) : List Nat := outS (callN T (k + 3) i [b.d])
noncomputable def wordB (T : List Df) (i k : Nat) (b : Bx) : Bx := outB (callN T (k + 3) i [b.d])
theorem word_s {T : List Df} {iM iD iW : Nat} (h : DrawT T iM iD) (hW : T[iW]? = some ⟨[true], 3, false, cWord iD⟩) (k : Nat) (b : Bx) : callN T (k + 3) iW [b.d] = .ok (.pure (.str (wordV T iW k b))) [(wordB T iW k b).d] := by
  obtain ⟨w, b', h1, h2⟩ := word_r h hW k b
  rw [wordV, wordB, h1, outS_s, outB_d]
theorem word_ok {T : List Df} {iM iD iW : Nat} (h : DrawT T iM iD) (hW : T[iW]? = some ⟨[true], 3, false, cWord iD⟩) (k : Nat) (b : Bx) : isWordL (wordV T iW k b) := by
  obtain ⟨w, b', h1, h2⟩ := word_r h hW k b
  rw [wordV, h1, outS_s]
  exact h2
end Gr
set_option linter.all false
set_option maxRecDepth 100000
/-! V5: least and greatest. -/
namespace Gr
theorem ints_map {α : Type} (l : List α) (f : α → Int) : intsP (l.map fun x => .int (f x)) = some (l.map f) := by
  induction l with
  | nil => rfl
  | cons x l ih => simp [intsP, ih]
theorem minI_lt : ∀ (l : List Int) (m x : Int), minI m l < x ↔ m < x ∨ ∃ y ∈ l, y < x
  | [], m, x => by simp [minI]
  | y :: l, m, x => by
    have := minI_lt l (if y < m then y else m) x
    simp only [minI, this, List.mem_cons, exists_eq_or_imp]
    split <;> constructor <;> intro h
    · rcases h with h | h
      · exact .inr (.inl h)
      · exact .inr (.inr h)
    · rcases h with h | h | h
      · exact .inl (by omega)
      · exact .inl h
      · exact .inr h
    · rcases h with h | h
      · exact .inl h
      · exact .inr (.inr h)
    · rcases h with h | h | h
      · exact .inl h
      · exact .inl (by omega)
      · exact .inr h
theorem fMin_map {α : Type} {l : List α} (f : α → Int) (h : l ≠ []) : ∃ m, fMin [.lst (l.map fun x => .int (f x))] = some (.pure (.int m)) ∧ ∀ x, m < x ↔ ∃ y ∈ l, f y < x := by
  cases l with
  | nil => exact (h rfl).elim
  | cons a l =>
    refine ⟨minI (f a) (l.map f), ?_, fun x => ?_⟩
    · simp only [fMin, List.map_cons, intsP, ints_map, Option.map_some]
    · rw [minI_lt]
      simp only [List.mem_map, List.mem_cons, exists_eq_or_imp]
      constructor <;> rintro (h | ⟨y, h⟩)
      · exact .inl h
      · obtain ⟨⟨z, hz, rfl⟩, h⟩ := h
        exact .inr ⟨z, hz, h⟩
      · exact .inl h
      · exact .inr ⟨f y, ⟨y, h.1, rfl⟩, h.2⟩
theorem maxI_le : ∀ (l : List Int) (m : Int), m ≤ maxI m l ∧ (∀ y ∈ l, y ≤ maxI m l) ∧ (maxI m l = m ∨ maxI m l ∈ l)
  | [], m => by simp [maxI]
  | y :: l, m => by
    obtain ⟨h1, h2, h3⟩ := maxI_le l (if y > m then y else m)
    simp only [maxI, List.mem_cons, forall_eq_or_imp]
    generalize maxI (if y > m then y else m) l = z at *
    split at h1 <;> rename_i hy <;> simp only [hy, if_true, if_false] at h3
    · exact ⟨by omega, ⟨h1, h2⟩, by rcases h3 with h | h <;> simp [h]⟩
    · exact ⟨h1, ⟨by omega, h2⟩, by rcases h3 with h | h <;> simp [h]⟩
theorem fMax_map {α : Type} {l : List α} (f : α → Int) (h : l ≠ []) : ∃ m, fMax [.lst (l.map fun x => .int (f x))] = some (.pure (.int m)) ∧ (∀ y ∈ l, f y ≤ m) ∧ ∃ y ∈ l, m = f y := by
  cases l with
  | nil => exact (h rfl).elim
  | cons a l =>
    obtain ⟨h1, h2, h3⟩ := maxI_le (l.map f) (f a)
    refine ⟨maxI (f a) (l.map f), by simp only [fMax, List.map_cons, intsP, ints_map, Option.map_some], ?_, ?_⟩
    · simp only [List.mem_cons, forall_eq_or_imp]
      exact ⟨h1, fun y hy => h2 _ (List.mem_map_of_mem hy)⟩
    · rcases h3 with h | h
      · exact ⟨a, by simp, h⟩
      · obtain ⟨y, hy, e⟩ := List.mem_map.mp h
        exact ⟨y, by simp [hy], e.symm⟩
end Gr
set_option linter.all false
set_option maxRecDepth 100000
/-! V6: what is drawn out of a list. -/
namespace Gr
theorem ix_draw {xs : List P} {v : Int} (h0 : 0 ≤ v) (h1 : v < xs.length) : ∃ p ∈ xs, opIx (.lst xs) (.int v) = some (.pure p) := by
  refine ⟨xs[v.toNat]'(by omega), List.getElem_mem _, ?_⟩
  simp [ixOf_p h0 h1]
theorem ix_drawn (b : Bx) {xs : List P} {n : Int} (h : 0 < n) (h1 : n = xs.length) : ∃ p ∈ xs, opIx (.lst xs) (.int (dV b n)) = some (.pure p) :=
  ix_draw (dV_lo b h) (by have := dV_hi b h; omega)
theorem ix_drawn_t (b : Bx) {xs : List P} {n : Int} (h : 0 < n) (h1 : n = xs.length) : ∃ p ∈ xs, opIx (.tup xs) (.int (dV b n)) = some (.pure p) :=
  ix_drawn b h h1
def evLb (i : Nat) (rs : List Rv) (s : Sl) (e1 : Ev) : Out (List Rv) := match s with
    | some (.ols _) => .ok (.slot i :: rs) e1
    | _ => .stk
def kEvL (i : Nat) : List Rv → Ev → Out (List Rv) := fun rs e1 => evLb i rs (getS e1 i) e1
def evLa (pr : Bool) (i : Nat) (ms : List (Bool × M Rv)) (c : Ct) (s : Sl) (e : Ev) : Out (List Rv) := match s with
  | some (.ols _) => (evAs pr ms c e).andThen (kEvL i)
  | _ => .stk
section
variable {f i : Nat} {pr : Bool} {ms : List (Bool × M Rv)} {c : Ct} {e : Ev} {xs : List P} {rs : List Rv} {b : Bx}
@[simp] theorem r_evL : evL pr i ms c e = evLa pr i ms c (getS e i) e := (rfl)
@[simp] theorem evLa_s : evLa pr i ms c (some (.ols xs)) e = (evAs pr ms c e).andThen (kEvL i) := (rfl)
@[simp] theorem evLa_b : evLa pr i ms c (some b.d) e = (evAs pr ms c e).andThen (kEvL i) := (rfl)
@[simp] theorem q_evL : kEvL i rs e = evLb i rs (getS e i) e := (rfl)
@[simp] theorem evLb_s : evLb i rs (some (.ols xs)) e = .ok (.slot i :: rs) e := (rfl)
@[simp] theorem evLb_b : evLb i rs (some b.d) e = .ok (.slot i :: rs) e := (rfl)
@[simp] theorem r_callL : mCallL f pr i ms c e = (evL pr i ms c e).andThen (kCall f pr (true :: ms.map (·.1)) c) := (rfl)
end
/-- it ends with a box -/
def OkB (Q : D → Prop) : Res → Prop
  | .ok d [w] => ∃ b : Bx, w = b.d ∧ Q d
  | _ => False
@[simp] theorem okB_s {Q : D → Prop} {d : D} {b : Bx} : OkB Q (.ok d [b.d]) = Q d := by
  show (∃ c : Bx, b.d = c.d ∧ Q d) = Q d
  apply propext
  constructor
  · rintro ⟨_, _, h⟩
    exact h
  · intro h
    exact ⟨b, rfl, h⟩
theorem okB_d {Q : D → Prop} {o : Res} (h : OkB Q o) : ∃ d b, o = .ok d [Bx.d b] ∧ Q d := by
  cases o with
  | ok d ws =>
    match ws, h with
    | [w], h =>
      obtain ⟨b, h1, h⟩ := h
      exact ⟨d, b, by rw [h1], h⟩
  | rs => exact h.elim
  | stk => exact h.elim
def prQ (Q : P → Prop) : D → Prop
  | .pure p => Q p
  | _ => False
@[simp] theorem prQ_s {Q : P → Prop} {p : P} : prQ Q (.pure p) = Q p := (rfl)
theorem okB_p {Q : P → Prop} {o : Res} (h : OkB (prQ Q) o) : ∃ p b, o = .ok (.pure p) [Bx.d b] ∧ Q p := by
  obtain ⟨d, b, h, q⟩ := okB_d h
  cases d with
  | pure p => exact ⟨p, b, h, q⟩
  | _ => exact q.elim
def pvQ (Q : P → Prop) (d : D) : Prop := ∃ p, d.pv = some p ∧ Q p
@[simp] theorem pvQ_p {Q : P → Prop} {p : P} : pvQ Q (.pure p) = Q p := by simp [pvQ]
@[simp] theorem pvQ_l {Q : P → Prop} {xs : List P} : pvQ Q (.ols xs) = Q (.lst xs) := by simp [pvQ]
theorem okB_v {Q : P → Prop} {o : Res} (h : OkB (pvQ Q) o) : ∃ d p b, o = .ok d [Bx.d b] ∧ d.pv = some p ∧ Q p := by
  obtain ⟨d, b, h, p, h1, q⟩ := okB_d h
  exact ⟨d, p, b, h, h1, q⟩
@[simp] theorem ixOf_c0 {n : Nat} : ixOf (n + 1) 0 = some 0 := by simp [ixOf]
@[simp] theorem ixOf_c1 {n : Nat} : ixOf (n + 2) 1 = some 1 := by simp [ixOf]; omega
@[simp] theorem ixOf_c2 {n : Nat} : ixOf (n + 3) 2 = some 2 := by simp [ixOf]; omega
@[simp] theorem ixOf_c3 {n : Nat} : ixOf (n + 4) 3 = some 3 := by simp [ixOf]; omega
@[simp] theorem ixOf_c4 {n : Nat} : ixOf (n + 5) 4 = some 4 := by simp [ixOf]; omega
@[simp] theorem ixOf_c5 {n : Nat} : ixOf (n + 6) 5 = some 5 := by simp [ixOf]; omega
@[simp] theorem ixOf_c6 {n : Nat} : ixOf (n + 7) 6 = some 6 := by simp [ixOf]; omega
@[simp] theorem ixOf_c7 {n : Nat} : ixOf (n + 8) 7 = some 7 := by simp [ixOf]; omega
@[simp] theorem ixOf_c8 {n : Nat} : ixOf (n + 9) 8 = some 8 := by simp [ixOf]; omega
@[simp] theorem ixOf_c9 {n : Nat} : ixOf (n + 10) 9 = some 9 := by simp [ixOf]; omega
@[simp] theorem ixOf_c10 {n : Nat} : ixOf (n + 11) 10 = some 10 := by simp [ixOf]; omega
@[simp] theorem ixOf_c11 {n : Nat} : ixOf (n + 12) 11 = some 11 := by simp [ixOf]; omega
theorem leak_v {d : D} {c : Ct} {e : Ev} : leakR (.val d) c e = ofOpt d.pv e := (rfl)
/-! except -/
def kSui (i : Nat) : Out Gr.Flow → Out Gr.Flow
  | .ok f e1 => if (noExn (e1.set i none) && f.flat) = true then .ok f (e1.set i none) else .stk
  | _ => .stk
def kSu0 : Out Gr.Flow → Out Gr.Flow
  | .ok f e1 => if (noExn e1 && f.flat) = true then .ok f e1 else .stk
  | _ => .stk
def hdG (x : Nat) (fs : List (Nat × P)) (hs : List Hd) (m : M Gr.Flow) (c : Ct) (e : Ev) (s : Option Nat) (o : Option Bool) : Out Gr.Flow := match o with
  | some true => (match s with
    | none => kSu0 (m c e)
    | some i => if (c.lk.contains i || decide (e.length ≤ i)) = true then .stk else kSui i (m c (e.set i (some (.exn x fs)))))
  | some false => hdF x fs hs c e
  | none => .stk
section
variable {x i : Nat} {fs : List (Nat × P)} {hs : List Hd} {m : M Gr.Flow} {c : Ct} {e : Ev} {s : Option Nat} {tk : Nat → Option Bool} {f : Gr.Flow} {p : P} {xs ys : List P} {d : D} {b : Bx}
@[simp] theorem hdF_0 : hdF x fs [] c e = .rs x fs e := (rfl)
@[simp] theorem hdF_c : hdF x fs (⟨tk, s, m⟩ :: hs) c e = hdG x fs hs m c e s (tk x) := by
  simp only [hdF]
  cases ht : tk x with
  | none => rfl
  | some t => cases t with
    | false => rfl
    | true => cases s with
      | none =>
        simp only [hdG]
        cases m c e <;> rfl
      | some i =>
        simp only [hdG, suiF]
        split
        · rfl
        · cases m c (e.set i (some (.exn x fs))) <;> rfl
@[simp] theorem hdG_f : hdG x fs hs m c e s (some false) = hdF x fs hs c e := (rfl)
@[simp] theorem hdG_n : hdG x fs hs m c e none (some true) = kSu0 (m c e) := (rfl)
@[simp] theorem hdG_s : hdG x fs hs m c e (some i) (some true) = if (c.lk.contains i || decide (e.length ≤ i)) = true then .stk else kSui i (m c (e.set i (some (.exn x fs)))) := (rfl)
@[simp] theorem kSui_s : kSui i (.ok f e) = if (noExn (e.set i none) && f.flat) = true then .ok f (e.set i none) else .stk := (rfl)
@[simp] theorem kSu0_s : kSu0 (.ok f e) = if (noExn e && f.flat) = true then .ok f e else .stk := (rfl)
@[simp] theorem nx_0 : noExn [] = true := (rfl)
@[simp] theorem nx_n : noExn (none :: e) = noExn e := (rfl)
@[simp] theorem nx_p : noExn (some (.pure p) :: e) = noExn e := (rfl)
@[simp] theorem nx_l : noExn (some (.ols xs) :: e) = noExn e := (rfl)
@[simp] theorem nx_d : noExn (some (.odc xs ys) :: e) = noExn e := (rfl)
@[simp] theorem nx_b : noExn (some b.d :: e) = noExn e := (rfl)
@[simp] theorem ff_p : Flow.flat (.rt (.pure p)) = true := (rfl)
@[simp] theorem ff_l : Flow.flat (.rt (.ols xs)) = true := (rfl)
@[simp] theorem ff_n : Flow.flat .nx = true := (rfl)
end
end Gr
set_option linter.all false
set_option maxRecDepth 100000
/-! words, prices. -/
namespace Gbk20
open Gr
/-- no input, no long text -/
def fineP : P → Prop
  | .inp _ => False
  | .str s => s.length < line
  | _ => True
def isInt : P → Bool
  | .int _ => true
  | _ => false
def isCnt : P → Bool
  | .int i => decide (0 ≤ i)
  | _ => false
def szP (n : Nat) : P → Bool
  | .tup xs => decide (xs.length = n)
  | _ => false
def isWd : P → Bool
  | .str s => decide (1 ≤ s.length) && decide (s.length ≤ 8) && s.all fun c => decide (c ∈ abc)
  | _ => false
theorem int_s (k : Nat) {p : P} (h : fineP p) : callN T (k + 1) 0 [.pure p] = .ok (.pure (.bl (isInt p))) [] := by
  rw [call_s (T := T) (f := 0) rfl (by simp) (by simp)]
  cases p <;> simp [fineP, b_is_int, isiP, isOne, isInt] at h ⊢
theorem cnt_s (k : Nat) {p : P} (h : fineP p) : callN T (k + 2) 1 [.pure p] = .ok (.pure (.bl (isCnt p))) [] := by
  rw [call_s (T := T) (f := 1) rfl (by simp) (by simp)]
  have := int_s k h
  cases p <;> simp [fineP, b_is_count, isInt, isCnt, this] at h this ⊢
theorem size_s (k : Nat) {p : P} (n : Nat) (h : fineP p) : callN T (k + 1) 2 [.pure p, .pure (.int n)] = .ok (.pure (.bl (szP n p))) [] := by
  rw [call_s (T := T) (f := 2) rfl (by simp) (by simp)]
  cases p <;> simp [fineP, b_has_size, isiP, isOne, szP] at h ⊢
  all_goals omega
theorem bls_map {α : Type} (l : List α) (f : α → Bool) : blsP (l.map fun x => .bl (f x)) = some (l.map f) := by
  induction l with
  | nil => rfl
  | cons x l ih => simp [blsP, ih]
theorem fAll_bl {α : Type} (l : List α) (f : α → Bool) : fAll [.lst (l.map fun x => .bl (f x))] = some (.pure (.bl (l.all f))) := by
  simp only [fAll, bls_map, Option.map_some, List.all_map]
  rfl
def abcF : P → P
  | .str [c] => .bl (decide (c ∈ abc))
  | _ => .non
theorem word_t (k : Nat) {p : P} (h : fineP p) : callN T (k + 1) 3 [.pure p] = .ok (.pure (.bl (isWd p))) [] := by
  rw [call_s (T := T) (f := 3) rfl (by simp) (by simp)]
  cases p with
  | str s =>
    simp only [fineP] at h
    have hl : fLen [.str s] = some (.pure (.int s.length)) := by simp [fLen, h]
    by_cases h1 : 1 ≤ s.length
    · have h1' : (1 : Int) ≤ s.length := by omega
      by_cases h8 : s.length ≤ 8
      · have h8' : (s.length : Int) ≤ 8 := by omega
        have hh : s.length ≤ line := by unfold line; omega
        simp [b_is_word, isiP, isOne, hl, h1, h8, hh, isWd, h1', h8']
        rw [comp_map abcF]
        · simp [Function.comp_def, abcF, fAll_bl]
        · intro x hx
          simp only [List.mem_map] at hx
          obtain ⟨c, _, rfl⟩ := hx
          simp [opIn, abcF, abc]
      · have h8' : ¬ (s.length : Int) ≤ 8 := by omega
        simp [b_is_word, isiP, isOne, hl, h1, h8, isWd, h1', h8']
    · have h1' : ¬ (1 : Int) ≤ s.length := by omega
      simp [b_is_word, isiP, isOne, hl, h1, isWd, h1']
  | inp ns => exact h.elim
  | _ => simp [b_is_word, isiP, isOne, isWd]
/-! rows -/
def rowW : P → Option (List Nat × List Nat)
  | .tup [.str a, .str b, n] => if (isWd (.str a) && isWd (.str b) && isCnt n) = true then some (a, b) else none
  | _ => none
def pairP (q : List Nat × List Nat) : P := .tup [.str q.1, .str q.2]
def goT : List (List Nat × List Nat) → List P → Bool
  | _, [] => true
  | seen, r :: rs => match rowW r with
    | some q => !decide (q.1 = q.2) && !decide (q ∈ seen) && goT (seen ++ [q]) rs
    | none => false
def fineR (r : P) : Prop := fineP r ∧ ∀ xs, r = .tup xs → ∀ x ∈ xs, fineP x
theorem deps_pair (l : List (List Nat × List Nat)) : P.deps deep (l.map pairP) = true := by
  induction l with
  | nil => rfl
  | cons q l ih =>
    simp only [List.map_cons, P.deps, ih, Bool.and_true]
    rfl
theorem in_pair (q : List Nat × List Nat) (l : List (List Nat × List Nat)) : inP (pairP q) (l.map pairP) = decide (q ∈ l) := by
  induction l with
  | nil => rfl
  | cons x l ih =>
    simp only [inP, List.map_cons, List.any_cons] at ih ⊢
    rw [ih]
    have : eqP (pairP x) (pairP q) = decide (q = x) := by
      obtain ⟨a, b⟩ := q
      obtain ⟨c, d⟩ := x
      simp [pairP, eqP, eqPs, beq_dec, eq_comm]
    rw [this]
    simp
theorem in_seen (q : List Nat × List Nat) (l : List (List Nat × List Nat)) : opIn (pairP q) (.lst (l.map pairP)) = some (.pure (.bl (decide (q ∈ l)))) := by
  have h1 : (pairP q).dep deep = true := rfl
  have := in_pair q l
  unfold pairP at this h1 ⊢
  simp only [opIn]
  rw [if_pos (by rw [h1]; exact deps_pair l), ← this]
theorem rowW_f {a b c : P} (h : (isWd a && isWd b && isCnt c) = false) : rowW (.tup [a, b, c]) = none := by
  cases a <;> cases b <;> simp only [rowW]
  rw [if_neg (by rw [h]; decide)]
theorem rowW_t {a b c : P} (h : (isWd a && isWd b && isCnt c) = true) : ∃ x y, a = .str x ∧ b = .str y ∧ rowW (.tup [a, b, c]) = some (x, y) := by
  cases a <;> cases b <;> first
    | (exfalso; simp [isWd] at h; done)
    | exact ⟨_, _, rfl, rfl, by simp only [rowW]; rw [if_pos h]⟩
def bRow : M Gr.Flow := (mSeq (mIf (mOrT (mNotT (mTr (mCall 2 false [(false, mV 2), (false, mC (.int 3))]))) (mOrT (mNotT (mTr (mCall 3 false [(false, mOp2 opIx (mV 2) (mC (.int 0)))]))) (mOrT (mNotT (mTr (mCall 3 false [(false, mOp2 opIx (mV 2) (mC (.int 1)))]))) (mNotT (mTr (mCall 1 false [(false, mOp2 opIx (mV 2) (mC (.int 2)))])))))) (mRt [] (mC (.bl false))) (mNx)) (mSeq (mIf (mOrT (mTr (mOp2 opEq (mOp2 opIx (mV 2) (mC (.int 0))) (mOp2 opIx (mV 2) (mC (.int 1))))) (mTr (mOp2 opIn (mSl (mV 2) none (some (mC (.int 2)))) (mV 1)))) (mRt [] (mC (.bl false))) (mNx)) (mEx (mApp 1 (mSl (mV 2) none (some (mC (.int 2))))))))
theorem rows_s (k : Nat) (p : P) : ∀ (rs : List P) (seen : List (List Nat × List Nat)) (x : Sl), seen.length + rs.length ≤ 1000 → (∀ r ∈ rs, fineR r) →
    (goT seen rs = true → ∃ e', forF (.nm 2) bRow ⟨callN T (k + 3), []⟩ rs [some (.pure p), some (.ols (seen.map pairP)), x] = .ok .nx e' ∧ ∃ y z, e' = [some (.pure p), y, z]) ∧ (goT seen rs = false → ∃ e', forF (.nm 2) bRow ⟨callN T (k + 3), []⟩ rs [some (.pure p), some (.ols (seen.map pairP)), x] = .ok (.rt (.pure (.bl false))) e' ∧ ∃ y z, e' = [some (.pure p), y, z])
  | [], seen, x, _, _ => ⟨fun _ => ⟨_, rfl, _, _, rfl⟩, fun h => by simp [goT] at h⟩
  | r :: rs, seen, x, hs, hf => by
    have fr := hf r List.mem_cons_self
    have ih := fun q => rows_s k p rs (seen ++ [q]) (some (.pure r)) (by simp at hs ⊢; omega) fun y hy => hf y (List.mem_cons_of_mem _ hy)
    have hz := size_s (k + 2) 3 fr.1
    cases r with
    | tup xs =>
      rcases xs with _ | ⟨a, _ | ⟨b, _ | ⟨c, _ | ⟨d, xs⟩⟩⟩⟩
      case cons.cons.cons.nil =>
        have fa := word_t (k + 2) (fr.2 _ rfl a (by simp))
        have fb := word_t (k + 2) (fr.2 _ rfl b (by simp))
        have fc := cnt_s (k + 1) (fr.2 _ rfl c (by simp))
        simp [szP] at hz
        cases hw : isWd a && isWd b && isCnt c
        · have hr := rowW_f hw
          cases wa : isWd a
          · simp [goT, hr, forF_s, bRow, hz, ixOf, fa, wa]
          · cases wb : isWd b
            · simp [goT, hr, forF_s, bRow, hz, ixOf, fa, wa, fb, wb]
            · have wc : isCnt c = false := by simpa [wa, wb] using hw
              simp [goT, hr, forF_s, bRow, hz, ixOf, fa, wa, fb, wb, fc, wc]
        · obtain ⟨u, v, rfl, rfl, hr⟩ := rowW_t hw
          simp only [Bool.and_eq_true] at hw
          have hin := in_seen (u, v) seen
          simp only [pairP] at hin
          have ih := ih (u, v)
          have hsl : seen.length < line := by simp at hs; unfold line; omega
          by_cases huv : u = v
          · subst huv
            simp [goT, hr, forF_s, bRow, hz, ixOf, fa, hw, fb, fc]
          · by_cases hse : (u, v) ∈ seen
            · simp [goT, hr, forF_s, bRow, hz, ixOf, fa, hw, fb, fc, huv, hse, slP, mPart, cutL, sIxP, hin]
            · simp [goT, hr, forF_s, bRow, hz, ixOf, fa, hw, fb, fc, huv, hse, slP, mPart, cutL, sIxP, hin, hsl]
              simpa [pairP, bRow] using ih
      all_goals
        simp [szP] at hz
        simp [goT, rowW, forF_s, hz, bRow]
    | _ =>
      simp [szP] at hz
      simp [goT, rowW, forF_s, hz, bRow]
def areT : P → Bool
  | .tup rs => goT [] rs
  | _ => false
def fineT (p : P) : Prop := fineP p ∧ ∀ rs, p = .tup rs → rs.length ≤ 1000 ∧ ∀ r ∈ rs, fineR r
theorem trip_s (k : Nat) {p : P} (h : fineT p) : callN T (k + 4) 4 [.pure p] = .ok (.pure (.bl (areT p))) [] := by
  rw [call_s (T := T) (f := 4) rfl (by simp) (by simp)]
  have hf := h.1
  cases p with
  | tup rs =>
    obtain ⟨h1, h2⟩ := h.2 rs rfl
    have key := rows_s k (.tup rs) rs [] none (by simpa using h1) h2
    simp [b__are_triples, isiP, isOne, areT]
    generalize hF : forF _ _ _ _ _ = o
    cases hg : goT [] rs
    · obtain ⟨e', h3, y, z, rfl⟩ := key.2 hg
      have : o = _ := hF.symm.trans h3
      subst this
      simp
    · obtain ⟨e', h3, y, z, rfl⟩ := key.1 hg
      have : o = _ := hF.symm.trans h3
      subst this
      simp
  | inp ns => exact hf.elim
  | _ => simp [b__are_triples, isiP, isOne, areT]
def isPr : P → Bool
  | .tup [a, b, c, t] => isCnt a && isCnt b && isCnt c && areT t
  | _ => false
def cntF (p : P) : P := .bl (isCnt p)
def fineQ (p : P) : Prop := fineP p ∧ ∀ a b c t, p = .tup [a, b, c, t] → fineP a ∧ fineP b ∧ fineP c ∧ fineT t
theorem pr_s (k : Nat) {p : P} (h : fineQ p) : callN T (k + 5) 5 [.pure p] = .ok (.pure (.bl (isPr p))) [] := by
  rw [call_s (T := T) (f := 5) rfl (by simp) (by simp)]
  have hz := size_s (k + 3) 4 h.1
  cases p with
  | tup xs =>
    rcases xs with _ | ⟨a, _ | ⟨b, _ | ⟨c, _ | ⟨t, _ | ⟨u, xs⟩⟩⟩⟩⟩
    case cons.cons.cons.cons.nil =>
      obtain ⟨ha, hb, hc, ht⟩ := h.2 a b c t rfl
      have fa := cnt_s (k + 2) ha
      have fb := cnt_s (k + 2) hb
      have fc := cnt_s (k + 2) hc
      have ft := trip_s k ht
      simp [szP] at hz
      simp [b_is_prices, hz, slP, mPart, cutL, sIxP, ixOf, show (3 : Nat) ≤ line by decide]
      rw [comp_map cntF]
      · have := fAll_bl [a, b, c] isCnt
        simp [cntF] at this ⊢
        simp [this, ft, isPr, ixOf]
        cases isCnt a <;> cases isCnt b <;> cases isCnt c <;> simp [ixOf, ft]
      · intro x hx
        simp at hx
        rcases hx with rfl | rfl | rfl
        · simp [fa, cntF]
        · simp [fb, cntF]
        · simp [fc, cntF]
    all_goals
      simp [szP] at hz
      simp [b_is_prices, hz, isPr]
  | inp ns => exact h.1.elim
  | _ =>
    simp [szP] at hz
    simp [b_is_prices, hz, isPr]
theorem need_t (k : Nat) {p : P} (h : fineQ p) (hp : isPr p = true) : callN T (k + 6) 6 [.pure p] = .ok (.pure .non) [] := by
  rw [call_s (T := T) (f := 6) rfl (by simp) (by simp)]
  simp [b_need_prices, pr_s k h, hp]
theorem need_f (k : Nat) {p : P} (h : fineQ p) (hp : isPr p = false) : callN T (k + 6) 6 [.pure p] = .rs 2 [(0, p)] [] := by
  rw [call_s (T := T) (f := 6) rfl (by simp) (by simp)]
  simp [b_need_prices, pr_s k h, hp]
abbrev Row := List Nat × List Nat × Int
def rowP (r : Row) : P := .tup [.str r.1, .str r.2.1, .int r.2.2]
def hit (a b : List Nat) (r : Row) : Bool := decide (r.1 = a) && decide (r.2.1 = b)
def chg (d : Int) (rows : List Row) (a b : List Nat) : Int := if a = b then 0 else match rows.find? (hit a b) with
  | some r => r.2.2
  | none => d
theorem btw_loop {c : Ct} {a b : List Nat} {x : P} : ∀ {rows : List Row} {y z w : Sl}, (∀ r, rows.find? (hit a b) = some r → ∃ e', forF (.tp [3, 4, 5]) (mIf (mAndT (mTr (mOp2 opEq (mV 3) (mV 1))) (mTr (mOp2 opEq (mV 4) (mV 2)))) (mRt [] (mV 5)) (mNx)) ⟨c.call, []⟩ (rows.map rowP) [some (.pure x), some (.pure (.str a)), some (.pure (.str b)), y, z, w] = .ok (.rt (.pure (.int r.2.2))) e' ∧ e'.length = 6) ∧
    (rows.find? (hit a b) = none → ∃ y2 z2 w2, forF (.tp [3, 4, 5]) (mIf (mAndT (mTr (mOp2 opEq (mV 3) (mV 1))) (mTr (mOp2 opEq (mV 4) (mV 2)))) (mRt [] (mV 5)) (mNx)) ⟨c.call, []⟩ (rows.map rowP) [some (.pure x), some (.pure (.str a)), some (.pure (.str b)), y, z, w] = .ok .nx [some (.pure x), some (.pure (.str a)), some (.pure (.str b)), y2, z2, w2])
  | [], y, z, w => ⟨fun r h => by simp at h, fun _ => ⟨y, z, w, rfl⟩⟩
  | (u, v, n) :: rows, y, z, w => by
    have ih := btw_loop (c := c) (a := a) (b := b) (x := x) (rows := rows) (y := some (.pure (.str u))) (z := some (.pure (.str v))) (w := some (.pure (.int n)))
    by_cases h1 : u = a
    · by_cases h2 : v = b
      · subst h1 h2
        simp [hit, forF_s, rowP]
      · subst h1
        simp [hit, forF_s, rowP, h2]
        simpa [hit] using ih
    · simp [hit, forF_s, rowP, h1]
      simpa [hit] using ih
theorem btw_s (k : Nat) (p q d : P) (rows : List Row) (a b : List Nat) (n : Int) (hd : d = .int n) : callN T (k + 1) 7 [.pure (.tup [p, q, d, .tup (rows.map rowP)]), .pure (.str a), .pure (.str b)] = .ok (.pure (.int (chg n rows a b))) [] := by
  rw [call_s (T := T) (f := 7) rfl (by simp) (by simp)]
  subst hd
  by_cases hab : a = b
  · simp [b_price_between, hab, chg]
  · simp [b_price_between, hab, chg, ixOf]
    have key := btw_loop (c := ⟨callN T k, []⟩) (a := a) (b := b) (x := .tup [p, q, .int n, .tup (rows.map rowP)]) (rows := rows) (y := none) (z := none) (w := none)
    cases hf : rows.find? (hit a b) with
    | some r =>
      obtain ⟨e', h, hl⟩ := key.1 r hf
      simp [h, ws_all [false, false, false] e' rfl (by simp [hl])]
    | none =>
      obtain ⟨y, z, w, h⟩ := key.2 hf
      simp [h, ixOf]
def isRows (t : P) (rows : List Row) : Prop := t = .tup (rows.map rowP) ∨ t = .lst (rows.map rowP)
theorem lch_loop {c : Ct} {a b : List Nat} {x : P} : ∀ {rows : List Row} {y : Sl}, (∀ r, rows.find? (hit a b) = some r → ∃ e', forF (.nm 3) (mIf (mAndT (mTr (mOp2 opEq (mOp2 opIx (mV 3) (mC (.int 0))) (mV 1))) (mTr (mOp2 opEq (mOp2 opIx (mV 3) (mC (.int 1))) (mV 2)))) (mRt [] (mOp2 opIx (mV 3) (mC (.int 2)))) (mNx)) ⟨c.call, []⟩ (rows.map rowP) [some (.pure x), some (.pure (.str a)), some (.pure (.str b)), y] = .ok (.rt (.pure (.int r.2.2))) e' ∧ e'.length = 4) ∧
    (rows.find? (hit a b) = none → ∃ y2, forF (.nm 3) (mIf (mAndT (mTr (mOp2 opEq (mOp2 opIx (mV 3) (mC (.int 0))) (mV 1))) (mTr (mOp2 opEq (mOp2 opIx (mV 3) (mC (.int 1))) (mV 2)))) (mRt [] (mOp2 opIx (mV 3) (mC (.int 2)))) (mNx)) ⟨c.call, []⟩ (rows.map rowP) [some (.pure x), some (.pure (.str a)), some (.pure (.str b)), y] = .ok .nx [some (.pure x), some (.pure (.str a)), some (.pure (.str b)), y2])
  | [], y => ⟨fun r h => by simp at h, fun _ => ⟨y, rfl⟩⟩
  | (u, v, n) :: rows, y => by
    have ih := lch_loop (c := c) (a := a) (b := b) (x := x) (rows := rows) (y := some (.pure (.tup [.str u, .str v, .int n])))
    by_cases h1 : u = a
    · by_cases h2 : v = b
      · subst h1 h2
        simp [hit, forF_s, rowP, ixOf]
      · subst h1
        simp [hit, forF_s, rowP, h2, ixOf]
        simpa [hit] using ih
    · simp [hit, forF_s, rowP, h1, ixOf]
      simpa [hit] using ih
theorem lch_s (k : Nat) (p q t : P) (n : Int) (rows : List Row) (a b : List Nat) (ht : isRows t rows) : callN T (k + 1) 31 [.pure (.tup [p, q, .int n, t]), .pure (.str a), .pure (.str b)] = .ok (.pure (.int (chg n rows a b))) [] := by
  rw [call_s (T := T) (f := 31) rfl (by simp) (by simp)]
  by_cases hab : a = b
  · simp [b__law_change, hab, chg]
  · have key := lch_loop (c := ⟨callN T k, []⟩) (a := a) (b := b) (x := .tup [p, q, .int n, t]) (rows := rows) (y := none)
    rcases ht with rfl | rfl
    all_goals
      simp [b__law_change, hab, chg, ixOf]
      cases hf : rows.find? (hit a b) with
      | some r =>
        obtain ⟨e', h, hl⟩ := key.1 r hf
        simp [h, ws_all [false, false, false] e' rfl (by simp [hl])]
      | none =>
        obtain ⟨y, h⟩ := key.2 hf
        simp [h, ixOf]
def priceP (p q n : Int) (rows : List Row) : P := .tup [.int p, .int q, .int n, .tup (rows.map rowP)]
def turnR (r : Row) : Row := (r.2.1, r.1, r.2.2)
def pairOf (r : Row) : List Nat × List Nat := (r.1, r.2.1)
def goodR (r : Row) : Prop := isWordL r.1 ∧ isWordL r.2.1 ∧ r.1 ≠ r.2.1 ∧ 0 ≤ r.2.2 ∧ r.2.2 < 1000
def goodT (rows : List Row) : Prop := (∀ r ∈ rows, goodR r) ∧ (rows.map pairOf).Nodup
theorem notin_seen (u v : List Nat) (l : List (List Nat × List Nat)) : opNotIn (.tup [.str u, .str v]) (.lst (l.map pairP)) = some (.pure (.bl (!decide ((u, v) ∈ l)))) := by
  have := in_seen (u, v) l
  simp only [pairP] at this
  simp only [opNotIn, this]
theorem add_tt (xs ys : List P) (h : xs.length + ys.length ≤ line) : opAdd (.tup xs) (.tup ys) = some (.pure (.tup (xs ++ ys))) := by simp [opAdd, h]
theorem goodT_nil : goodT [] := ⟨fun r h => (by cases h), List.nodup_nil⟩
theorem goodT_add {rows : List Row} {r : Row} (h : goodT rows) (h1 : goodR r) (h2 : pairOf r ∉ rows.map pairOf) : goodT (rows ++ [r]) := by
  refine ⟨fun x hx => ?_, ?_⟩
  · rcases List.mem_append.mp hx with hx | hx
    · exact h.1 x hx
    · rw [List.mem_singleton.mp hx]; exact h1
  · rw [List.map_append, List.nodup_append]
    refine ⟨h.2, by simp, fun a ha b hb => ?_⟩
    simp at hb
    subst hb
    intro e
    exact h2 (e ▸ ha)
theorem at_ix {α : Type} (l : List α) {v : Int} (h0 : 0 ≤ v) (h1 : v < l.length) : ∃ j, ∃ h : j < l.length, ixOf l.length v = some j ∧ l[j]? = some l[j] := by
  refine ⟨v.toNat, by omega, by rw [ixOf_p h0 h1], by simp⟩
theorem add_ll (xs ys : List P) (h : xs.length + ys.length ≤ line) : opAdd (.lst xs) (.lst ys) = some (.ols (xs ++ ys)) := by simp [opAdd, h]
theorem chg_b {n : Int} {rows : List Row} (hg : goodT rows) (h0 : 0 ≤ n) (h1 : n < 1000) (a b : List Nat) : 0 ≤ chg n rows a b ∧ chg n rows a b < 1000 := by
  unfold chg
  split
  · omega
  · split
    · rename_i r hr
      have := hg.1 r (List.mem_of_find?_eq_some hr)
      exact ⟨this.2.2.2.1, this.2.2.2.2⟩
    · exact ⟨h0, h1⟩
theorem alk_mono : ∀ {n m : Nat} {p : P}, alk n p → n ≤ m → alk m p
  | n, m, .non, _, _ => by simp [alk]
  | n, m, .bl _, _, _ => by simp [alk]
  | n, m, .int _, _, _ => by simp [alk]
  | n, m, .str _, _, _ => by simp [alk]
  | n, m, .dct _ _, h, _ => by simp [alk] at h
  | n, m, .inp _, h, _ => by simp [alk] at h
  | 0, m, .tup xs, h, _ => by simp [alk] at h
  | 0, m, .lst xs, h, _ => by simp [alk] at h
  | n + 1, 0, _, _, h => by omega
  | n + 1, m + 1, .tup xs, h, l => by
    simp only [alk] at h ⊢
    exact ⟨h.1, fun x hx => alk_mono (h.2 x hx) (by omega)⟩
  | n + 1, m + 1, .lst xs, h, l => by
    simp only [alk] at h ⊢
    exact ⟨h.1, fun x hx => alk_mono (h.2 x hx) (by omega)⟩
@[simp] theorem fp_non : fineP .non = True := rfl
@[simp] theorem fp_bl {b : Bool} : fineP (.bl b) = True := rfl
@[simp] theorem fp_int {b : Int} : fineP (.int b) = True := rfl
@[simp] theorem fp_tup {b : List P} : fineP (.tup b) = True := rfl
@[simp] theorem fp_lst {b : List P} : fineP (.lst b) = True := rfl
theorem fp_str {b : List Nat} (h : b.length < 1000) : fineP (.str b) := by
  show b.length < line
  unfold line; omega
theorem none_bad {r : P} (h : rowW r = none) : ∀ seen rs, goT seen (r :: rs) = false := fun seen rs => by simp [goT, h]
theorem fr_tup {xs : List P} (h : ∀ x ∈ xs, fineP x) : fineR (.tup xs) := ⟨trivial, fun ys e x hx => by cases e; exact h x hx⟩
theorem goT_mid (r : P) (h : ∀ seen rs, goT seen (r :: rs) = false) : ∀ (xs ys : List P) (seen : List (List Nat × List Nat)), goT seen (xs ++ r :: ys) = false
  | [], ys, seen => h seen ys
  | x :: xs, ys, seen => by
    simp only [List.cons_append, goT]
    split
    · simp [goT_mid r h xs ys]
    · rfl
theorem goT_nodup : ∀ (l : List P) (seen : List (List Nat × List Nat)), goT seen l = true → (l.filterMap rowW).Nodup ∧ ∀ q ∈ seen, q ∉ l.filterMap rowW
  | [], seen, _ => by simp
  | x :: l, seen, h => by
    simp only [goT] at h
    split at h
    · rename_i q hq
      simp only [Bool.and_eq_true] at h
      obtain ⟨h1, h2⟩ := goT_nodup l (seen ++ [q]) h.2
      rw [List.filterMap_cons, hq]
      refine ⟨List.nodup_cons.mpr ⟨h2 q (by simp), h1⟩, fun z hz => ?_⟩
      have := h2 z (by simp [hz])
      have hn : q ∉ seen := by simpa using h.1.2
      simp only [List.mem_cons, not_or]
      exact ⟨fun e => hn (e ▸ hz), this⟩
    · cases h
theorem insAt_perm (xs : List P) (j : Nat) (r : P) : (insAt xs j r).Perm (r :: xs) := by
  unfold insAt
  have := List.perm_middle (a := r) (l₁ := xs.take j) (l₂ := xs.drop j)
  rwa [List.take_append_drop] at this
theorem goT_twice {r x : P} {q : List Nat × List Nat} (h1 : rowW r = some q) (h2 : rowW x = some q) (xs : List P) (j : Nat) : goT [] (insAt (x :: xs) j r) = false := by
  cases h : goT [] (insAt (x :: xs) j r) with
  | false => rfl
  | true =>
    have := (goT_nodup _ _ h).1
    have p := ((insAt_perm (x :: xs) j r).filterMap rowW).nodup_iff.mp this
    simp [h1, h2] at p
theorem fr_row {r : Row} (h : goodR r) : fineR (rowP r) := fr_tup (by
  have h1 := h.1.2.1
  have h2 := h.2.1.2.1
  simp
  exact ⟨fp_str (by omega), fp_str (by omega)⟩)
theorem alk_row {r : Row} : alk 1 (rowP r) := by simp [rowP, alk, line]
theorem ft_rows {rs : List P} (h : rs.length ≤ 1000) (h2 : ∀ r ∈ rs, fineR r) : fineT (.tup rs) := ⟨trivial, fun xs e => by cases e; exact ⟨h, h2⟩⟩
theorem ft_of {p : P} (h : fineP p) (h2 : ∀ rs, p ≠ .tup rs) : fineT p := ⟨h, fun rs e => (h2 rs e).elim⟩
theorem fq4 {a b c t : P} (h1 : fineP a) (h2 : fineP b) (h3 : fineP c) (h4 : fineT t) : fineQ (.tup [a, b, c, t]) := ⟨trivial, fun _ _ _ _ e => by cases e; exact ⟨h1, h2, h3, h4⟩⟩
theorem fq_of {p : P} (h : fineP p) (h2 : ∀ a b c t, p ≠ .tup [a, b, c, t]) : fineQ p := ⟨h, fun a b c t e => (h2 a b c t e).elim⟩
theorem alk4 {a b c t : P} (h1 : alk 0 a) (h2 : alk 0 b) (h3 : alk 0 c) (h4 : alk 3 t) : alk 4 (.tup [a, b, c, t]) := by
  simp [alk, line, h4, alk_mono h1, alk_mono h2, alk_mono h3]
theorem alk_tup {n : Nat} {xs : List P} (h : xs.length ≤ 1000) (h2 : ∀ x ∈ xs, alk n x) : alk (n + 1) (.tup xs) := by
  simp only [alk]
  exact ⟨by unfold line; omega, h2⟩
theorem alk_lst {n : Nat} {xs : List P} (h : xs.length ≤ 1000) (h2 : ∀ x ∈ xs, alk n x) : alk (n + 1) (.lst xs) := by
  simp only [alk]
  exact ⟨by unfold line; omega, h2⟩
theorem alk_int {n : Nat} {i : Int} : alk n (.int i) := by cases n <;> simp [alk]
theorem let_abc {c : Nat} (h : isLet c) : c ∈ abc := by
  have key : ∀ c : Nat, c < 123 → 97 ≤ c → c ∈ abc := by decide
  exact key c (by have := h.2; omega) h.1
theorem wd_of {s : List Nat} (h : isWordL s) : isWd (.str s) = true := by
  simp only [isWd, Bool.and_eq_true, decide_eq_true_eq, List.all_eq_true]
  exact ⟨⟨h.1, h.2.1⟩, fun c hc => let_abc (h.2.2 c hc)⟩
theorem rowW_row {r : Row} (h : goodR r) : rowW (rowP r) = some (pairOf r) := by
  have h1 := wd_of h.1
  have h2 := wd_of h.2.1
  have h3 : isCnt (.int r.2.2) = true := by simp [isCnt, h.2.2.2.1]
  simp [rowP, rowW, h1, h2, h3, pairOf]
theorem goT_good : ∀ (rows : List Row) (seen : List (List Nat × List Nat)), (∀ r ∈ rows, goodR r) → (rows.map pairOf).Nodup → (∀ q ∈ seen, q ∉ rows.map pairOf) → goT seen (rows.map rowP) = true
  | [], _, _, _, _ => rfl
  | r :: rows, seen, h, hn, hs => by
    have hr := h r List.mem_cons_self
    rw [List.map_cons, List.nodup_cons] at hn
    have ns : pairOf r ∉ seen := fun q => hs _ q (by simp)
    have ih := goT_good rows (seen ++ [pairOf r]) (fun x hx => h x (List.mem_cons_of_mem _ hx)) hn.2 (fun q hq => by
      rcases List.mem_append.mp hq with hq | hq
      · exact fun z => hs q hq (by rw [List.map_cons]; exact List.mem_cons_of_mem _ z)
      · rw [List.mem_singleton.mp hq]; exact hn.1)
    rw [List.map_cons, goT, rowW_row hr]
    have hne : (pairOf r).1 ≠ (pairOf r).2 := hr.2.2.1
    simp only [ih, decide_eq_false hne, decide_eq_false ns, Bool.not_false, Bool.and_self]
theorem pr_good {p q n : Int} {rows : List Row} (hp : 0 ≤ p) (hq : 0 ≤ q) (hn : 0 ≤ n) (h : goodT rows) : isPr (priceP p q n rows) = true := by
  have := goT_good rows [] h.1 h.2 (fun q hq => by cases hq)
  simp [priceP, isPr, isCnt, hp, hq, hn, areT, this]
theorem fq_good {p q n : Int} {rows : List Row} (h : goodT rows) (hl : rows.length ≤ 6) : fineQ (priceP p q n rows) :=
  fq4 trivial trivial trivial (ft_rows (by simp; omega) fun r hr => by
    obtain ⟨q, hq, rfl⟩ := List.mem_map.mp hr
    exact fr_row (h.1 q hq))
theorem goodT_turn {rows : List Row} (h : goodT rows) : goodT (rows.map turnR) := by
  refine ⟨fun r hr => ?_, ?_⟩
  · obtain ⟨q, hq, rfl⟩ := List.mem_map.mp hr
    obtain ⟨h1, h2, h3, h4⟩ := h.1 q hq
    exact ⟨h2, h1, Ne.symm h3, h4⟩
  · have e : (rows.map turnR).map pairOf = (rows.map pairOf).map fun q => (q.2, q.1) := by simp [Function.comp_def, pairOf, turnR]
    rw [e, List.Nodup, List.pairwise_map]
    exact h.2.imp fun hne e => hne (by
      have h1 := congrArg Prod.fst e
      have h2 := congrArg Prod.snd e
      exact Prod.ext h2 h1)
end Gbk20
set_option linter.all false
set_option maxRecDepth 100000
/-! the state of the draws. -/
namespace Gbk20
open Gr
theorem fm_b {x n : Int} (h : 0 < n) : 0 ≤ x.fmod n ∧ x.fmod n < n := ⟨Int.fmod_nonneg_of_pos _ h, Int.fmod_lt_of_pos _ h⟩
def mixV2 (c s : Int) : Int :=
  let x := (c * 48271 + s * 69621 + 12345).fmod 2147483647
  let y := (x * x + s * 40692 + x.fdiv 7).fmod 2147483399
  (y * 16807 + y.fdiv 1013 + s).fmod 998244353
theorem mix2_s (k : Nat) (c s : Int) : callN T (k + 1) 21 [.pure (.int c), .pure (.int s)] = .ok (.pure (.int (mixV2 c s))) [] := by
  rw [call_s (T := T) (f := 21) rfl (by simp) (by simp)]
  have m1 : mulOk c 48271 = true := mulOk_r (by decide)
  have m2 : mulOk s 69621 = true := mulOk_r (by decide)
  have m3 : mulOk s 40692 = true := mulOk_r (by decide)
  unfold mixV2
  generalize hx : (c * 48271 + s * 69621 + 12345).fmod 2147483647 = x
  have b1 : 0 ≤ x := by rw [← hx]; exact Int.fmod_nonneg_of_pos _ (by decide)
  have b2 : x < 2147483647 := by rw [← hx]; exact Int.fmod_lt_of_pos _ (by decide)
  have m4 : mulOk x x = true := mulOk_r (by unfold big64; omega)
  generalize hy : (x * x + s * 40692 + x.fdiv 7).fmod 2147483399 = y
  have m5 : mulOk y 16807 = true := mulOk_r (by decide)
  simp [b__law_mixed, opMul, opMod, opDiv, m1, m2, m3, hx, m4, hy, m5]
structure St where
  cs : List Int
  i : Nat
  rest : Int
  turn : Int
  flag : Int
  left : Int
  sm : List Int
  hl : sm.length = cs.length
def St.d (s : St) : D := .ols [.lst (s.cs.map .int), .int s.i, .int s.rest, .int s.turn, .int s.flag, .int s.left, .lst (s.sm.map .int)]
/-- it ends with a state -/
@[irreducible] def OkS (Q : D → Prop) : Res → Prop
  | .ok d [w] => ∃ s : St, w = s.d ∧ Q d
  | _ => False
theorem okS_i {Q : D → Prop} {d w : D} (s : St) (h : w = s.d) (q : Q d) : OkS Q (.ok d [w]) := by
  unfold OkS
  exact ⟨s, h, q⟩
@[simp] theorem okS_s {Q : D → Prop} {d : D} {s : St} : OkS Q (.ok d [s.d]) = Q d := by
  unfold OkS
  apply propext
  constructor
  · rintro ⟨_, _, h⟩
    exact h
  · intro h
    exact ⟨s, rfl, h⟩
theorem okS_d {Q : D → Prop} {o : Res} (h : OkS Q o) : ∃ d s, o = .ok d [St.d s] ∧ Q d := by
  unfold OkS at h
  cases o with
  | ok d ws =>
    match ws, h with
    | [w], h =>
      obtain ⟨b, h1, h⟩ := h
      exact ⟨d, b, by rw [h1], h⟩
  | rs => exact h.elim
  | stk => exact h.elim
theorem okS_p {Q : P → Prop} {o : Res} (h : OkS (prQ Q) o) : ∃ p b, o = .ok (.pure p) [St.d b] ∧ Q p := by
  obtain ⟨d, b, h, q⟩ := okS_d h
  cases d with
  | pure p => exact ⟨p, b, h, q⟩
  | _ => exact q.elim
theorem okS_v {Q : P → Prop} {o : Res} (h : OkS (pvQ Q) o) : ∃ d p b, o = .ok d [St.d b] ∧ d.pv = some p ∧ Q p := by
  obtain ⟨d, b, h, p, h1, q⟩ := okS_d h
  exact ⟨d, p, b, h, h1, q⟩
def inQ (n : Int) : P → Prop
  | .int v => 0 ≤ v ∧ v < n
  | _ => False
theorem draw_o (k : Nat) (s : St) {n : Int} (h : 0 < n) (h2 : n < 1073741824) : OkS (prQ (inQ n)) (callN T (k + 2) 22 [s.d, .pure (.int n)]) := by
  rw [call_s (T := T) (f := 22) rfl (by simp [St.d]) (by simp)]
  have n0 : n ≠ 0 := by omega
  have n1 : n.natAbs < 1073741824 := by omega
  obtain ⟨cs, i, rest, turn, flag, left, sm, hl⟩ := s
  have M := mix2_s k
  have fm := fun x : Int => fm_b (x := x) h
  cases cs with
  | nil =>
    simp [St.d, b__law_draw, M, opMod, n0]
    exact okS_i ⟨[], i, rest, turn + 1, flag, left, sm, hl⟩ (by simp [St.d]) (fm _)
  | cons c cs =>
    have hlen : 0 < sm.length := by rw [hl]; simp
    have l0 : (((c :: cs).length : Nat) : Int) ≠ 0 := by simp only [List.length_cons]; omega
    have lb := fm_b (x := turn + 1) (n := ((c :: cs).length : Nat)) (by simp only [List.length_cons]; omega)
    generalize hj : (turn + 1).fmod (((c :: cs).length : Nat) : Int) = j at lb
    have hjx : ixOf sm.length j = some j.toNat := ixOf_p lb.1 (by rw [hl]; exact lb.2)
    have hjl : j.toNat < sm.length := by rw [hl]; omega
    have fin : ∀ (i : Nat) (rest left : Int), OkS (prQ (inQ n)) (endR [true, false] false (.ok (.rt (.pure (.int ((mixV2 (sm[j.toNat]) (turn + 1)).fmod n)))) [some (D.ols [.lst ((c :: cs).map .int), .int i, .int rest, .int (turn + 1), .int flag, .int left, .lst (sm.map .int)]), some (.pure (.int n)), some (.pure (.lst ((c :: cs).map .int))), none, none])) := fun i rest left => by
      simp
      exact okS_i ⟨c :: cs, i, rest, turn + 1, flag, left, sm, hl⟩ (by simp [St.d]) (fm _)
    have hi3 : (sm.map P.int)[j.toNat]? = some (.int sm[j.toNat]) := by simp [hjl]
    generalize hC : c :: cs = C at *
    have hC0 : (C.length : Int) ≠ 0 := l0
    have hCe : C ≠ [] := by rw [← hC]; simp
    have fnd : ∀ (i : Nat) (rest left : Int), OkS (prQ (inQ n)) (endR [true, false] false (.ok (.rt (.pure (.int (rest.fmod n)))) [some (D.ols [.lst (C.map .int), .int i, .int (rest.fdiv n * if 1 < left then 1 else 0), .int (turn + 1), .int flag, .int (left - 1), .lst (sm.map .int)]), some (.pure (.int n)), some (.pure (.lst (C.map .int))), none, some (.pure (.int (rest.fmod n)))])) := fun i rest left => by
      simp
      exact okS_i ⟨C, i, rest.fdiv n * if 1 < left then 1 else 0, turn + 1, flag, left - 1, sm, hl⟩ rfl (fm _)
    have z3 : ((3 : Nat)) ≤ line := by decide
    by_cases hr : rest = 0
    · by_cases hf0 : flag = 0
      · by_cases hi : i < C.length
        · have hix : ixOf C.length (i : Int) = some i := by rw [ixOf_p (by omega) (by omega)]; simp
          by_cases hb : C[i] < 1000000000000000000
          · simp [St.d, b__law_draw, M, opMod, n0, hC0, hCe, hr, hf0, hi, hix, hb, opPow]
            exact okS_i ⟨C, i + 1, 0, turn + 1, 0, left, sm, hl⟩ (by simp [St.d]) (fm _)
          · have hb0 : C[i] ≠ 0 := by omega
            have m6 : ∀ x : Int, mulOk x 1 = true := fun x => mulOk_r (by decide)
            simp [St.d, b__law_draw, M, opMod, n0, n1, hC0, hCe, hr, hf0, hi, hix, hb, hb0, opPow, opDiv, opMul, m6]
            exact okS_i ⟨C, i + 1, C[i].fdiv n, turn + 1, 0, 59, sm, hl⟩ (by simp [St.d]) (fm _)
        · simp [St.d, b__law_draw, M, opMod, n0, hC0, hCe, hr, hf0, hi, opPow, hj, hjx, hjl]
          exact okS_i ⟨C, i, 0, turn + 1, 0, left, sm, hl⟩ (by simp [St.d]) (fm _)
      · by_cases hf1 : flag = 1
        · simp [St.d, b__law_draw, M, opMod, n0, hC0, hCe, hr, hf1, opPow, hj, hjx, hjl]
          exact okS_i ⟨C, i, 0, turn + 1, 1, left, sm, hl⟩ (by simp [St.d]) (fm _)
        · simp [St.d, b__law_draw, M, opMod, n0, hC0, hCe, hr, hf0, hf1, opPow, hj, hjx, hjl]
          exact okS_i ⟨C, i, 0, turn + 1, flag, left, sm, hl⟩ (by simp [St.d]) (fm _)
    · have m6 : ∀ x : Int, mulOk x (if 1 < left then 1 else 0) = true := fun x => mulOk_r (by split <;> decide)
      by_cases hf1 : flag = 1
      · simp [St.d, b__law_draw, M, opMod, n0, hC0, hCe, hr, hf1, opPow, hj, hjx, hjl]
        exact okS_i ⟨C, i, rest, turn + 1, 1, left, sm, hl⟩ (by simp [St.d]) (fm _)
      · by_cases hf0 : flag = 0
        · simp [St.d, b__law_draw, M, opMod, n0, n1, hC0, hCe, hr, hf0, opPow, opDiv, opMul, m6]
          exact okS_i ⟨C, i, rest.fdiv n * if 1 < left then 1 else 0, turn + 1, 0, left - 1, sm, hl⟩ (by simp [St.d]) (fm _)
        · simp [St.d, b__law_draw, M, opMod, n0, n1, hC0, hCe, hr, hf0, hf1, opPow, opDiv, opMul, m6]
          exact okS_i ⟨C, i, rest.fdiv n * if 1 < left then 1 else 0, turn + 1, flag, left - 1, sm, hl⟩ (by simp [St.d]) (fm _)
/-! draws as functions -/
noncomputable def outSt (o : Res) (s : St) : St := by
  classical
  exact if h : ∃ s' d, o = .ok d [St.d s'] then h.choose else s
theorem outSt_d {o : Res} {s : St} {d : D} {s' : St} (h : o = .ok d [s'.d]) : o = .ok d [(outSt o s).d] := by
  have hx : ∃ s' d, o = .ok d [St.d s'] := ⟨s', d, h⟩
  have e : outSt o s = hx.choose := by unfold outSt; rw [dif_pos hx]
  obtain ⟨d2, h2⟩ := hx.choose_spec
  rw [e]
  have e2 : d2 = d := by
    have := h2.symm.trans h
    injection this
  rw [e2] at h2
  exact h2
noncomputable def dv (k : Nat) (s : St) (n : Int) : Int := outI (callN T (k + 2) 22 [s.d, .pure (.int n)])
noncomputable def ds (k : Nat) (s : St) (n : Int) : St := outSt (callN T (k + 2) 22 [s.d, .pure (.int n)]) s
theorem dv_b (k : Nat) (s : St) {n : Int} (h : 0 < n) (h2 : n < 1073741824) : 0 ≤ dv k s n ∧ dv k s n < n := by
  obtain ⟨p, s', h1, q⟩ := okS_p (draw_o k s h h2)
  cases p with
  | int v => rw [dv, h1]; exact q
  | _ => exact q.elim
theorem draw_s (k : Nat) (s : St) {n : Int} (h : 0 < n) (h2 : n < 1073741824) : callN T (k + 2) 22 [s.d, .pure (.int n)] = .ok (.pure (.int (dv k s n))) [(ds k s n).d] := by
  obtain ⟨p, s', h1, q⟩ := okS_p (draw_o k s h h2)
  cases p with
  | int v =>
    have := outSt_d (s := s) h1
    rw [dv, ds]
    rw [h1] at this ⊢
    exact this
  | _ => exact q.elim
section
variable {s : St} {e : Ev} {c : Ct} {i : Nat} {fl : List Bool} {ds : List D} {rs : List Rv} {pr : Bool} {ms : List (Bool × M Rv)}
@[simp] theorem vG_t : vG i (some s.d) e = .ok (.slot i) e := (rfl)
@[simp] theorem fit_t : argFit (true :: fl) (s.d :: ds) = argFit fl ds := (rfl)
@[simp] theorem ws_t2 : wsOf (true :: fl) (some s.d :: e) = (wsOf fl e).map (s.d :: ·) := (rfl)
@[simp] theorem nx_t : noExn (some s.d :: e) = noExn e := (rfl)
@[simp] theorem evLa_t : evLa pr i ms c (some s.d) e = (evAs pr ms c e).andThen (kEvL i) := (rfl)
@[simp] theorem evLb_t : evLb i rs (some s.d) e = .ok (.slot i :: rs) e := (rfl)
end
/-- drawn out of a list -/
theorem ix_dv (k : Nat) (s : St) {xs : List P} {n : Int} (h : 0 < n) (h2 : n < 1073741824) (h1 : n = xs.length) : ∃ p ∈ xs, opIx (.lst xs) (.int (dv k s n)) = some (.pure p) :=
  ix_draw (dv_b k s h h2).1 (by have := (dv_b k s h h2).2; omega)
end Gbk20
set_option linter.all false
set_option maxRecDepth 100000
/-! V7: trees of words with numbers, steps on them; plain. -/
namespace Gr
inductive Tr where
  | mk (i : Int) (w : List Nat) (cs : List Tr)
def Tr.i : Tr → Int | .mk i _ _ => i
def Tr.w : Tr → List Nat | .mk _ w _ => w
def Tr.cs : Tr → List Tr | .mk _ _ cs => cs
mutual
/-- with the numbers -/
def mT : Tr → P | .mk i w cs => .tup [.int i, .str w, .tup (mR cs)]
def mR : List Tr → List P | [] => [] | t :: ts => mT t :: mR ts
end
mutual
/-- without them -/
def pT : Tr → P | .mk _ w cs => .tup [.str w, .tup (pR cs)]
def pR : List Tr → List P | [] => [] | t :: ts => pT t :: pR ts
end
mutual
def szT : Tr → Nat | .mk _ _ cs => szR cs + 1
def szR : List Tr → Nat | [] => 0 | t :: ts => szT t + szR ts
end
mutual
def dpT : Tr → Nat | .mk _ _ cs => dpR cs + 1
def dpR : List Tr → Nat | [] => 0 | t :: ts => max (dpT t) (dpR ts)
end
mutual
def wfT : Tr → Prop | .mk _ w cs => isWordL w ∧ wfR cs
def wfR : List Tr → Prop | [] => True | t :: ts => wfT t ∧ wfR ts
end
theorem mR_map : ∀ l : List Tr, mR l = l.map mT
  | [] => rfl
  | t :: l => by rw [mR, mR_map l, List.map_cons]
theorem pR_map : ∀ l : List Tr, pR l = l.map pT
  | [] => rfl
  | t :: l => by rw [pR, pR_map l, List.map_cons]
theorem szR_app : ∀ a b : List Tr, szR (a ++ b) = szR a + szR b
  | [], b => by simp [szR]
  | t :: a, b => by simp only [List.cons_append, szR, szR_app a b]; omega
theorem wfR_all : ∀ {l : List Tr}, wfR l ↔ ∀ t ∈ l, wfT t
  | [] => by simp [wfR]
  | t :: l => by simp only [wfR, wfR_all (l := l), List.mem_cons, forall_eq_or_imp]
theorem szT_pos : ∀ t : Tr, 1 ≤ szT t | .mk _ _ cs => by simp only [szT]; omega
theorem len_sz : ∀ l : List Tr, l.length ≤ szR l
  | [] => by simp
  | t :: l => by
    have := len_sz l
    have := szT_pos t
    simp only [szR, List.length_cons]; omega
theorem szR_mem : ∀ {l : List Tr} {t : Tr}, t ∈ l → szT t ≤ szR l
  | x :: l, t, h => by
    rcases List.mem_cons.mp h with rfl | h
    · simp only [szR]; omega
    · have := szR_mem h
      simp only [szR]; omega
theorem szR_cs {t : Tr} : szR t.cs + 1 = szT t := by cases t; simp only [Tr.cs, szT]
theorem wfT_cs {t : Tr} (h : wfT t) : wfR t.cs := by cases t; exact h.2
theorem wfT_w {t : Tr} (h : wfT t) : isWordL t.w := by cases t; exact h.1
mutual
theorem dpT_sz : ∀ t : Tr, dpT t ≤ szT t
  | .mk _ _ cs => by
    have := dpR_sz cs
    simp only [dpT, szT]; omega
theorem dpR_sz : ∀ l : List Tr, dpR l ≤ szR l
  | [] => by simp [dpR, szR]
  | t :: l => by
    have := dpT_sz t
    have := dpR_sz l
    simp only [dpR, szR]; omega
end
/-! steps -/
inductive Stp where
  | chg (p : List Nat) (w : List Nat) | drp (p : List Nat) | add (p : List Nat) (c : Nat) (w : List Nat)
def Stp.p : Stp → List Nat | .chg p _ => p | .drp p => p | .add p _ _ => p
def natsP (p : List Nat) : List P := p.map fun (n : Nat) => .int (n : Int)
def sCh : List Nat := [99, 104, 97, 110, 103, 101]
def sDr : List Nat := [100, 114, 111, 112]
def sAd : List Nat := [97, 100, 100]
def Stp.v : Stp → P
  | .chg p w => .tup [.str sCh, .tup (natsP p), .str w]
  | .drp p => .tup [.str sDr, .tup (natsP p)]
  | .add p c w => .tup [.str sAd, .tup (natsP p), .int c, .str w]
/-- at a place of a row -/
def stepAt (row : List Tr) (n : Nat) : Stp → Option (List Tr)
  | .add _ c w => if row.length < n + c then none else some (row.take n ++ [.mk (-1) w ((row.drop n).take c)] ++ row.drop (n + c))
  | .chg _ w => match row[n]? with
    | some t => some (row.take n ++ [.mk t.i w t.cs] ++ row.drop (n + 1))
    | none => none
  | .drp _ => match row[n]? with
    | some t => some (row.take n ++ t.cs ++ row.drop (n + 1))
    | none => none
def stepped (s : Stp) : List Nat → List Tr → Option (List Tr)
  | [], _ => none
  | n :: p, row => match p with
    | [] => stepAt row n s
    | _ :: _ => match row[n]? with
      | some t => match stepped s p t.cs with
        | some cs => some (row.take n ++ [.mk t.i t.w cs] ++ row.drop (n + 1))
        | none => none
      | none => none
/-- the row at a path -/
def rowAt : List Nat → List Tr → Option (List Tr)
  | [], row => some row
  | n :: p, row => match row[n]? with
    | some t => rowAt p t.cs
    | none => none
def withRow (r : List Tr) : List Nat → List Tr → List Tr
  | [], _ => r
  | n :: p, row => match row[n]? with
    | some t => row.take n ++ [.mk t.i t.w (withRow r p t.cs)] ++ row.drop (n + 1)
    | none => row
theorem stepped_c2 (s : Stp) (n a : Nat) (q : List Nat) (row : List Tr) : stepped s (n :: a :: q) row = match row[n]? with
    | some t => (match stepped s (a :: q) t.cs with
      | some cs => some (row.take n ++ [.mk t.i t.w cs] ++ row.drop (n + 1))
      | none => none)
    | none => none := by
  cases h : row[n]? with
  | none => simp only [stepped, h]
  | some t =>
    rw [stepped, h]
theorem stepped_snoc (s : Stp) (n : Nat) : ∀ (p : List Nat) (row : List Tr), stepped s (p ++ [n]) row = match rowAt p row with
    | some r => (match stepAt r n s with
      | some r2 => some (withRow r2 p row)
      | none => none)
    | none => none
  | [], row => by
    simp only [List.nil_append, stepped, rowAt, withRow]
    cases stepAt row n s <;> rfl
  | m :: p, row => by
    have ih := fun row => stepped_snoc s n p row
    cases hp : p ++ [n] with
    | nil => simp at hp
    | cons a q =>
      rw [List.cons_append, hp]
      rw [stepped_c2]
      simp only [rowAt, withRow]
      cases hm : row[m]? with
      | none => rfl
      | some t =>
        simp only []
        rw [← hp, ih]
        cases rowAt p t.cs with
        | none => rfl
        | some r =>
          simp only []
          cases stepAt r n s <;> rfl
theorem take_drop_one {row : List Tr} {n : Nat} {t : Tr} (h : row[n]? = some t) : szR row = szR (row.take n) + szT t + szR (row.drop (n + 1)) := by
  have hl := (List.getElem?_eq_some_iff.mp h).1
  have e : row = row.take n ++ (t :: row.drop (n + 1)) := by
    have := (List.getElem?_eq_some_iff.mp h).2
    rw [← this, List.getElem_cons_drop, List.take_append_drop]
  conv => lhs; rw [e]
  rw [szR_app]
  simp only [szR]; omega
theorem take_drop_c (row : List Tr) (n c : Nat) : szR row = szR (row.take n) + szR ((row.drop n).take c) + szR (row.drop (n + c)) := by
  have e : row = row.take n ++ ((row.drop n).take c ++ row.drop (n + c)) := by
    rw [← List.drop_drop, List.take_append_drop, List.take_append_drop]
  conv => lhs; rw [e]
  rw [szR_app, szR_app]; omega
theorem stepAt_sz {s : Stp} {row r : List Tr} {n : Nat} (h : stepAt row n s = some r) : szR r ≤ szR row + 1 ∧ ((∀ p c w, s ≠ .add p c w) → szR r ≤ szR row) := by
  cases s with
  | add p c w =>
    simp only [stepAt] at h
    split at h
    · cases h
    · cases h
      have := take_drop_c row n c
      simp only [szR_app, szR, szT]
      exact ⟨by omega, fun h => (h _ _ _ rfl).elim⟩
  | chg p w =>
    simp only [stepAt] at h
    split at h
    · rename_i t ht
      cases h
      have := take_drop_one ht
      have h2 := szR_cs (t := t)
      simp only [szR_app, szR, szT]
      exact ⟨by omega, fun _ => by omega⟩
    · cases h
  | drp p =>
    simp only [stepAt] at h
    split at h
    · rename_i t ht
      cases h
      have := take_drop_one ht
      have h2 := szR_cs (t := t)
      simp only [szR_app]
      exact ⟨by omega, fun _ => by omega⟩
    · cases h
theorem stepped_sz {s : Stp} : ∀ {p : List Nat} {row r : List Tr}, stepped s p row = some r → szR r ≤ szR row + 1 ∧ ((∀ p c w, s ≠ .add p c w) → szR r ≤ szR row)
  | [], row, r, h => by simp [stepped] at h
  | [n], row, r, h => by
    simp only [stepped] at h
    have := stepAt_sz h
    exact ⟨this.1, this.2⟩
  | n :: m :: p, row, r, h => by
    simp only [stepped] at h
    split at h
    · rename_i t ht
      split at h
      · rename_i cs hcs
        cases h
        have ih := stepped_sz (p := m :: p) hcs
        have := take_drop_one ht
        have h2 := szR_cs (t := t)
        simp only [szR_app, szR, szT]
        exact ⟨by omega, fun k => by have := ih.2 k; omega⟩
      · cases h
    · cases h
def Stp.okW : Stp → Prop
  | .chg _ w => isWordL w
  | .drp _ => True
  | .add _ _ w => isWordL w
theorem wfR_app {a b : List Tr} : wfR (a ++ b) ↔ wfR a ∧ wfR b := by
  simp only [wfR_all, List.mem_append]
  exact ⟨fun h => ⟨fun t k => h t (.inl k), fun t k => h t (.inr k)⟩, fun h t k => k.elim (h.1 t) (h.2 t)⟩
theorem wfR_take {a : List Tr} {n : Nat} (h : wfR a) : wfR (a.take n) := wfR_all.mpr fun t k => wfR_all.mp h t (List.mem_of_mem_take k)
theorem wfR_drop {a : List Tr} {n : Nat} (h : wfR a) : wfR (a.drop n) := wfR_all.mpr fun t k => wfR_all.mp h t (List.mem_of_mem_drop k)
theorem wfR_one {t : Tr} : wfR [t] ↔ wfT t := by simp [wfR]
theorem stepAt_wf {s : Stp} {row r : List Tr} {n : Nat} (h : stepAt row n s = some r) (hs : s.okW) (hw : wfR row) : wfR r := by
  cases s with
  | add p c w =>
    simp only [stepAt] at h
    split at h
    · cases h
    · cases h
      exact wfR_app.mpr ⟨wfR_app.mpr ⟨wfR_take hw, wfR_one.mpr ⟨hs, wfR_take (wfR_drop hw)⟩⟩, wfR_drop hw⟩
  | chg p w =>
    simp only [stepAt] at h
    split at h
    · rename_i t ht
      cases h
      have wt := wfR_all.mp hw t (List.mem_of_getElem? ht)
      exact wfR_app.mpr ⟨wfR_app.mpr ⟨wfR_take hw, wfR_one.mpr ⟨hs, wfT_cs wt⟩⟩, wfR_drop hw⟩
    · cases h
  | drp p =>
    simp only [stepAt] at h
    split at h
    · rename_i t ht
      cases h
      have wt := wfR_all.mp hw t (List.mem_of_getElem? ht)
      exact wfR_app.mpr ⟨wfR_app.mpr ⟨wfR_take hw, wfT_cs wt⟩, wfR_drop hw⟩
    · cases h
theorem stepped_wf {s : Stp} (hs : s.okW) : ∀ {p : List Nat} {row r : List Tr}, stepped s p row = some r → wfR row → wfR r
  | [], row, r, h, _ => by simp [stepped] at h
  | [n], row, r, h, hw => by
    simp only [stepped] at h
    exact stepAt_wf h hs hw
  | n :: m :: p, row, r, h, hw => by
    simp only [stepped] at h
    split at h
    · rename_i t ht
      split at h
      · rename_i cs hcs
        cases h
        have wt := wfR_all.mp hw t (List.mem_of_getElem? ht)
        have ih := stepped_wf hs (p := m :: p) hcs (wfT_cs wt)
        exact wfR_app.mpr ⟨wfR_app.mpr ⟨wfR_take hw, wfR_one.mpr ⟨wfT_w wt, ih⟩⟩, wfR_drop hw⟩
      · cases h
    · cases h
end Gr
set_option linter.all false
set_option maxRecDepth 100000
/-! V8: the nodes of a row, listed with their paths. -/
namespace Gr
abbrev LE := Int × List Nat × List Nat
mutual
def lsT : Tr → List Nat → List LE | .mk i w cs, p => (i, w, p) :: lsR cs p 0
def lsR : List Tr → List Nat → Nat → List LE | [], _, _ => [] | t :: ts, p, k => lsT t (p ++ [k]) ++ lsR ts p (k + 1)
end
theorem lsT_eq (t : Tr) (p : List Nat) : lsT t p = (t.i, t.w, p) :: lsR t.cs p 0 := by cases t; rfl
mutual
theorem lsT_len : ∀ (t : Tr) (p : List Nat), (lsT t p).length = szT t
  | .mk i w cs, p => by simp only [lsT, szT, List.length_cons, lsR_len cs p 0]
theorem lsR_len : ∀ (l : List Tr) (p : List Nat) (k : Nat), (lsR l p k).length = szR l
  | [], _, _ => rfl
  | t :: l, p, k => by simp only [lsR, szR, List.length_append, lsT_len t, lsR_len l]
end
mutual
theorem lsT_path : ∀ (t : Tr) (q : List Nat) (e : LE), e ∈ lsT t q → ∃ rest, e.2.2 = q ++ rest
  | .mk i w cs, q, e, h => by
    simp only [lsT, List.mem_cons] at h
    rcases h with rfl | h
    · exact ⟨[], by simp⟩
    · obtain ⟨j, rest, _, h⟩ := lsR_path cs q 0 e h
      exact ⟨j :: rest, h⟩
theorem lsR_path : ∀ (l : List Tr) (q : List Nat) (k : Nat) (e : LE), e ∈ lsR l q k → ∃ j rest, k ≤ j ∧ e.2.2 = q ++ j :: rest
  | [], _, _, _, h => by simp [lsR] at h
  | t :: l, q, k, e, h => by
    simp only [lsR, List.mem_append] at h
    rcases h with h | h
    · obtain ⟨rest, h⟩ := lsT_path t _ e h
      exact ⟨k, rest, Nat.le_refl _, by rw [h]; simp⟩
    · obtain ⟨j, rest, h1, h⟩ := lsR_path l q (k + 1) e h
      exact ⟨j, rest, by omega, h⟩
end
theorem lsR_mem : ∀ {l : List Tr} {q : List Nat} {k : Nat} {e : LE}, e ∈ lsR l q k → ∃ j t, l[j]? = some t ∧ e ∈ lsT t (q ++ [k + j])
  | [], _, _, _, h => by simp [lsR] at h
  | t :: l, q, k, e, h => by
    simp only [lsR, List.mem_append] at h
    rcases h with h | h
    · exact ⟨0, t, rfl, h⟩
    · obtain ⟨j, u, h1, h2⟩ := lsR_mem h
      exact ⟨j + 1, u, by simpa using h1, by rw [show k + (j + 1) = k + 1 + j by omega]; exact h2⟩
/-- a listed node is there -/
theorem ls_valid : ∀ (N : Nat) (l : List Tr) (q : List Nat) (e : LE), szR l ≤ N → e ∈ lsR l q 0 → ∃ p n r t, e.2.2 = q ++ (p ++ [n]) ∧ rowAt p l = some r ∧ r[n]? = some t ∧ t.i = e.1 ∧ t.w = e.2.1
  | N, l, q, e, hN, h => by
    obtain ⟨j, t, h1, h2⟩ := lsR_mem h
    rw [lsT_eq, List.mem_cons] at h2
    rcases h2 with rfl | h2
    · exact ⟨[], j, l, t, by simp, rfl, h1, rfl, rfl⟩
    · have hs := szR_mem (List.mem_of_getElem? h1)
      have hc := szR_cs (t := t)
      cases N with
      | zero => omega
      | succ N =>
        obtain ⟨p, n, r, u, k1, k2, k3, k4⟩ := ls_valid N t.cs _ e (by omega) h2
        exact ⟨j :: p, n, r, u, by rw [k1]; simp, by simp only [rowAt, h1]; exact k2, k3, k4⟩
theorem filt_nil {α : Type} {f : α → Bool} {l : List α} (h : ∀ x ∈ l, f x = false) : l.filter f = [] := by
  rw [List.filter_eq_nil_iff]
  intro x hx
  simp [h x hx]
theorem ne_at {q a b : List Nat} {j m : Nat} (h : j ≠ m) : q ++ j :: a ≠ q ++ m :: b := fun e => h (by
  have := List.append_cancel_left e
  injection this)
theorem narrow1 {f : LE → Bool} (q p : List Nat) : ∀ (l : List Tr) (k m : Nat) (t : Tr), l[m]? = some t → (∀ e, f e = true → ∃ j rest, e.2.2 = q ++ (k + m) :: (p ++ j :: rest)) → (lsR l q k).filter f = (lsR t.cs (q ++ [k + m]) 0).filter f
  | [], _, _, _, h, _ => by simp at h
  | u :: l, k, 0, t, h, hf => by
    simp at h
    subst h
    rw [lsR, List.filter_append, lsT_eq, List.filter_cons]
    have h0 : f (u.i, u.w, q ++ [k]) = false := by
      cases hh : f (u.i, u.w, q ++ [k]) with
      | false => rfl
      | true =>
        obtain ⟨j, rest, e⟩ := hf _ hh
        have := congrArg List.length e
        simp at this
    rw [h0, filt_nil (l := lsR l q (k + 1)) (fun e he => by
      cases hh : f e with
      | false => rfl
      | true =>
        obtain ⟨j, rest, e1⟩ := hf _ hh
        obtain ⟨j2, rest2, h1, e2⟩ := lsR_path l q (k + 1) e he
        exact (ne_at (by omega) (e2.symm.trans e1)).elim)]
    simp
  | u :: l, k, m + 1, t, h, hf => by
    rw [lsR, List.filter_append, filt_nil (l := lsT u (q ++ [k])) (fun e he => by
      cases hh : f e with
      | false => rfl
      | true =>
        obtain ⟨j, rest, e1⟩ := hf _ hh
        obtain ⟨rest2, e2⟩ := lsT_path u _ e he
        rw [List.append_assoc] at e2
        exact (ne_at (by omega) (e2.symm.trans e1)).elim), List.nil_append]
    have := narrow1 q p l (k + 1) m t (by simpa using h) (fun e he => by
      obtain ⟨j, rest, e1⟩ := hf e he
      exact ⟨j, rest, by rw [e1, show k + 1 + m = k + (m + 1) by omega]⟩)
    rw [this, show k + 1 + m = k + (m + 1) by omega]
theorem narrow {f : LE → Bool} : ∀ (p q : List Nat) (l r : List Tr), rowAt p l = some r → (∀ e, f e = true → ∃ j rest, e.2.2 = q ++ (p ++ j :: rest)) → (lsR l q 0).filter f = (lsR r (q ++ p) 0).filter f
  | [], q, l, r, h, _ => by
    simp only [rowAt] at h
    cases h
    simp
  | m :: p, q, l, r, h, hf => by
    simp only [rowAt] at h
    cases ht : l[m]? with
    | none => rw [ht] at h; cases h
    | some t =>
      rw [ht] at h
      rw [narrow1 q p l 0 m t ht (fun e he => by
        obtain ⟨j, rest, e1⟩ := hf e he
        exact ⟨j, rest, by simpa using e1⟩)]
      have := narrow (f := f) p (q ++ [m]) t.cs r h (fun e he => by
        obtain ⟨j, rest, e1⟩ := hf e he
        exact ⟨j, rest, by simpa using e1⟩)
      simpa using this
/-- the children at a path, counted -/
def kid (p : List Nat) (e : LE) : Bool := decide (e.2.2.length = p.length + 1) && decide (e.2.2.take p.length = p)
theorem kids0 (q : List Nat) : ∀ (l : List Tr) (k : Nat), ((lsR l q k).filter (kid q)).length = l.length
  | [], _ => rfl
  | t :: l, k => by
    rw [lsR, List.filter_append, lsT_eq, List.filter_cons]
    have h0 : kid q (t.i, t.w, q ++ [k]) = true := by simp [kid]
    rw [h0, filt_nil (l := lsR t.cs (q ++ [k]) 0) (fun e he => by
      obtain ⟨j, rest, _, e1⟩ := lsR_path _ _ _ e he
      simp [kid, e1])]
    simp [kids0 q l (k + 1)]
theorem kids_len {p : List Nat} {l r : List Tr} (h : rowAt p l = some r) : ((lsR l [] 0).filter (kid p)).length = r.length := by
  rw [narrow (f := kid p) p [] l r h (fun e he => by
    simp only [kid, Bool.and_eq_true, decide_eq_true_eq] at he
    have e1 := List.take_append_drop p.length e.2.2
    rw [he.2] at e1
    have hl : (e.2.2.drop p.length).length = 1 := by rw [List.length_drop]; omega
    cases hd : e.2.2.drop p.length with
    | nil => rw [hd] at hl; simp at hl
    | cons j rest => exact ⟨j, rest, by rw [hd] at e1; simpa using e1.symm⟩)]
  exact kids0 _ r 0
theorem one0 (q : List Nat) : ∀ (l : List Tr) (k m : Nat) (t : Tr), l[m]? = some t → (lsR l q k).filter (fun e => decide (e.2.2 = q ++ [k + m])) = [(t.i, t.w, q ++ [k + m])]
  | [], _, _, _, h => by simp at h
  | u :: l, k, 0, t, h => by
    simp at h
    subst h
    rw [lsR, List.filter_append, lsT_eq, List.filter_cons]
    rw [filt_nil (l := lsR u.cs (q ++ [k]) 0) (fun e he => by
      obtain ⟨j, rest, _, e1⟩ := lsR_path _ _ _ e he
      simp [e1]), filt_nil (l := lsR l q (k + 1)) (fun e he => by
      obtain ⟨j, rest, h1, e1⟩ := lsR_path _ _ _ e he
      have := ne_at (q := q) (a := rest) (b := []) (show j ≠ k by omega)
      simp [e1]
      omega)]
    simp
  | u :: l, k, m + 1, t, h => by
    rw [lsR, List.filter_append, filt_nil (l := lsT u (q ++ [k])) (fun e he => by
      obtain ⟨rest, e1⟩ := lsT_path _ _ e he
      simp [e1]), List.nil_append]
    have := one0 q l (k + 1) m t (by simpa using h)
    rw [show k + (m + 1) = k + 1 + m by omega]
    exact this
theorem one_at {p : List Nat} {n : Nat} {l r : List Tr} {t : Tr} (h : rowAt p l = some r) (ht : r[n]? = some t) : (lsR l [] 0).filter (fun e => decide (e.2.2 = p ++ [n])) = [(t.i, t.w, p ++ [n])] := by
  rw [narrow (f := fun e => decide (e.2.2 = p ++ [n])) p [] l r h (fun e he => ⟨n, [], by simpa using he⟩)]
  have := one0 p r 0 n t ht
  simpa using this
end Gr
set_option linter.all false
set_option maxRecDepth 100000
/-! V9: slices, indices, comprehensions over what is known. -/
namespace Gr
theorem cut_take {α : Type} (xs : List α) (n : Nat) : cutL xs none (some (n : Int)) = xs.take n := by
  simp only [cutL, sIxP]
  rw [if_neg (by omega)]
  simp
theorem cut_drop {α : Type} (xs : List α) (n : Nat) : cutL xs (some (n : Int)) none = xs.drop n := by
  simp only [cutL, sIxP]
  rw [if_neg (by omega)]
  simp only [Int.toNat_natCast]
  by_cases h : n ≤ xs.length
  · rw [Nat.min_eq_left h, List.take_of_length_le (by rw [List.length_drop]; omega)]
  · rw [Nat.min_eq_right (by omega), List.drop_eq_nil_of_le (by omega), List.drop_eq_nil_of_le (by omega)]
    simp
theorem cut_mid {α : Type} (xs : List α) (n c : Nat) : cutL xs (some (n : Int)) (some ((n : Int) + c)) = (xs.drop n).take c := by
  have e : ((n : Int) + c) = ((n + c : Nat) : Int) := by omega
  rw [e]
  simp only [cutL, sIxP]
  rw [if_neg (by omega), if_neg (by omega)]
  simp only [Int.toNat_natCast]
  by_cases h : n ≤ xs.length
  · rw [Nat.min_eq_left h, List.take_eq_take_iff, List.length_drop]
    omega
  · rw [List.drop_eq_nil_of_le (by omega), List.drop_eq_nil_of_le (by omega)]
    simp
theorem sl_t (xs : List P) (n : Nat) : slP (.tup xs) none (some (n : Int)) = some (.pure (.tup (xs.take n))) := by simp only [slP, cut_take]
theorem sl_d (xs : List P) (n : Nat) : slP (.tup xs) (some (n : Int)) none = some (.pure (.tup (xs.drop n))) := by simp only [slP, cut_drop]
theorem sl_d1 (xs : List P) (n : Nat) : slP (.tup xs) (some ((n : Int) + 1)) none = some (.pure (.tup (xs.drop (n + 1)))) := by
  have := sl_d xs (n + 1)
  rwa [Int.natCast_add] at this
theorem sl_dc (xs : List P) (n c : Nat) : slP (.tup xs) (some ((n : Int) + c)) none = some (.pure (.tup (xs.drop (n + c)))) := by
  have := sl_d xs (n + c)
  rwa [Int.natCast_add] at this
theorem sl_m (xs : List P) (n c : Nat) : slP (.tup xs) (some (n : Int)) (some ((n : Int) + c)) = some (.pure (.tup ((xs.drop n).take c))) := by simp only [slP, cut_mid]
theorem sl_1 (x : P) (xs : List P) : slP (.tup (x :: xs)) (some 1) none = some (.pure (.tup xs)) := sl_d (x :: xs) 1
theorem sl_lt (xs : List P) (n : Nat) : slP (.lst xs) none (some (n : Int)) = some (.ols (xs.take n)) := by simp only [slP, cut_take]
theorem sl_ld (xs : List P) (n : Nat) : slP (.lst xs) (some (n : Int)) none = some (.ols (xs.drop n)) := by simp only [slP, cut_drop]
theorem sl_m1 (xs : List P) : slP (.tup xs) none (some (-1)) = some (.pure (.tup xs.dropLast)) := by
  simp only [slP, cutL, sIxP]
  rw [if_pos (by decide)]
  simp only [List.drop_zero, Nat.sub_zero]
  have : (-1 + (xs.length : Int)).toNat = xs.length - 1 := by omega
  rw [this, List.dropLast_eq_take]
theorem sl_st {xs : List Nat} (n : Nat) (h : xs.length < line) : slP (.str xs) none (some (n : Int)) = some (.pure (.str (xs.take n))) := by simp only [slP, cut_take, if_pos h]
theorem sl_sd {xs : List Nat} (n : Nat) (h : xs.length < line) : slP (.str xs) (some (n : Int)) none = some (.pure (.str (xs.drop n))) := by simp only [slP, cut_drop, if_pos h]
theorem sl_sd1 {xs : List Nat} (n : Nat) (h : xs.length < line) : slP (.str xs) (some ((n : Int) + 1)) none = some (.pure (.str (xs.drop (n + 1)))) := by
  have := sl_sd (xs := xs) (n + 1) h
  rwa [Int.natCast_add] at this
/-! indices -/
section
variable {a b c d x : P} {xs : List P}
theorem it0 : opIx (.tup (a :: xs)) (.int 0) = some (.pure a) := by simp
theorem it1 : opIx (.tup (a :: b :: xs)) (.int 1) = some (.pure b) := by simp
theorem it2 : opIx (.tup (a :: b :: c :: xs)) (.int 2) = some (.pure c) := by simp
theorem it3 : opIx (.tup (a :: b :: c :: d :: xs)) (.int 3) = some (.pure d) := by simp
theorem il0 : opIx (.lst (a :: xs)) (.int 0) = some (.pure a) := by simp
theorem il1 : opIx (.lst (a :: b :: xs)) (.int 1) = some (.pure b) := by simp
theorem il2 : opIx (.lst (a :: b :: c :: xs)) (.int 2) = some (.pure c) := by simp
theorem il3 : opIx (.lst (a :: b :: c :: d :: xs)) (.int 3) = some (.pure d) := by simp
theorem it_at {n : Nat} (h : xs[n]? = some x) : opIx (.tup xs) (.int n) = some (.pure x) := by
  have hl := (List.getElem?_eq_some_iff.mp h).1
  simp [ixOf_p (show (0 : Int) ≤ n by omega) (show (n : Int) < xs.length by omega), h]
theorem il_at {n : Nat} (h : xs[n]? = some x) : opIx (.lst xs) (.int n) = some (.pure x) := it_at h
theorem it_last : opIx (.tup (xs ++ [x])) (.int (-1)) = some (.pure x) := by
  simp [ixOf]
  rw [if_pos (by omega)]
  have : (-1 + ((xs.length : Int) + 1)).toNat = xs.length := by omega
  simp [this]
end
theorem add_tup {xs ys : List P} (h : xs.length + ys.length ≤ 1000000) : opAdd (.tup xs) (.tup ys) = some (.pure (.tup (xs ++ ys))) := by
  simp only [opAdd]
  rw [if_pos (by unfold line; omega)]
theorem add_lst {xs ys : List P} (h : xs.length + ys.length ≤ 1000000) : opAdd (.lst xs) (.lst ys) = some (.ols (xs ++ ys)) := by
  simp only [opAdd]
  rw [if_pos (by unfold line; omega)]
theorem add_str {xs ys : List Nat} (h : xs.length + ys.length ≤ 1000000) : opAdd (.str xs) (.str ys) = some (.pure (.str (xs ++ ys))) := by
  simp only [opAdd]
  rw [if_pos (by unfold line; omega)]
/-! comprehensions -/
theorem comp_mapG {α : Type} {tg : Tg} {elt : M Rv} {own : List Nat} {c : Ct} (g h : α → P) {e : Ev} : ∀ {xs : List α}, (∀ x ∈ xs, PostE own (fun p e' => p = h x ∧ e' = e) (elB elt c (bindT c tg (g x) e))) → compF tg mYes elt own c (xs.map g) e = .ok (xs.map h) e
  | [], _ => rfl
  | x :: xs, hh => by
    have := hh x List.mem_cons_self
    have ih := comp_mapG (tg := tg) (elt := elt) (own := own) (c := c) g h (e := e) (xs := xs) fun y hy => hh y (List.mem_cons_of_mem _ hy)
    cases hb : bindT c tg (g x) e with
    | none => simp [hb, elB, PostE] at this
    | some e1 =>
      rw [hb] at this
      simp only [elB] at this
      cases hm : mLeak elt c e1 with
      | rs _ _ _ => rw [hm] at this; exact this.elim
      | stk => rw [hm] at this; exact this.elim
      | ok p e3 =>
        rw [hm] at this
        obtain ⟨rfl, h3⟩ := this
        simp only [List.map_cons, compF, hb, mYes, hm, h3, ih]
def kTs2 (own : List Nat) : P → Ev → Out (Option P) := fun p e3 => .ok (some p) (wipeE e3 own)
def kTs (elt : M Rv) (own : List Nat) (c : Ct) : Bool → Ev → Out (Option P) := fun b e2 => if b = true then (mLeak elt c e2).andThen (kTs2 own) else .ok none (wipeE e2 own)
def tsB (t : M Bool) (elt : M Rv) (own : List Nat) (c : Ct) : Option Ev → Out (Option P)
  | some e => (t c e).andThen (kTs elt own c)
  | none => .stk
@[simp] theorem tsB_s {t : M Bool} {elt : M Rv} {own : List Nat} {c : Ct} {e : Ev} : tsB t elt own c (some e) = (t c e).andThen (kTs elt own c) := (rfl)
@[simp] theorem kTs_t {elt : M Rv} {own : List Nat} {c : Ct} {e : Ev} : kTs elt own c true e = (mLeak elt c e).andThen (kTs2 own) := (rfl)
@[simp] theorem kTs_f {elt : M Rv} {own : List Nat} {c : Ct} {e : Ev} : kTs elt own c false e = .ok none (wipeE e own) := (rfl)
@[simp] theorem kTs2_s {own : List Nat} {p : P} {e : Ev} : kTs2 own p e = .ok (some p) (wipeE e own) := (rfl)
theorem comp_filtG {α : Type} {tg : Tg} {t : M Bool} {elt : M Rv} {own : List Nat} {c : Ct} (g h : α → P) (f : α → Bool) {e : Ev} : ∀ {xs : List α}, (∀ x ∈ xs, tsB t elt own c (bindT c tg (g x) e) = .ok (if f x = true then some (h x) else none) e) → compF tg t elt own c (xs.map g) e = .ok ((xs.filter f).map h) e
  | [], _ => rfl
  | x :: xs, hh => by
    have := hh x List.mem_cons_self
    have ih := comp_filtG (tg := tg) (t := t) (elt := elt) (own := own) (c := c) g h f (e := e) (xs := xs) fun y hy => hh y (List.mem_cons_of_mem _ hy)
    cases hb : bindT c tg (g x) e with
    | none => rw [hb] at this; cases this
    | some e1 =>
      rw [hb] at this
      simp only [tsB] at this
      cases ht : t c e1 with
      | rs _ _ _ => rw [ht] at this; cases this
      | stk => rw [ht] at this; cases this
      | ok b e2 =>
        rw [ht] at this
        simp only [at_ok] at this
        cases b with
        | false =>
          simp only [kTs_f] at this
          injection this with h1 h2
          cases hf : f x with
          | true => rw [hf] at h1; cases h1
          | false => simp only [List.map_cons, compF, hb, ht, h2, ih, List.filter_cons, hf]; rfl
        | true =>
          simp only [kTs_t] at this
          cases hm : mLeak elt c e2 with
          | rs _ _ _ => rw [hm] at this; cases this
          | stk => rw [hm] at this; cases this
          | ok p e3 =>
            rw [hm] at this
            simp only [at_ok, kTs2_s] at this
            injection this with h1 h2
            cases hf : f x with
            | false => rw [hf] at h1; cases h1
            | true =>
              rw [hf, if_pos rfl] at h1
              cases h1
              simp only [List.map_cons, compF, hb, ht, hm, h2, ih, List.filter_cons, hf]; rfl
end Gr
set_option linter.all false
set_option maxRecDepth 100000
/-! V10: steps undone, prices of steps; plain. -/
namespace Gr
def treeAt (p : List Nat) (row : List Tr) : Option Tr := match p.getLast? with
  | some n => (match rowAt p.dropLast row with
    | some r => r[n]?
    | none => none)
  | none => none
theorem treeAt_snoc (q : List Nat) (n : Nat) (row : List Tr) : treeAt (q ++ [n]) row = match rowAt q row with
    | some r => r[n]?
    | none => none := by simp [treeAt]
def backOf (row : List Tr) : Stp → Stp
  | .add p _ _ => .drp p
  | .drp p => match treeAt p row with
    | some t => .add p t.cs.length t.w
    | none => .drp p
  | .chg p w => match treeAt p row with
    | some t => .chg p t.w
    | none => .chg p w
def cost (D A : Int) (ch : List Nat → List Nat → Int) (row : List Tr) : Stp → Int
  | .add _ _ _ => A
  | .drp _ => D
  | .chg p w => match treeAt p row with
    | some t => ch t.w w
    | none => 0
theorem backOf_p (row : List Tr) (s : Stp) : (backOf row s).p = s.p := by
  cases s with
  | add p c w => rfl
  | drp p => simp only [backOf]; cases treeAt p row <;> rfl
  | chg p w => simp only [backOf]; cases treeAt p row <;> rfl
theorem rowAt_with (r : List Tr) : ∀ (q : List Nat) (row r0 : List Tr), rowAt q row = some r0 → rowAt q (withRow r q row) = some r
  | [], row, r0, _ => rfl
  | n :: q, row, r0, h => by
    simp only [rowAt] at h
    cases ht : row[n]? with
    | none => rw [ht] at h; cases h
    | some t =>
      rw [ht] at h
      have hl := (List.getElem?_eq_some_iff.mp ht).1
      have ih := rowAt_with r q t.cs r0 h
      simp only [withRow, ht, rowAt]
      have : (row.take n ++ [Tr.mk t.i t.w (withRow r q t.cs)] ++ row.drop (n + 1))[n]? = some (Tr.mk t.i t.w (withRow r q t.cs)) := by
        rw [List.append_assoc, List.getElem?_append_right (by simp; omega)]
        simp [Nat.min_eq_left (Nat.le_of_lt hl)]
      rw [this]
      exact ih
theorem eqT_map {t u : Tr} (hw : t.w = u.w) (hc : t.cs.map pT = u.cs.map pT) : pT t = pT u := by
  cases t; cases u
  simp only [Tr.w, Tr.cs] at hw hc
  rw [pT, pT, pR_map, pR_map, hw, hc]
/-- what is put back -/
theorem with_back (r1 r2 : List Tr) : ∀ (q : List Nat) (row r0 : List Tr), rowAt q row = some r0 → r2.map pT = r0.map pT → (withRow r2 q (withRow r1 q row)).map pT = row.map pT
  | [], row, r0, h, e => by
    simp only [rowAt] at h
    cases h
    exact e
  | n :: q, row, r0, h, e => by
    simp only [rowAt] at h
    cases ht : row[n]? with
    | none => rw [ht] at h; cases h
    | some t =>
      rw [ht] at h
      have hl := (List.getElem?_eq_some_iff.mp ht).1
      have ih := with_back r1 r2 q t.cs r0 h e
      simp only [withRow, ht]
      have h1 : (row.take n ++ [Tr.mk t.i t.w (withRow r1 q t.cs)] ++ row.drop (n + 1))[n]? = some (Tr.mk t.i t.w (withRow r1 q t.cs)) := by
        rw [List.append_assoc, List.getElem?_append_right (by simp; omega)]
        simp [Nat.min_eq_left (Nat.le_of_lt hl)]
      rw [h1]
      have hlen : (row.take n).length = n := by simp [Nat.min_eq_left (Nat.le_of_lt hl)]
      have t1 : (row.take n ++ [Tr.mk t.i t.w (withRow r1 q t.cs)] ++ row.drop (n + 1)).take n = row.take n := by
        rw [List.append_assoc, List.take_append_of_le_length (by omega), List.take_of_length_le (by omega)]
      have t2 : (row.take n ++ [Tr.mk t.i t.w (withRow r1 q t.cs)] ++ row.drop (n + 1)).drop (n + 1) = row.drop (n + 1) := by
        rw [List.drop_append, List.drop_eq_nil_of_le (by simp; omega)]
        simp [Nat.min_eq_left (Nat.le_of_lt hl)]
      rw [t1, t2]
      have e3 : row = row.take n ++ [t] ++ row.drop (n + 1) := by
        have := (List.getElem?_eq_some_iff.mp ht).2
        rw [List.append_assoc, ← this]
        simp
      conv => rhs; rw [e3]
      simp only [List.map_append, List.map_cons, List.map_nil]
      congr 2
      congr 1
      exact eqT_map rfl ih
theorem stepAt_back {s : Stp} {q : List Nat} {n : Nat} {row r0 r1 : List Tr} (hp : s.p = q ++ [n]) (h0 : rowAt q row = some r0) (h1 : stepAt r0 n s = some r1) : ∃ r2, stepAt r1 n (backOf row s) = some r2 ∧ r2.map pT = r0.map pT := by
  cases s with
  | add p c w =>
    simp only [stepAt] at h1
    split at h1
    · cases h1
    · rename_i hn
      cases h1
      have hlen : (r0.take n).length = n := by simp; omega
      have hg : (r0.take n ++ [Tr.mk (-1) w ((r0.drop n).take c)] ++ r0.drop (n + c))[n]? = some (Tr.mk (-1) w ((r0.drop n).take c)) := by
        rw [List.append_assoc, List.getElem?_append_right (by omega)]
        simp [hlen]
      refine ⟨r0, ?_, rfl⟩
      simp only [backOf, stepAt, hg]
      have t1 : (r0.take n ++ [Tr.mk (-1) w ((r0.drop n).take c)] ++ r0.drop (n + c)).take n = r0.take n := by
        rw [List.append_assoc, List.take_append_of_le_length (by omega), List.take_of_length_le (by omega)]
      have t2 : (r0.take n ++ [Tr.mk (-1) w ((r0.drop n).take c)] ++ r0.drop (n + c)).drop (n + 1) = r0.drop (n + c) := by
        rw [List.drop_append, List.drop_eq_nil_of_le (by simp; omega)]
        have : (List.take n r0 ++ [Tr.mk (-1) w ((r0.drop n).take c)]).length = n + 1 := by simp; omega
        rw [this]
        simp
      rw [t1, t2]
      simp only [Tr.cs, Option.some.injEq]
      rw [← List.drop_drop, List.append_assoc, List.take_append_drop, List.take_append_drop]
  | chg p w =>
    have hp : p = q ++ [n] := hp
    cases ht : r0[n]? with
    | none => simp [stepAt, ht] at h1
    | some t =>
      simp only [stepAt, ht] at h1
      cases h1
      have hl := (List.getElem?_eq_some_iff.mp ht).1
      have hlen : (r0.take n).length = n := by simp; omega
      have hT : treeAt p row = some t := by rw [hp, treeAt_snoc, h0]; exact ht
      have hg : (r0.take n ++ [Tr.mk t.i w t.cs] ++ r0.drop (n + 1))[n]? = some (Tr.mk t.i w t.cs) := by
        rw [List.append_assoc, List.getElem?_append_right (by omega)]
        simp [hlen]
      have t1 : (r0.take n ++ [Tr.mk t.i w t.cs] ++ r0.drop (n + 1)).take n = r0.take n := by
        rw [List.append_assoc, List.take_append_of_le_length (by omega), List.take_of_length_le (by omega)]
      have t2 : (r0.take n ++ [Tr.mk t.i w t.cs] ++ r0.drop (n + 1)).drop (n + 1) = r0.drop (n + 1) := by
        rw [List.drop_append, List.drop_eq_nil_of_le (by simp; omega)]
        have : (List.take n r0 ++ [Tr.mk t.i w t.cs]).length = n + 1 := by simp; omega
        rw [this]
        simp
      refine ⟨r0, ?_, rfl⟩
      simp only [backOf, hT, stepAt, hg, t1, t2]
      have e3 : r0 = r0.take n ++ [t] ++ r0.drop (n + 1) := by
        have := (List.getElem?_eq_some_iff.mp ht).2
        rw [List.append_assoc, ← this]
        simp
      have et : Tr.mk t.i t.w t.cs = t := by cases t; rfl
      show some (r0.take n ++ [Tr.mk t.i t.w t.cs] ++ r0.drop (n + 1)) = some r0
      rw [et, ← e3]
  | drp p =>
    have hp : p = q ++ [n] := hp
    cases ht : r0[n]? with
    | none => simp [stepAt, ht] at h1
    | some t =>
      simp only [stepAt, ht] at h1
      cases h1
      have hl := (List.getElem?_eq_some_iff.mp ht).1
      have hlen : (r0.take n).length = n := by simp; omega
      have hT : treeAt p row = some t := by rw [hp, treeAt_snoc, h0]; exact ht
      have t1 : (r0.take n ++ t.cs ++ r0.drop (n + 1)).take n = r0.take n := by
        rw [List.append_assoc, List.take_append_of_le_length (by omega), List.take_of_length_le (by omega)]
      have t2 : ((r0.take n ++ t.cs ++ r0.drop (n + 1)).drop n).take t.cs.length = t.cs := by
        rw [List.append_assoc, List.drop_append, List.drop_eq_nil_of_le (by omega), hlen]
        simp
      have t3 : (r0.take n ++ t.cs ++ r0.drop (n + 1)).drop (n + t.cs.length) = r0.drop (n + 1) := by
        have : (List.take n r0 ++ t.cs).length = n + t.cs.length := by simp; omega
        rw [List.drop_append, List.drop_eq_nil_of_le (by omega), this]
        simp
      have hle : ¬ (r0.take n ++ t.cs ++ r0.drop (n + 1)).length < n + t.cs.length := by simp; omega
      refine ⟨r0.take n ++ [Tr.mk (-1) t.w t.cs] ++ r0.drop (n + 1), ?_, ?_⟩
      · simp only [backOf, hT, stepAt, t1, t2, t3]
        rw [if_neg hle]
      · have e3 : r0 = r0.take n ++ [t] ++ r0.drop (n + 1) := by
          have := (List.getElem?_eq_some_iff.mp ht).2
          rw [List.append_assoc, ← this]
          simp
        conv => rhs; rw [e3]
        simp only [List.map_append, List.map_cons, List.map_nil]
        congr 2
        congr 1
        exact eqT_map rfl rfl
theorem stepped_back {s : Stp} {row r : List Tr} (hp : s.p ≠ []) (h : stepped s s.p row = some r) : ∃ r', stepped (backOf row s) s.p r = some r' ∧ r'.map pT = row.map pT := by
  obtain ⟨q, n, hq⟩ : ∃ q n, s.p = q ++ [n] := ⟨s.p.dropLast, s.p.getLast hp, (List.dropLast_concat_getLast hp).symm⟩
  rw [hq, stepped_snoc] at h
  rw [hq, stepped_snoc]
  cases h0 : rowAt q row with
  | none => rw [h0] at h; cases h
  | some r0 =>
    rw [h0] at h
    simp only at h
    cases h1 : stepAt r0 n s with
    | none => rw [h1] at h; cases h
    | some r1 =>
      rw [h1] at h
      cases h
      obtain ⟨r2, k1, k2⟩ := stepAt_back hq h0 h1
      rw [rowAt_with r1 q row r0 h0]
      simp only [k1]
      exact ⟨_, rfl, with_back r1 r2 q row r0 h0 k2⟩
/-! scripts that run -/
def okSt (s : Stp) : Prop := s.okW ∧ s.p ≠ [] ∧ s.p.length ≤ 100
inductive RunC (D A : Int) (ch : List Nat → List Nat → Int) : List Tr → List Stp → Int → List Stp → List Tr → Prop
  | nil (r : List Tr) : RunC D A ch r [] 0 [] r
  | cons {r r1 r2 rf : List Tr} {s : Stp} {ss bs : List Stp} {c : Int} (h1 : okSt s) (h2 : szR r ≤ 100) (h3 : stepped s s.p r = some r1) (h4 : r1.map pT = r2.map pT) (h : RunC D A ch r2 ss c bs rf) : RunC D A ch r (s :: ss) (cost D A ch r s + c) (backOf r s :: bs) rf
theorem forF_step {tg : Tg} {body : M Gr.Flow} {c : Ct} {x : P} {xs : List P} {e e2 : Ev} (h : oB body c (bindT c tg x e) = .ok .nx e2) : forF tg body c (x :: xs) e = forF tg body c xs e2 := by
  cases hb : bindT c tg x e with
  | none => rw [hb] at h; cases h
  | some e1 =>
    rw [hb] at h
    simp only [oB_s] at h
    rw [forF_s, hb, forG_s, h, at_ok, q_ff_n]
theorem run_loop {tg : Tg} {body : M Gr.Flow} {c : Ct} {D A : Int} {ch : List Nat → List Nat → Int} (E : List Tr → Int → List Stp → Sl → Sl → Ev) (hE : ∀ r r2 a b x y, r.map pT = r2.map pT → E r a b x y = E r2 a b x y)
    (hb : ∀ r s r1 acc bs x y, okSt s → szR r ≤ 100 → bs.length ≤ 1000 → stepped s s.p r = some r1 → ∃ x' y', oB body c (bindT c tg s.v (E r acc bs x y)) = .ok .nx (E r1 (acc + cost D A ch r s) (bs ++ [backOf r s]) x' y')) :
    ∀ {row rf : List Tr} {ss bs : List Stp} {cst : Int}, RunC D A ch row ss cst bs rf → ∀ acc bs0 x y, bs0.length + ss.length ≤ 1000 → ∃ x' y', ∀ rest, forF tg body c (ss.map Stp.v ++ rest) (E row acc bs0 x y) = forF tg body c rest (E rf (acc + cst) (bs0 ++ bs) x' y') := by
  intro row rf ss bs cst h
  induction h with
  | nil r =>
    intro acc bs0 x y _
    exact ⟨x, y, fun rest => by simp⟩
  | cons h1 h2 h3 h4 h ih =>
    intro acc bs0 x y hl
    rename_i r r1 r2 rf s ss bs c0
    simp at hl
    obtain ⟨x1, y1, hx⟩ := hb r s r1 acc bs0 x y h1 h2 (by omega) h3
    rw [hE r1 r2 _ _ _ _ h4] at hx
    obtain ⟨x', y', hr⟩ := ih (acc + cost D A ch r s) (bs0 ++ [backOf r s]) x1 y1 (by simp; omega)
    refine ⟨x', y', fun rest => ?_⟩
    rw [List.map_cons, List.cons_append, forF_step hx, hr rest]
    congr 2
    · omega
    · simp
theorem treeAt_of {s : Stp} {row r : List Tr} (h : stepped s s.p row = some r) (hp : s.p ≠ []) (ha : ∀ p c w, s ≠ .add p c w) : ∃ q n r0 t, s.p = q ++ [n] ∧ rowAt q row = some r0 ∧ r0[n]? = some t ∧ treeAt s.p row = some t := by
  obtain ⟨q, n, hq⟩ : ∃ q n, s.p = q ++ [n] := ⟨s.p.dropLast, s.p.getLast hp, (List.dropLast_concat_getLast hp).symm⟩
  rw [hq, stepped_snoc] at h
  cases h0 : rowAt q row with
  | none => rw [h0] at h; cases h
  | some r0 =>
    rw [h0] at h
    simp only at h
    cases ht : r0[n]? with
    | none =>
      cases s with
      | add p c w => exact (ha p c w rfl).elim
      | chg p w => simp [stepAt, ht] at h
      | drp p => simp [stepAt, ht] at h
    | some t => exact ⟨q, n, r0, t, hq, h0, ht, by rw [hq, treeAt_snoc, h0]; exact ht⟩
def apRv (x : Option P) (e1 : Ev) : Out (List P × List Nat) := match x with
  | some (.int j) => if okR j = true then .ok ((upTo 0 j.toNat).reverse, []) e1 else .stk
  | _ => .stk
def kRv : Rv → Ev → Out (List P × List Nat) := fun r e1 => apRv (r.pv e1) e1
@[simp] theorem r_iRv1 {m : M Rv} {c : Ct} {e : Ev} : iRv1 m c e = (m c e).andThen kRv := (rfl)
@[simp] theorem q_iRv1 {r : Rv} {e : Ev} : kRv r e = apRv (r.pv e) e := (rfl)
@[simp] theorem apRv_s {j : Int} {e : Ev} : apRv (some (.int j)) e = if okR j = true then .ok ((upTo 0 j.toNat).reverse, []) e else .stk := (rfl)
end Gr
set_option linter.all false
set_option maxRecDepth 100000
/-! the law's own trees. -/
namespace Gbk20
open Gr
theorem same_seq {n : Nat} (ih : ∀ p k, alk n p → callN T (k + n + 1) 24 [.pure p, .pure p] = .ok (.pure (.bl true)) []) (k : Nat) {xs : List P} (h1 : xs.length ≤ line) (h2 : ∀ x ∈ xs, alk n x) {p : P} (hp : p = .tup xs ∨ p = .lst xs) : callN T (k + n + 1 + 1) 24 [.pure p, .pure p] = .ok (.pure (.bl true)) [] := by
  have ho := okR_len h1
  rcases hp with hp | hp
  all_goals
    rw [call_s (T := T) (f := 24) rfl (by simp) (by simp)]
    simp [hp, b__law_same, isiP, isOne, ho]
    generalize hF : forF _ _ _ _ _ = o
    obtain ⟨e', h3, x, rfl⟩ : ∃ e', o = .ok .nx e' ∧ ∃ x, e' = [some (.pure p), some (.pure p), x] := by
      subst hF
      refine for_mem (fun x => ∃ i : Nat, x = .int i ∧ i < xs.length) _ (fun x hx => upTo_memN hx) (by simp [hp]) fun x e hx i => ?_
      obtain ⟨j, rfl, hj⟩ := hx
      obtain ⟨z, rfl⟩ := i
      have hc := ih _ k (h2 _ (List.getElem_mem hj))
      simp [hp, ixOf, hj, hc]
    subst h3
    simp
theorem same_s : ∀ (n : Nat) (p : P) (k : Nat), alk n p → callN T (k + n + 1) 24 [.pure p, .pure p] = .ok (.pure (.bl true)) []
  | n, .non, k, _ => by rw [call_s (T := T) (f := 24) rfl rfl (by simp)]; simp [b__law_same, isiP, isOne, opIsN, isNon]
  | n, .bl b, k, _ => by rw [call_s (T := T) (f := 24) rfl rfl (by simp)]; simp [b__law_same, isiP, isOne, opIsN, isNon]
  | n, .int i, k, _ => by rw [call_s (T := T) (f := 24) rfl rfl (by simp)]; simp [b__law_same, isiP, isOne, opIsN, isNon]
  | n, .str s, k, _ => by rw [call_s (T := T) (f := 24) rfl rfl (by simp)]; simp [b__law_same, isiP, isOne, opIsN, isNon]
  | 0, .tup xs, k, h => by simp [alk] at h
  | 0, .lst xs, k, h => by simp [alk] at h
  | n + 1, .tup xs, k, ha => by
    simp only [alk] at ha
    exact same_seq (same_s n) k ha.1 ha.2 (.inl rfl)
  | n + 1, .lst xs, k, ha => by
    simp only [alk] at ha
    exact same_seq (same_s n) k ha.1 ha.2 (.inr rfl)
  | 0, .dct _ _, k, h => by simp [alk] at h
  | 0, .inp _, k, h => by simp [alk] at h
  | n + 1, .dct _ _, k, h => by simp [alk] at h
  | n + 1, .inp _, k, h => by simp [alk] at h
/-! nodes -/
theorem mT0 (t : Tr) : opIx (mT t) (.int 0) = some (.pure (.int t.i)) := by cases t; exact it0
theorem mT1 (t : Tr) : opIx (mT t) (.int 1) = some (.pure (.str t.w)) := by cases t; exact it1
theorem mT2 (t : Tr) : opIx (mT t) (.int 2) = some (.pure (.tup (t.cs.map mT))) := by cases t; rw [← mR_map]; exact it2
theorem pT0 (t : Tr) : opIx (pT t) (.int 0) = some (.pure (.str t.w)) := by cases t; exact it0
theorem pT1 (t : Tr) : opIx (pT t) (.int 1) = some (.pure (.tup (t.cs.map pT))) := by cases t; rw [← pR_map]; exact it1
theorem mT_mk (i : Int) (w : List Nat) (cs : List Tr) : mT (.mk i w cs) = .tup [.int i, .str w, .tup (cs.map mT)] := by rw [← mR_map]; rfl
theorem pT_mk (i : Int) (w : List Nat) (cs : List Tr) : pT (.mk i w cs) = .tup [.str w, .tup (cs.map pT)] := by rw [← pR_map]; rfl
theorem it_map {α : Type} (g : α → P) {l : List α} {n : Nat} {t : α} (h : l[n]? = some t) : opIx (.tup (l.map g)) (.int n) = some (.pure (g t)) := it_at (by simp [h])
theorem il_map {α : Type} (g : α → P) {l : List α} {n : Nat} {t : α} (h : l[n]? = some t) : opIx (.lst (l.map g)) (.int n) = some (.pure (g t)) := il_at (by simp [h])
theorem dp_mem : ∀ {l : List Tr} {t : Tr}, t ∈ l → dpT t ≤ dpR l
  | x :: l, t, h => by
    rcases List.mem_cons.mp h with rfl | h
    · simp only [dpR]; omega
    · have := dp_mem h
      simp only [dpR]; omega
theorem dp_cs (t : Tr) : dpR t.cs + 1 = dpT t := by cases t; rfl
/-- _law_plain -/
theorem plain_s : ∀ (N k : Nat) (row : List Tr), dpR row ≤ N → szR row ≤ 1000 → callN T (k + N + 1) 28 [.pure (.tup (row.map mT))] = .ok (.pure (.tup (row.map pT))) []
  | N, k, row, hN, hs => by
    rw [call_s (T := T) (f := 28) rfl rfl (by simp)]
    have hl : row.length ≤ line := by have := len_sz row; unfold line; omega
    simp [b__law_plain, hl, -List.map_map]
    rw [comp_mapG mT pT]
    · simp [fTuple, -List.map_map]
    · intro t ht
      have h1 := dp_mem ht
      have h2 := dp_cs t
      have h3 := szR_mem ht
      have h4 := szR_cs (t := t)
      cases N with
      | zero => omega
      | succ N =>
        have ih := plain_s N k t.cs (by omega) (by omega)
        rw [show k + (N + 1) = k + N + 1 by omega]
        simp [-ix_t, mT1, mT2, ih]
        cases t
        rw [pT_mk]
        rfl
def leP (e : LE) : P := .tup [.int e.1, .str e.2.1, .tup (natsP e.2.2)]
theorem lsR_cons (t : Tr) (l : List Tr) (p : List Nat) (k : Nat) : lsR (t :: l) p k = (t.i, t.w, p ++ [k]) :: (lsR t.cs (p ++ [k]) 0 ++ lsR l p (k + 1)) := by rw [lsR, lsT_eq]; rfl
theorem natsP_snoc (p : List Nat) (n : Nat) : natsP p ++ [.int (n : Int)] = natsP (p ++ [n]) := by simp [natsP]
theorem natsP_len (p : List Nat) : (natsP p).length = p.length := by simp [natsP]
/-- _law_listed -/
theorem listed_loop (N k : Nat) (p : List Nat) (row : List Tr) (hp : p.length + N ≤ 1000) (ih : ∀ t ∈ row, ∀ q : List Nat, q.length = p.length + 1 → callN T (k + N) 29 [.pure (.tup (t.cs.map mT)), .pure (.tup (natsP q))] = .ok (.ols ((lsR t.cs q 0).map leP)) []) :
    ∀ (ts : List Tr) (j : Nat) (acc : List LE) (x : Sl), row.drop j = ts → acc.length + szR ts ≤ 1000 → ∃ x', forF (.nm 3) (mSeq (mEx (mApp 2 (mTup [mOp2 opIx (mOp2 opIx (mV 0) (mV 3)) (mC (.int 0)), mOp2 opIx (mOp2 opIx (mV 0) (mV 3)) (mC (.int 1)), mOp2 opAdd (mV 1) (mTup [mV 3])]))) (mSet 2 (mOp2 opAdd (mV 2) (mCall 29 false [(false, mOp2 opIx (mOp2 opIx (mV 0) (mV 3)) (mC (.int 2))), (false, mOp2 opAdd (mV 1) (mTup [mV 3]))])))) ⟨callN T (k + N), []⟩ (upTo j ts.length)
      [some (.pure (.tup (row.map mT))), some (.pure (.tup (natsP p))), some (.ols (acc.map leP)), x] = .ok .nx [some (.pure (.tup (row.map mT))), some (.pure (.tup (natsP p))), some (.ols ((acc ++ lsR ts p j).map leP)), x']
  | [], j, acc, x, _, _ => ⟨x, by simp [upTo, lsR]⟩
  | t :: ts, j, acc, x, hd, hs => by
    have ht : row[j]? = some t := by
      have := congrArg (fun l : List Tr => l[0]?) hd
      simpa using this
    have hd2 : row.drop (j + 1) = ts := by
      have := congrArg List.tail hd
      simpa using this
    have hm := it_map mT ht
    have hc := ih t (List.mem_of_getElem? ht) (p ++ [j]) (by simp)
    have h4 := szR_cs (t := t)
    simp only [szR] at hs
    obtain ⟨x', hx⟩ := listed_loop N k p row hp ih ts (j + 1) (acc ++ (t.i, t.w, p ++ [j]) :: lsR t.cs (p ++ [j]) 0) (some (.pure (.int j))) hd2 (by simp [lsR_len]; omega)
    refine ⟨x', ?_⟩
    have ha : opAdd (.tup (natsP p)) (.tup [.int (j : Int)]) = some (.pure (.tup (natsP (p ++ [j])))) := by
      rw [add_tup (by simp [natsP_len]; omega), natsP_snoc]
    have hb := add_lst (xs := acc.map leP ++ [P.tup [.int t.i, .str t.w, .tup (natsP (p ++ [j]))]]) (ys := (lsR t.cs (p ++ [j]) 0).map leP) (by simp [lsR_len]; omega)
    have hlen : acc.length < line := by unfold line; omega
    rw [List.length_cons, upTo, forF_s]
    simp [-ix_t, -List.map_append, -List.append_assoc, hm, mT0, mT1, mT2, ha, hc, hb, hlen, show acc.length < line from hlen]
    have e1 : acc.map leP ++ [P.tup [.int t.i, .str t.w, .tup (natsP (p ++ [j]))]] ++ (lsR t.cs (p ++ [j]) 0).map leP = (acc ++ (t.i, t.w, p ++ [j]) :: lsR t.cs (p ++ [j]) 0).map leP := by simp [leP]
    have e2 : acc ++ lsR (t :: ts) p j = (acc ++ (t.i, t.w, p ++ [j]) :: lsR t.cs (p ++ [j]) 0) ++ lsR ts p (j + 1) := by rw [lsR_cons]; simp
    rw [e1, e2]
    rw [Int.natCast_add] at hx
    exact hx
theorem listed_s : ∀ (N k : Nat) (row : List Tr) (p : List Nat), dpR row ≤ N → szR row ≤ 1000 → p.length + N ≤ 1000 → callN T (k + N + 1) 29 [.pure (.tup (row.map mT)), .pure (.tup (natsP p))] = .ok (.ols ((lsR row p 0).map leP)) []
  | N, k, row, p, hN, hs, hp => by
    rw [call_s (T := T) (f := 29) rfl rfl (by simp)]
    have hl : row.length ≤ line := by have := len_sz row; unfold line; omega
    have ho : okR (row.length : Int) = true := okR_len hl
    obtain ⟨x', hx⟩ := listed_loop N k p row hp (fun t ht q hq => by
      have h1 := dp_mem ht
      have h2 := dp_cs t
      have h3 := szR_mem ht
      have h4 := szR_cs (t := t)
      cases N with
      | zero => omega
      | succ N =>
        have := listed_s N k t.cs q (by omega) (by omega) (by omega)
        rwa [show k + (N + 1) = k + N + 1 by omega]) row 0 [] none rfl (by simpa using hs)
    simp only [List.nil_append, List.map_nil] at hx
    simp [b__law_listed, ho, -List.map_map]
    rw [show ((0 : Nat) : Int) = 0 from rfl] at hx
    rw [hx]
    simp
/-- what a step leaves, or nothing -/
def optP : Option (List Tr) → P
  | none => .non
  | some r => .tup (r.map mT)
theorem natsP_cons (n : Nat) (p : List Nat) : natsP (n :: p) = .int (n : Int) :: natsP p := rfl
theorem isN_s {x : P} : opIsN x .non = some (.pure (.bl (isNon x))) := rfl
theorem add3 {xs ys zs : List P} (h : xs.length + ys.length + zs.length ≤ 1000000) : opAdd (.tup (xs ++ ys)) (.tup zs) = some (.pure (.tup (xs ++ ys ++ zs))) := add_tup (by simp; omega)
theorem stepAt_s (k n : Nat) (row : List Tr) (s : Stp) (hs : szR row ≤ 1000) : callN T (k + 1) 30 [.pure (.tup (row.map mT)), .pure (.tup (natsP [n])), .pure s.v] = .ok (.pure (optP (stepAt row n s))) [] := by
  rw [call_s (T := T) (f := 30) rfl rfl (by simp)]
  have hl := len_sz row
  have hsl : 1 ≤ line := by decide
  rw [natsP_cons]
  cases s with
  | add p c w =>
    by_cases h : row.length < n + c
    · have h' : (row.length : Int) < n + c := by omega
      simp [-ix_t, b__law_stepped, it0, it1, it2, Stp.v, natsP, sAd, h', stepAt, h, optP]
    · have h' : ¬ (row.length : Int) < n + c := by omega
      have a1 := add_tup (xs := (row.map mT).take n) (ys := [P.tup [.int (-1), .str w, .tup (((row.map mT).drop n).take c)]]) (by simp; omega)
      have a2 := add3 (xs := (row.map mT).take n) (ys := [P.tup [.int (-1), .str w, .tup (((row.map mT).drop n).take c)]]) (zs := (row.map mT).drop (n + c)) (by simp; omega)
      simp [-ix_t, -List.map_take, -List.map_drop, -List.append_assoc, b__law_stepped, it0, it1, it2, it3, Stp.v, natsP, sAd, h', stepAt, h, optP, mPart, sl_t, sl_m, sl_dc, a1, a2, opNeg]
      simp [mT_mk, List.map_take, List.map_drop]
  | chg p w =>
    cases ht : row[n]? with
    | none =>
      have h := List.getElem?_eq_none_iff.mp ht
      have h' : (row.length : Int) ≤ n := by omega
      simp [-ix_t, b__law_stepped, it0, it1, it2, Stp.v, natsP, sCh, h', stepAt, ht, optP]
    | some t =>
      have h := (List.getElem?_eq_some_iff.mp ht).1
      have h' : ¬ (row.length : Int) ≤ n := by omega
      have hm := it_map mT ht
      have a1 := add_tup (xs := (row.map mT).take n) (ys := [P.tup [.int t.i, .str w, .tup (t.cs.map mT)]]) (by simp; omega)
      have a2 := add3 (xs := (row.map mT).take n) (ys := [P.tup [.int t.i, .str w, .tup (t.cs.map mT)]]) (zs := (row.map mT).drop (n + 1)) (by simp; omega)
      simp [-ix_t, -List.map_take, -List.map_drop, -List.append_assoc, b__law_stepped, it0, it1, it2, it3, Stp.v, natsP, sCh, h', stepAt, ht, optP, mPart, sl_t, sl_d1, a1, a2, hm, mT0, mT1, mT2]
      simp [mT_mk, List.map_take, List.map_drop]
  | drp p =>
    cases ht : row[n]? with
    | none =>
      have h := List.getElem?_eq_none_iff.mp ht
      have h' : (row.length : Int) ≤ n := by omega
      simp [-ix_t, b__law_stepped, it0, it1, it2, Stp.v, natsP, sDr, h', stepAt, ht, optP]
    | some t =>
      have h := (List.getElem?_eq_some_iff.mp ht).1
      have h' : ¬ (row.length : Int) ≤ n := by omega
      have hm := it_map mT ht
      have h3 := szR_mem (List.mem_of_getElem? ht)
      have h4 := szR_cs (t := t)
      have h5 := len_sz t.cs
      have a1 := add_tup (xs := (row.map mT).take n) (ys := t.cs.map mT) (by simp; omega)
      have a2 := add3 (xs := (row.map mT).take n) (ys := t.cs.map mT) (zs := (row.map mT).drop (n + 1)) (by simp; omega)
      simp [-ix_t, -List.map_take, -List.map_drop, -List.append_assoc, b__law_stepped, it0, it1, it2, it3, Stp.v, natsP, sDr, h', stepAt, ht, optP, mPart, sl_t, sl_d1, a1, a2, hm, mT0, mT1, mT2]
      simp [List.map_take, List.map_drop]
theorem isN_opt (o : Option (List Tr)) : isNon (optP o) = o.isNone := by cases o <;> rfl
theorem stepped_s (s : Stp) : ∀ (p : List Nat) (k : Nat) (row : List Tr), p ≠ [] → p.length ≤ 1000 → szR row ≤ 1000 → callN T (k + p.length) 30 [.pure (.tup (row.map mT)), .pure (.tup (natsP p)), .pure s.v] = .ok (.pure (optP (stepped s p row))) []
  | [], _, _, h, _, _ => (h rfl).elim
  | [n], k, row, _, _, hs => stepAt_s k n row s hs
  | n :: m :: p, k, row, _, hp, hs => by
    show callN T (k + (m :: p).length + 1) _ _ = _
    rw [call_s (T := T) (f := 30) rfl rfl (by simp), stepped_c2]
    have hl := len_sz row
    have h1 : (1 : Int) < ((natsP (n :: m :: p)).length : Nat) := by simp [natsP_len]; omega
    have ix0 : opIx (.tup (natsP (n :: m :: p))) (.int 0) = some (.pure (.int n)) := it0
    have sl1 : slP (.tup (natsP (n :: m :: p))) (some 1) none = some (.pure (.tup (natsP (m :: p)))) := sl_1 _ _
    have ih := fun row h1 h2 => stepped_s s (m :: p) k row (by simp) h1 h2
    have hp2 : (m :: p).length ≤ 1000 := by simp at hp ⊢; omega
    generalize k + (m :: p).length = L at *
    generalize natsP (n :: m :: p) = A at *
    generalize natsP (m :: p) = B at *
    cases ht : row[n]? with
    | none =>
      have h := List.getElem?_eq_none_iff.mp ht
      have h' : (row.length : Int) ≤ n := by omega
      simp [-ix_t, b__law_stepped, ix0, h1, h', optP]
    | some t =>
      have h := (List.getElem?_eq_some_iff.mp ht).1
      have h' : ¬ (row.length : Int) ≤ n := by omega
      have hm := it_map mT ht
      have h3 := szR_mem (List.mem_of_getElem? ht)
      have h4 := szR_cs (t := t)
      have ih := ih t.cs hp2 (by omega)
      cases hc : stepped s (m :: p) t.cs with
      | none =>
        rw [hc] at ih
        simp [-ix_t, b__law_stepped, ix0, h1, h', hm, mT2, mPart, sl1, ih, optP, isN_s, isNon, hc]
      | some cs =>
        rw [hc] at ih
        have a1 := add_tup (xs := (row.map mT).take n) (ys := [P.tup [.int t.i, .str t.w, .tup (cs.map mT)]]) (by simp; omega)
        have a2 := add3 (xs := (row.map mT).take n) (ys := [P.tup [.int t.i, .str t.w, .tup (cs.map mT)]]) (zs := (row.map mT).drop (n + 1)) (by simp; omega)
        simp [-ix_t, -List.map_take, -List.map_drop, -List.append_assoc, b__law_stepped, ix0, h1, h', hm, mT0, mT1, mT2, mPart, sl1, ih, optP, isN_s, isNon, hc, sl_t, sl_d1, a1, a2]
        simp [mT_mk, List.map_take, List.map_drop]
/-- _law_within -/
theorem within_s (N k : Nat) (row : List Tr) (m d : Int) (hN : dpR row ≤ N) (hs : szR row ≤ 1000) (hN2 : N ≤ 1000) : callN T (k + N + 2) 34 [.pure (.tup (row.map mT)), .pure (.int m), .pure (.int d)] = .ok (.pure (.bl (decide ((szR row : Int) ≤ m) && ((lsR row [] 0).filter fun e => decide (d < (e.2.2.length : Int))).isEmpty))) [] := by
  rw [call_s (T := T) (f := 34) rfl rfl (by simp)]
  have L := listed_s N k row [] hN hs (by simp; omega)
  have hl : (lsR row [] 0).length ≤ line := by rw [lsR_len]; unfold line; omega
  rw [show natsP [] = [] from rfl] at L
  simp [b__law_within, L, lsR_len]
  by_cases h : (szR row : Int) ≤ m
  · simp [h, hl]
    rw [comp_filtG leP leP (fun e => decide (d < (e.2.2.length : Int)))]
    · simp
      cases hf : (lsR row [] 0).filter fun e => decide (d < (e.2.2.length : Int)) with
      | nil => simp
      | cons a l => simp; omega
    · intro e he
      obtain ⟨i, w, p⟩ := e
      by_cases h2 : d < (p.length : Int)
      · simp [-ix_t, leP, it2, natsP_len, h2]
      · simp [-ix_t, leP, it2, natsP_len, h2]
  · simp [h]
end Gbk20
set_option linter.all false
set_option maxRecDepth 100000
/-! the program's trees and steps. -/
namespace Gbk20
open Gr
def optQ : Option (List Tr) → P
  | none => .non
  | some r => .tup (r.map pT)
theorem rowat_loop (k : Nat) (a q : P) : ∀ (p : List Nat) (row : List Tr) (x : Sl),
    (∀ r, rowAt p row = some r → ∃ x', forF (.nm 3) (mSeq (mIf (mTr (mOp2 (opCmp fun i j => decide (j ≤ i)) (mV 3) (mFn fLen [mV 2]))) (mRt [] (mC .non)) (mNx)) (mSet 2 (mOp2 opIx (mOp2 opIx (mV 2) (mV 3)) (mC (.int 1))))) ⟨callN T k, []⟩ (natsP p) [some (.pure a), some (.pure q), some (.pure (.tup (row.map pT))), x] = .ok .nx [some (.pure a), some (.pure q), some (.pure (.tup (r.map pT))), x']) ∧
    (rowAt p row = none → ∃ e', e'.length = 4 ∧ forF (.nm 3) (mSeq (mIf (mTr (mOp2 (opCmp fun i j => decide (j ≤ i)) (mV 3) (mFn fLen [mV 2]))) (mRt [] (mC .non)) (mNx)) (mSet 2 (mOp2 opIx (mOp2 opIx (mV 2) (mV 3)) (mC (.int 1))))) ⟨callN T k, []⟩ (natsP p) [some (.pure a), some (.pure q), some (.pure (.tup (row.map pT))), x] = .ok (.rt (.pure .non)) e')
  | [], row, x => ⟨fun r h => ⟨x, by simp only [rowAt] at h; cases h; rfl⟩, fun h => by simp [rowAt] at h⟩
  | n :: p, row, x => by
    rw [natsP_cons]
    cases ht : row[n]? with
    | none =>
      have h := List.getElem?_eq_none_iff.mp ht
      have h' : (row.length : Int) ≤ n := by omega
      refine ⟨fun r h => by simp [rowAt, ht] at h, fun _ => ⟨[some (.pure a), some (.pure q), some (.pure (.tup (row.map pT))), some (.pure (.int n))], rfl, ?_⟩⟩
      simp [-ix_t, forF_s, h']
    | some t =>
      have h := (List.getElem?_eq_some_iff.mp ht).1
      have h' : ¬ (row.length : Int) ≤ n := by omega
      have hm := it_map pT ht
      obtain ⟨i1, i2⟩ := rowat_loop k a q p t.cs (some (.pure (.int n)))
      refine ⟨fun r hr => ?_, fun hr => ?_⟩
      · simp only [rowAt, ht] at hr
        obtain ⟨x', hx⟩ := i1 r hr
        refine ⟨x', ?_⟩
        simp [-ix_t, forF_s, h', hm, pT1]
        exact hx
      · simp only [rowAt, ht] at hr
        obtain ⟨e', he, hx⟩ := i2 hr
        refine ⟨e', he, ?_⟩
        simp [-ix_t, forF_s, h', hm, pT1]
        exact hx
theorem rowat_s (k : Nat) (p : List Nat) (row : List Tr) : callN T (k + 1) 12 [.pure (.tup (row.map pT)), .pure (.tup (natsP p))] = .ok (.pure (optQ (rowAt p row))) [] := by
  rw [call_s (T := T) (f := 12) rfl rfl (by simp)]
  obtain ⟨i1, i2⟩ := rowat_loop k (.tup (row.map pT)) (.tup (natsP p)) p row none
  cases hr : rowAt p row with
  | none =>
    obtain ⟨e', he, hx⟩ := i2 hr
    simp [b_row_at, hx, ws_all [false, false] e' rfl (by rw [he]; decide), optQ]
  | some r =>
    obtain ⟨x', hx⟩ := i1 r hr
    simp [b_row_at, hx, optQ]
theorem withrow_s (r : List Tr) : ∀ (p : List Nat) (k : Nat) (row r0 : List Tr), rowAt p row = some r0 → szR row ≤ 1000 → callN T (k + p.length + 1) 13 [.pure (.tup (row.map pT)), .pure (.tup (natsP p)), .pure (.tup (r.map pT))] = .ok (.pure (.tup ((withRow r p row).map pT))) []
  | [], k, row, r0, _, _ => by
    rw [call_s (T := T) (f := 13) rfl rfl (by simp)]
    simp [b__with_row, natsP, withRow]
  | n :: p, k, row, r0, h0, hs => by
    have hl := len_sz row
    cases ht : row[n]? with
    | none => simp [rowAt, ht] at h0
    | some t =>
      simp only [rowAt, ht] at h0
      have h3 := szR_mem (List.mem_of_getElem? ht)
      have h4 := szR_cs (t := t)
      have ih := withrow_s r p k t.cs r0 h0 (by omega)
      have ix0 : opIx (.tup (natsP (n :: p))) (.int 0) = some (.pure (.int n)) := it0
      have sl1 : slP (.tup (natsP (n :: p))) (some 1) none = some (.pure (.tup (natsP p))) := sl_1 _ _
      have h1 : ((natsP (n :: p)).length : Int) ≠ 0 := by simp [natsP_len]; omega
      rw [show k + (n :: p).length + 1 = k + p.length + 1 + 1 by simp; omega]
      generalize k + p.length + 1 = L at *
      generalize natsP (n :: p) = A at *
      generalize natsP p = B at *
      have h5 : ¬ A = [] := by rintro rfl; simp at h1
      rw [call_s (T := T) (f := 13) rfl rfl (by simp)]
      have hm := it_map pT ht
      have a1 := add_tup (xs := (row.map pT).take n) (ys := [P.tup [.str t.w, .tup ((withRow r p t.cs).map pT)]]) (by simp; omega)
      have a2 := add3 (xs := (row.map pT).take n) (ys := [P.tup [.str t.w, .tup ((withRow r p t.cs).map pT)]]) (zs := (row.map pT).drop (n + 1)) (by simp; omega)
      simp [-ix_t, -List.map_take, -List.map_drop, -List.append_assoc, b__with_row, ix0, h5, hm, pT0, pT1, mPart, sl1, ih, sl_t, sl_d1, a1, a2]
      simp [withRow, ht, pT_mk, List.map_take, List.map_drop]
theorem behind_s (k n : Nat) (p : List Nat) (row : List Tr) (s : Stp) (hs : szR row ≤ 1000) (hp : s.p = p ++ [n]) : callN T (k + 1) 14 [.pure (.tup (row.map pT)), .pure s.v] = .ok (.pure (optQ (stepAt row n s))) [] := by
  rw [call_s (T := T) (f := 14) rfl rfl (by simp)]
  have hl := len_sz row
  have hlast : opIx (.tup (natsP s.p)) (.int (-1)) = some (.pure (.int n)) := by rw [hp, ← natsP_snoc]; exact it_last
  cases s with
  | add q c w =>
    simp only [Stp.p] at hlast
    by_cases h : row.length < n + c
    · have h' : (row.length : Int) < n + c := by omega
      simp [-ix_t, b__row_behind, it0, it1, it2, Stp.v, sAd, opNeg, hlast, h', stepAt, h, optQ]
    · have h' : ¬ (row.length : Int) < n + c := by omega
      have a1 := add_tup (xs := (row.map pT).take n) (ys := [P.tup [.str w, .tup (((row.map pT).drop n).take c)]]) (by simp; omega)
      have a2 := add3 (xs := (row.map pT).take n) (ys := [P.tup [.str w, .tup (((row.map pT).drop n).take c)]]) (zs := (row.map pT).drop (n + c)) (by simp; omega)
      simp [-ix_t, -List.map_take, -List.map_drop, -List.append_assoc, b__row_behind, it0, it1, it2, it3, Stp.v, sAd, opNeg, hlast, h', stepAt, h, optQ, mPart, sl_t, sl_m, sl_dc, a1, a2]
      simp [pT_mk, List.map_take, List.map_drop]
  | chg q w =>
    simp only [Stp.p] at hlast
    cases ht : row[n]? with
    | none =>
      have h := List.getElem?_eq_none_iff.mp ht
      have h' : (row.length : Int) ≤ n := by omega
      simp [-ix_t, b__row_behind, it0, it1, it2, Stp.v, sCh, opNeg, hlast, h', stepAt, ht, optQ]
    | some t =>
      have h := (List.getElem?_eq_some_iff.mp ht).1
      have h' : ¬ (row.length : Int) ≤ n := by omega
      have hm := it_map pT ht
      have a1 := add_tup (xs := (row.map pT).take n) (ys := [P.tup [.str w, .tup (t.cs.map pT)]]) (by simp; omega)
      have a2 := add3 (xs := (row.map pT).take n) (ys := [P.tup [.str w, .tup (t.cs.map pT)]]) (zs := (row.map pT).drop (n + 1)) (by simp; omega)
      simp [-ix_t, -List.map_take, -List.map_drop, -List.append_assoc, b__row_behind, it0, it1, it2, it3, Stp.v, sCh, opNeg, hlast, h', stepAt, ht, optQ, mPart, sl_t, sl_d1, a1, a2, hm, pT0, pT1]
      simp [pT_mk, List.map_take, List.map_drop]
  | drp q =>
    simp only [Stp.p] at hlast
    cases ht : row[n]? with
    | none =>
      have h := List.getElem?_eq_none_iff.mp ht
      have h' : (row.length : Int) ≤ n := by omega
      simp [-ix_t, b__row_behind, it0, it1, it2, Stp.v, sDr, opNeg, hlast, h', stepAt, ht, optQ]
    | some t =>
      have h := (List.getElem?_eq_some_iff.mp ht).1
      have h' : ¬ (row.length : Int) ≤ n := by omega
      have hm := it_map pT ht
      have h3 := szR_mem (List.mem_of_getElem? ht)
      have h4 := szR_cs (t := t)
      have h5 := len_sz t.cs
      have a1 := add_tup (xs := (row.map pT).take n) (ys := t.cs.map pT) (by simp; omega)
      have a2 := add3 (xs := (row.map pT).take n) (ys := t.cs.map pT) (zs := (row.map pT).drop (n + 1)) (by simp; omega)
      simp [-ix_t, -List.map_take, -List.map_drop, -List.append_assoc, b__row_behind, it0, it1, it2, it3, Stp.v, sDr, opNeg, hlast, h', stepAt, ht, optQ, mPart, sl_t, sl_d1, a1, a2, hm, pT0, pT1]
      simp [List.map_take, List.map_drop]
theorem isN_optQ (o : Option (List Tr)) : isNon (optQ o) = o.isNone := by cases o <;> rfl
theorem stp_p (s : Stp) : opIx s.v (.int 1) = some (.pure (.tup (natsP s.p))) := by cases s <;> exact it1
def errPath (p : List Nat) : Res := .rs 4 [(1, .tup (natsP p))] []
theorem natsP_last (p : List Nat) (n : Nat) : (natsP (p ++ [n])).dropLast = natsP p := by simp [natsP]
theorem moved_s (k n : Nat) (p : List Nat) (row : List Tr) (s : Stp) (hs : szR row ≤ 1000) (hp : s.p = p ++ [n]) : callN T (k + p.length + 2) 15 [.pure (.tup (row.map pT)), .pure s.v] = (match stepped s s.p row with
    | some r => .ok (.pure (.tup (r.map pT))) []
    | none => errPath s.p) := by
  rw [call_s (T := T) (f := 15) rfl rfl (by simp)]
  have hsl : slP (.tup (natsP s.p)) none (some (-1)) = some (.pure (.tup (natsP p))) := by rw [sl_m1, hp, natsP_last]
  have R := rowat_s (k + p.length) p row
  have hst := stepped_snoc s n p row
  rw [← hp] at hst
  rw [hst]
  cases hr : rowAt p row with
  | none =>
    rw [hr] at R
    simp [-ix_t, b_moved_by, stp_p, mPart, opNeg, hsl, R, optQ, isN_s, isNon, errPath]
  | some r =>
    rw [hr] at R
    have hsz : szR r ≤ 1000 := by
      have key : ∀ (p : List Nat) (row r : List Tr), rowAt p row = some r → szR r ≤ szR row := by
        intro p
        induction p with
        | nil => intro row r h; simp only [rowAt] at h; cases h; omega
        | cons m p ih =>
          intro row r h
          simp only [rowAt] at h
          cases ht : row[m]? with
          | none => rw [ht] at h; cases h
          | some t =>
            rw [ht] at h
            have := ih _ _ h
            have := szR_mem (List.mem_of_getElem? ht)
            have := szR_cs (t := t)
            omega
      have := key p row r hr
      omega
    have B := behind_s (k + p.length) n p r s hsz hp
    cases hb : stepAt r n s with
    | none =>
      rw [hb] at B
      simp [-ix_t, b_moved_by, stp_p, mPart, opNeg, hsl, R, B, optQ, isN_s, isNon, errPath, hb]
    | some r2 =>
      rw [hb] at B
      have Wr := withrow_s r2 p k row r hr hs
      simp [-ix_t, b_moved_by, stp_p, mPart, opNeg, hsl, R, B, optQ, isN_s, isNon, hb, Wr]
end Gbk20
set_option linter.all false
set_option maxRecDepth 100000
/-! what is a step; whole scripts. -/
namespace Gbk20
open Gr
def isPathB : P → Bool
  | .tup xs => !xs.isEmpty && xs.all isCnt
  | _ => false
theorem ispath_s (k : Nat) {p : P} (h : fineR p) : callN T (k + 3) 10 [.pure p] = .ok (.pure (.bl (isPathB p))) [] := by
  rw [call_s (T := T) (f := 10) rfl rfl (by simp)]
  have hf := h.1
  cases p with
  | tup xs =>
    by_cases hx : xs = []
    · subst hx
      simp [b__is_path, isiP, isOne, isPathB]
    · have hx2 : (xs.length : Int) ≠ 0 := by simp [hx]
      simp [b__is_path, isiP, isOne, hx]
      generalize hF : forF _ _ _ _ _ = o
      have key : TstR (.pure (.bl false)) (xs.all isCnt) (fun e => ∃ x, e = [some (.pure (.tup xs)), x]) (fun e => e.length = 2) o := by
        subst hF
        refine for_tstR _ _ _ ⟨_, rfl⟩ fun x hx e i => ?_
        obtain ⟨y, rfl⟩ := i
        have hc := cnt_s (k) (h.2 xs rfl x hx)
        cases hh : isCnt x
        · simp [hc, hh]
        · simp [hc, hh]
      have he : isPathB (.tup xs) = xs.all isCnt := by cases xs with | nil => exact (hx rfl).elim | cons a l => simp [isPathB]
      rw [he]
      cases hc : xs.all isCnt
      · obtain ⟨e, rfl, he⟩ := key.2 hc
        simp [ws_all [false] e rfl (by rw [he]; decide)]
      · obtain ⟨e, rfl, x, rfl⟩ := key.1 hc
        simp
  | inp ns => exact hf.elim
  | _ => simp [b__is_path, isiP, isOne, isPathB]
def isStepB : P → Bool
  | .tup (.str s :: b :: r) => isPathB b && (if s = sCh then (match r with | [w] => isWd w | _ => false) else if s = sAd then (match r with | [c, w] => isCnt c && isWd w | _ => false) else decide (s = sDr) && r.isEmpty)
  | _ => false
def fineS (v : P) : Prop := fineP v ∧ ∀ xs, v = .tup xs → ∀ x ∈ xs, fineR x
theorem isstep_s (k : Nat) {v : P} (h : fineS v) : callN T (k + 4) 11 [.pure v] = .ok (.pure (.bl (isStepB v))) [] := by
  rw [call_s (T := T) (f := 11) rfl rfl (by simp)]
  have hf := h.1
  cases v with
  | tup xs =>
    rcases xs with _ | ⟨a, _ | ⟨b, r⟩⟩
    · simp [b_is_step, isiP, isOne, isStepB]
    · simp [b_is_step, isiP, isOne, isStepB]
    · have hlen : ¬ ((r.length : Int) + 1 + 1 < 2) := by omega
      have hb := ispath_s k (h.2 _ rfl b (by simp))
      cases a with
      | str s =>
        cases hp : isPathB b
        · simp [-ix_t, it0, it1, b_is_step, isiP, isOne, isStepB, hlen, hb, hp]
        · have e1 : opEq (.str s) (.str sCh) = some (.pure (.bl (decide (s = sCh)))) := by simp
          have sz := fun n : Nat => size_s (k + 2) (p := .tup (.str s :: b :: r)) n trivial
          have z3 : callN T (k + 3) 2 [.pure (.tup (.str s :: b :: r)), .pure (.int 3)] = .ok (.pure (.bl (decide (r.length = 1)))) [] := by
            have := sz 3
            simpa [szP] using this
          have z4 : callN T (k + 3) 2 [.pure (.tup (.str s :: b :: r)), .pure (.int 4)] = .ok (.pure (.bl (decide (r.length = 2)))) [] := by
            have := sz 4
            simpa [szP] using this
          have z2 : callN T (k + 3) 2 [.pure (.tup (.str s :: b :: r)), .pure (.int 2)] = .ok (.pure (.bl (decide (r = [])))) [] := by
            have := sz 2
            simpa [szP] using this
          have l1 : ∀ r : List P, ¬ ((r.length : Int) + 1 + 1 + 1 < 2) := fun r => by omega
          have l2 : ∀ r : List P, ¬ ((r.length : Int) + 1 + 1 + 1 + 1 < 2) := fun r => by omega
          have l3 : ∀ r : List P, ¬ ((r.length : Int) + 1 + 1 + 1 + 1 + 1 < 2) := fun r => by omega
          have fw : ∀ x ∈ r, fineP x := fun x hx => (h.2 _ rfl x (by simp [hx])).1
          by_cases h1 : s = sCh
          · subst h1
            simp [sCh] at z3
            rcases r with _ | ⟨w, _ | ⟨z, r⟩⟩
            · simp at z3
              simp [-ix_t, it0, it1, it2, b_is_step, isiP, isOne, isStepB, hb, hp, z3, sCh]
            · have hw := word_t (k + 2) (fw w (by simp))
              simp at z3
              simp [-ix_t, it0, it1, it2, b_is_step, isiP, isOne, isStepB, hb, hp, z3, sCh, hw]
            · simp at z3
              simp [-ix_t, it0, it1, it2, b_is_step, isiP, isOne, isStepB, hb, hp, z3, sCh, l2]
          · have h1' : ¬ s = [99, 104, 97, 110, 103, 101] := h1
            by_cases h2 : s = sAd
            · subst h2
              simp [sAd] at z4
              rcases r with _ | ⟨c, _ | ⟨w, _ | ⟨z, r⟩⟩⟩
              · simp at z4
                simp [-ix_t, it0, it1, it2, b_is_step, isiP, isOne, isStepB, hb, hp, z4, sCh, sAd]
              · simp at z4
                simp [-ix_t, it0, it1, it2, b_is_step, isiP, isOne, isStepB, hb, hp, z4, sCh, sAd]
              · have hc := cnt_s (k + 1) (fw c (by simp))
                have hw := word_t (k + 2) (fw w (by simp))
                simp at z4
                cases hcc : isCnt c <;> simp [-ix_t, it0, it1, it2, it3, b_is_step, isiP, isOne, isStepB, hb, hp, z4, sCh, sAd, hw, hc, hcc]
              · simp at z4
                simp [-ix_t, it0, it1, it2, b_is_step, isiP, isOne, isStepB, hb, hp, z4, sCh, sAd, l3]
            · have h2' : ¬ s = [97, 100, 100] := h2
              by_cases h3 : s = sDr
              · subst h3
                simp [sDr] at z2
                simp [-ix_t, it0, it1, it2, b_is_step, isiP, isOne, isStepB, hb, hp, z2, sCh, sAd, sDr, hlen]
                cases r <;> simp
              · have h3' : ¬ s = [100, 114, 111, 112] := h3
                simp [-ix_t, it0, it1, it2, b_is_step, isiP, isOne, isStepB, hb, hp, h1, h1', h2, h2', h3, h3', hlen]
      | inp ns => exact ((h.2 _ rfl (.inp ns) (by simp)).1).elim
      | _ => simp [-ix_t, it0, it1, b_is_step, isiP, isOne, isStepB, hlen]
  | inp ns => exact hf.elim
  | _ => simp [b_is_step, isiP, isOne, isStepB]
theorem cnt_nat (p : List Nat) : (natsP p).all isCnt = true := by
  rw [List.all_eq_true]
  intro x hx
  obtain ⟨n, _, rfl⟩ := List.mem_map.mp hx
  simp [isCnt]
theorem isPath_nat {p : List Nat} (h : p ≠ []) : isPathB (.tup (natsP p)) = true := by
  rw [isPathB, cnt_nat]
  cases p with
  | nil => exact (h rfl).elim
  | cons n p => rfl
theorem isStep_v {s : Stp} (h : s.p ≠ []) (hw : s.okW) : isStepB s.v = true := by
  have hp := isPath_nat h
  cases s with
  | chg p w => simp [Stp.v, isStepB, show isPathB (.tup (natsP p)) = true from hp, wd_of hw]
  | drp p => simp [Stp.v, isStepB, show isPathB (.tup (natsP p)) = true from hp, sDr, sCh, sAd]
  | add p c w => simp [Stp.v, isStepB, show isPathB (.tup (natsP p)) = true from hp, sCh, sAd, wd_of hw, isCnt]
theorem fr_nats (p : List Nat) : fineR (.tup (natsP p)) := fr_tup fun x hx => by
  obtain ⟨n, _, rfl⟩ := List.mem_map.mp hx
  trivial
theorem fr_word {w : List Nat} (h : isWordL w) : fineR (.str w) := ⟨fp_str (by have := h.2.1; omega), by simp⟩
theorem fs_tup {xs : List P} (h : ∀ x ∈ xs, fineR x) : fineS (.tup xs) := ⟨trivial, fun ys e => by cases e; exact h⟩
theorem fr_of {p : P} (h : fineP p) (h2 : ∀ xs, p ≠ .tup xs) : fineR p := ⟨h, fun xs e => (h2 xs e).elim⟩
theorem fr_str {s : List Nat} (h : s.length < 1000) : fineR (.str s) := fr_of (fp_str h) (by simp)
theorem fr_int {i : Int} : fineR (.int i) := fr_of trivial (by simp)
theorem fine_v {s : Stp} (hw : s.okW) : fineS s.v := by
  cases s with
  | chg p w => exact fs_tup (by simp only [List.mem_cons, List.not_mem_nil, or_false, forall_eq_or_imp, forall_eq]; exact ⟨fr_str (by decide), fr_nats p, fr_word hw⟩)
  | drp p => exact fs_tup (by simp only [List.mem_cons, List.not_mem_nil, or_false, forall_eq_or_imp, forall_eq]; exact ⟨fr_str (by decide), fr_nats p⟩)
  | add p c w => exact fs_tup (by simp only [List.mem_cons, List.not_mem_nil, or_false, forall_eq_or_imp, forall_eq]; exact ⟨fr_str (by decide), fr_nats p, fr_int, fr_word hw⟩)
theorem snoc_of {p : List Nat} (h : p ≠ []) : ∃ q n, p = q ++ [n] := ⟨p.dropLast, p.getLast h, (List.dropLast_concat_getLast h).symm⟩
theorem checked_s (k : Nat) (row : List Tr) (s : Stp) (hs : szR row ≤ 1000) (h : okSt s) : callN T (k + 110) 16 [.pure (.tup (row.map pT)), .pure s.v] = (match stepped s s.p row with
    | some r => .ok (.pure (.tup (r.map pT))) []
    | none => errPath s.p) := by
  rw [call_s (T := T) (f := 16) rfl rfl (by simp)]
  obtain ⟨q, n, hq⟩ := snoc_of h.2.1
  have I := isstep_s (k + 105) (fine_v h.1)
  have hql : q.length ≤ 100 := by have := h.2.2; rw [hq] at this; simp at this; omega
  have M := moved_s (k + 107 - q.length) n q row s hs hq
  rw [show k + 107 - q.length + q.length + 2 = k + 109 by omega] at M
  rw [isStep_v h.2.1 h.1] at I
  simp [-ix_t, b__checked_move, I, M]
  cases stepped s s.p row <;> simp [errPath]
def errStep (v : P) : Res := .rs 3 [(0, v)] []
theorem checked_f (k : Nat) (a v : P) (h : fineS v) (hv : isStepB v = false) : callN T (k + 110) 16 [.pure a, .pure v] = errStep v := by
  rw [call_s (T := T) (f := 16) rfl rfl (by simp)]
  have I := isstep_s (k + 105) h
  simp [-ix_t, b__checked_move, I, hv, errStep]
theorem forest_t : ∀ (N k : Nat) (row : List Tr), dpR row ≤ N → wfR row → callN T (k + N + 2) 8 [.pure (.tup (row.map pT))] = .ok (.pure (.bl true)) []
  | N, k, row, hN, hw => by
    rw [call_s (T := T) (f := 8) rfl rfl (by simp)]
    simp [b_is_forest_value, isiP, isOne]
    generalize hF : forF _ _ _ _ _ = o
    have key : ∃ e', o = .ok .nx e' ∧ ∃ x, e' = [some (.pure (.tup (row.map pT))), x] := by
      subst hF
      refine for_mem (fun x => ∃ t ∈ row, x = pT t) _ (fun x hx => by
        obtain ⟨t, ht, rfl⟩ := List.mem_map.mp hx
        exact ⟨t, ht, rfl⟩) ⟨_, rfl⟩ fun x e hx i => ?_
      obtain ⟨t, ht, rfl⟩ := hx
      obtain ⟨y, rfl⟩ := i
      have wt := wfR_all.mp hw t ht
      have h1 := dp_mem ht
      have h2 := dp_cs t
      cases N with
      | zero => omega
      | succ N =>
        have ih := forest_t N k t.cs (by omega) (wfT_cs wt)
        have hsz := size_s (k + N + 1) (p := pT t) 2 (by cases t; trivial)
        have hsz2 : szP 2 (pT t) = true := by cases t; rfl
        rw [hsz2] at hsz
        have hword := word_t (k + N + 1) (p := .str t.w) (fr_word (wfT_w wt)).1
        rw [wd_of (wfT_w wt)] at hword
        rw [show k + (N + 1) + 1 = k + N + 2 by omega]
        simp at hsz
        simp [-ix_t, hsz, hword, pT0, pT1, ih]
    obtain ⟨e', rfl, x, rfl⟩ := key
    simp
theorem needf_t (k : Nat) (row : List Tr) (hs : szR row ≤ 100) (hw : wfR row) : callN T (k + 104) 9 [.pure (.tup (row.map pT))] = .ok (.pure .non) [] := by
  rw [call_s (T := T) (f := 9) rfl rfl (by simp)]
  have F := forest_t 100 (k + 1) row (by have := dpR_sz row; omega) hw
  simp [b_need_forest, F]
end Gbk20
set_option linter.all false
set_option maxRecDepth 100000
/-! scripts run, priced, undone by the program. -/
namespace Gbk20
open Gr
theorem there_s (k n : Nat) (q : List Nat) (row r0 : List Tr) (t : Tr) (h0 : rowAt q row = some r0) (ht : r0[n]? = some t) : callN T (k + 2) 19 [.pure (.tup (row.map pT)), .pure (.tup (natsP (q ++ [n])))] = .ok (.pure (pT t)) [] := by
  rw [call_s (T := T) (f := 19) rfl rfl (by simp)]
  have R := rowat_s k q row
  rw [h0] at R
  have hlast : opIx (.tup (natsP (q ++ [n]))) (.int (-1)) = some (.pure (.int n)) := by rw [← natsP_snoc]; exact it_last
  have hsl : slP (.tup (natsP (q ++ [n]))) none (some (-1)) = some (.pure (.tup (natsP q))) := by rw [sl_m1, natsP_last]
  have hm := it_map pT ht
  simp [-ix_t, b__tree_there, mPart, opNeg, hsl, hlast, R, optQ, hm]
theorem runs_s (k : Nat) {D A : Int} {ch : List Nat → List Nat → Int} {row rf : List Tr} {ss bs : List Stp} {c : Int} (h : RunC D A ch row ss c bs rf) (hl : ss.length ≤ 1000) (hw : wfR row) (hs : szR row ≤ 100) (L : P) (hL : L = .lst (ss.map Stp.v) ∨ L = .tup (ss.map Stp.v)) : callN T (k + 111) 18 [.pure (.tup (row.map pT)), .pure L] = .ok (.pure (.tup (rf.map pT))) [] := by
  rw [call_s (T := T) (f := 18) rfl rfl (by simp)]
  have N := needf_t (k + 6) row hs hw
  have hi : itemsOf L = some (ss.map Stp.v) := by rcases hL with rfl | rfl <;> rfl
  obtain ⟨x', y', hx⟩ := run_loop (tg := .nm 2) (body := mSet 0 (mCall 16 false [(false, mV 0), (false, mV 2)])) (c := ⟨callN T (k + 110), []⟩) (fun r _ _ x _ => [some (.pure (.tup (r.map pT))), some (.pure L), x]) (fun r r2 _ _ _ _ e => by rw [e]) (fun r s r1 acc bs x y k1 k2 k3 k4 => by
    have C := checked_s k r s (by omega) k1
    rw [k4] at C
    exact ⟨some (.pure s.v), none, by simp [C]⟩) h 0 [] none none (by simpa using hl)
  have hx := hx []
  simp at hx
  simp [b_run_steps, N, hi, hx]
theorem price_loop (k : Nat) (L : P) {p q n : Int} {rows : List Row} {row rf : List Tr} {ss bs : List Stp} {c : Int} (h : RunC p q (chg n rows) row ss c bs rf) (hl : ss.length ≤ 1000) : ∃ x' y', ∀ rest, forF (.nm 4) (mSeq (mSet 5 (mCall 16 false [(false, mV 0), (false, mV 4)])) (mSeq (mIf (mTr (mOp2 opEq (mOp2 opIx (mV 4) (mC (.int 0))) (mC (.str [100, 114, 111, 112])))) (mSet 3 (mOp2 opAdd (mV 3) (mOp2 opIx (mV 2) (mC (.int 0))))) (mIf (mTr (mOp2 opEq (mOp2 opIx (mV 4) (mC (.int 0))) (mC (.str [97, 100, 100])))) (mSet 3 (mOp2 opAdd (mV 3) (mOp2 opIx (mV 2) (mC (.int 1))))) (mSet 3 (mOp2 opAdd (mV 3) (mCall 7 false [(false, mV 2), (false, mOp2 opIx (mCall 19 false [(false, mV 0), (false, mOp2 opIx (mV 4) (mC (.int 1)))]) (mC (.int 0))), (false, mOp2 opIx (mV 4) (mC (.int 2)))]))))) (mSet 0 (mV 5)))) ⟨callN T (k + 110), []⟩ (ss.map Stp.v ++ rest) [some (.pure (.tup (row.map pT))), some (.pure L), some (.pure (priceP p q n rows)), some (.pure (.int 0)), none, none] = forF (.nm 4) (mSeq (mSet 5 (mCall 16 false [(false, mV 0), (false, mV 4)])) (mSeq (mIf (mTr (mOp2 opEq (mOp2 opIx (mV 4) (mC (.int 0))) (mC (.str [100, 114, 111, 112])))) (mSet 3 (mOp2 opAdd (mV 3) (mOp2 opIx (mV 2) (mC (.int 0))))) (mIf (mTr (mOp2 opEq (mOp2 opIx (mV 4) (mC (.int 0))) (mC (.str [97, 100, 100])))) (mSet 3 (mOp2 opAdd (mV 3) (mOp2 opIx (mV 2) (mC (.int 1))))) (mSet 3 (mOp2 opAdd (mV 3) (mCall 7 false [(false, mV 2), (false, mOp2 opIx (mCall 19 false [(false, mV 0), (false, mOp2 opIx (mV 4) (mC (.int 1)))]) (mC (.int 0))), (false, mOp2 opIx (mV 4) (mC (.int 2)))]))))) (mSet 0 (mV 5)))) ⟨callN T (k + 110), []⟩ rest [some (.pure (.tup (rf.map pT))), some (.pure L), some (.pure (priceP p q n rows)), some (.pure (.int c)), x', y'] := by
  have x0 : opIx (priceP p q n rows) (.int 0) = some (.pure (.int p)) := it0
  have x1 : opIx (priceP p q n rows) (.int 1) = some (.pure (.int q)) := it1
  have B := fun a b => btw_s (k + 109) (.int p) (.int q) (.int n) rows a b n rfl
  obtain ⟨x', y', hx⟩ := run_loop (tg := .nm 4) (body := mSeq (mSet 5 (mCall 16 false [(false, mV 0), (false, mV 4)])) (mSeq (mIf (mTr (mOp2 opEq (mOp2 opIx (mV 4) (mC (.int 0))) (mC (.str [100, 114, 111, 112])))) (mSet 3 (mOp2 opAdd (mV 3) (mOp2 opIx (mV 2) (mC (.int 0))))) (mIf (mTr (mOp2 opEq (mOp2 opIx (mV 4) (mC (.int 0))) (mC (.str [97, 100, 100])))) (mSet 3 (mOp2 opAdd (mV 3) (mOp2 opIx (mV 2) (mC (.int 1))))) (mSet 3 (mOp2 opAdd (mV 3) (mCall 7 false [(false, mV 2), (false, mOp2 opIx (mCall 19 false [(false, mV 0), (false, mOp2 opIx (mV 4) (mC (.int 1)))]) (mC (.int 0))), (false, mOp2 opIx (mV 4) (mC (.int 2)))]))))) (mSet 0 (mV 5)))) (c := ⟨callN T (k + 110), []⟩) (fun r acc _ x y => [some (.pure (.tup (r.map pT))), some (.pure L), some (.pure (priceP p q n rows)), some (.pure (.int acc)), x, y]) (fun r r2 _ _ _ _ e => by rw [e]) (fun r s r1 acc bs x y k1 k2 k3 k4 => by
    have C := checked_s k r s (by omega) k1
    rw [k4] at C
    refine ⟨some (.pure s.v), some (.pure (.tup (r1.map pT))), ?_⟩
    cases s with
    | add pp c w =>
      simp only [Stp.v, sAd, sDr, sCh] at C
      simp [-ix_t, C, Stp.v, it0, it1, it2, sAd, x1, cost]
    | drp pp =>
      simp only [Stp.v, sAd, sDr, sCh] at C
      simp [-ix_t, C, Stp.v, it0, it1, it2, sDr, x0, cost]
    | chg pp w =>
      obtain ⟨qq, m, r0, t, h1, h2, h3, h4⟩ := treeAt_of k4 k1.2.1 (by intro _ _ _ e; cases e)
      have h1 : pp = qq ++ [m] := h1
      have h4 : treeAt pp r = some t := h4
      have TT := there_s (k + 108) m qq r r0 t h2 h3
      rw [← h1] at TT
      have B2 : callN T (k + 110) 7 [.pure (priceP p q n rows), .pure (.str t.w), .pure (.str w)] = _ := B t.w w
      simp only [Stp.v, sAd, sDr, sCh] at C
      simp [-ix_t, C, Stp.v, it0, it1, it2, sCh, cost, TT, h4, pT0, B2]) h 0 [] none none (by simpa using hl)
  exact ⟨x', y', fun rest => by simpa using hx rest⟩
theorem price_s2 (k : Nat) {p q n : Int} {rows : List Row} {row rf : List Tr} {ss bs : List Stp} {c : Int} (h : RunC p q (chg n rows) row ss c bs rf) (hl : ss.length ≤ 1000) (hw : wfR row) (hs : szR row ≤ 100) (hq : fineQ (priceP p q n rows)) (hp : isPr (priceP p q n rows) = true) (L : P) (hL : L = .lst (ss.map Stp.v) ∨ L = .tup (ss.map Stp.v)) : callN T (k + 111) 20 [.pure (.tup (row.map pT)), .pure L, .pure (priceP p q n rows)] = .ok (.pure (.int c)) [] := by
  rw [call_s (T := T) (f := 20) rfl rfl (by simp)]
  have N := needf_t (k + 6) row hs hw
  have M := need_t (k + 104) hq hp
  have hi : itemsOf L = some (ss.map Stp.v) := by rcases hL with rfl | rfl <;> rfl
  have x0 : opIx (priceP p q n rows) (.int 0) = some (.pure (.int p)) := it0
  have x1 : opIx (priceP p q n rows) (.int 1) = some (.pure (.int q)) := it1
  have B := fun a b => btw_s (k + 109) (.int p) (.int q) (.int n) rows a b n rfl
  obtain ⟨x', y', hx⟩ := price_loop k L h hl
  have hx := hx []
  simp at hx
  simp [b_steps_price, N, M, hi, hx]
theorem endR_rs {mp : List Bool} {x : Nat} {fs : List (Nat × P)} {e : Ev} (h : (mp.all fun b => !b) = true) (hl : mp.length ≤ e.length) : endR mp false (.rs x fs e) = .rs x fs [] := by
  rw [end_rs, ws_all mp e h hl]; rfl
end Gbk20
set_option linter.all false
set_option maxRecDepth 100000
/-! what is drawn: the start, the words. -/
namespace Gbk20
open Gr
theorem start_r (k : Nat) (ns : List Int) (hl : ns.length ≤ 63) : ∃ s : St, callN T (k + 3) 23 [.pure (.inp ns)] = .ok s.d [] := by
  rw [call_s (T := T) (f := 23) rfl rfl (by simp)]
  have Dr := fun s => draw_s k s (n := 2) (by decide) (by decide)
  have hll : ns.length ≤ line := by unfold line; omega
  have hc : compF (.nm 2) mYes (mOp2 opMod (mFn fInt [mV 2]) (mC (.int 2147483647))) [2] ⟨callN T (k + 2), []⟩ (ns.map .int) [some (.pure (.inp ns)), none, none] = .ok (ns.map fun i => .int (i.fmod 2147483647)) [some (.pure (.inp ns)), none, none] := comp_mapG .int (fun i => .int (i.fmod 2147483647)) (fun x hx => by simp [opMod])
  by_cases hf : ns = []
  · subst hf
    simp at hc
    have Dr := Dr ⟨[], 0, 0, 0, 1, 0, [], rfl⟩
    simp only [St.d, List.map_nil] at Dr
    simp [b__law_start, fList, hc]
    simp at Dr
    simp [Dr]
    exact ⟨_, rfl⟩
  · obtain ⟨a, ix⟩ : ∃ a, opIx (.inp ns) (.int 0) = some (.pure (.int a)) := by cases ns with | nil => exact (hf rfl).elim | cons a l => exact ⟨a, by simp⟩
    obtain ⟨B, hB, hBl⟩ : ∃ B : List Int, ns.map (fun i => P.int (i.fmod 2147483647)) = B.map P.int ∧ B.length = ns.length := ⟨ns.map fun i => i.fmod 2147483647, by simp, by simp⟩
    rw [hB] at hc
    by_cases h1 : a.fmod 2 = 1
    · have Dr := Dr ⟨ns, 0, 0, 0, 1, 0, B, hBl⟩
      simp only [St.d] at Dr
      simp at Dr
      simp [-ix_i, b__law_start, fList, hc, hll, ix, opMod, h1, hf, Dr]
      exact ⟨_, rfl⟩
    · have Dr := Dr ⟨ns, 0, 0, 0, 0, 0, B, hBl⟩
      simp only [St.d] at Dr
      simp at Dr
      simp [-ix_i, b__law_start, fList, hc, hll, ix, opMod, h1, hf, Dr]
      exact ⟨_, rfl⟩
/-! words -/
def abcP : P := .str abc
theorem letters_c (k v : Nat) (I : Ev → Prop) (own : List Nat) (xs : List P) (e : Ev) (i : I e)
    (h : ∀ x e, I e → PostE own (fun p e => (∃ c, p = .str [c] ∧ isLet c) ∧ I e) (elB (mOp2 opIx (mV 1) (mCall 22 false [(true, mV 0), (false, mC (.int 26))])) ⟨callN T (k + 2), []⟩ (bindT ⟨callN T (k + 2), []⟩ (.nm v) x e))) :
    ∃ (cs : List Nat) (e' : Ev), compF (.nm v) mYes (mOp2 opIx (mV 1) (mCall 22 false [(true, mV 0), (false, mC (.int 26))])) own ⟨callN T (k + 2), []⟩ xs e = .ok (cs.map fun c => .str [c]) e' ∧ I e' ∧ cs.length = xs.length ∧ ∀ c ∈ cs, isLet c := by
  obtain ⟨ps, e', h1, h2, h3, h4⟩ := comp_inv (tg := .nm v) (elt := mOp2 opIx (mV 1) (mCall 22 false [(true, mV 0), (false, mC (.int 26))])) (own := own) (c := ⟨callN T (k + 2), []⟩) I (fun _ => True) (fun _ p => ∃ c, p = .str [c] ∧ isLet c) (fun x e _ i => h x e i) xs e (fun _ _ => trivial) i
  obtain ⟨cs, k1, k2, k3⟩ := strs_single (ps := ps) fun p hp => by
    obtain ⟨_, _, h⟩ := h4 p hp
    exact h
  refine ⟨cs, e', ?_, h2, by omega, k3⟩
  have key : ∀ (ps : List P) (cs : List Nat), strsP ps = some (cs.map fun c => [c]) → (∀ p ∈ ps, ∃ c, p = .str [c] ∧ isLet c) → ps = cs.map fun c => .str [c] := by
    intro ps
    induction ps with
    | nil => intro cs h _; cases cs with | nil => rfl | cons a l => simp [strsP] at h
    | cons p ps ih =>
      intro cs h hh
      obtain ⟨c, rfl, _⟩ := hh p List.mem_cons_self
      cases hs : strsP ps with
      | none => simp [strsP, hs] at h
      | some r =>
        simp only [strsP, hs, Option.map_some, Option.some.injEq] at h
        cases cs with
        | nil => simp at h
        | cons a l =>
          simp at h
          obtain ⟨rfl, rfl⟩ := h
          rw [ih l hs fun q hq => hh q (List.mem_cons_of_mem _ hq)]
          rfl
  rw [h1, key ps cs k1 fun p hp => by
    obtain ⟨_, _, h⟩ := h4 p hp
    exact h]
theorem abc_draw (k : Nat) (s : St) : ∃ c, opIx (.str abc) (.int (dv k s 26)) = some (.pure (.str [c])) ∧ isLet c := abc_at (dv_b k s (by decide) (by decide)).1 (dv_b k s (by decide) (by decide)).2
theorem join_cs {cs : List Nat} (h : cs.length ≤ 1000) : fJoin (.str []) [.lst (cs.map fun c => .str [c])] = some (.pure (.str cs)) := by
  have k1 : strsP (cs.map fun c => P.str [c]) = some (cs.map fun c => [c]) := by
    induction cs with
    | nil => rfl
    | cons c cs ih => simp at h; simp [strsP, ih (by omega)]
  simp [fJoin, k1, lens_single, join_single, show cs.length ≤ line by unfold line; omega]
theorem wl_take {w : List Nat} (h : ∀ c ∈ w, isLet c) (n : Nat) : ∀ c ∈ w.take n, isLet c := fun c hc => h c (List.mem_of_mem_take hc)
theorem wl_drop {w : List Nat} (h : ∀ c ∈ w, isLet c) (n : Nat) : ∀ c ∈ w.drop n, isLet c := fun c hc => h c (List.mem_of_mem_drop hc)
theorem notin_strs (w : List Nat) (ws : List (List Nat)) : opNotIn (.str w) (.lst (ws.map .str)) = some (.pure (.bl (!decide (w ∈ ws)))) := by
  have hd : ∀ ws : List (List Nat), P.deps deep (ws.map .str) = true := by
    intro ws
    induction ws with
    | nil => rfl
    | cons a l ih => simp only [List.map_cons, P.deps, ih]; rfl
  have hi : inP (.str w) (ws.map .str) = decide (w ∈ ws) := by
    induction ws with
    | nil => rfl
    | cons a l ih =>
      simp only [inP, List.map_cons, List.any_cons] at ih ⊢
      rw [ih]
      have : eqP (.str a) (.str w) = decide (w = a) := by simp [eqP, beq_dec, eq_comm]
      rw [this]
      simp
  simp only [opNotIn, opIn]
  rw [if_pos (by rw [hd]; rfl), hi]
def poolI (cs : List Nat) (n : Nat) (e : Ev) : Prop := ∃ (s' : St) (ws : List (List Nat)) (x y z u v w : Sl), e = [some s'.d, some (.pure (.str [97, 98, 99, 100, 101, 102, 103, 104, 105, 106, 107, 108, 109, 110, 111, 112, 113, 114, 115, 116, 117, 118, 119, 120, 121, 122])), some (.pure (.str cs)), x, some (.ols (ws.map .str)), y, z, u, v, w] ∧ (∀ w ∈ ws, isWordL w) ∧ 1 ≤ ws.length ∧ ws.length + n ≤ 6
theorem len_str {s : List Nat} (h : s.length < line) : fLen [.str s] = some (.pure (.int s.length)) := by simp [fLen, h]
theorem pool_r (k : Nat) (s : St) : ∃ (ws : List (List Nat)) (s' : St), callN T (k + 3) 25 [s.d] = .ok (.ols (ws.map .str)) [s'.d] ∧ (∀ w ∈ ws, isWordL w) ∧ 1 ≤ ws.length ∧ ws.length ≤ 6 := by
  rw [call_s (T := T) (f := 25) rfl rfl (by simp)]
  have Dr := fun s n h h2 => draw_s k s (n := n) h h2
  have bb := fun s n h h2 => dv_b k s (n := n) h h2
  have b8 := bb s 8 (by decide) (by decide)
  have o8 : okR (1 + dv k s 8) = true := okR_small (by omega) (by omega)
  have l8 : (upTo 0 (1 + dv k s 8).toNat).length = (1 + dv k s 8).toNat := upTo_len _ _
  have l8' : (1 + dv k s 8).toNat ≤ line := by unfold line; omega
  have sl : ∀ cs : List Nat, (1 + dv k s 8).toNat = cs.length → cs.length ≤ 8 ∧ 1 ≤ cs.length := fun cs h => by omega
  simp [b__law_pool, Dr, o8, l8, l8', isStrP]
  obtain ⟨cs, e', hc, ⟨s1, rfl⟩, hl, hlt⟩ := letters_c k 3 (fun e => ∃ s1 : St, e = [some s1.d, some (.pure (.str abc)), none, none, none, none, none, none, none, none]) [3] (upTo 0 (1 + dv k s 8).toNat) [some (ds k s 8).d, some (.pure (.str abc)), none, none, none, none, none, none, none, none] ⟨_, rfl⟩ (fun x e ⟨s1, he⟩ => by
    subst he
    obtain ⟨c, h1, h2⟩ := abc_draw k s1
    simp [Dr, h1, h2]
    exact ⟨_, rfl⟩)
  rw [l8] at hl
  simp only [abc] at hc
  rw [hc]
  have cs1 := sl cs hl.symm
  simp [join_cs (show cs.length ≤ 1000 by omega)]
  have b4 := bb s1 4 (by decide) (by decide)
  have o4 : okR (1 + dv k s1 4) = true := okR_small (by omega) (by omega)
  simp [Dr, o4]
  generalize hF : forF _ _ _ _ _ = o
  have key : ∃ e', o = .ok .nx e' ∧ poolI cs 0 e' := by
    subst hF
    refine for_nx (fun rest e => poolI cs rest.length e)
      ⟨ds k s1 4, [cs], none, none, none, none, none, none, rfl, by simp; exact ⟨cs1.2, cs1.1, hlt⟩, by simp, by rw [upTo_len]; simp; omega⟩ (fun x rest e i => ?_)
      (fun e h => h)
    obtain ⟨s2, ws, x0, y0, z0, u0, v0, w0, rfl, hw, hl1, hl2⟩ := i
    simp at hl2
    have fin : ∀ (w : List Nat) (s' : St) (x y z u t : Sl), (∀ c ∈ w, isLet c) → w.length ≤ 8 → Post (poolI cs rest.length) (fun _ _ => False)
        ((mIf (mAndT (mTr (mOp2 opNe (mV 8) (mC (P.str [])))) (mTr (mOp2 opNotIn (mV 8) (mV 4)))) (mEx (mApp 4 (mV 8))) mNx) ⟨callN T (k + 2), []⟩ [some s'.d, some (.pure (.str [97, 98, 99, 100, 101, 102, 103, 104, 105, 106, 107, 108, 109, 110, 111, 112, 113, 114, 115, 116, 117, 118, 119, 120, 121, 122])), some (.pure (.str cs)), x, some (.ols (ws.map .str)), y, z, u, some (.pure (.str w)), t]) := by
      intro w s' x y z u t h1 h2
      have hlen : ws.length < line := by unfold line; omega
      have NI := notin_strs w ws
      by_cases hw0 : w = []
      · simp [hw0]
        exact ⟨_, ws, _, _, _, _, _, _, rfl, hw, hl1, by omega⟩
      · by_cases hin : w ∈ ws
        · rw [decide_eq_true hin] at NI
          simp [hw0, NI]
          exact ⟨_, ws, _, _, _, _, _, _, rfl, hw, hl1, by omega⟩
        · rw [decide_eq_false hin] at NI
          simp [hw0, NI, hlen]
          refine ⟨_, ws ++ [w], _, _, _, _, _, _, by simp; exact ⟨rfl, rfl, rfl, rfl, rfl, rfl, rfl⟩, ?_, by simp, by simp; omega⟩
          intro z hz
          simp at hz
          rcases hz with hz | rfl
          · exact hw _ hz
          · exact ⟨by cases z with | nil => exact (hw0 rfl).elim | cons a l => simp, h2, h1⟩
    generalize mIf (mAndT (mTr (mOp2 opNe (mV 8) (mC (P.str [])))) (mTr (mOp2 opNotIn (mV 8) (mV 4)))) (mEx (mApp 4 (mV 8))) mNx = S at fin ⊢
    have hcl : (0 : Int) < cs.length := by omega
    have bc := bb s2 cs.length hcl (by omega)
    have Dc := Dr s2 cs.length hcl (by omega)
    obtain ⟨n, hn⟩ : ∃ n : Nat, dv k s2 cs.length = n := ⟨(dv k s2 cs.length).toNat, by omega⟩
    rw [hn] at bc Dc
    obtain ⟨c, hc1, hc2⟩ := abc_draw k (ds k s2 cs.length)
    simp only [abc] at hc1
    have b7 := bb (ds k (ds k s2 cs.length) 26) 4 (by decide) (by decide)
    have D7 := Dr (ds k (ds k s2 cs.length) 26) 4 (by decide) (by decide)
    have D6 := Dr (ds k s2 cs.length) 26 (by decide) (by decide)
    generalize ds k s2 cs.length = s3 at *
    generalize dv k s3 26 = v3 at *
    generalize ds k s3 26 = s4 at *
    generalize dv k s4 4 = kd at *
    generalize ds k s4 4 = s5 at *
    have hcsl : cs.length < line := by unfold line; omega
    have LS := len_str hcsl
    have S1 := sl_st n hcsl
    have S2 := sl_sd1 n hcsl
    have S3 := sl_sd n hcsl
    have A1 := add_str (xs := cs.take n) (ys := [c]) (by simp; omega)
    have A2 := add_str (xs := cs.take n ++ [c]) (ys := cs.drop (n + 1)) (by simp; omega)
    have A3 := add_str (xs := cs.take n) (ys := cs.drop (n + 1)) (by simp; omega)
    have A4 := add_str (xs := cs.take n ++ [c]) (ys := cs.drop n) (by simp; omega)
    have S8 : slP (.str (cs.take n ++ [c] ++ cs.drop n)) none (some 8) = some (.pure (.str ((cs.take n ++ [c] ++ cs.drop n).take 8))) := sl_st 8 (by unfold line; simp; omega)
    have lc : ∀ x ∈ [c], isLet x := by simpa using hc2
    have la : ∀ {a b : List Nat}, (∀ c ∈ a, isLet c) → (∀ c ∈ b, isLet c) → ∀ c ∈ a ++ b, isLet c := fun h1 h2 c hc => (List.mem_append.mp hc).elim (h1 c) (h2 c)
    by_cases k0 : kd = 0
    · simp [-List.append_assoc, LS, Dc, D6, D7, hc1, mPart, S1, S2, A1, A2, A3, k0]
      exact fin _ _ _ _ _ _ _ (la (wl_take hlt n) (wl_drop hlt (n + 1))) (by simp; omega)
    · by_cases k1 : kd = 1
      · simp [-List.append_assoc, LS, Dc, D6, D7, hc1, mPart, S1, S2, S3, A1, A2, A4, k1, S8]
        exact fin _ _ _ _ _ _ _ (wl_take (la (la (wl_take hlt n) lc) (wl_drop hlt n)) 8) (by simp; omega)
      · by_cases k2 : kd = 2
        · have b8 := bb s5 8 (by decide) (by decide)
          have D8 := Dr s5 8 (by decide) (by decide)
          have o8 : okR (1 + dv k s5 8) = true := okR_small (by omega) (by omega)
          have l8 : (upTo 0 (1 + dv k s5 8).toNat).length = (1 + dv k s5 8).toNat := upTo_len _ _
          have l8' : (1 + dv k s5 8).toNat ≤ line := by unfold line; omega
          have sl : ∀ cs : List Nat, (1 + dv k s5 8).toNat = cs.length → cs.length ≤ 8 ∧ 1 ≤ cs.length := fun cs h => by omega
          simp [-List.append_assoc, LS, Dc, D6, D7, hc1, mPart, S1, S2, A1, A2, k2, D8, o8, l8, l8', isStrP]
          obtain ⟨ds2, e', hcc, ⟨s6, rfl⟩, hl, hlt2⟩ := letters_c k 9 (fun e => ∃ s1 : St, e = [some s1.d, some (.pure (.str abc)), some (.pure (.str cs)), some (.pure x), some (.ols (ws.map .str)), some (.pure (.int n)), some (.pure (.str [c])), some (.pure (.int 2)), some (.pure (.str (cs.take n ++ [c] ++ cs.drop (n + 1)))), none]) [9] (upTo 0 (1 + dv k s5 8).toNat) [some (ds k s5 8).d, some (.pure (.str abc)), some (.pure (.str cs)), some (.pure x), some (.ols (ws.map .str)), some (.pure (.int n)), some (.pure (.str [c])), some (.pure (.int 2)), some (.pure (.str (cs.take n ++ [c] ++ cs.drop (n + 1)))), none] ⟨_, rfl⟩ (fun x e ⟨s1, he⟩ => by
            subst he
            obtain ⟨c, h1, h2⟩ := abc_draw k s1
            simp [Dr, h1, h2]
            exact ⟨_, rfl⟩)
          rw [l8] at hl
          simp only [abc] at hcc
          rw [hcc]
          have cs2 := sl ds2 hl.symm
          simp [join_cs (show ds2.length ≤ 1000 by omega)]
          exact fin _ _ _ _ _ _ _ hlt2 cs2.1
        · simp [-List.append_assoc, LS, Dc, D6, D7, hc1, mPart, S1, S2, A1, A2, k0, k1, k2]
          exact fin _ _ _ _ _ _ _ (la (la (wl_take hlt n) lc) (wl_drop hlt (n + 1))) (by simp; omega)
  obtain ⟨e', rfl, s', ws, x, y, z, u, v, w, rfl, h1, h2, h3⟩ := key
  simp
  exact ⟨ws, ⟨rfl, _, rfl⟩, h1, h2, h3⟩
end Gbk20
set_option linter.all false
set_option maxRecDepth 100000
/-! the forest drawn. -/
namespace Gbk20
open Gr
abbrev FE := Nat × List Nat
def feP (f : FE) : P := .tup [.int (f.1 : Int), .str f.2]
def goodF (f : FE) : Prop := f.1 ≤ 7 ∧ isWordL f.2
def grownI (W : P) (kd : Int) (n : Nat) (e : Ev) : Prop := ∃ (s' : St) (fs : List FE) (low : Int) (x y z : Sl), e = [some s'.d, some (.pure W), some (.pure (.int 12)), some (.pure (.int 8)), x, some (.pure (.int kd)), some (.ols (fs.map feP)), some (.pure (.int low)), y, z] ∧ (∀ f ∈ fs, goodF f) ∧ fs.length + n ≤ 12 ∧ -1 ≤ low ∧ low ≤ 7
theorem grown_r (k : Nat) (s : St) (ws : List (List Nat)) (hw : ∀ w ∈ ws, isWordL w) (h1 : 1 ≤ ws.length) (h2 : ws.length ≤ 6) : ∃ (fs : List FE) (s' : St), callN T (k + 3) 26 [s.d, .pure (.lst (ws.map .str)), .pure (.int 12), .pure (.int 8)] = .ok (.ols (fs.map feP)) [s'.d] ∧ (∀ f ∈ fs, goodF f) ∧ fs.length ≤ 12 := by
  rw [call_s (T := T) (f := 26) rfl rfl (by simp)]
  have Dr := fun s n h h2 => draw_s k s (n := n) h h2
  have bb := fun s n h h2 => dv_b k s (n := n) h h2
  have c1 := bb s 13 (by decide) (by decide)
  have c2 := bb (ds k s 13) 13 (by decide) (by decide)
  have c3 := bb (ds k (ds k s 13) 13) 3 (by decide) (by decide)
  obtain ⟨p, hp, e3⟩ := ix_dv k (ds k (ds k (ds k s 13) 13) 3) (xs := [P.int (dv k s 13), .int (dv k (ds k s 13) 13), .int 12, .int (dv k (ds k (ds k s 13) 13) 3)]) (n := 4) (by decide) (by decide) rfl
  obtain ⟨m, rfl, hm1, hm2⟩ : ∃ m : Int, p = .int m ∧ 0 ≤ m ∧ m ≤ 12 := by
    simp at hp
    rcases hp with rfl | rfl | rfl | rfl <;> exact ⟨_, rfl, by omega, by omega⟩
  have om : okR m = true := okR_small (by omega) (by omega)
  simp [-ix_l, b__law_grown, Dr, e3, om, opNeg]
  generalize ds k (ds k (ds k (ds k s 13) 13) 3) 4 = s1 at *
  generalize dv k s1 5 = kd at *
  generalize ds k s1 5 = s2 at *
  generalize hF : forF _ _ _ _ _ = o
  have key : ∃ e', o = .ok .nx e' ∧ grownI (.lst (ws.map .str)) kd 0 e' := by
    subst hF
    refine for_nx (fun rest e => grownI (.lst (ws.map .str)) kd rest.length e)
      ⟨s2, [], -1, _, _, _, rfl, by simp, by rw [upTo_len]; simp; omega, by omega, by omega⟩ (fun x rest e i => ?_) (fun e h => h)
    obtain ⟨s3, fs, low, x0, y0, z0, rfl, hf, hl, l1, l2⟩ := i
    simp at hl
    have hmin : ∃ q : Int, fMin [.int (low + 2), .int 8] = some (.pure (.int q)) ∧ 0 < q ∧ q ≤ 8 := by
      refine ⟨if 8 < low + 2 then 8 else low + 2, rfl, ?_, ?_⟩ <;> split <;> omega
    obtain ⟨q, hq, q0, q8⟩ := hmin
    have hmin2 : ∃ q : Int, fMin [.int (low + 1), .int (8 - 1)] = some (.pure (.int q)) ∧ 0 ≤ q ∧ q ≤ 7 := by
      refine ⟨if 8 - 1 < low + 1 then 8 - 1 else low + 1, rfl, ?_, ?_⟩ <;> split <;> omega
    obtain ⟨q', hq', q0', q8'⟩ := hmin2
    have hlen : fs.length < line := by unfold line; omega
    have b1 := bb s3 q q0 (by omega)
    have D1 := Dr s3 q q0 (by omega)
    have hwl : (0 : Int) < ws.length := by omega
    have fin : ∀ (v : Int) (s4 : St) (y z : Sl), 0 ≤ v → v ≤ 7 → Post (grownI (.lst (ws.map .str)) kd rest.length) (fun _ _ => False)
        ((mSeq (mSet 7 (mV 9)) (mEx (mApp 6 (mTup [mV 7, mOp2 opIx (mV 1) (mCall 22 false [(true, mV 0), (false, mFn fLen [mV 1])])])))) ⟨callN T (k + 2), []⟩ [some s4.d, some (.pure (.lst (ws.map .str))), some (.pure (.int 12)), some (.pure (.int 8)), x0, some (.pure (.int kd)), some (.ols (fs.map feP)), y, z, some (.pure (.int v))]) := by
      intro v s4 y z hv1 hv2
      have D2 := Dr s4 ws.length hwl (by omega)
      have b2 := bb s4 ws.length hwl (by omega)
      obtain ⟨n, hn⟩ : ∃ n : Nat, dv k s4 ws.length = n := ⟨(dv k s4 ws.length).toNat, by omega⟩
      rw [hn] at D2 b2
      have hnl : n < ws.length := by omega
      have ix := il_map P.str (l := ws) (n := n) (t := ws[n]) (by simp [hnl])
      obtain ⟨u, rfl⟩ : ∃ u : Nat, v = u := ⟨v.toNat, by omega⟩
      simp [-ix_l, D2, ix, hlen]
      refine ⟨_, fs ++ [(u, ws[n])], u, _, _, _, by simp [feP]; exact ⟨rfl, rfl, rfl, rfl⟩, ?_, by simp; omega, by omega, by omega⟩
      intro f hff
      simp at hff
      rcases hff with hff | rfl
      · exact hf _ hff
      · exact ⟨by show u ≤ 7; omega, hw _ (List.getElem_mem _)⟩
    generalize mSeq (mSet 7 (mV 9)) (mEx (mApp 6 (mTup [mV 7, mOp2 opIx (mV 1) (mCall 22 false [(true, mV 0), (false, mFn fLen [mV 1])])]))) = S at fin ⊢
    by_cases k1 : kd = 1
    · have : kd ≠ 0 := by omega
      simp [-Int.reduceSub, hq, D1, k1]
      subst k1
      exact fin _ _ _ _ (by omega) (by omega)
    · by_cases k0 : kd = 0
      · simp [-Int.reduceSub, hq, hq', D1, k0]
        subst k0
        exact fin _ _ _ _ (by omega) (by omega)
      · simp [-Int.reduceSub, hq, D1, k0, k1]
        exact fin _ _ _ _ (by omega) (by omega)
  obtain ⟨e', rfl, s3, fs, low, x0, y0, z0, rfl, hf, hl, l1, l2⟩ := key
  simp
  exact ⟨fs, ⟨rfl, _, rfl⟩, fun a b h => hf (a, b) h, by omega⟩
def rT (r : List Tr) : P := .tup (r.map mT)
theorem sum_set : ∀ (l : List Nat) (i x : Nat) (h : i < l.length), (l.set i x).sum + l[i] = l.sum + x
  | [], _, _, h => by simp at h
  | a :: l, 0, x, _ => by simp; omega
  | a :: l, i + 1, x, h => by
    have := sum_set l i x (by simpa using h)
    simp
    omega
theorem sum_at {l : List Nat} {i : Nat} (h : i < l.length) : l[i] ≤ l.sum := by
  have := sum_set l i 0 h
  omega
theorem sum_set_r (R : List (List Tr)) (i : Nat) (x : List Tr) (h : i < R.length) : ((R.set i x).map szR).sum + szR R[i] = (R.map szR).sum + szR x := by
  have := sum_set (R.map szR) i (szR x) (by simpa using h)
  rw [List.map_set]
  simpa using this
def plI (F : P) (n : Nat) (e : Ev) : Prop := ∃ (R : List (List Tr)) (x y : Sl), e = [some (.pure F), some (.ols (R.map rT)), x, y] ∧ R.length = 14 ∧ (∀ r ∈ R, wfR r) ∧ (R.map szR).sum + n ≤ 12
theorem ol_at {l : List P} {n : Nat} {x : P} (h : l[n]? = some x) : opIx (.lst l) (.int (n : Int)) = some (.pure x) := il_at h
theorem planted_r (k : Nat) (fs : List FE) (hf : ∀ f ∈ fs, goodF f) (hl : fs.length ≤ 12) : ∃ row : List Tr, callN T (k + 1) 27 [.pure (.lst (fs.map feP))] = .ok (.pure (rT row)) [] ∧ wfR row ∧ szR row ≤ 12 := by
  rw [call_s (T := T) (f := 27) rfl rfl (by simp)]
  have h14 : (upTo 0 14).length ≤ line := by rw [upTo_len]; decide
  have ol : okR (fs.length : Int) = true := okR_small (by omega) (by omega)
  have o14 : okR 14 = true := by decide
  have hc : compF (.nm 2) mYes (mTup []) [2] ⟨callN T k, []⟩ (upTo 0 14) [some (.pure (.lst (fs.map feP))), none, none, none] = .ok ((List.replicate 14 ([] : List Tr)).map rT) [some (.pure (.lst (fs.map feP))), none, none, none] := by
    rw [Gr.comp_map (fun _ => P.tup [])]
    · rfl
    · intro x hx
      simp
  simp [b__law_planted, h14, o14]
  rw [hc]
  simp [ol]
  generalize hF : forF _ _ _ _ _ = o
  have key : ∃ e', o = .ok .nx e' ∧ plI (.lst (fs.map feP)) 0 e' := by
    subst hF
    have := for_nx (tg := .nm 2) (body := mSeq (mSet 3 (mOp2 opIx (mOp2 opIx (mV 0) (mV 2)) (mC (.int 0)))) (mSeq (mPut 1 (mV 3) (mOp2 opAdd (mTup [mTup [mV 2, mOp2 opIx (mOp2 opIx (mV 0) (mV 2)) (mC (.int 1)), mOp2 opIx (mV 1) (mOp2 opAdd (mV 3) (mC (.int 1)))]]) (mOp2 opIx (mV 1) (mV 3)))) (mPut 1 (mOp2 opAdd (mV 3) (mC (.int 1))) (mTup [])))) (c := ⟨callN T k, []⟩) (xs := (upTo 0 fs.length).reverse) (e := [some (.pure (.lst (fs.map feP))), some (.ols ((List.replicate 14 ([] : List Tr)).map rT)), none, none]) (Q := plI (.lst (fs.map feP)) 0)
      (fun rest e => plI (.lst (fs.map feP)) rest.length e ∧ ∀ x ∈ rest, ∃ j : Nat, x = .int j ∧ j < fs.length)
      ⟨⟨List.replicate 14 [], none, none, rfl, by simp, by simp [wfR], by simp [upTo_len, szR]; omega⟩, fun x hx => upTo_memN (List.mem_reverse.mp hx)⟩ (fun x rest e i => ?_) (fun e h => by simpa using h.1)
    · simpa using this
    obtain ⟨⟨R, x0, y0, rfl, hR, hwf, hsum⟩, hmem⟩ := i
    obtain ⟨j, rfl, hj⟩ := hmem _ List.mem_cons_self
    have hmem2 := fun x hx => hmem x (List.mem_cons_of_mem _ hx)
    simp at hsum
    have gf := hf fs[j] (List.getElem_mem hj)
    have ix1 := il_map feP (l := fs) (n := j) (t := fs[j]) (by simp [hj])
    rcases hfj : fs[j] with ⟨d, w⟩
    rw [hfj] at ix1 gf
    have hd : d ≤ 7 := gf.1
    have ixa := il_map rT (l := R) (n := d) (t := R[d]'(by omega)) (by simp)
    have ixb : opIx (.lst (R.map rT)) (.int ((d : Int) + 1)) = some (.pure (rT (R[d + 1]'(by omega)))) := by
      have := il_map rT (l := R) (n := d + 1) (t := R[d + 1]'(by omega)) (by simp)
      rwa [Int.natCast_add] at this
    have p1 : ixOf R.length (d : Int) = some d := by rw [ixOf_p (by omega) (by omega)]; simp
    have p2 : ixOf R.length ((d : Int) + 1) = some (d + 1) := by rw [ixOf_p (by omega) (by omega)]; exact congrArg some (by omega)
    have s1 := sum_at (l := R.map szR) (i := d) (by simp; omega)
    have s2 := sum_at (l := R.map szR) (i := d + 1) (by simp; omega)
    simp at s1 s2
    have l1 := len_sz (R[d]'(by omega))
    have A1 := add_tup (xs := [P.tup [.int j, .str w, rT (R[d + 1]'(by omega))]]) (ys := (R[d]'(by omega)).map mT) (by simp; omega)
    have i0 : opIx (feP (d, w)) (.int 0) = some (.pure (.int (d : Int))) := it0
    have i1 : opIx (feP (d, w)) (.int 1) = some (.pure (.str w)) := it1
    have A1' : opAdd (.tup [P.tup [.int j, .str w, rT (R[d + 1]'(by omega))]]) (rT (R[d]'(by omega))) = _ := A1
    simp [-ix_l, -ix_t, ix1, i0, i1, ixa, ixb, A1', p1, p2]
    refine ⟨⟨(R.set d (Tr.mk j w (R[d + 1]'(by omega)) :: R[d]'(by omega))).set (d + 1) [], some (.pure (.int j)), some (.pure (.int d)), ?_, by simp [hR], ?_, ?_⟩, hmem2⟩
    · simp [List.map_set, rT, mT_mk]
    · intro r hr
      rcases List.mem_or_eq_of_mem_set hr with hr | rfl
      · rcases List.mem_or_eq_of_mem_set hr with hr | rfl
        · exact hwf _ hr
        · exact ⟨⟨gf.2, hwf _ (List.getElem_mem _)⟩, hwf _ (List.getElem_mem _)⟩
      · simp [wfR]
    · have t1 := sum_set_r R d (Tr.mk j w (R[d + 1]'(by omega)) :: R[d]'(by omega)) (by omega)
      have t2 := sum_set_r (R.set d (Tr.mk j w (R[d + 1]'(by omega)) :: R[d]'(by omega))) (d + 1) [] (by simp; omega)
      simp only [szR, szT] at t1 t2
      rw [List.getElem_set_ne (by omega)] at t2
      omega
  obtain ⟨e', rfl, R, x, y, rfl, hR, hw, hs⟩ := key
  have ixa := il_map rT (l := R) (n := 0) (t := R[0]'(by omega)) (by simp)
  have s1 := sum_at (l := R.map szR) (i := 0) (by simp; omega)
  simp at s1
  refine ⟨R[0]'(by omega), ?_, hw _ (List.getElem_mem _), by omega⟩
  rw [show ((0 : Nat) : Int) = 0 from rfl] at ixa
  simp [-ix_l, ixa]
end Gbk20
set_option linter.all false
set_option maxRecDepth 100000
/-! the prices drawn. -/
namespace Gbk20
open Gr
def prI (W : P) (low p q n : Int) (ch : Bool) (m : Nat) (e : Ev) : Prop := ∃ (s' : St) (rows : List Row) (x y z u v : Sl), e = [some s'.d, some (.pure W), some (.pure (.int low)), some (.pure (.int p)), some (.pure (.int q)), some (.pure (.int n)), some (.pure (.bl ch)), x, some (.ols (rows.map rowP)), y, z, u, v] ∧ goodT rows ∧ rows.length + m ≤ 6
theorem in_pairs (a b : List Nat) (rows : List Row) : opNotIn (.tup [.str a, .str b]) (.lst (rows.map fun r => pairP (pairOf r))) = some (.pure (.bl (!decide ((a, b) ∈ rows.map pairOf)))) := by
  have := notin_seen a b (rows.map pairOf)
  rwa [List.map_map] at this
theorem prices_tail (k : Nat) (s : St) (ws : List (List Nat)) (hw : ∀ w ∈ ws, isWordL w) (h1 : 1 ≤ ws.length) (h2 : ws.length ≤ 6) (low p q n : Int) (ch : Bool) (x : Sl) (l0 : 0 ≤ low) (l1 : low < 400) (p0 : 0 ≤ p) (q0 : 0 ≤ q) (n0 : 0 ≤ n) (p1 : p < 1000) (q1 : q < 1000) (n1 : n < 1000) :
    OkS (prQ fun v => ∃ p q n rows, v = priceP p q n rows ∧ 0 ≤ p ∧ 0 ≤ q ∧ 0 ≤ n ∧ p < 1000 ∧ q < 1000 ∧ n < 1000 ∧ goodT rows ∧ rows.length ≤ 6) (endR [true, false] false ((mSeq (mSet 8 (mLst [])) (mSeq (mFor (.nm 9) (iR1 (mCall 22 false [(true, mV 0), (false, mC (.int 7))])) (mSeq (mSet 10 (mOp2 opIx (mV 1) (mCall 22 false [(true, mV 0), (false, mFn fLen [mV 1])]))) (mSeq (mSet 11 (mOp2 opIx (mV 1) (mCall 22 false [(true, mV 0), (false, mFn fLen [mV 1])]))) (mSeq (mSet 12 (mOp2 opAdd (mV 2) (mCall 22 false [(true, mV 0), (false, mOp2 opAdd (mV 2) (mC (.int 1)))]))) (mSeq (mIf (mNotT (mTr (mV 6))) (mSet 12 (mCall 22 false [(true, mV 0), (false, mC (.int 1000))])) (mNx)) (mIf (mAndT (mTr (mOp2 opNe (mV 10) (mV 11))) (mTr (mOp2 opNotIn (mTup [mV 10, mV 11]) (mComp [7] (.nm 7) (iVal (mV 8)) mYes (mSl (mV 7) none (some (mC (.int 2)))))))) (mEx (mApp 8 (mTup [mV 10, mV 11, mV 12]))) (mNx))))))) (mRt [0] (mTup [mV 3, mV 4, mV 5, mFn fTuple [mV 8]])))) ⟨callN T (k + 2), []⟩ [some s.d, some (.pure (.lst (ws.map .str))), some (.pure (.int low)), some (.pure (.int p)), some (.pure (.int q)), some (.pure (.int n)), some (.pure (.bl ch)), x, none, none, none, none, none])) := by
  have Dr := fun s n h h2 => draw_s k s (n := n) h h2
  have bb := fun s n h h2 => dv_b k s (n := n) h h2
  have b7 := bb s 7 (by decide) (by decide)
  have o7 : okR (dv k s 7) = true := okR_small (by omega) (by omega)
  simp [Dr, o7]
  generalize hF : forF _ _ _ _ _ = o
  have key : ∃ e', o = .ok .nx e' ∧ prI (.lst (ws.map .str)) low p q n ch 0 e' := by
    subst hF
    refine for_nx (fun rest e => prI (.lst (ws.map .str)) low p q n ch rest.length e) ⟨ds k s 7, [], _, _, _, _, _, rfl, goodT_nil, by rw [upTo_len]; simp; omega⟩ (fun xx rest e i => ?_) (fun e h => h)
    obtain ⟨s3, rows, x0, y0, z0, u0, v0, rfl, hg, hl⟩ := i
    simp at hl
    have hlen : rows.length < line := by unfold line; omega
    have hlen2 : rows.length ≤ line := by unfold line; omega
    have hwl : (0 : Int) < ws.length := by omega
    have pick : ∀ s : St, ∃ (w : List Nat) (m : Int), callN T (k + 2) 22 [s.d, .pure (.int (ws.length : Int))] = .ok (.pure (.int m)) [(ds k s ws.length).d] ∧ opIx (.lst (ws.map .str)) (.int m) = some (.pure (.str w)) ∧ isWordL w := fun s => by
      have D2 := Dr s ws.length hwl (by omega)
      have b2 := bb s ws.length hwl (by omega)
      obtain ⟨n, hn⟩ : ∃ n : Nat, dv k s ws.length = n := ⟨(dv k s ws.length).toNat, by omega⟩
      rw [hn] at D2 b2
      exact ⟨ws[n]'(by omega), n, D2, il_map P.str (by simp), hw _ (List.getElem_mem _)⟩
    obtain ⟨w1, m1, D1, I1, g1⟩ := pick s3
    obtain ⟨w2, m2, D2, I2, g2⟩ := pick (ds k s3 ws.length)
    generalize ds k (ds k s3 ws.length) ws.length = s5 at *
    generalize ds k s3 ws.length = s4 at *
    have b3 := bb s5 (low + 1) (by omega) (by omega)
    have D3 := Dr s5 (low + 1) (by omega) (by omega)
    have D4 := Dr (ds k s5 (low + 1)) 1000 (by decide) (by decide)
    have b4 := bb (ds k s5 (low + 1)) 1000 (by decide) (by decide)
    generalize ds k s5 (low + 1) = s6 at *
    have sl2 : ∀ r : Row, slP (rowP r) none (some 2) = some (.pure (pairP (pairOf r))) := fun r => sl_t _ 2
    have fin : ∀ (pp : Int) (s7 : St) (x : Sl), 0 ≤ pp → pp < 1000 → Post (prI (.lst (ws.map .str)) low p q n ch rest.length) (fun _ _ => False)
        ((mIf (mAndT (mTr (mOp2 opNe (mV 10) (mV 11))) (mTr (mOp2 opNotIn (mTup [mV 10, mV 11]) (mComp [7] (.nm 7) (iVal (mV 8)) mYes (mSl (mV 7) none (some (mC (.int 2)))))))) (mEx (mApp 8 (mTup [mV 10, mV 11, mV 12]))) (mNx)) ⟨callN T (k + 2), []⟩ [some s7.d, some (.pure (.lst (ws.map .str))), some (.pure (.int low)), some (.pure (.int p)), some (.pure (.int q)), some (.pure (.int n)), some (.pure (.bl ch)), x, some (.ols (rows.map rowP)), some (.pure xx), some (.pure (.str w1)), some (.pure (.str w2)), some (.pure (.int pp))]) := by
      intro pp s7 x hp0 hp1
      have NI := in_pairs w1 w2 rows
      have hc : compF (.nm 7) mYes (mSl (mV 7) none (some (mC (.int 2)))) [7] (Ct.lock ⟨callN T (k + 2), []⟩ [8]) (rows.map rowP) [some s7.d, some (.pure (.lst (ws.map .str))), some (.pure (.int low)), some (.pure (.int p)), some (.pure (.int q)), some (.pure (.int n)), some (.pure (.bl ch)), none, some (.ols (rows.map rowP)), some (.pure xx), some (.pure (.str w1)), some (.pure (.str w2)), some (.pure (.int pp))] = .ok (rows.map fun r => pairP (pairOf r)) [some s7.d, some (.pure (.lst (ws.map .str))), some (.pure (.int low)), some (.pure (.int p)), some (.pure (.int q)), some (.pure (.int n)), some (.pure (.bl ch)), none, some (.ols (rows.map rowP)), some (.pure xx), some (.pure (.str w1)), some (.pure (.str w2)), some (.pure (.int pp))] := comp_mapG rowP (fun r => pairP (pairOf r)) (fun r hr => by simp [mPart, sl2])
      by_cases hne : w1 = w2
      · simp [hne]
        exact ⟨_, rows, _, _, _, _, _, rfl, hg, by omega⟩
      · by_cases hin : (w1, w2) ∈ rows.map pairOf
        · rw [decide_eq_true hin] at NI
          simp [hne, hlen2, hc, NI]
          exact ⟨_, rows, _, _, _, _, _, rfl, hg, by omega⟩
        · rw [decide_eq_false hin] at NI
          simp [hne, hlen2, hc, NI, hlen]
          exact ⟨_, rows ++ [(w1, w2, pp)], none, some (.pure xx), some (.pure (.str w1)), some (.pure (.str w2)), some (.pure (.int pp)), by simp [rowP]; rfl, goodT_add hg ⟨g1, g2, hne, hp0, hp1⟩ hin, by simp; omega⟩
    generalize mIf (mAndT (mTr (mOp2 opNe (mV 10) (mV 11))) (mTr (mOp2 opNotIn (mTup [mV 10, mV 11]) (mComp [7] (.nm 7) (iVal (mV 8)) mYes (mSl (mV 7) none (some (mC (.int 2)))))))) (mEx (mApp 8 (mTup [mV 10, mV 11, mV 12]))) (mNx) = S at fin ⊢
    cases ch with
    | true =>
      simp [-ix_l, D1, I1, D2, I2, D3]
      exact fin _ _ _ (by omega) (by omega)
    | false =>
      simp [-ix_l, D1, I1, D2, I2, D3, D4]
      exact fin _ _ _ (by omega) (by omega)
  obtain ⟨e', rfl, s3, rows, x0, y0, z0, u0, v0, rfl, hg, hl⟩ := key
  simp [fTuple]
  exact ⟨p, q, n, rows, rfl, p0, q0, n0, p1, q1, n1, hg, by omega⟩
theorem prices_r (k : Nat) (s : St) (ws : List (List Nat)) (hw : ∀ w ∈ ws, isWordL w) (h1 : 1 ≤ ws.length) (h2 : ws.length ≤ 6) : ∃ (p q n : Int) (rows : List Row) (s' : St), callN T (k + 3) 32 [s.d, .pure (.lst (ws.map .str))] = .ok (.pure (priceP p q n rows)) [s'.d] ∧ 0 ≤ p ∧ 0 ≤ q ∧ 0 ≤ n ∧ p < 1000 ∧ q < 1000 ∧ n < 1000 ∧ goodT rows ∧ rows.length ≤ 6 := by
  suffices h : OkS (prQ fun v => ∃ p q n rows, v = priceP p q n rows ∧ 0 ≤ p ∧ 0 ≤ q ∧ 0 ≤ n ∧ p < 1000 ∧ q < 1000 ∧ n < 1000 ∧ goodT rows ∧ rows.length ≤ 6) (callN T (k + 3) 32 [s.d, .pure (.lst (ws.map .str))]) by
    obtain ⟨v, s', h, p, q, n, rows, rfl, hh⟩ := okS_p h
    exact ⟨p, q, n, rows, s', h, hh⟩
  rw [call_s (T := T) (f := 32) rfl rfl (by simp)]
  have Dr := fun s n h h2 => draw_s k s (n := n) h h2
  have bb := fun s n h h2 => dv_b k s (n := n) h h2
  have TL := prices_tail k
  unfold b__law_prices
  generalize (mSeq (mSet 8 (mLst [])) (mSeq (mFor (.nm 9) (iR1 (mCall 22 false [(true, mV 0), (false, mC (.int 7))])) (mSeq (mSet 10 (mOp2 opIx (mV 1) (mCall 22 false [(true, mV 0), (false, mFn fLen [mV 1])]))) (mSeq (mSet 11 (mOp2 opIx (mV 1) (mCall 22 false [(true, mV 0), (false, mFn fLen [mV 1])]))) (mSeq (mSet 12 (mOp2 opAdd (mV 2) (mCall 22 false [(true, mV 0), (false, mOp2 opAdd (mV 2) (mC (.int 1)))]))) (mSeq (mIf (mNotT (mTr (mV 6))) (mSet 12 (mCall 22 false [(true, mV 0), (false, mC (.int 1000))])) (mNx)) (mIf (mAndT (mTr (mOp2 opNe (mV 10) (mV 11))) (mTr (mOp2 opNotIn (mTup [mV 10, mV 11]) (mComp [7] (.nm 7) (iVal (mV 8)) mYes (mSl (mV 7) none (some (mC (.int 2)))))))) (mEx (mApp 8 (mTup [mV 10, mV 11, mV 12]))) (mNx))))))) (mRt [0] (mTup [mV 3, mV 4, mV 5, mFn fTuple [mV 8]])))) = S8 at TL ⊢
  have two : ∀ (low p q : Int) (s : St), 0 ≤ low → low < 400 → 0 ≤ p → p < 1000 → 0 ≤ q → q < 1000 → OkS (prQ fun v => ∃ p q n rows, v = priceP p q n rows ∧ 0 ≤ p ∧ 0 ≤ q ∧ 0 ≤ n ∧ p < 1000 ∧ q < 1000 ∧ n < 1000 ∧ goodT rows ∧ rows.length ≤ 6) (endR [true, false] false ((mSeq (mSet 5 (mOp2 opAdd (mV 2) (mCall 22 false [(true, mV 0), (false, mOp2 opAdd (mV 2) (mC (.int 1)))]))) (mSeq (mSet 6 (mOp2 opEq (mCall 22 false [(true, mV 0), (false, mC (.int 2))]) (mC (.int 0)))) (mSeq (mIf (mNotT (mTr (mV 6))) (mSeq (mSet 7 (mLst [mC (.int 0), mC (.int 1), mCall 22 false [(true, mV 0), (false, mC (.int 10))], mC (.int 999), mCall 22 false [(true, mV 0), (false, mC (.int 1000))]])) (mSeq (mSet 3 (mOp2 opIx (mV 7) (mCall 22 false [(true, mV 0), (false, mC (.int 5))]))) (mSeq (mSet 4 (mOp2 opIx (mV 7) (mCall 22 false [(true, mV 0), (false, mC (.int 5))]))) (mSet 5 (mOp2 opIx (mV 7) (mCall 22 false [(true, mV 0), (false, mC (.int 5))])))))) (mNx)) S8))) ⟨callN T (k + 2), []⟩ [some s.d, some (.pure (.lst (ws.map .str))), some (.pure (.int low)), some (.pure (.int p)), some (.pure (.int q)), none, none, none, none, none, none, none, none])) := by
    intro low p q s l0 l1 p0 p1 q0 q1
    have b1 := bb s (low + 1) (by omega) (by omega)
    have D1 := Dr s (low + 1) (by omega) (by omega)
    have D2 := fun s => Dr s 2 (by decide) (by decide)
    have D10 := fun s => Dr s 10 (by decide) (by decide)
    have D1000 := fun s => Dr s 1000 (by decide) (by decide)
    have D5 := fun s => Dr s 5 (by decide) (by decide)
    have b10 := fun s => bb s 10 (by decide) (by decide)
    have b1000 := fun s => bb s 1000 (by decide) (by decide)
    by_cases h : dv k (ds k s (low + 1)) 2 = 0
    · simp [D1, D2, h]
      exact TL _ ws hw h1 h2 low p q _ true none l0 l1 p0 q0 (by omega) p1 q1 (by omega)
    · have e0 := b10 (ds k (ds k s (low + 1)) 2)
      have e1 := b1000 (ds k (ds k (ds k s (low + 1)) 2) 10)
      have rowd : ∀ s2 : St, ∃ m : Int, opIx (.lst [.int 0, .int 1, .int (dv k (ds k (ds k s (low + 1)) 2) 10), .int 999, .int (dv k (ds k (ds k (ds k s (low + 1)) 2) 10) 1000)]) (.int (dv k s2 5)) = some (.pure (.int m)) ∧ 0 ≤ m ∧ m < 1000 := fun s2 => by
        obtain ⟨p, hp, e⟩ := ix_dv k s2 (xs := [P.int 0, .int 1, .int (dv k (ds k (ds k s (low + 1)) 2) 10), .int 999, .int (dv k (ds k (ds k (ds k s (low + 1)) 2) 10) 1000)]) (n := 5) (by decide) (by decide) rfl
        simp at hp
        rcases hp with rfl | rfl | rfl | rfl | rfl <;> exact ⟨_, e, by omega, by omega⟩
      obtain ⟨m1, i1, a1, c1⟩ := rowd (ds k (ds k (ds k (ds k s (low + 1)) 2) 10) 1000)
      obtain ⟨m2, i2, a2, c2⟩ := rowd (ds k (ds k (ds k (ds k (ds k s (low + 1)) 2) 10) 1000) 5)
      obtain ⟨m3, i3, a3, c3⟩ := rowd (ds k (ds k (ds k (ds k (ds k (ds k s (low + 1)) 2) 10) 1000) 5) 5)
      simp [-ix_l, D1, D2, D5, D10, D1000, h, i1, i2, i3]
      exact TL _ ws hw h1 h2 low m1 m2 m3 false _ l0 l1 a1 a2 a3 c1 c2 c3
  generalize mSeq (mSet 5 (mOp2 opAdd (mV 2) (mCall 22 false [(true, mV 0), (false, mOp2 opAdd (mV 2) (mC (.int 1)))]))) _ = S5 at two ⊢
  have D400 := fun s => Dr s 400 (by decide) (by decide)
  have D3 := fun s => Dr s 3 (by decide) (by decide)
  have D4 := fun s => Dr s 4 (by decide) (by decide)
  have D1000 := fun s => Dr s 1000 (by decide) (by decide)
  have c400 := bb s 400 (by decide) (by decide)
  have c4 := bb (ds k (ds k s 400) 3) 4 (by decide) (by decide)
  have mok : ∀ x : Int, mulOk 2 x = true ↔ mulOk 2 x = true := fun x => Iff.rfl
  have last : ∀ (low : Int) (s : St), 0 ≤ low → low < 400 → ∃ mx : Int, fMax [.int 0, .int (2 * low - dv k s 1000)] = some (.pure (.int mx)) ∧ 0 ≤ mx ∧ mx < 800 := fun low s h0 h1 => by
    have := bb s 1000 (by decide) (by decide)
    refine ⟨if 2 * low - dv k s 1000 > 0 then 2 * low - dv k s 1000 else 0, rfl, ?_, ?_⟩ <;> split <;> omega
  have mul2 : ∀ low : Int, 0 ≤ low → low < 400 → opMul (.int 2) (.int low) = some (.pure (.int (2 * low))) := fun low h0 h1 => by
    simp only [opMul]
    rw [if_pos (mulOk_r (by unfold big64; omega))]
  by_cases h3 : dv k (ds k s 400) 3 = 0
  · obtain ⟨mx, hm, m0, m8⟩ := last (dv k (ds k (ds k s 400) 3) 4) (ds k (ds k (ds k s 400) 3) 4) (by omega) (by omega)
    have Dm := Dr (ds k (ds k (ds k (ds k s 400) 3) 4) 1000) (1000 - mx) (by omega) (by omega)
    have bm := bb (ds k (ds k (ds k (ds k s 400) 3) 4) 1000) (1000 - mx) (by omega) (by omega)
    have b1 := bb (ds k (ds k (ds k s 400) 3) 4) 1000 (by decide) (by decide)
    have mu := mul2 (dv k (ds k (ds k s 400) 3) 4) (by omega) (by omega)
    simp [D400, D3, D4, D1000, h3, mu, hm, Dm]
    exact two _ _ _ _ (by omega) (by omega) (by omega) (by omega) (by omega) (by omega)
  · obtain ⟨mx, hm, m0, m8⟩ := last (dv k s 400) (ds k (ds k s 400) 3) (by omega) (by omega)
    have Dm := Dr (ds k (ds k (ds k s 400) 3) 1000) (1000 - mx) (by omega) (by omega)
    have bm := bb (ds k (ds k (ds k s 400) 3) 1000) (1000 - mx) (by omega) (by omega)
    have b1 := bb (ds k (ds k s 400) 3) 1000 (by decide) (by decide)
    have mu := mul2 (dv k s 400) (by omega) (by omega)
    simp [D400, D3, D4, D1000, h3, mu, hm, Dm]
    exact two _ _ _ _ (by omega) (by omega) (by omega) (by omega) (by omega) (by omega)
end Gbk20
set_option linter.all false
set_option maxRecDepth 100000
/-! V11: paths and rows; plain. -/
namespace Gr
mutual
theorem lsT_plen : ∀ (t : Tr) (q : List Nat) (e : LE), e ∈ lsT t q → e.2.2.length + 1 ≤ q.length + dpT t
  | .mk i w cs, q, e, h => by
    simp only [lsT, List.mem_cons] at h
    rcases h with rfl | h
    · simp only [dpT]; omega
    · have := lsR_plen cs q 0 e h
      simp only [dpT]; omega
theorem lsR_plen : ∀ (l : List Tr) (q : List Nat) (k : Nat) (e : LE), e ∈ lsR l q k → e.2.2.length ≤ q.length + dpR l
  | [], _, _, _, h => by simp [lsR] at h
  | t :: l, q, k, e, h => by
    simp only [lsR, List.mem_append] at h
    rcases h with h | h
    · have := lsT_plen t _ e h
      simp only [dpR, List.length_append, List.length_cons, List.length_nil] at this ⊢
      omega
    · have := lsR_plen l q (k + 1) e h
      simp only [dpR]; omega
end
theorem rowAt_snoc (n : Nat) : ∀ (p : List Nat) (row r : List Tr) (t : Tr), rowAt p row = some r → r[n]? = some t → rowAt (p ++ [n]) row = some t.cs
  | [], row, r, t, h, ht => by
    simp only [rowAt] at h
    cases h
    simp only [List.nil_append, rowAt, ht]
  | m :: p, row, r, t, h, ht => by
    simp only [rowAt] at h
    cases hm : row[m]? with
    | none => rw [hm] at h; cases h
    | some u =>
      rw [hm] at h
      simp only [List.cons_append, rowAt, hm]
      exact rowAt_snoc n p u.cs r t h ht
theorem rowAt_sz : ∀ (p : List Nat) (row r : List Tr), rowAt p row = some r → szR r ≤ szR row
  | [], row, r, h => by simp only [rowAt] at h; cases h; omega
  | m :: p, row, r, h => by
    simp only [rowAt] at h
    cases ht : row[m]? with
    | none => rw [ht] at h; cases h
    | some t =>
      rw [ht] at h
      have := rowAt_sz p t.cs r h
      have := szR_mem (List.mem_of_getElem? ht)
      have := szR_cs (t := t)
      omega
theorem eq_nats (a b : List Nat) : eqPs (natsP a) (natsP b) = decide (a = b) := by
  induction a generalizing b with
  | nil => cases b with
    | nil => rfl
    | cons x b => simp [natsP, eqPs]
  | cons y a ih =>
    cases b with
    | nil => simp [natsP, eqPs]
    | cons x b =>
      have := ih b
      simp only [natsP, List.map_cons, eqPs] at this ⊢
      rw [this]
      by_cases h1 : y = x
      · subst h1
        by_cases h2 : a = b
        · subst h2; simp [eqP]
        · simp [eqP, h2]
      · have : ¬ ((y : Int) = x) := by omega
        simp [eqP, h1, this]
theorem nats_dep (a : List Nat) (n : Nat) : P.deps (n + 1) (natsP a) = true := by
  induction a with
  | nil => rfl
  | cons x a ih => simp only [natsP, List.map_cons, P.deps] at ih ⊢; rw [ih]; rfl
theorem eqT_nats (a b : List Nat) : opEq (.tup (natsP a)) (.tup (natsP b)) = some (.pure (.bl (decide (a = b)))) := by
  have e := eq_nats a b
  have h : ∀ a, (P.tup (natsP a)).dep deep = true := fun a => nats_dep a 58
  simp only [opEq]
  rw [if_pos (by rw [h, h]; rfl)]
  simp only [eqP, e]
/-- a node's path, or none, leads to a row -/
theorem path_row {row : List Tr} {q : List Nat} (h : q ∈ [] :: (lsR row [] 0).map fun e => e.2.2) : ∃ r, rowAt q row = some r := by
  rcases List.mem_cons.mp h with rfl | h
  · exact ⟨row, rfl⟩
  · obtain ⟨e, he, rfl⟩ := List.mem_map.mp h
    obtain ⟨p, n, r, t, h1, h2, h3, _⟩ := ls_valid _ row [] e (Nat.le_refl _) he
    simp at h1
    rw [h1]
    exact ⟨_, rowAt_snoc n p row r t h2 h3⟩
theorem path_len {row : List Tr} {q : List Nat} (h : q ∈ [] :: (lsR row [] 0).map fun e => e.2.2) : q.length ≤ szR row := by
  rcases List.mem_cons.mp h with rfl | h
  · simp
  · obtain ⟨e, he, rfl⟩ := List.mem_map.mp h
    have := lsR_plen row [] 0 e he
    have := dpR_sz row
    simp at *
    omega
/-- a change, a drop at a node -/
theorem step_node {row : List Tr} {e : LE} (he : e ∈ lsR row [] 0) {s : Stp} (hp : s.p = e.2.2) (ha : ∀ p c w, s ≠ .add p c w) : s.p ≠ [] ∧ ∃ r, stepped s s.p row = some r := by
  obtain ⟨p, n, r, t, h1, h2, h3, _⟩ := ls_valid _ row [] e (Nat.le_refl _) he
  simp at h1
  rw [hp, h1]
  refine ⟨by simp, ?_⟩
  rw [stepped_snoc, h2]
  cases s with
  | add p c w => exact (ha p c w rfl).elim
  | chg p w => simp only [stepAt, h3]; exact ⟨_, rfl⟩
  | drp p => simp only [stepAt, h3]; exact ⟨_, rfl⟩
/-- an add that fits -/
theorem step_add {row r : List Tr} {q : List Nat} {a c : Nat} {w : List Nat} (h : rowAt q row = some r) (hc : a + c ≤ r.length) : ∃ r2, stepped (.add (q ++ [a]) c w) (q ++ [a]) row = some r2 := by
  rw [stepped_snoc, h]
  simp only [stepAt]
  rw [if_neg (by omega)]
  exact ⟨_, rfl⟩
end Gr
set_option linter.all false
set_option maxRecDepth 100000
/-! a step drawn. -/
namespace Gbk20
open Gr
def stepQ (row : List Tr) (v : P) : Prop := ∃ s row', v = Stp.v s ∧ (okSt s ∧ s.p.length ≤ 40) ∧ stepped s s.p row = some row' ∧ wfR row' ∧ szR row' ≤ 12
theorem stepped_k (k : Nat) (s : Stp) (row : List Tr) (h : okSt s) (hs : szR row ≤ 1000) (hl : s.p.length ≤ 40) : callN T (k + 40) 30 [.pure (.tup (row.map mT)), .pure (.tup (natsP s.p)), .pure s.v] = .ok (.pure (optP (stepped s s.p row))) [] := by
  have := stepped_s s s.p (k + 40 - s.p.length) row h.2.1 (by omega) hs
  rwa [show k + 40 - s.p.length + s.p.length = k + 40 by omega] at this
theorem listed_k (k : Nat) (row : List Tr) (hs : szR row ≤ 20) : callN T (k + 21) 29 [.pure (.tup (row.map mT)), .pure (.tup [])] = .ok (.ols ((lsR row [] 0).map leP)) [] :=
  listed_s 20 k row [] (by have := dpR_sz row; omega) (by omega) (by simp)
theorem within_k (k : Nat) (row : List Tr) (hs : szR row ≤ 20) : callN T (k + 22) 34 [.pure (.tup (row.map mT)), .pure (.int 12), .pure (.int 8)] = .ok (.pure (.bl (decide (szR row ≤ 12) && ((lsR row [] 0).filter fun e => decide ((8 : Int) < (e.2.2.length : Int))).isEmpty))) [] := by
  have := within_s 20 k row 12 8 (by have := dpR_sz row; omega) (by omega) (by omega)
  have e : decide ((szR row : Int) ≤ 12) = decide (szR row ≤ 12) := by
    by_cases h : szR row ≤ 12
    · have : (szR row : Int) ≤ 12 := by omega
      simp [h, this]
    · have : ¬ (szR row : Int) ≤ 12 := by omega
      simp [h, this]
  rw [e] at this
  exact this
theorem step_tail (k : Nat) (row : List Tr) (W : P) (w : List Nat) (kd : Int) (s : St) (x y z u v t : Sl) (hwf : wfR row) (hs : szR row ≤ 12) (hw : isWordL w) (hne : lsR row [] 0 ≠ []) :
    OkS (prQ (stepQ row)) (endR [true, false, false, false, false] false ((mSeq (mSet 9 (mOp2 opIx (mOp2 opIx (mV 5) (mCall 22 false [(true, mV 0), (false, mFn fLen [mV 5])])) (mC (.int 2)))) (mSeq (mIf (mTr (mOp2 opEq (mV 7) (mC (.int 0)))) (mRt [0] (mTup [mC (.str [99, 104, 97, 110, 103, 101]), mV 9, mV 6])) (mNx)) (mRt [0] (mTup [mC (.str [100, 114, 111, 112]), mV 9])))) ⟨callN T (k + 2), []⟩ [some s.d, some (.pure W), some (.pure (rT row)), some (.pure (.int 12)), some (.pure (.int 8)), some (.ols ((lsR row [] 0).map leP)), some (.pure (.str w)), some (.pure (.int kd)), x, y, z, u, v, t])) := by
  have hlen : 0 < (lsR row [] 0).length := List.length_pos_iff.mpr hne
  have hlz : (lsR row [] 0).length = szR row := lsR_len _ _ _
  have hL : (0 : Int) < ((lsR row [] 0).length : Nat) := by omega
  have D := draw_s k s (n := ((lsR row [] 0).length : Nat)) hL (by omega)
  have b := dv_b k s (n := ((lsR row [] 0).length : Nat)) hL (by omega)
  obtain ⟨n, hn⟩ : ∃ n : Nat, dv k s ((lsR row [] 0).length : Nat) = n := ⟨(dv k s ((lsR row [] 0).length : Nat)).toNat, by omega⟩
  rw [hn] at D b
  generalize ds k s ((lsR row [] 0).length : Nat) = s1 at *
  have hnl : n < (lsR row [] 0).length := by omega
  have ix := il_map leP (l := lsR row [] 0) (n := n) (t := (lsR row [] 0)[n]) (by simp [hnl])
  have hm : (lsR row [] 0)[n] ∈ lsR row [] 0 := List.getElem_mem _
  have hp := lsR_plen row [] 0 _ hm
  have hd := dpR_sz row
  generalize (lsR row [] 0)[n] = e at *
  have ix2 : opIx (leP e) (.int 2) = some (.pure (.tup (natsP e.2.2))) := it2
  simp at hp
  by_cases h0 : kd = 0
  · simp [-ix_l, -ix_t, D, ix, ix2, h0]
    obtain ⟨k1, r, k2⟩ := step_node (s := .chg e.2.2 w) hm rfl (by intro _ _ _ h; cases h)
    have sz := stepped_sz k2
    exact ⟨.chg e.2.2 w, r, rfl, ⟨⟨hw, k1, by show e.2.2.length ≤ 100; omega⟩, by show e.2.2.length ≤ 40; omega⟩, k2, stepped_wf (s := .chg e.2.2 w) hw k2 hwf, by have := sz.2 (by intro _ _ _ h; cases h); omega⟩
  · simp [-ix_l, -ix_t, D, ix, ix2, h0]
    obtain ⟨k1, r, k2⟩ := step_node (s := .drp e.2.2) hm rfl (by intro _ _ _ h; cases h)
    have sz := stepped_sz k2
    exact ⟨.drp e.2.2, r, rfl, ⟨⟨trivial, k1, by show e.2.2.length ≤ 100; omega⟩, by show e.2.2.length ≤ 40; omega⟩, k2, stepped_wf (s := .drp e.2.2) trivial k2 hwf, by have := sz.2 (by intro _ _ _ h; cases h); omega⟩
theorem take_nats (p : List Nat) (n : Nat) : (natsP p).take n = natsP (p.take n) := by simp [natsP, List.map_take]
theorem len_cast (a b : List Nat) : decide ((a.length : Int) = (b.length : Int) + 1) = decide (a.length = b.length + 1) := by
  by_cases h : a.length = b.length + 1
  · have : (a.length : Int) = (b.length : Int) + 1 := by omega
    simp [h, this]
  · have : ¬ (a.length : Int) = (b.length : Int) + 1 := by omega
    simp [h, this]
theorem to_nat {x : Int} {P : Prop} (h : 0 ≤ x) (f : ∀ n : Nat, x = n → P) : P := f x.toNat (Int.toNat_of_nonneg h).symm
theorem step_r (k : Nat) (hk : 60 ≤ k) (s : St) (row : List Tr) (ws : List (List Nat)) (hw : ∀ w ∈ ws, isWordL w) (h1 : 1 ≤ ws.length) (h2 : ws.length ≤ 6) (hwf : wfR row) (hs : szR row ≤ 12) : OkS (prQ (stepQ row)) (callN T (k + 3) 35 [s.d, .pure (.lst (ws.map .str)), .pure (rT row), .pure (.int 12), .pure (.int 8)]) := by
  rw [call_s (T := T) (f := 35) rfl rfl (by simp)]
  have Dr := fun s n h h2 => draw_s k s (n := n) h h2
  have bb := fun s n h h2 => dv_b k s (n := n) h h2
  have L : callN T (k + 2) 29 [.pure (rT row), .pure (.tup [])] = .ok (.ols ((lsR row [] 0).map leP)) [] := by
    have := listed_k (k - 19) row (by omega)
    rwa [show k - 19 + 21 = k + 2 by omega] at this
  have hlz : (lsR row [] 0).length = szR row := lsR_len _ _ _
  have TL := step_tail k row (.lst (ws.map .str))
  unfold b__law_step
  generalize (mSeq (mSet 9 (mOp2 opIx (mOp2 opIx (mV 5) (mCall 22 false [(true, mV 0), (false, mFn fLen [mV 5])])) (mC (.int 2)))) (mSeq (mIf (mTr (mOp2 opEq (mV 7) (mC (.int 0)))) (mRt [0] (mTup [mC (.str [99, 104, 97, 110, 103, 101]), mV 9, mV 6])) (mNx)) (mRt [0] (mTup [mC (.str [100, 114, 111, 112]), mV 9])))) = S at TL ⊢
  have hwl : (0 : Int) < ws.length := by omega
  have D1 := Dr s ws.length hwl (by omega)
  have b1 := bb s ws.length hwl (by omega)
  refine to_nat (x := dv k s ws.length) (by omega) fun n1 hn1 => ?_
  rw [hn1] at D1 b1
  have hn1l : n1 < ws.length := by omega
  have ixw := il_map P.str (l := ws) (n := n1) (t := ws[n1]) (by simp)
  have gw := hw _ (List.getElem_mem hn1l)
  generalize ws[n1] = w at *
  generalize ds k s ws.length = s1 at *
  have D5 := Dr s1 5 (by decide) (by decide)
  generalize dv k s1 5 = kd at *
  generalize ds k s1 5 = s2 at *
  by_cases hc : 1 < kd ∨ (lsR row [] 0).length = 0
  · have hcond : ((1 < kd) ∨ lsR row [] 0 = []) := hc.imp id List.length_eq_zero_iff.mp
    have Di := Dr s2 (((lsR row [] 0).length : Int) + 1) (by omega) (by omega)
    have bi := bb s2 (((lsR row [] 0).length : Int) + 1) (by omega) (by omega)
    refine to_nat (x := dv k s2 (((lsR row [] 0).length : Int) + 1)) (by omega) fun i hi => ?_
    rw [hi] at Di bi
    generalize ds k s2 (((lsR row [] 0).length : Int) + 1) = s3 at *
    have hil : i < ([] :: (lsR row [] 0).map fun e => e.2.2).length := by simp; omega
    have hq : ([] :: (lsR row [] 0).map fun e => e.2.2)[i]'hil ∈ [] :: (lsR row [] 0).map fun e => e.2.2 := List.getElem_mem _
    have ixp := il_map (fun p => P.tup (natsP p)) (l := [] :: (lsR row [] 0).map fun e => e.2.2) (n := i) (t := ([] :: (lsR row [] 0).map fun e => e.2.2)[i]'hil) (by simp)
    obtain ⟨r, hr⟩ := path_row hq
    have hql := path_len hq
    rw [show ([] :: (lsR row [] 0).map fun e => e.2.2).map (fun p => P.tup (natsP p)) = P.tup [] :: (lsR row [] 0).map fun e => .tup (natsP e.2.2) by simp [natsP, Function.comp_def]] at ixp
    generalize ([] :: (lsR row [] 0).map fun e => e.2.2)[i]'hil = q at *
    have kl := kids_len hr
    have hrl := len_sz r
    have hrs := rowAt_sz q row r hr
    have Dc := Dr s3 ((r.length : Int) + 1) (by omega) (by omega)
    have bc := bb s3 ((r.length : Int) + 1) (by omega) (by omega)
    refine to_nat (x := dv k s3 ((r.length : Int) + 1)) (by omega) fun c hcn => ?_
    rw [hcn] at Dc bc
    generalize ds k s3 ((r.length : Int) + 1) = s4 at *
    have Da := Dr s4 ((r.length : Int) - c + 1) (by omega) (by omega)
    have ba := bb s4 ((r.length : Int) - c + 1) (by omega) (by omega)
    refine to_nat (x := dv k s4 ((r.length : Int) - c + 1)) (by omega) fun a han => ?_
    rw [han] at Da ba
    generalize ds k s4 ((r.length : Int) - c + 1) = s5 at *
    obtain ⟨r2, hr2⟩ := step_add (w := w) hr (show a + c ≤ r.length by omega)
    have ok : okSt (.add (q ++ [a]) c w) := ⟨gw, by simp [Stp.p], by simp [Stp.p]; omega⟩
    have ST := stepped_k (k - 38) (.add (q ++ [a]) c w) row ok (by omega) (by simp [Stp.p]; omega)
    rw [show k - 38 + 40 = k + 2 by omega] at ST
    have hr2' : stepped (.add (q ++ [a]) c w) (Stp.add (q ++ [a]) c w).p row = some r2 := hr2
    rw [hr2'] at ST
    have sz2 := (stepped_sz hr2).1
    have WI := within_k (k - 20) r2 (by omega)
    rw [show k - 20 + 22 = k + 2 by omega] at WI
    have A1 : opAdd (.tup (natsP q)) (.tup [.int (a : Int)]) = some (.pure (.tup (natsP (q ++ [a])))) := by rw [add_tup (by simp [natsP_len]; omega), natsP_snoc]
    have hLl : (lsR row [] 0).length ≤ line := by unfold line; omega
    have hLl2 : 1 + (lsR row [] 0).length ≤ line := by unfold line; omega
    have le2 : ∀ e : LE, opIx (leP e) (.int 2) = some (.pure (.tup (natsP e.2.2))) := fun e => it2
    have hrT : P.tup (row.map mT) = rT row := rfl
    have hvp : opIx (Stp.add (q ++ [a]) c w).v (.int 1) = some (.pure (.tup (natsP (q ++ [a])))) := stp_p _
    have hv : P.tup [.str [97, 100, 100], .tup (natsP (q ++ [a])), .int (c : Int), .str w] = (Stp.add (q ++ [a]) c w).v := rfl
    rw [hrT] at ST
    have ST : callN T (k + 2) 30 [.pure (rT row), .pure (.tup (natsP (q ++ [a]))), .pure (Stp.add (q ++ [a]) c w).v] = .ok (.pure (.tup (r2.map mT))) [] := ST
    have hc1 : ∀ e6 : Ev, ∀ e : Ev, e = [some s3.d, some (.pure (.lst (ws.map .str))), some (.pure (rT row)), some (.pure (.int 12)), some (.pure (.int 8)), some (.ols ((lsR row [] 0).map leP)), some (.pure (.str w)), some (.pure (.int kd)), some (.pure (.int i)), none, none, none, none, none] → compF (.nm 10) mYes (mOp2 opIx (mV 10) (mC (.int 2))) [10] (Ct.lock ⟨callN T (k + 2), []⟩ [5]) ((lsR row [] 0).map leP) e = .ok ((lsR row [] 0).map fun e => .tup (natsP e.2.2)) e := by
      intro _ e he
      subst he
      exact comp_mapG leP (fun e => .tup (natsP e.2.2)) (fun e _ => by simp [-ix_t, le2])
    have hc2 : compF (.nm 10) (mAndT (mTr (mOp2 opEq (mFn fLen [mOp2 opIx (mV 10) (mC (.int 2))]) (mOp2 opAdd (mFn fLen [mV 9]) (mC (.int 1))))) (mTr (mOp2 opEq (mSl (mOp2 opIx (mV 10) (mC (.int 2))) none (some (mFn fLen [mV 9]))) (mV 9)))) (mV 10) [10] (Ct.lock ⟨callN T (k + 2), []⟩ [5]) ((lsR row [] 0).map leP) [some s3.d, some (.pure (.lst (ws.map .str))), some (.pure (rT row)), some (.pure (.int 12)), some (.pure (.int 8)), some (.ols ((lsR row [] 0).map leP)), some (.pure (.str w)), some (.pure (.int kd)), some (.pure (.int i)), some (.pure (.tup (natsP q))), none, none, none, none] = .ok (((lsR row [] 0).filter (kid q)).map leP) [some s3.d, some (.pure (.lst (ws.map .str))), some (.pure (rT row)), some (.pure (.int 12)), some (.pure (.int 8)), some (.ols ((lsR row [] 0).map leP)), some (.pure (.str w)), some (.pure (.int kd)), some (.pure (.int i)), some (.pure (.tup (natsP q))), none, none, none, none] := by
      refine comp_filtG leP leP (kid q) (fun e _ => ?_)
      have hsl : slP (.tup (natsP e.2.2)) none (some (q.length : Int)) = some (.pure (.tup (natsP (e.2.2.take q.length)))) := by rw [sl_t, take_nats]
      have hee := eqT_nats (e.2.2.take q.length) q
      have hlc := len_cast e.2.2 q
      unfold kid
      by_cases g1 : e.2.2.length = q.length + 1
      · rw [decide_eq_true g1] at hlc
        have hlc := of_decide_eq_true hlc
        by_cases g2 : e.2.2.take q.length = q
        · rw [decide_eq_true g2] at hee
          have hqq := eqT_nats q q
          rw [decide_eq_true rfl] at hqq
          simp [-ix_t, le2, natsP_len, hlc, mPart, hsl, hqq, g1, g2]
        · rw [decide_eq_false g2] at hee
          simp [-ix_t, le2, natsP_len, hlc, mPart, hsl, hee, g1, g2]
      · rw [decide_eq_false g1] at hlc
        have hlc := of_decide_eq_false hlc
        simp [-ix_t, le2, natsP_len, hlc, g1]
    have kl' : ((lsR row [] 0).filter (kid q)).length = r.length := kl
    have hA0 := add_ll [P.tup []] ((lsR row [] 0).map fun e => .tup (natsP e.2.2)) (by simp; omega)
    simp only [List.singleton_append] at hA0
    have hkc : kd ≤ 1 → lsR row [] 0 = [] := fun h => hcond.resolve_left (by omega)
    have hTT : (mOrT (mTr (mOp2 (opCmp fun i j => decide (j < i)) (mV 7) (mC (.int 1)))) (mTr (mOp2 opEq (mFn fLen [mV 5]) (mC (.int 0))))) ⟨callN T (k + 2), []⟩ [some s2.d, some (.pure (.lst (ws.map .str))), some (.pure (rT row)), some (.pure (.int 12)), some (.pure (.int 8)), some (.ols ((lsR row [] 0).map leP)), some (.pure (.str w)), some (.pure (.int kd)), none, none, none, none, none, none] = .ok true [some s2.d, some (.pure (.lst (ws.map .str))), some (.pure (rT row)), some (.pure (.int 12)), some (.pure (.int 8)), some (.ols ((lsR row [] 0).map leP)), some (.pure (.str w)), some (.pure (.int kd)), none, none, none, none, none, none] := by
      by_cases hk1 : 1 < kd
      · simp [hk1]
      · have h0 := hkc (by omega)
        simp [hk1, h0]
    generalize (mOrT (mTr (mOp2 (opCmp fun i j => decide (j < i)) (mV 7) (mC (.int 1)))) (mTr (mOp2 opEq (mFn fLen [mV 5]) (mC (.int 0))))) = TT at hTT ⊢
    rw [← hv] at ST
    by_cases hB : (decide (szR r2 ≤ 12) && ((lsR r2 [] 0).filter fun e => decide ((8 : Int) < (e.2.2.length : Int))).isEmpty) = true
    · rw [hB] at WI
      simp [-ix_l, -ix_t, -List.map_map, L, D1, ixw, D5, hTT, Di, hLl, hc1 [] _ rfl, hA0, ixp, hc2, kl', Dc, A1, Da, it0, it1, it2, it3, ST, WI]
      have hz : szR r2 ≤ 12 := by
        simp only [Bool.and_eq_true, decide_eq_true_eq] at hB
        exact hB.1
      exact ⟨.add (q ++ [a]) c w, r2, rfl, ⟨ok, by simp [Stp.p]; omega⟩, hr2', stepped_wf (s := .add (q ++ [a]) c w) gw hr2 hwf, hz⟩
    · have hB2 : (decide (szR r2 ≤ 12) && ((lsR r2 [] 0).filter fun e => decide ((8 : Int) < (e.2.2.length : Int))).isEmpty) = false := by simpa using hB
      have hne : lsR row [] 0 ≠ [] := by
        intro h0
        apply hB
        have z0 : szR row = 0 := by rw [← hlz, h0]; rfl
        have z1 : szR r2 ≤ 1 := by omega
        rw [filt_nil (fun e he => by
          have h1 := lsR_plen r2 [] 0 e he
          have h2 := dpR_sz r2
          simp only [List.length_nil] at h1
          rw [decide_eq_false_iff_not]
          omega)]
        simp
        omega
      rw [hB2] at WI
      simp [-ix_l, -ix_t, -List.map_map, L, D1, ixw, D5, hTT, Di, hLl, hc1 [] _ rfl, hA0, ixp, hc2, kl', Dc, A1, Da, it0, it1, it2, it3, ST, WI]
      exact TL w kd _ _ _ _ _ _ _ hwf hs gw hne
  · have hcond : ¬ 1 < kd ∧ lsR row [] 0 ≠ [] := ⟨fun h => hc (.inl h), fun h => hc (.inr (by rw [h]; rfl))⟩
    simp [-ix_l, -ix_t, L, D1, ixw, D5, hcond]
    exact TL w kd _ _ _ _ _ _ _ hwf hs gw hcond.2
end Gbk20
set_option linter.all false
set_option maxRecDepth 100000
/-! V12: scripts there and back; plain. -/
namespace Gr
inductive RunE : List Tr → List Stp → List (List Tr) → List Tr → Prop
  | nil (r : List Tr) : RunE r [] [] r
  | cons {r r1 rf : List Tr} {s : Stp} {ss : List Stp} {rs : List (List Tr)} (h1 : okSt s) (h2 : wfR r) (h3 : szR r ≤ 12) (h4 : stepped s s.p r = some r1) (h : RunE r1 ss rs rf) : RunE r (s :: ss) (r1 :: rs) rf
theorem RunE.snoc {s : Stp} {r1 : List Tr} {row rf : List Tr} {ss : List Stp} {rs : List (List Tr)} (h : RunE row ss rs rf) : okSt s → wfR rf → szR rf ≤ 12 → stepped s s.p rf = some r1 → RunE row (ss ++ [s]) (rs ++ [r1]) r1 := by
  induction h with
  | nil r => exact fun a b c d => .cons a b c d (.nil _)
  | cons h1 h2 h3 h4 h ih => exact fun a b c d => .cons h1 h2 h3 h4 (ih a b c d)
theorem RunE.len {row rf : List Tr} {ss : List Stp} {rs : List (List Tr)} (h : RunE row ss rs rf) : rs.length = ss.length := by
  induction h with
  | nil r => rfl
  | cons h1 h2 h3 h4 h ih => simp [ih]
/-- the first ones alone -/
theorem RunE.take {row rf : List Tr} {ss : List Stp} {rs : List (List Tr)} (h : RunE row ss rs rf) : wfR rf → szR rf ≤ 12 → ∀ n, n ≤ ss.length → ∃ r, (row :: rs)[n]? = some r ∧ RunE row (ss.take n) (rs.take n) r ∧ wfR r ∧ szR r ≤ 12 := by
  induction h with
  | nil r => intro h1 h2 n hn; simp at hn; subst hn; exact ⟨r, rfl, .nil r, h1, h2⟩
  | cons h1 h2 h3 h4 h ih =>
    intro k1 k2 n hn
    rename_i r r1 rf s ss rs
    cases n with
    | zero => exact ⟨r, rfl, .nil r, h2, h3⟩
    | succ n =>
      obtain ⟨r', e1, e2, e3⟩ := ih k1 k2 n (by simpa using hn)
      exact ⟨r', by simpa using e1, by simpa using RunE.cons h1 h2 h3 h4 e2, e3⟩
def totalC (D A : Int) (ch : List Nat → List Nat → Int) : List Tr → List Stp → Int
  | _, [] => 0
  | r, s :: ss => cost D A ch r s + match stepped s s.p r with
    | some r1 => totalC D A ch r1 ss
    | none => 0
def backsC : List Tr → List Stp → List Stp
  | _, [] => []
  | r, s :: ss => backOf r s :: match stepped s s.p r with
    | some r1 => backsC r1 ss
    | none => []
theorem RunE.runC {row rf : List Tr} {ss : List Stp} {rs : List (List Tr)} (h : RunE row ss rs rf) (D A : Int) (ch : List Nat → List Nat → Int) : RunC D A ch row ss (totalC D A ch row ss) (backsC row ss) rf := by
  induction h with
  | nil r => exact .nil r
  | cons h1 h2 h3 h4 h ih =>
    simp only [totalC, backsC, h4]
    exact .cons h1 (by omega) h4 rfl ih
theorem backsC_len {row rf : List Tr} {ss : List Stp} {rs : List (List Tr)} (h : RunE row ss rs rf) : (backsC row ss).length = ss.length := by
  induction h with
  | nil r => rfl
  | cons h1 h2 h3 h4 h ih => simp [backsC, h4, ih]
theorem RunC.app {D A : Int} {ch : List Nat → List Nat → Int} {r1 r2 : List Tr} {ss2 bs2 : List Stp} {c2 : Int} {row : List Tr} {ss1 bs1 : List Stp} {c1 : Int} (h1 : RunC D A ch row ss1 c1 bs1 r1) : RunC D A ch r1 ss2 c2 bs2 r2 → RunC D A ch row (ss1 ++ ss2) (c1 + c2) (bs1 ++ bs2) r2 := by
  induction h1 with
  | nil r => intro h2; simpa using h2
  | cons k1 k2 k3 k4 k ih =>
    intro h2
    have := RunC.cons k1 k2 k3 k4 (ih h2)
    simpa [Int.add_assoc] using this
theorem wfR_at : ∀ (p : List Nat) (row r : List Tr), rowAt p row = some r → wfR row → wfR r
  | [], row, r, h, hw => by simp only [rowAt] at h; cases h; exact hw
  | m :: p, row, r, h, hw => by
    simp only [rowAt] at h
    cases ht : row[m]? with
    | none => rw [ht] at h; cases h
    | some t =>
      rw [ht] at h
      exact wfR_at p t.cs r h (wfT_cs (wfR_all.mp hw t (List.mem_of_getElem? ht)))
theorem okSt_back {s : Stp} {row r : List Tr} (h : okSt s) (hw : wfR row) (hr : stepped s s.p row = some r) : okSt (backOf row s) := by
  refine ⟨?_, by rw [backOf_p]; exact h.2.1, by rw [backOf_p]; exact h.2.2⟩
  cases s with
  | add p c w => exact trivial
  | drp p =>
    obtain ⟨q, n, r0, t, h1, h2, h3, h4⟩ := treeAt_of hr h.2.1 (by intro _ _ _ e; cases e)
    have h4 : treeAt p row = some t := h4
    simp only [backOf, h4]
    exact wfT_w (wfR_all.mp (wfR_at q row r0 h2 hw) t (List.mem_of_getElem? h3))
  | chg p w =>
    obtain ⟨q, n, r0, t, h1, h2, h3, h4⟩ := treeAt_of hr h.2.1 (by intro _ _ _ e; cases e)
    have h4 : treeAt p row = some t := h4
    simp only [backOf, h4]
    exact wfT_w (wfR_all.mp (wfR_at q row r0 h2 hw) t (List.mem_of_getElem? h3))
theorem treeAt_chg {p w : List Nat} {row r : List Tr} (h : stepped (.chg p w) p row = some r) (hp : p ≠ []) : ∃ t, treeAt p r = some t ∧ t.w = w := by
  obtain ⟨q, n, hq⟩ : ∃ q n, p = q ++ [n] := ⟨p.dropLast, p.getLast hp, (List.dropLast_concat_getLast hp).symm⟩
  subst hq
  rw [stepped_snoc] at h
  cases h0 : rowAt q row with
  | none => rw [h0] at h; cases h
  | some r0 =>
    rw [h0] at h
    simp only at h
    cases ht : r0[n]? with
    | none => simp [stepAt, ht] at h
    | some t =>
      simp only [stepAt, ht] at h
      cases h
      have hl := (List.getElem?_eq_some_iff.mp ht).1
      rw [treeAt_snoc, rowAt_with _ q row r0 h0]
      refine ⟨Tr.mk t.i w t.cs, ?_, rfl⟩
      simp only
      rw [List.append_assoc, List.getElem?_append_right (by simp; omega)]
      simp [Nat.min_eq_left (Nat.le_of_lt hl)]
theorem back_run {row rf : List Tr} {ss : List Stp} {rs : List (List Tr)} (h : RunE row ss rs rf) (D A : Int) {ch ch' : List Nat → List Nat → Int} (hch : ∀ a b, ch' b a = ch a b) : ∃ bs, RunC A D ch' rf (backsC row ss).reverse (totalC D A ch row ss) bs row := by
  induction h with
  | nil r => exact ⟨_, .nil r⟩
  | cons h1 h2 h3 h4 h ih =>
    rename_i r r1 rf s ss rs
    obtain ⟨bs, hb⟩ := ih
    obtain ⟨r', k1, k2⟩ := stepped_back h1.2.1 h4
    have ok := okSt_back h1 h2 h4
    have sz := (stepped_sz h4).1
    have k1' : stepped (backOf r s) (backOf r s).p r1 = some r' := by rw [backOf_p]; exact k1
    have hc : cost A D ch' r1 (backOf r s) = cost D A ch r s := by
      cases s with
      | add p c w => rfl
      | drp p =>
        obtain ⟨q, n, r0, t, _, _, _, h4'⟩ := treeAt_of h4 h1.2.1 (by intro _ _ _ e; cases e)
        have h4' : treeAt p r = some t := h4'
        simp only [backOf, h4', cost]
      | chg p w =>
        obtain ⟨q, n, r0, t, _, _, _, h4'⟩ := treeAt_of h4 h1.2.1 (by intro _ _ _ e; cases e)
        have h4' : treeAt p r = some t := h4'
        obtain ⟨t1, e1, e2⟩ := treeAt_chg h4 h1.2.1
        simp only [backOf, h4', cost, e1, e2, hch]
    have one : RunC A D ch' r1 [backOf r s] (cost A D ch' r1 (backOf r s) + 0) (backOf r1 (backOf r s) :: []) r := .cons ok (by omega) k1' k2 (.nil r)
    have := hb.app one
    simp only [totalC, backsC, h4, List.reverse_cons]
    rw [hc] at this
    have e : totalC D A ch r1 ss + (cost D A ch r s + 0) = cost D A ch r s + totalC D A ch r1 ss := by omega
    rw [e] at this
    exact ⟨_, this⟩
/-- beyond the row -/
theorem stepped_beyond {s : Stp} {b : Nat} {ext : List Nat} (hx : ext ≠ [] ∨ ∀ p c w, s ≠ .add p c w) : ∀ (q : List Nat) (row r : List Tr), rowAt q row = some r → r.length ≤ b → stepped s (q ++ b :: ext) row = none
  | [], row, r, h, hb => by
    simp only [rowAt] at h
    cases h
    have hn : row[b]? = none := List.getElem?_eq_none_iff.mpr hb
    cases ext with
    | nil =>
      cases s with
      | add p c w => rcases hx with h | h; exact (h rfl).elim; exact (h _ _ _ rfl).elim
      | chg p w => simp [stepped, stepAt, hn]
      | drp p => simp [stepped, stepAt, hn]
    | cons x ext => rw [List.nil_append, stepped_c2, hn]
  | m :: q, row, r, h, hb => by
    simp only [rowAt] at h
    cases ht : row[m]? with
    | none => rw [ht] at h; cases h
    | some t =>
      rw [ht] at h
      have ih := stepped_beyond hx q t.cs r h hb
      cases hq : q ++ b :: ext with
      | nil => simp at hq
      | cons x y =>
        rw [List.cons_append, hq, stepped_c2, ht]
        rw [hq] at ih
        simp only [ih]
mutual
theorem eqP_pT : ∀ t : Tr, eqP (pT t) (pT t) = true
  | .mk i w cs => by simp [pT, eqP, eqPs, eqP_pR cs]
theorem eqP_pR : ∀ l : List Tr, eqPs (pR l) (pR l) = true
  | [] => rfl
  | t :: l => by simp [pR, eqPs, eqP_pT t, eqP_pR l]
end
mutual
theorem dep_pT : ∀ (t : Tr) (n : Nat), 2 * dpT t ≤ n → (pT t).dep n = true
  | .mk i w cs, n, h => by
    simp only [dpT] at h
    obtain ⟨n, rfl⟩ : ∃ m, n = m + 2 := ⟨n - 2, by omega⟩
    simp only [pT, P.dep, P.deps, Bool.and_true, Bool.true_and]
    exact dep_pR cs n (by omega)
theorem dep_pR : ∀ (l : List Tr) (n : Nat), 2 * dpR l ≤ n → P.deps n (pR l) = true
  | [], _, _ => rfl
  | t :: l, n, h => by
    simp only [dpR] at h
    simp only [pR, P.deps, dep_pT t n (by omega), dep_pR l n (by omega), Bool.and_self]
end
theorem eq_plain (row : List Tr) (h : szR row ≤ 20) : opEq (.tup (row.map pT)) (.tup (row.map pT)) = some (.pure (.bl true)) := by
  have hd : (P.tup (row.map pT)).dep deep = true := by
    rw [← pR_map]
    exact dep_pR row 59 (by have := dpR_sz row; omega)
  simp only [opEq, hd, Bool.and_self, if_true]
  rw [← pR_map]
  simp only [eqP, eqP_pR]
end Gr
set_option linter.all false
set_option maxRecDepth 100000
/-! the law's own run; asked. -/
namespace Gbk20
open Gr
theorem le0 (e : LE) : opIx (leP e) (.int 0) = some (.pure (.int e.1)) := it0
theorem le1 (e : LE) : opIx (leP e) (.int 1) = some (.pure (.str e.2.1)) := it1
theorem le2 (e : LE) : opIx (leP e) (.int 2) = some (.pure (.tup (natsP e.2.2))) := it2
/-- the prices of the nodes at a path -/
theorem inner_s (k : Nat) (p q n : Int) (rows : List Row) (pp w : List Nat) (a L : P) (R : List P) (hL : L = (Stp.chg pp w).v) (A : P) : ∀ (l : List LE) (acc : Int) (x : Sl), ∃ x', forF (.nm 6) (mIf (mTr (mOp2 opEq (mOp2 opIx (mV 6) (mC (.int 2))) (mOp2 opIx (mV 5) (mC (.int 1))))) (mSet 4 (mOp2 opAdd (mV 4) (mCall 31 false [(false, mV 2), (false, mOp2 opIx (mV 6) (mC (.int 1))), (false, mOp2 opIx (mV 5) (mC (.int 2)))]))) (mNx)) ⟨callN T (k + 1), []⟩ (l.map leP)
      [some (.pure a), some (.pure A), some (.pure (priceP p q n rows)), some (.ols R), some (.pure (.int acc)), some (.pure L), x] = .ok .nx [some (.pure a), some (.pure A), some (.pure (priceP p q n rows)), some (.ols R), some (.pure (.int (acc + ((l.filter fun e => decide (e.2.2 = pp)).map fun e => chg n rows e.2.1 w).sum))), some (.pure L), x']
  | [], acc, x => ⟨x, by simp⟩
  | e :: l, acc, x => by
    have C : ∀ u, callN T (k + 1) 31 [.pure (priceP p q n rows), .pure (.str u), .pure (.str w)] = .ok (.pure (.int (chg n rows u w))) [] := fun u => lch_s k (.int p) (.int q) (.tup (rows.map rowP)) n rows u w (.inl rfl)
    have E := eqT_nats e.2.2 pp
    have v1 : opIx L (.int 1) = some (.pure (.tup (natsP pp))) := by rw [hL]; exact stp_p _
    have v2 : opIx L (.int 2) = some (.pure (.str w)) := by rw [hL]; exact it2
    by_cases h : e.2.2 = pp
    · have E := eqT_nats pp pp
      rw [decide_eq_true rfl] at E
      obtain ⟨x', hx⟩ := inner_s k p q n rows pp w a L R hL A l (acc + chg n rows e.2.1 w) (some (.pure (leP e)))
      refine ⟨x', ?_⟩
      rw [List.map_cons, forF_s]
      simp [-ix_t, le1, le2, v1, v2, E, C, hx, h, Int.add_assoc]
    · rw [decide_eq_false h] at E
      obtain ⟨x', hx⟩ := inner_s k p q n rows pp w a L R hL A l acc (some (.pure (leP e)))
      refine ⟨x', ?_⟩
      rw [List.map_cons, forF_s]
      simp [-ix_t, le1, le2, v1, v2, E, C, hx, h]
theorem run_loop2 (k : Nat) (p q n : Int) (rows : List Row) (A : P) {row rf : List Tr} {ss : List Stp} {rs : List (List Tr)} (h : RunE row ss rs rf) : ∀ (pre : List (List Tr)) (acc : Int) (x y : Sl), pre.length + ss.length ≤ 1000 → (∀ s ∈ ss, s.p.length ≤ 40) → ∃ x' y', forF (.nm 5) (mSeq (mIf (mTr (mOp2 opEq (mOp2 opIx (mV 5) (mC (.int 0))) (mC (.str [100, 114, 111, 112])))) (mSet 4 (mOp2 opAdd (mV 4) (mOp2 opIx (mV 2) (mC (.int 0))))) (mIf (mTr (mOp2 opEq (mOp2 opIx (mV 5) (mC (.int 0))) (mC (.str [97, 100, 100])))) (mSet 4 (mOp2 opAdd (mV 4) (mOp2 opIx (mV 2) (mC (.int 1))))) (mFor (.nm 6) (iVal (mCall 29 false [(false, mV 0), (false, mTup [])])) (mIf (mTr (mOp2 opEq (mOp2 opIx (mV 6) (mC (.int 2))) (mOp2 opIx (mV 5) (mC (.int 1))))) (mSet 4 (mOp2 opAdd (mV 4) (mCall 31 false [(false, mV 2), (false, mOp2 opIx (mV 6) (mC (.int 1))), (false, mOp2 opIx (mV 5) (mC (.int 2)))]))) (mNx))))) (mSeq (mSet 0 (mCall 30 false [(false, mV 0), (false, mOp2 opIx (mV 5) (mC (.int 1))), (false, mV 5)])) (mEx (mApp 3 (mV 0))))) ⟨callN T (k + 62), []⟩ (ss.map Stp.v)
      [some (.pure (rT row)), some (.pure A), some (.pure (priceP p q n rows)), some (.ols (pre.map rT)), some (.pure (.int acc)), x, y] = .ok .nx [some (.pure (rT rf)), some (.pure A), some (.pure (priceP p q n rows)), some (.ols ((pre ++ rs).map rT)), some (.pure (.int (acc + totalC p q (chg n rows) row ss))), x', y'] := by
  have x0 : opIx (priceP p q n rows) (.int 0) = some (.pure (.int p)) := it0
  have x1 : opIx (priceP p q n rows) (.int 1) = some (.pure (.int q)) := it1
  induction h with
  | nil r =>
    intro pre acc x y _ _
    exact ⟨x, y, by simp [totalC]⟩
  | cons h1 h2 h3 h4 h ih =>
    intro pre acc x y hl hpl
    rename_i r r1 rf s ss rs
    simp at hl
    have hlen : pre.length < line := by unfold line; omega
    have ST : callN T (k + 62) 30 [.pure (rT r), .pure (.tup (natsP s.p)), .pure s.v] = .ok (.pure (optP (stepped s s.p r))) [] := by
      have := stepped_k (k + 22) s r h1 (by omega) (hpl s (by simp))
      exact this
    rw [h4] at ST
    have L : callN T (k + 62) 29 [.pure (rT r), .pure (.tup [])] = .ok (.ols ((lsR r [] 0).map leP)) [] := listed_k (k + 41) r (by omega)
    have sp := stp_p s
    have ST : callN T (k + 62) 30 [.pure (rT r), .pure (.tup (natsP s.p)), .pure s.v] = .ok (.pure (rT r1)) [] := ST
    have fin : ∀ (d : Int) (y1 : Sl), ∃ x' y', forF (.nm 5) (mSeq (mIf (mTr (mOp2 opEq (mOp2 opIx (mV 5) (mC (.int 0))) (mC (.str [100, 114, 111, 112])))) (mSet 4 (mOp2 opAdd (mV 4) (mOp2 opIx (mV 2) (mC (.int 0))))) (mIf (mTr (mOp2 opEq (mOp2 opIx (mV 5) (mC (.int 0))) (mC (.str [97, 100, 100])))) (mSet 4 (mOp2 opAdd (mV 4) (mOp2 opIx (mV 2) (mC (.int 1))))) (mFor (.nm 6) (iVal (mCall 29 false [(false, mV 0), (false, mTup [])])) (mIf (mTr (mOp2 opEq (mOp2 opIx (mV 6) (mC (.int 2))) (mOp2 opIx (mV 5) (mC (.int 1))))) (mSet 4 (mOp2 opAdd (mV 4) (mCall 31 false [(false, mV 2), (false, mOp2 opIx (mV 6) (mC (.int 1))), (false, mOp2 opIx (mV 5) (mC (.int 2)))]))) (mNx))))) (mSeq (mSet 0 (mCall 30 false [(false, mV 0), (false, mOp2 opIx (mV 5) (mC (.int 1))), (false, mV 5)])) (mEx (mApp 3 (mV 0))))) ⟨callN T (k + 62), []⟩ (ss.map Stp.v) [some (.pure (rT r1)), some (.pure A), some (.pure (priceP p q n rows)), some (.ols (pre.map rT ++ [rT r1])), some (.pure (.int (acc + d))), some (.pure s.v), y1] = .ok .nx [some (.pure (rT rf)), some (.pure A), some (.pure (priceP p q n rows)), some (.ols ((pre ++ r1 :: rs).map rT)), some (.pure (.int (acc + (d + totalC p q (chg n rows) r1 ss)))), x', y'] := fun d y1 => by
      obtain ⟨x', y', hx⟩ := ih (pre ++ [r1]) (acc + d) (some (.pure s.v)) y1 (by simp; omega) (fun z hz => hpl z (by simp [hz]))
      refine ⟨x', y', ?_⟩
      simpa [Int.add_assoc] using hx
    simp only [totalC, h4]
    rw [List.map_cons, forF_s]
    cases s with
    | drp pp =>
      obtain ⟨x', y', hx⟩ := fin p y
      refine ⟨x', y', ?_⟩
      simp only [Stp.v, sAd, sDr, sCh, Stp.p] at ST hx sp ⊢
      simp [-ix_t, it0, it1, sp, x0, ST, hlen, cost]
      simpa using hx
    | add pp c w =>
      obtain ⟨x', y', hx⟩ := fin q y
      refine ⟨x', y', ?_⟩
      simp only [Stp.v, sAd, sDr, sCh, Stp.p] at ST hx sp ⊢
      simp [-ix_t, it0, it1, sp, x1, ST, hlen, cost]
      simpa using hx
    | chg pp w =>
      obtain ⟨qq, m, r0, t, e1, e2, e3, e4⟩ := treeAt_of h4 h1.2.1 (by intro _ _ _ e; cases e)
      have e1 : pp = qq ++ [m] := e1
      have e4 : treeAt pp r = some t := e4
      have one := one_at e2 e3
      rw [← e1] at one
      obtain ⟨y1, hi⟩ := inner_s (k + 61) p q n rows pp w (rT r) (Stp.chg pp w).v (pre.map rT) rfl A (lsR r [] 0) acc y
      rw [one] at hi
      obtain ⟨x', y', hx⟩ := fin (chg n rows t.w w) y1
      refine ⟨x', y', ?_⟩
      simp only [Stp.v, sAd, sDr, sCh, Stp.p] at ST hx sp hi ⊢
      simp at hi
      simp [-ix_t, it0, it1, sp, ST, hlen, cost, e4, L, hi]
      simpa using hx
theorem run_s (k : Nat) (p q n : Int) (rows : List Row) {row rf : List Tr} {ss : List Stp} {rs : List (List Tr)} (h : RunE row ss rs rf) (hl : ss.length ≤ 100) (hp : ∀ s ∈ ss, s.p.length ≤ 40) : callN T (k + 63) 36 [.pure (rT row), .pure (.lst (ss.map Stp.v)), .pure (priceP p q n rows)] = .ok (.pure (.tup [.lst ((row :: rs).map rT), .int (totalC p q (chg n rows) row ss)])) [] := by
  rw [call_s (T := T) (f := 36) rfl rfl (by simp)]
  obtain ⟨x', y', hx⟩ := run_loop2 k p q n rows (.lst (ss.map Stp.v)) h [row] 0 none none (by simp; omega) hp
  simp at hx
  simp [b__law_run, hx]
end Gbk20
set_option linter.all false
set_option maxRecDepth 100000
/-! what is no step. -/
namespace Gbk20
open Gr
theorem nopath_r (k : Nat) (s : St) : OkS (prQ fun p => isPathB p = false ∧ fineR p ∧ alk 2 p) (callN T (k + 3) 37 [s.d]) := by
  rw [call_s (T := T) (f := 37) rfl rfl (by simp)]
  have D := draw_s k s (n := 11) (by decide) (by decide)
  obtain ⟨p, hp, e3⟩ := ix_dv k s (xs := [P.tup [], .tup [.int (-1)], .tup [.bl true], .lst [.int 0], .str [48], .non, .int 0, .tup [.int 0, .int (-1)], .tup [.str [48]], .tup [.tup [.int 0]], .tup [.int 0, .bl false]]) (n := 11) (by decide) (by decide) rfl
  simp [-ix_l, b__law_no_path, opNeg, D, e3]
  simp at hp
  rcases hp with rfl | rfl | rfl | rfl | rfl | rfl | rfl | rfl | rfl | rfl | rfl
  · exact ⟨rfl, fr_tup (by simp), by simp [alk]⟩
  · exact ⟨rfl, fr_tup (by simp), by simp [alk, line]⟩
  · exact ⟨rfl, fr_tup (by simp), by simp [alk, line]⟩
  · exact ⟨rfl, fr_of trivial (by simp), by simp [alk, line]⟩
  · exact ⟨rfl, fr_str (by simp), by simp [alk]⟩
  · exact ⟨rfl, fr_of trivial (by simp), by simp [alk]⟩
  · exact ⟨rfl, fr_of trivial (by simp), by simp [alk]⟩
  · exact ⟨rfl, fr_tup (by simp), by simp [alk, line]⟩
  · exact ⟨rfl, fr_tup (by simp [fp_str]), by simp [alk, line]⟩
  · exact ⟨rfl, fr_tup (by simp), by simp [alk, line]⟩
  · exact ⟨rfl, fr_tup (by simp), by simp [alk, line]⟩
theorem noword_r (k : Nat) (s : St) : OkS (prQ fun p => isWd p = false ∧ fineR p ∧ alk 1 p) (callN T (k + 3) 38 [s.d]) := by
  rw [call_s (T := T) (f := 38) rfl rfl (by simp)]
  have D := draw_s k s (n := 11) (by decide) (by decide)
  obtain ⟨p, hp, e3⟩ := ix_dv k s (xs := [P.str [], .str [65], .str [97, 66], .str [97, 49], .str [97, 98, 99, 100, 101, 102, 103, 104, 105], .str [97, 32, 98], .int 5, .non, .bl true, .tup [.str [97]], .str [97, 44]]) (n := 11) (by decide) (by decide) rfl
  simp [-ix_l, b__law_no_word, D, e3]
  simp at hp
  rcases hp with rfl | rfl | rfl | rfl | rfl | rfl | rfl | rfl | rfl | rfl | rfl
  · exact ⟨rfl, fr_str (by simp), by simp [alk]⟩
  · exact ⟨by decide, fr_str (by simp), by simp [alk]⟩
  · exact ⟨by decide, fr_str (by simp), by simp [alk]⟩
  · exact ⟨by decide, fr_str (by simp), by simp [alk]⟩
  · exact ⟨by decide, fr_str (by simp), by simp [alk]⟩
  · exact ⟨by decide, fr_str (by simp), by simp [alk]⟩
  · exact ⟨rfl, fr_of trivial (by simp), by simp [alk]⟩
  · exact ⟨rfl, fr_of trivial (by simp), by simp [alk]⟩
  · exact ⟨rfl, fr_of trivial (by simp), by simp [alk]⟩
  · exact ⟨rfl, fr_tup (by simp [fp_str]), by simp [alk, line]⟩
  · exact ⟨by decide, fr_str (by simp), by simp [alk]⟩
def noS (v : P) : Prop := isStepB v = false ∧ fineS v ∧ alk 3 v
theorem z0 : fineR (.tup [.int 0]) := fr_tup (by simp)
theorem alk_str {n : Nat} {s : List Nat} : alk n (.str s) := by cases n <;> simp [alk]
theorem alk_non {n : Nat} : alk n .non := by cases n <;> simp [alk]
theorem alk_bl {n : Nat} {b : Bool} : alk n (.bl b) := by cases n <;> simp [alk]
theorem az0 {n : Nat} : alk (n + 1) (.tup [.int 0]) := alk_tup (by simp) (by simp [alk_int])
theorem noS_tup {xs : List P} (h : isStepB (.tup xs) = false) (hl : xs.length ≤ 1000) (h2 : ∀ x ∈ xs, fineR x ∧ alk 2 x) : noS (.tup xs) := ⟨h, fs_tup fun x hx => (h2 x hx).1, alk_tup hl fun x hx => (h2 x hx).2⟩
theorem al1 {x : P} (h : alk 1 x) : alk 2 x := alk_mono h (by omega)
theorem nostep_r (k : Nat) (s : St) (w : List Nat) (hw : isWordL w) : OkS (prQ noS) (callN T (k + 4) 39 [s.d, .pure (.str w)]) := by
  rw [call_s (T := T) (f := 39) rfl rfl (by simp)]
  have Dr := fun s n h h2 => draw_s (k + 1) s (n := n) h h2
  have b := dv_b (k + 1) s (n := 10) (by decide) (by decide)
  have D10 := Dr s 10 (by decide) (by decide)
  generalize dv (k + 1) s 10 = kd at *
  generalize ds (k + 1) s 10 = s1 at *
  obtain ⟨pp, s2, P1, P2, P3, P4⟩ := okS_p (nopath_r k s1)
  obtain ⟨bw, s3, W1, W2, W3, W4⟩ := okS_p (noword_r k s1)
  have fw : fineR (.str w) ∧ alk 2 (.str w) := ⟨fr_word hw, alk_str⟩
  have f0 : fineR (.tup [.int 0]) ∧ alk 2 (.tup [.int 0]) := ⟨z0, az0⟩
  have fi : ∀ i : Int, fineR (.int i) ∧ alk 2 (.int i) := fun i => ⟨fr_int, alk_int⟩
  have fs : ∀ l : List Nat, l.length < 1000 → fineR (.str l) ∧ alk 2 (.str l) := fun l h => ⟨fr_str h, alk_str⟩
  have fp : fineR pp ∧ alk 2 pp := ⟨P3, P4⟩
  have fb : fineR bw ∧ alk 2 bw := ⟨W3, al1 W4⟩
  have ip0 : isPathB (.tup [.int 0]) = true := rfl
  have hk : kd = 0 ∨ kd = 1 ∨ kd = 2 ∨ kd = 3 ∨ kd = 4 ∨ kd = 5 ∨ kd = 6 ∨ kd = 7 ∨ kd = 8 ∨ kd = 9 := by omega
  rcases hk with rfl | rfl | rfl | rfl | rfl | rfl | rfl | rfl | rfl | rfl
  · simp [b__law_no_step, D10, P1]
    exact noS_tup (by simp [isStepB, P2]) (by simp) (by simp only [List.mem_cons, List.not_mem_nil, or_false, forall_eq_or_imp, forall_eq]; exact ⟨fs _ (by decide), fp, fw⟩)
  · simp [b__law_no_step, D10, P1]
    exact noS_tup (by simp [isStepB, P2]) (by simp) (by simp only [List.mem_cons, List.not_mem_nil, or_false, forall_eq_or_imp, forall_eq]; exact ⟨fs _ (by decide), fp⟩)
  · simp [b__law_no_step, D10, P1]
    exact noS_tup (by simp [isStepB, P2]) (by simp) (by simp only [List.mem_cons, List.not_mem_nil, or_false, forall_eq_or_imp, forall_eq]; exact ⟨fs _ (by decide), fp, fi _, fw⟩)
  · simp [b__law_no_step, D10, W1]
    exact noS_tup (by simp [isStepB, W2, sCh, sAd]) (by simp) (by simp only [List.mem_cons, List.not_mem_nil, or_false, forall_eq_or_imp, forall_eq]; exact ⟨fs _ (by decide), f0, fb⟩)
  · simp [b__law_no_step, D10, W1]
    exact noS_tup (by simp [isStepB, W2, sCh, sAd]) (by simp) (by simp only [List.mem_cons, List.not_mem_nil, or_false, forall_eq_or_imp, forall_eq]; exact ⟨fs _ (by decide), f0, fi _, fb⟩)
  · obtain ⟨x, hx, e3⟩ := ix_dv (k + 1) s1 (xs := [P.int (-1), .bl true, .bl false, .str [49], .non, .tup [.int 1]]) (n := 6) (by decide) (by decide) rfl
    have hx2 : isCnt x = false ∧ fineR x ∧ alk 2 x := by
      simp at hx
      rcases hx with rfl | rfl | rfl | rfl | rfl | rfl
      · exact ⟨rfl, fr_int, alk_int⟩
      · exact ⟨rfl, fr_of trivial (by simp), alk_bl⟩
      · exact ⟨rfl, fr_of trivial (by simp), alk_bl⟩
      · exact ⟨rfl, fr_str (by simp), alk_str⟩
      · exact ⟨rfl, fr_of trivial (by simp), alk_non⟩
      · exact ⟨rfl, fr_tup (by simp), alk_tup (by simp) (by simp [alk_int])⟩
    simp [-ix_l, b__law_no_step, D10, opNeg, Dr, e3]
    exact noS_tup (by simp [isStepB, hx2.1, sCh, sAd]) (by simp) (by simp only [List.mem_cons, List.not_mem_nil, or_false, forall_eq_or_imp, forall_eq]; exact ⟨fs _ (by decide), f0, hx2.2, fw⟩)
  · obtain ⟨x, hx, e3⟩ := ix_dv (k + 1) s1 (xs := [P.tup [], .tup [.str [100, 114, 111, 112]], .tup [.str [99, 104, 97, 110, 103, 101], .tup [.int 0]], .tup [.str [97, 100, 100], .tup [.int 0], .int 0], .tup [.int 0], .tup [.tup [.int 0], .str [100, 114, 111, 112]]]) (n := 6) (by decide) (by decide) rfl
    simp [-ix_l, b__law_no_step, D10, Dr, e3]
    simp at hx
    rcases hx with rfl | rfl | rfl | rfl | rfl | rfl
    · exact noS_tup rfl (by simp) (by simp)
    · exact noS_tup rfl (by simp) (by simp only [List.mem_cons, List.not_mem_nil, or_false, forall_eq_or_imp, forall_eq]; exact fs _ (by decide))
    · exact noS_tup (by decide) (by simp) (by simp only [List.mem_cons, List.not_mem_nil, or_false, forall_eq_or_imp, forall_eq]; exact ⟨fs _ (by decide), f0⟩)
    · exact noS_tup (by decide) (by simp) (by simp only [List.mem_cons, List.not_mem_nil, or_false, forall_eq_or_imp, forall_eq]; exact ⟨fs _ (by decide), f0, fi _⟩)
    · exact noS_tup rfl (by simp) (by simp only [List.mem_cons, List.not_mem_nil, or_false, forall_eq_or_imp, forall_eq]; exact fi _)
    · exact noS_tup rfl (by simp) (by simp only [List.mem_cons, List.not_mem_nil, or_false, forall_eq_or_imp, forall_eq]; exact ⟨f0, fs _ (by decide)⟩)
  · obtain ⟨x, hx, e3⟩ := ix_dv (k + 1) s1 (xs := [P.tup [.str [100, 114, 111, 112], .tup [.int 0], .str w], .tup [.str [99, 104, 97, 110, 103, 101], .tup [.int 0], .str w, .str w], .tup [.str [97, 100, 100], .tup [.int 0], .int 0, .str w, .int 0]]) (n := 3) (by decide) (by decide) rfl
    simp [-ix_l, b__law_no_step, D10, Dr, e3]
    simp at hx
    rcases hx with rfl | rfl | rfl
    · exact noS_tup (by simp [isStepB, sCh, sAd]) (by simp) (by simp only [List.mem_cons, List.not_mem_nil, or_false, forall_eq_or_imp, forall_eq]; exact ⟨fs _ (by decide), f0, fw⟩)
    · exact noS_tup (by simp [isStepB, sCh, sAd]) (by simp) (by simp only [List.mem_cons, List.not_mem_nil, or_false, forall_eq_or_imp, forall_eq]; exact ⟨fs _ (by decide), f0, fw, fw⟩)
    · exact noS_tup (by simp [isStepB, sCh, sAd]) (by simp) (by simp only [List.mem_cons, List.not_mem_nil, or_false, forall_eq_or_imp, forall_eq]; exact ⟨fs _ (by decide), f0, fi _, fw, fi _⟩)
  · obtain ⟨x, hx, e3⟩ := ix_dv (k + 1) s1 (xs := [P.str [109, 111, 118, 101], .str [68, 114, 111, 112], .str [], .str (w ++ [120]), .non, .int 0]) (n := 6) (by decide) (by decide) rfl
    have ha : opAdd (.str w) (.str [120]) = some (.pure (.str (w ++ [120]))) := add_str (by have := hw.2.1; simp; omega)
    simp [-ix_l, b__law_no_step, D10, Dr, ha, e3]
    have hne : w ++ [120] ≠ sCh := fun h => by
      have := congrArg List.getLast? h
      simp [sCh] at this
    have hx2 : (∀ r, x = .str r → r ≠ sCh) ∧ fineR x ∧ alk 2 x := by
      simp at hx
      rcases hx with rfl | rfl | rfl | rfl | rfl | rfl
      · exact ⟨fun r h => by cases h; decide, fs _ (by decide)⟩
      · exact ⟨fun r h => by cases h; decide, fs _ (by decide)⟩
      · exact ⟨fun r h => by cases h; decide, fs _ (by decide)⟩
      · exact ⟨fun r h => by cases h; exact hne, fs _ (by have := hw.2.1; simp; omega)⟩
      · exact ⟨fun r h => (by cases h), fr_of trivial (by simp), alk_non⟩
      · exact ⟨fun r h => (by cases h), fi _⟩
    have hst : isStepB (.tup [x, .tup [.int 0], .str w]) = false := by
      cases x with
      | str r =>
        have := hx2.1 r rfl
        simp only [isStepB]
        rw [if_neg this]
        by_cases h : r = sAd <;> simp [h]
      | _ => rfl
    exact noS_tup hst (by simp) (by simp only [List.mem_cons, List.not_mem_nil, or_false, forall_eq_or_imp, forall_eq]; exact ⟨hx2.2, f0, fw⟩)
  · obtain ⟨x, hx, e3⟩ := ix_dv (k + 1) s1 (xs := [P.str [109, 111, 118, 101], .str [99, 104, 97, 110, 103, 101, 115], .str [97, 100, 100, 32]]) (n := 3) (by decide) (by decide) rfl
    simp [-ix_l, b__law_no_step, D10, Dr, e3]
    simp at hx
    rcases hx with rfl | rfl | rfl
    · exact noS_tup (by simp [isStepB, sCh, sAd]) (by simp) (by simp only [List.mem_cons, List.not_mem_nil, or_false, forall_eq_or_imp, forall_eq]; exact ⟨fs _ (by decide), f0, fi _, fw⟩)
    · exact noS_tup (by simp [isStepB, sCh, sAd]) (by simp) (by simp only [List.mem_cons, List.not_mem_nil, or_false, forall_eq_or_imp, forall_eq]; exact ⟨fs _ (by decide), f0, fi _, fw⟩)
    · exact noS_tup (by simp [isStepB, sCh, sAd]) (by simp) (by simp only [List.mem_cons, List.not_mem_nil, or_false, forall_eq_or_imp, forall_eq]; exact ⟨fs _ (by decide), f0, fi _, fw⟩)
def misQ (row : List Tr) (v : P) : Prop := ∃ s, v = Stp.v s ∧ okSt s ∧ stepped s s.p row = none
theorem nats1 (n : Nat) : [P.int (n : Int)] = natsP [n] := rfl
theorem natsP_app (a b : List Nat) : natsP a ++ natsP b = natsP (a ++ b) := by simp [natsP]
theorem misfit_r (k : Nat) (hk : 60 ≤ k) (s : St) (row : List Tr) (ws : List (List Nat)) (hw : ∀ w ∈ ws, isWordL w) (h1 : 1 ≤ ws.length) (h2 : ws.length ≤ 6) (hs : szR row ≤ 12) : OkS (prQ (misQ row)) (callN T (k + 3) 40 [s.d, .pure (.lst (ws.map .str)), .pure (rT row)]) := by
  rw [call_s (T := T) (f := 40) rfl rfl (by simp)]
  have Dr := fun s n h h2 => draw_s k s (n := n) h h2
  have bb := fun s n h h2 => dv_b k s (n := n) h h2
  have L : callN T (k + 2) 29 [.pure (rT row), .pure (.tup [])] = .ok (.ols ((lsR row [] 0).map leP)) [] := by
    have := listed_k (k - 19) row (by omega)
    rwa [show k - 19 + 21 = k + 2 by omega] at this
  have hlz : (lsR row [] 0).length = szR row := lsR_len _ _ _
  have Di := Dr s (((lsR row [] 0).length : Int) + 1) (by omega) (by omega)
  have bi := bb s (((lsR row [] 0).length : Int) + 1) (by omega) (by omega)
  refine to_nat (x := dv k s (((lsR row [] 0).length : Int) + 1)) (by omega) fun i hi => ?_
  rw [hi] at Di bi
  generalize ds k s (((lsR row [] 0).length : Int) + 1) = s3 at *
  have hil : i < ([] :: (lsR row [] 0).map fun e => e.2.2).length := by simp; omega
  have hq : ([] :: (lsR row [] 0).map fun e => e.2.2)[i]'hil ∈ [] :: (lsR row [] 0).map fun e => e.2.2 := List.getElem_mem _
  have ixp := il_map (fun p => P.tup (natsP p)) (l := [] :: (lsR row [] 0).map fun e => e.2.2) (n := i) (t := ([] :: (lsR row [] 0).map fun e => e.2.2)[i]'hil) (by simp)
  obtain ⟨r, hr⟩ := path_row hq
  have hql := path_len hq
  rw [show ([] :: (lsR row [] 0).map fun e => e.2.2).map (fun p => P.tup (natsP p)) = P.tup [] :: (lsR row [] 0).map fun e => .tup (natsP e.2.2) by simp [natsP, Function.comp_def]] at ixp
  generalize ([] :: (lsR row [] 0).map fun e => e.2.2)[i]'hil = q at *
  have kl := kids_len hr
  have hrl := len_sz r
  have hrs := rowAt_sz q row r hr
  have hwl : (0 : Int) < ws.length := by omega
  have D1 := Dr s3 ws.length hwl (by omega)
  have b1 := bb s3 ws.length hwl (by omega)
  refine to_nat (x := dv k s3 ws.length) (by omega) fun n1 hn1 => ?_
  rw [hn1] at D1 b1
  have hn1l : n1 < ws.length := by omega
  have ixw := il_map P.str (l := ws) (n := n1) (t := ws[n1]) (by simp)
  have gw := hw _ (List.getElem_mem hn1l)
  generalize ws[n1] = w at *
  generalize ds k s3 ws.length = s4 at *
  have D9 := Dr s4 9 (by decide) (by decide)
  have b9 := bb s4 9 (by decide) (by decide)
  obtain ⟨bx, hbx, e5⟩ := ix_dv k (ds k s4 9) (xs := [P.int 0, .int 0, .int 1, .int (dv k s4 9), .int 999999980]) (n := 5) (by decide) (by decide) rfl
  obtain ⟨bn, rfl⟩ : ∃ m : Nat, bx = .int m := by
    simp only [List.mem_cons, List.not_mem_nil, or_false] at hbx
    rcases hbx with rfl | rfl | rfl | rfl | rfl
    · exact ⟨0, rfl⟩
    · exact ⟨0, rfl⟩
    · exact ⟨1, rfl⟩
    · exact ⟨(dv k s4 9).toNat, by rw [Int.toNat_of_nonneg b9.1]⟩
    · exact ⟨999999980, rfl⟩
  have D5 := fun s => Dr s 5 (by decide) (by decide)
  have D4 := fun s => Dr s 4 (by decide) (by decide)
  have D3 := fun s => Dr s 3 (by decide) (by decide)
  have D2 := fun s => Dr s 2 (by decide) (by decide)
  have hLl : (lsR row [] 0).length ≤ line := by unfold line; omega
  have hA0 := add_ll [P.tup []] ((lsR row [] 0).map fun e => .tup (natsP e.2.2)) (by simp; unfold line; omega)
  simp only [List.singleton_append] at hA0
  have hp9 : opPow (.int 10) (.int 9) = some (.pure (.int 1000000000)) := by simp [opPow]
  have hc1 : ∀ e : Ev, e = [some s.d, some (.pure (.lst (ws.map .str))), some (.pure (rT row)), some (.ols ((lsR row [] 0).map leP)), none, none, none, none, none, none, none] → compF (.nm 5) mYes (mOp2 opIx (mV 5) (mC (.int 2))) [5] (Ct.lock ⟨callN T (k + 2), []⟩ [3]) ((lsR row [] 0).map leP) e = .ok ((lsR row [] 0).map fun e => .tup (natsP e.2.2)) e := by
    intro e he
    subst he
    exact comp_mapG leP (fun e => .tup (natsP e.2.2)) (fun e _ => by simp [-ix_t, le2])
  have hc2 : compF (.nm 5) (mAndT (mTr (mOp2 opEq (mFn fLen [mOp2 opIx (mV 5) (mC (.int 2))]) (mOp2 opAdd (mFn fLen [mV 4]) (mC (.int 1))))) (mTr (mOp2 opEq (mSl (mOp2 opIx (mV 5) (mC (.int 2))) none (some (mFn fLen [mV 4]))) (mV 4)))) (mV 5) [5] (Ct.lock ⟨callN T (k + 2), []⟩ [3]) ((lsR row [] 0).map leP) [some s3.d, some (.pure (.lst (ws.map .str))), some (.pure (rT row)), some (.ols ((lsR row [] 0).map leP)), some (.pure (.tup (natsP q))), none, none, none, none, none, none] = .ok (((lsR row [] 0).filter (kid q)).map leP) [some s3.d, some (.pure (.lst (ws.map .str))), some (.pure (rT row)), some (.ols ((lsR row [] 0).map leP)), some (.pure (.tup (natsP q))), none, none, none, none, none, none] := by
    refine comp_filtG leP leP (kid q) (fun e _ => ?_)
    have hsl : slP (.tup (natsP e.2.2)) none (some (q.length : Int)) = some (.pure (.tup (natsP (e.2.2.take q.length)))) := by rw [sl_t, take_nats]
    have hee := eqT_nats (e.2.2.take q.length) q
    have hlc := len_cast e.2.2 q
    unfold kid
    by_cases g1 : e.2.2.length = q.length + 1
    · rw [decide_eq_true g1] at hlc
      have hlc := of_decide_eq_true hlc
      by_cases g2 : e.2.2.take q.length = q
      · have hqq := eqT_nats q q
        rw [decide_eq_true rfl] at hqq
        simp [-ix_t, le2, natsP_len, hlc, mPart, hsl, hqq, g1, g2]
      · rw [decide_eq_false g2] at hee
        simp [-ix_t, le2, natsP_len, hlc, mPart, hsl, hee, g1, g2]
    · rw [decide_eq_false g1] at hlc
      have hlc := of_decide_eq_false hlc
      simp [-ix_t, le2, natsP_len, hlc, g1]
  have hne : ∀ ext : List Nat, q ++ (r.length + bn) :: ext ≠ [] := fun ext h => by simp at h
  have by1 : ∀ (s : Stp) (ext : List Nat), (ext ≠ [] ∨ ∀ p c w, s ≠ .add p c w) → stepped s (q ++ (r.length + bn) :: ext) row = none := fun s ext hx => stepped_beyond hx q row r hr (by omega)
  have hA : ∀ l : List Nat, l.length ≤ 3 → ∀ y : List P, y = natsP l → opAdd (.tup (natsP q)) (.tup y) = some (.pure (.tup (natsP (q ++ l)))) := fun l hl y hy => by
    subst hy
    rw [add_tup (by simp [natsP_len]; omega), natsP_app]
  have b4 := bb (ds k (ds k s4 9) 5) 4 (by decide) (by decide)
  have e4 := D4 (ds k (ds k s4 9) 5)
  generalize dv k (ds k (ds k s4 9) 5) 4 = kd at *
  generalize ds k (ds k (ds k s4 9) 5) 4 = s5 at *
  have hkd : kd = 0 ∨ kd = 1 ∨ kd = 2 ∨ kd = 3 := by omega
  have A1 : opAdd (.tup (natsP q)) (.tup [.int ((r.length : Int) + bn)]) = some (.pure (.tup (natsP (q ++ [r.length + bn])))) := hA [r.length + bn] (by simp) _ (by simp [natsP])
  rcases hkd with rfl | rfl | rfl | rfl
  · simp [-ix_l, -ix_t, -List.map_map, b__law_misfit, L, Di, hLl, hc1 _ rfl, hA0, ixp, hc2, kl, D1, ixw, D9, D5, hp9, e5, e4, A1]
    exact ⟨.chg (q ++ [r.length + bn]) w, rfl, ⟨gw, by simp [Stp.p], by simp [Stp.p]; omega⟩, by1 _ [] (.inr (by intro _ _ _ h; cases h))⟩
  · obtain ⟨y, hy, e6⟩ := ix_dv k s5 (xs := [P.tup [], .tup [.int 0], .tup [.int 0, .int 1]]) (n := 3) (by decide) (by decide) rfl
    obtain ⟨l, rfl, hl⟩ : ∃ l : List Nat, y = .tup (natsP l) ∧ l.length ≤ 3 := by
      simp at hy
      rcases hy with rfl | rfl | rfl
      · exact ⟨[], rfl, by simp⟩
      · exact ⟨[0], rfl, by simp⟩
      · exact ⟨[0, 1], rfl, by simp⟩
    have A2 : opAdd (.tup (natsP (q ++ [r.length + bn]))) (.tup (natsP l)) = some (.pure (.tup (natsP (q ++ [r.length + bn] ++ l)))) := by rw [add_tup (by simp [natsP_len]; omega), natsP_app]
    simp [-ix_l, -ix_t, -List.map_map, -List.append_assoc, b__law_misfit, L, Di, hLl, hc1 _ rfl, hA0, ixp, hc2, kl, D1, ixw, D9, D5, D3, hp9, e5, e4, A1, e6, A2]
    exact ⟨.drp (q ++ [r.length + bn] ++ l), rfl, ⟨trivial, by simp [Stp.p], by simp [Stp.p]; omega⟩, by
      have := by1 (.drp (q ++ [r.length + bn] ++ l)) l (.inr (by intro _ _ _ h; cases h))
      simpa [Stp.p] using this⟩
  · have b2 := bb s5 2 (by decide) (by decide)
    have f2 := D2 s5
    refine to_nat (x := dv k s5 2) (by omega) fun a ha => ?_
    rw [ha] at f2
    generalize ds k s5 2 = s6 at *
    have b2' := bb s6 2 (by decide) (by decide)
    have f2' := D2 s6
    refine to_nat (x := dv k s6 2) (by omega) fun c hc => ?_
    rw [hc] at f2'
    have A3 : opAdd (.tup (natsP q)) (.tup [.int ((r.length : Int) + bn), .int (a : Int)]) = some (.pure (.tup (natsP (q ++ [r.length + bn, a])))) := hA [r.length + bn, a] (by simp) _ (by simp [natsP])
    simp [-ix_l, -ix_t, -List.map_map, -List.append_assoc, b__law_misfit, L, Di, hLl, hc1 _ rfl, hA0, ixp, hc2, kl, D1, ixw, D9, D5, hp9, e5, e4, A3, f2, f2']
    exact ⟨.add (q ++ [r.length + bn, a]) c w, rfl, ⟨gw, by simp [Stp.p], by simp [Stp.p]; omega⟩, by1 _ [a] (.inl (by simp))⟩
  · obtain ⟨y, hy, e6⟩ := ix_dv k s5 (xs := [P.int 0, .int 1, .int (r.length : Int), .int ((r.length : Int) + 1), .int 999999999]) (n := 5) (by decide) (by decide) rfl
    obtain ⟨c, rfl⟩ : ∃ m : Nat, y = .int m := by
      simp at hy
      rcases hy with rfl | rfl | rfl | rfl | rfl
      · exact ⟨0, rfl⟩
      · exact ⟨1, rfl⟩
      · exact ⟨r.length, rfl⟩
      · exact ⟨r.length + 1, by simp⟩
      · exact ⟨999999999, rfl⟩
    have f2 := D2 (ds k s5 5)
    have b2 := bb (ds k s5 5) 2 (by decide) (by decide)
    refine to_nat (x := dv k (ds k s5 5) 2) (by omega) fun a ha => ?_
    rw [ha] at f2
    obtain ⟨m, hm, hm2⟩ : ∃ m : Nat, fMax [.int 0, .int ((r.length : Int) - c + 1)] = some (.pure (.int m)) ∧ (r.length : Int) - c + 1 ≤ m := by
      by_cases h : (r.length : Int) - c + 1 > 0
      · exact ⟨((r.length : Int) - c + 1).toNat, by simp only [fMax]; rw [if_pos h, Int.toNat_of_nonneg (by omega)], by omega⟩
      · exact ⟨0, by simp only [fMax]; rw [if_neg h]; rfl, by omega⟩
    have A4 : opAdd (.tup (natsP q)) (.tup [.int ((m : Int) + a)]) = some (.pure (.tup (natsP (q ++ [m + a])))) := hA [m + a] (by simp) _ (by simp [natsP])
    simp [-ix_l, -ix_t, -List.map_map, -List.append_assoc, b__law_misfit, L, Di, hLl, hc1 _ rfl, hA0, ixp, hc2, kl, D1, ixw, D9, D5, hp9, e5, e4, e6, hm, f2, A4]
    refine ⟨.add (q ++ [m + a]) c w, rfl, ⟨gw, by simp [Stp.p], by simp [Stp.p]; omega⟩, ?_⟩
    show stepped _ (q ++ [m + a]) row = none
    rw [stepped_snoc, hr]
    simp only [stepAt]
    rw [if_pos (by omega)]
end Gbk20
set_option linter.all false
set_option maxRecDepth 100000
/-! V13: isinstance of a caught error, run. -/
namespace Gr
def isG (ok : Nat → Bool) (s : Sl) (e : Ev) : Out Rv := match s with
  | some (.exn c _) => if ok c = true then .ok (.val (.pure (.bl true))) e else .stk
  | _ => .stk
@[simp] theorem r_isX {ok : Nat → Bool} {i : Nat} {c : Ct} {e : Ev} : mIsX ok i c e = isG ok (getS e i) e := (rfl)
@[simp] theorem isG_s {ok : Nat → Bool} {c : Nat} {fs : List (Nat × P)} {e : Ev} : isG ok (some (.exn c fs)) e = if ok c = true then .ok (.val (.pure (.bl true))) e else .stk := (rfl)
end Gr
set_option linter.all false
set_option maxRecDepth 100000
/-! k20: what is asked, what is refused. -/
namespace Gbk20
open Gr
/-! forests that are none -/
def forB : Nat → P → Bool
  | 0, _ => false
  | n + 1, .tup xs => xs.all fun t => match t with
    | .tup [w, c] => isWd w && forB n c
    | _ => false
  | _ + 1, _ => false
def okF : Nat → P → Prop
  | 0, _ => False
  | n + 1, v => fineP v ∧ ∀ xs, v = .tup xs → ∀ t ∈ xs, fineP t ∧ ∀ w c, t = .tup [w, c] → fineP w ∧ okF n c
theorem forest_s : ∀ (n k : Nat) (v : P), okF n v → callN T (k + n + 1) 8 [.pure v] = .ok (.pure (.bl (forB n v))) []
  | 0, _, _, h => by simp [okF] at h
  | n + 1, k, v, h => by
    rw [call_s (T := T) (f := 8) rfl rfl (by simp)]
    obtain ⟨hf, h2⟩ := h
    cases v with
    | inp ns => exact hf.elim
    | tup xs =>
      have h2 := h2 xs rfl
      simp [b_is_forest_value, isiP, isOne]
      generalize hF : forF _ _ _ _ _ = o
      have key : TstR (.pure (.bl false)) (xs.all fun t => match t with
          | .tup [w, c] => isWd w && forB n c
          | _ => false) (fun e => ∃ x, e = [some (.pure (.tup xs)), x]) (fun e => e.length = 2) o := by
        subst hF
        refine for_tstR _ _ _ ⟨_, rfl⟩ fun x hx e i => ?_
        obtain ⟨y, rfl⟩ := i
        obtain ⟨g1, g2⟩ := h2 x hx
        have hz := size_s (k + n) 2 g1
        rw [show k + n + 1 = k + (n + 1) by omega] at hz
        cases x with
        | tup ys =>
          rcases ys with _ | ⟨w, _ | ⟨c, _ | ⟨z, ys⟩⟩⟩
          case cons.cons.nil =>
            obtain ⟨g3, g4⟩ := g2 w c rfl
            have hw := word_t (k + n) g3
            rw [show k + n + 1 = k + (n + 1) by omega] at hw
            simp [szP] at hz
            cases hww : isWd w
            · simp [-ix_t, it0, it1, hz, hw, hww]
            · have ih := forest_s n k c g4
              rw [show k + n + 1 = k + (n + 1) by omega] at ih
              cases hfc : forB n c
              · simp [-ix_t, it0, it1, hz, hw, hww, ih, hfc]
              · simp [-ix_t, it0, it1, hz, hw, hww, ih, hfc]
          all_goals
            simp [szP] at hz
            simp [hz]
        | _ =>
          simp [szP] at hz
          simp [hz]
      have he : forB (n + 1) (.tup xs) = (xs.all fun t => match t with
          | .tup [w, c] => isWd w && forB n c
          | _ => false) := rfl
      rw [he]
      generalize (xs.all fun t => match t with
          | .tup [w, c] => isWd w && forB n c
          | _ => false) = B at *
      cases B
      · obtain ⟨e, rfl, he⟩ := key.2 rfl
        simp [ws_all [false] e rfl (by rw [he]; decide)]
      · obtain ⟨e, rfl, x, rfl⟩ := key.1 rfl
        simp
    | _ => simp [b_is_forest_value, isiP, isOne, forB]
def noF (v : P) : Prop := okF 4 v ∧ forB 4 v = false ∧ alk 6 v
theorem needf_f (k : Nat) {v : P} (h : noF v) : callN T (k + 104) 9 [.pure v] = .rs 1 [(0, v)] [] := by
  rw [call_s (T := T) (f := 9) rfl rfl (by simp)]
  have F := forest_s 4 (k + 98) v h.1
  simp [b_need_forest, F, h.2.1]
theorem noforest_r (k : Nat) (s : St) (w : List Nat) (hw : isWordL w) : OkS (prQ noF) (callN T (k + 4) 43 [s.d, .pure (.str w)]) := by
  rw [call_s (T := T) (f := 43) rfl rfl (by simp)]
  obtain ⟨bw, s3, W1, W2, W3, W4⟩ := okS_p (noword_r k s)
  have Dr := draw_s (k + 1) s3 (n := 14) (by decide) (by decide)
  obtain ⟨x, hx, e3⟩ := ix_dv (k + 1) s3 (xs := [.tup [.tup [.str w]], .lst [.tup [.str w, .tup []]], .tup [.str w, .tup []], .non, .int 5, .str w, .bl true, .tup [.tup [.str w, .lst []]], .tup [.tup [.str w, .tup [], .tup []]], .tup [.tup [bw, .tup []]], .tup [.tup [.str w, .tup [.tup [bw, .tup []]]]], .tup [.tup [.str w, .tup []], .non], .lst [], .tup [.tup [.str w, .non]]]) (n := 14) (by decide) (by decide) rfl
  have hl : (10 : Nat) + 4 ≤ line := by decide
  have hA : opAdd (.lst [.tup [.tup [.str w]], .lst [.tup [.str w, .tup []]], .tup [.str w, .tup []], .non, .int 5, .str w, .bl true, .tup [.tup [.str w, .lst []]], .tup [.tup [.str w, .tup [], .tup []]], .tup [.tup [bw, .tup []]]]) (.lst [.tup [.tup [.str w, .tup [.tup [bw, .tup []]]]], .tup [.tup [.str w, .tup []], .non], .lst [], .tup [.tup [.str w, .non]]]) = some (.ols [.tup [.tup [.str w]], .lst [.tup [.str w, .tup []]], .tup [.str w, .tup []], .non, .int 5, .str w, .bl true, .tup [.tup [.str w, .lst []]], .tup [.tup [.str w, .tup [], .tup []]], .tup [.tup [bw, .tup []]], .tup [.tup [.str w, .tup [.tup [bw, .tup []]]]], .tup [.tup [.str w, .tup []], .non], .lst [], .tup [.tup [.str w, .non]]]) := add_lst (by simp)
  simp [-ix_l, b__law_no_forest, W1, Dr, hA, e3]
  have fw : fineP (.str w) := (fr_word hw).1
  have fb : fineP bw := W3.1
  have ww : isWd (.str w) = true := wd_of hw
  have ab : ∀ n, alk (n + 1) bw := fun n => alk_mono W4 (by omega)
  simp only [List.mem_cons, List.not_mem_nil, or_false] at hx
  rcases hx with rfl | rfl | rfl | rfl | rfl | rfl | rfl | rfl | rfl | rfl | rfl | rfl | rfl | rfl
  all_goals
    refine ⟨?_, ?_, ?_⟩
    · simp [okF, fw, fb]
    · simp [forB, ww, W2]
    · simp [alk, line, ab]
end Gbk20
set_option linter.all false
set_option maxRecDepth 100000
/-! k20: prices that are none; errors of whole scripts; asked. -/
namespace Gbk20
open Gr
def noP (v : P) : Prop := isPr v = false ∧ fineQ v ∧ alk 6 v
theorem row_ab (i : Int) : fineR (.tup [.str [97], .str [98], .int i]) := fr_tup (by simp [fp_str])
theorem noprices_r (k : Nat) (s : St) {p q n : Int} {rows : List Row} (hp : 0 ≤ p) (hq : 0 ≤ q) (hn : 0 ≤ n) (hg : goodT rows) (hl : rows.length ≤ 6) : OkS (prQ noP) (callN T (k + 3) 44 [s.d, .pure (priceP p q n rows)]) := by
  rw [call_s (T := T) (f := 44) rfl rfl (by simp)]
  have Dr := draw_s k s (n := 14) (by decide) (by decide)
  obtain ⟨x, hx, e3⟩ := ix_dv k s (xs := [.lst [.int p, .int q, .int n, .tup (rows.map rowP)], .tup [.int p, .int q, .int n], .tup [.int p, .int q, .int n, .tup (rows.map rowP), .int 0], .non, .int 7, .tup [.int (-1), .int q, .int n, .tup (rows.map rowP)], .tup [.bl true, .int q, .int n, .tup (rows.map rowP)], .tup [.int p, .int q, .int n, .lst (rows.map rowP)], .tup [.int p, .int q, .str [49], .tup (rows.map rowP)], .tup [.int p, .int q, .int n, .tup [.tup [.str [97], .str [97], .int 1]]], .tup [.int p, .int q, .int n, .tup [.tup [.str [97], .str [98], .int 1], .tup [.str [97], .str [98], .int 2]]], .tup [.int p, .int q, .int n, .tup [.tup [.str [97], .str [98], .int (-1)]]], .tup [.int p, .int q, .int n, .tup [.tup [.str [97], .str [66], .int 1]]], .tup [.int p, .int q, .int n, .tup [.tup [.str [97], .str [98]]]]]) (n := 14) (by decide) (by decide) rfl
  unfold priceP
  simp [-ix_l, -ix_t, b__law_no_prices, it3, slP, mPart, cutL, sIxP, add_tup, add_lst, fList, opNeg, Dr, e3]
  have frs : ∀ r ∈ rows.map rowP, fineR r := fun r hr => by
    obtain ⟨q, hq, rfl⟩ := List.mem_map.mp hr
    exact fr_row (hg.1 q hq)
  have fts : fineT (.tup (rows.map rowP)) := ft_rows (by simp; omega) frs
  have ars : ∀ r ∈ rows.map rowP, alk 2 r := fun r hr => by
    obtain ⟨q, hq, rfl⟩ := List.mem_map.mp hr
    exact alk_mono alk_row (by omega)
  have at5 : alk 5 (.tup (rows.map rowP)) := alk_mono (alk_tup (n := 2) (by simp; omega) ars) (by omega)
  have al5 : alk 5 (.lst (rows.map rowP)) := alk_mono (alk_lst (n := 2) (by simp; omega) ars) (by omega)
  have nd : ∀ t : P, areT t = false → isPr (.tup [.int p, .int q, .int n, t]) = false := fun t h => by simp [isPr, h]
  simp only [List.mem_cons, List.not_mem_nil, or_false] at hx
  rcases hx with rfl | rfl | rfl | rfl | rfl | rfl | rfl | rfl | rfl | rfl | rfl | rfl | rfl | rfl
  · exact ⟨rfl, fq_of trivial (by simp), alk_lst (by simp) (by simp [alk_int, at5])⟩
  · exact ⟨rfl, fq_of trivial (by simp), alk_tup (by simp) (by simp [alk_int])⟩
  · exact ⟨rfl, fq_of trivial (by simp), alk_tup (by simp) (by simp [alk_int, at5])⟩
  · exact ⟨rfl, fq_of trivial (by simp), alk_non⟩
  · exact ⟨rfl, fq_of trivial (by simp), alk_int⟩
  · exact ⟨by simp [isPr, isCnt], fq4 trivial trivial trivial fts, alk_tup (by simp) (by simp [alk_int, at5])⟩
  · exact ⟨by simp [isPr, isCnt], fq4 trivial trivial trivial fts, alk_tup (by simp) (by simp [alk_int, alk_bl, at5])⟩
  · exact ⟨nd _ rfl, fq4 trivial trivial trivial (ft_of trivial (by simp)), alk_tup (by simp) (by simp [alk_int, al5])⟩
  · exact ⟨by simp [isPr, isCnt], fq4 trivial trivial (fp_str (by simp)) fts, alk_tup (by simp) (by simp [alk_int, alk_str, at5])⟩
  · exact ⟨nd _ (by decide), fq4 trivial trivial trivial (ft_rows (by simp) (by simp; exact fr_tup (by simp [fp_str]))), alk_tup (by simp) (by simp [alk_int, alk, line])⟩
  · exact ⟨nd _ (by decide), fq4 trivial trivial trivial (ft_rows (by simp) (by simp; exact ⟨row_ab 1, row_ab 2⟩)), alk_tup (by simp) (by simp [alk_int, alk, line])⟩
  · exact ⟨nd _ (by decide), fq4 trivial trivial trivial (ft_rows (by simp) (by simp; exact row_ab (-1))), alk_tup (by simp) (by simp [alk_int, alk, line])⟩
  · exact ⟨nd _ (by decide), fq4 trivial trivial trivial (ft_rows (by simp) (by simp; exact fr_tup (by simp [fp_str]))), alk_tup (by simp) (by simp [alk_int, alk, line])⟩
  · exact ⟨nd _ (by decide), fq4 trivial trivial trivial (ft_rows (by simp) (by simp; exact fr_tup (by simp [fp_str]))), alk_tup (by simp) (by simp [alk_int, alk, line])⟩
/-! the three functions -/
theorem on_o (k : Nat) (row : List Tr) (v w : P) (hw : wfR row) (hs : szR row ≤ 100) (h : callN T (k + 110) 16 [.pure (.tup (row.map pT)), .pure v] = .ok (.pure w) []) : callN T (k + 111) 17 [.pure (.tup (row.map pT)), .pure v] = .ok (.pure w) [] := by
  rw [call_s (T := T) (f := 17) rfl rfl (by simp)]
  have N := needf_t (k + 6) row hs hw
  simp [b_step_on, N, h]
theorem on_e (k : Nat) (row : List Tr) (v : P) (x : Nat) (fs : List (Nat × P)) (hw : wfR row) (hs : szR row ≤ 100) (h : callN T (k + 110) 16 [.pure (.tup (row.map pT)), .pure v] = .rs x fs []) : callN T (k + 111) 17 [.pure (.tup (row.map pT)), .pure v] = .rs x fs [] := by
  rw [call_s (T := T) (f := 17) rfl rfl (by simp)]
  have N := needf_t (k + 6) row hs hw
  simp [b_step_on, N, h]
theorem runs_f (k : Nat) {D A : Int} {ch : List Nat → List Nat → Int} {row rf : List Tr} {ss bs : List Stp} {c : Int} (h : RunC D A ch row ss c bs rf) (hl : ss.length ≤ 1000) (hw : wfR row) (hs : szR row ≤ 100) (v : P) (post : List P) (x : Nat) (fs : List (Nat × P)) (hv : callN T (k + 110) 16 [.pure (.tup (rf.map pT)), .pure v] = .rs x fs []) : callN T (k + 111) 18 [.pure (.tup (row.map pT)), .pure (.lst (ss.map Stp.v ++ v :: post))] = .rs x fs [] := by
  rw [call_s (T := T) (f := 18) rfl rfl (by simp)]
  have N := needf_t (k + 6) row hs hw
  obtain ⟨x', y', hx⟩ := run_loop (tg := .nm 2) (body := (mSet 0 (mCall 16 false [(false, mV 0), (false, mV 2)]))) (c := ⟨callN T (k + 110), []⟩) (fun r _ _ x _ => [some (.pure (.tup (r.map pT))), some (.pure (.lst (ss.map Stp.v ++ v :: post))), x]) (fun r r2 _ _ _ _ e => by rw [e]) (fun r s r1 acc bs x y k1 k2 k3 k4 => by
    have C := checked_s k r s (by omega) k1
    rw [k4] at C
    exact ⟨some (.pure s.v), none, by simp [C]⟩) h 0 [] none none (by simpa using hl)
  have hx := hx (v :: post)
  simp [b_run_steps, N, hx, forF_s, hv]
theorem price_f (k : Nat) {p q n : Int} {rows : List Row} {row rf : List Tr} {ss bs : List Stp} {c : Int} (h : RunC p q (chg n rows) row ss c bs rf) (hl : ss.length ≤ 1000) (hw : wfR row) (hs : szR row ≤ 100) (hq : fineQ (priceP p q n rows)) (hp : isPr (priceP p q n rows) = true) (v : P) (post : List P) (x : Nat) (fs : List (Nat × P)) (hv : callN T (k + 110) 16 [.pure (.tup (rf.map pT)), .pure v] = .rs x fs []) : callN T (k + 111) 20 [.pure (.tup (row.map pT)), .pure (.lst (ss.map Stp.v ++ v :: post)), .pure (priceP p q n rows)] = .rs x fs [] := by
  rw [call_s (T := T) (f := 20) rfl rfl (by simp)]
  have N := needf_t (k + 6) row hs hw
  have M := need_t (k + 104) hq hp
  obtain ⟨x', y', hx⟩ := price_loop k (.lst (ss.map Stp.v ++ v :: post)) h hl
  have hx := hx (v :: post)
  simp [b_steps_price, N, M, hx, forF_s, hv]
theorem pbad (k : Nat) (row : List Tr) (hw : wfR row) (hs : szR row ≤ 100) {v : P} (h : noP v) (L : P) : callN T (k + 111) 20 [.pure (.tup (row.map pT)), .pure L, .pure v] = .rs 2 [(0, v)] [] := by
  rw [call_s (T := T) (f := 20) rfl rfl (by simp)]
  have N := needf_t (k + 6) row hs hw
  have M := need_f (k + 104) h.2.1 h.1
  simp [b_steps_price, N, M]
theorem fbad1 (k : Nat) {v : P} (h : noF v) (L : P) : callN T (k + 111) 18 [.pure v, .pure L] = .rs 1 [(0, v)] [] := by
  rw [call_s (T := T) (f := 18) rfl rfl (by simp)]
  have N := needf_f (k + 6) h
  simp [b_run_steps, N]
theorem fbad2 (k : Nat) {v : P} (h : noF v) (L pr : P) : callN T (k + 111) 20 [.pure v, .pure L, .pure pr] = .rs 1 [(0, v)] [] := by
  rw [call_s (T := T) (f := 20) rfl rfl (by simp)]
  have N := needf_f (k + 6) h
  simp [b_steps_price, N]
/-! asked -/
def ErrK (c f : Nat) (tag : List Nat) : Prop := (c = 1 ∧ f = 0 ∧ tag = [102, 111, 114, 101, 115, 116]) ∨ (c = 2 ∧ f = 0 ∧ tag = [112, 114, 105, 99, 101, 115]) ∨ (c = 3 ∧ f = 0 ∧ tag = [115, 99, 114, 105, 112, 116]) ∨ (c = 4 ∧ f = 1 ∧ tag = [112, 97, 116, 104])
def Conv (r : Res) (due : P) : Prop := r = .ok (.pure due) [] ∨ ∃ c f x tag, r = .rs c [(f, x)] [] ∧ ErrK c f tag ∧ due = .lst [.str tag, x, .bl true]
def whichR (K : Nat) (kd : Int) (a s pr : P) : Res := if kd = 0 ∨ kd = 3 then callN T K 17 [.pure a, .pure s] else if kd = 1 ∨ kd = 4 then callN T K 18 [.pure a, .pure s] else callN T K 20 [.pure a, .pure s, .pure pr]
theorem asked_c (k : Nat) (kd : Int) (hk : 0 ≤ kd ∧ kd ≤ 5) (a s pr due : P) (h : Conv (whichR k kd a s pr) due) : ∃ d, callN T (k + 1) 41 [.pure (.int kd), .pure a, .pure s, .pure pr] = .ok d [] ∧ d.pv = some due := by
  rw [call_s (T := T) (f := 41) rfl rfl (by simp)]
  have hkd : kd = 0 ∨ kd = 1 ∨ kd = 2 ∨ kd = 3 ∨ kd = 4 ∨ kd = 5 := by omega
  rcases h with h | ⟨c, f, x, tag, h, he, rfl⟩
  · rcases hkd with rfl | rfl | rfl | rfl | rfl | rfl <;> (simp [whichR] at h; exact ⟨.pure due, by simp [b__law_asked, h, pick], rfl⟩)
  · refine ⟨.ols [.str tag, x, .bl true], ?_, rfl⟩
    rcases he with ⟨rfl, rfl, rfl⟩ | ⟨rfl, rfl, rfl⟩ | ⟨rfl, rfl, rfl⟩ | ⟨rfl, rfl, rfl⟩ <;> (rcases hkd with rfl | rfl | rfl | rfl | rfl | rfl <;> (simp [whichR] at h; simp [b__law_asked, h, pick, takes, tkT, okC, okT, isC, isVEc]))
end Gbk20
set_option linter.all false
set_option maxRecDepth 100000
/-! k20: the law's ends. -/
namespace Gbk20
open Gr
theorem alk_nats {p : List Nat} (h : p.length ≤ 1000) : alk 1 (.tup (natsP p)) := alk_tup (by rw [natsP_len]; exact h) fun x hx => by
  obtain ⟨n, _, rfl⟩ := List.mem_map.mp hx
  exact alk_int
theorem alk_v {s : Stp} (h : s.p.length ≤ 1000) : alk 2 s.v := by
  cases s with
  | chg p w => exact alk_tup (by simp) (by simp only [List.mem_cons, List.not_mem_nil, or_false, forall_eq_or_imp, forall_eq]; exact ⟨alk_str, alk_nats h, alk_str⟩)
  | drp p => exact alk_tup (by simp) (by simp only [List.mem_cons, List.not_mem_nil, or_false, forall_eq_or_imp, forall_eq]; exact ⟨alk_str, alk_nats h⟩)
  | add p c w => exact alk_tup (by simp) (by simp only [List.mem_cons, List.not_mem_nil, or_false, forall_eq_or_imp, forall_eq]; exact ⟨alk_str, alk_nats h, alk_int, alk_str⟩)
theorem alk_vs {n : Nat} {ss : List Stp} (hl : ss.length ≤ 1000) (h : ∀ s ∈ ss, s.p.length ≤ 1000) (hn : 2 ≤ n) : ∀ x ∈ ss.map Stp.v, alk n x := fun x hx => by
  obtain ⟨s, hs, rfl⟩ := List.mem_map.mp hx
  exact alk_mono (alk_v (h s hs)) hn
mutual
theorem alk_pT : ∀ (t : Tr) (n : Nat), 2 * dpT t ≤ n → szT t ≤ 1000 → alk n (pT t)
  | .mk i w cs, n, h, hs => by
    simp only [dpT] at h
    simp only [szT] at hs
    obtain ⟨n, rfl⟩ : ∃ m, n = m + 2 := ⟨n - 2, by omega⟩
    have hl := len_sz cs
    rw [pT]
    refine alk_tup (by simp) ?_
    simp only [List.mem_cons, List.not_mem_nil, or_false, forall_eq_or_imp, forall_eq]
    exact ⟨alk_str, alk_tup (by rw [pR_map]; simp; omega) (alk_pR cs n (by omega) (by omega))⟩
theorem alk_pR : ∀ (l : List Tr) (n : Nat), 2 * dpR l ≤ n → szR l ≤ 1000 → ∀ x ∈ pR l, alk n x
  | [], _, _, _ => by simp [pR]
  | t :: l, n, h, hs => by
    simp only [dpR] at h
    simp only [szR] at hs
    simp only [pR, List.mem_cons, forall_eq_or_imp]
    exact ⟨alk_pT t n (by omega) (by omega), alk_pR l n (by omega) (by omega)⟩
end
theorem alk_plain {row : List Tr} (h : szR row ≤ 20) : alk 50 (.tup (row.map pT)) := by
  have hd := dpR_sz row
  have hl := len_sz row
  rw [← pR_map]
  exact alk_tup (by rw [pR_map]; simp; omega) (alk_pR row 49 (by omega) (by omega))
theorem plain_k (k : Nat) (row : List Tr) (hs : szR row ≤ 20) : callN T (k + 21) 28 [.pure (rT row)] = .ok (.pure (.tup (row.map pT))) [] :=
  plain_s 20 k row (by have := dpR_sz row; omega) (by omega)
def badQ (row : List Tr) (pp : P) : Prop := ∃ v due, pp = .tup [v, due] ∧ alk 3 v ∧ alk 4 due ∧ ∃ c f x tag, ErrK c f tag ∧ due = .lst [.str tag, x, .bl true] ∧ ∀ k, callN T (k + 110) 16 [.pure (.tup (row.map pT)), .pure v] = .rs c [(f, x)] []
theorem alk3l {tag : List Nat} {x : P} {n : Nat} (h : alk n x) : alk (n + 1) (.lst [.str tag, x, .bl true]) := alk_lst (by simp) (by simp only [List.mem_cons, List.not_mem_nil, or_false, forall_eq_or_imp, forall_eq]; exact ⟨alk_str, h, alk_bl⟩)
theorem badr_k (k : Nat) (hk : 100 ≤ k) (s : St) (row : List Tr) (ws : List (List Nat)) (hw : ∀ w ∈ ws, isWordL w) (h1 : 1 ≤ ws.length) (h2 : ws.length ≤ 6) (hs : szR row ≤ 12) : OkS (prQ (badQ row)) (callN T (k + 1) 42 [s.d, .pure (.lst (ws.map .str)), .pure (rT row)]) := by
  rw [call_s (T := T) (f := 42) rfl rfl (by simp)]
  have D2 : callN T k 22 [s.d, .pure (.int 2)] = .ok (.pure (.int (dv (k - 2) s 2))) [(ds (k - 2) s 2).d] := by
    have := draw_s (k - 2) s (n := 2) (by decide) (by decide)
    rwa [show k - 2 + 2 = k by omega] at this
  by_cases h : dv (k - 2) s 2 = 0
  · have M : OkS (prQ (misQ row)) (callN T k 40 [(ds (k - 2) s 2).d, .pure (.lst (ws.map .str)), .pure (rT row)]) := by
      have := misfit_r (k - 3) (by omega) (ds (k - 2) s 2) row ws hw h1 h2 hs
      rwa [show k - 3 + 3 = k by omega] at this
    obtain ⟨v, s3, M1, sv, rfl, M2, M3⟩ := okS_p M
    have i1 := stp_p sv
    have hpl : sv.p.length ≤ 1000 := by have := M2.2.2; omega
    have a3 := alk_v hpl
    have ck : ∀ k, callN T (k + 110) 16 [.pure (.tup (row.map pT)), .pure sv.v] = .rs 4 [(1, .tup (natsP sv.p))] [] := fun k => by
      have := checked_s k row sv (by omega) M2
      rw [M3] at this
      exact this
    have an := alk_nats hpl
    generalize sv.v = vv at *
    simp [-ix_l, -ix_t, b__law_bad, D2, h, M1, i1]
    exact ⟨vv, _, rfl, alk_mono a3 (by omega), alk_mono (alk3l an) (by omega), _, _, _, _, .inr (.inr (.inr ⟨rfl, rfl, rfl⟩)), rfl, ck⟩
  · have gw := hw _ (List.getElem_mem (show 0 < ws.length by omega))
    have iw := il_map P.str (l := ws) (n := 0) (t := ws[0]) (by simp)
    rw [show ((0 : Nat) : Int) = 0 from rfl] at iw
    have N : OkS (prQ noS) (callN T k 39 [(ds (k - 2) s 2).d, .pure (.str ws[0])]) := by
      have := nostep_r (k - 4) (ds (k - 2) s 2) ws[0] gw
      rwa [show k - 4 + 4 = k by omega] at this
    obtain ⟨v, s5, N1, N2, N3, N4⟩ := okS_p N
    simp [-ix_l, -ix_t, b__law_bad, D2, h, N1, iw]
    exact ⟨v, _, rfl, N4, alk3l N4, _, _, _, _, .inr (.inr (.inl ⟨rfl, rfl, rfl⟩)), rfl, fun k => checked_f k _ v N3 N2⟩
/-- the last looks -/
theorem final_tail (k : Nat) (hk : 150 ≤ k) (named : Int) (hn : named = 0 ∨ named = 3) (ns : List Int) (s : St) (W PR RT R6 a d0 d1 r8 : P) (x7 x12 x13 s5 : Sl) (wr : Int) (xs : List P) (h5 : s5 = some (.pure (.lst xs)) ∨ s5 = some (.ols xs))
    (h0 : Conv (callN T k 18 [.pure a, .pure (.lst xs)]) d0) (h1 : Conv (callN T k 20 [.pure a, .pure (.lst xs), .pure PR]) d1) (a0 : alk 52 d0) (a1 : alk 52 d1) (ax : alk 52 (.lst xs)) :
    endR [false] false ((mSeq (mSet 15 (mFn fList [mV 5])) (mSeq (mIf (mOrT (mNotT (mTr (mCall 24 false [(false, mCall 41 false [(false, mOp2 opAdd (mV 10) (mC (.int 1))), (false, mV 9), (false, mV 15), (false, mV 3)]), (false, mOp2 opIx (mV 11) (mC (.int 0)))]))) (mNotT (mTr (mCall 24 false [(false, mV 15), (false, mV 5)])))) (mRt [] (mC (.bl false))) (mNx)) (mRt [] (mAndV (mCall 24 false [(false, mCall 41 false [(false, mOp2 opAdd (mV 10) (mC (.int 2))), (false, mV 9), (false, mV 15), (false, mV 3)]), (false, mOp2 opIx (mV 11) (mC (.int 1)))]) (mCall 24 false [(false, mV 15), (false, mV 5)]))))) ⟨callN T (k + 1), []⟩ [some (.pure (.inp ns)), some s.d, some (.pure W), some (.pure PR), some (.pure RT), s5, some (.pure R6), x7, some (.pure r8), some (.pure a), some (.pure (.int named)), some (.ols [d0, d1]), x12, x13, some (.pure (.int wr)), none]) = .ok (.pure (.bl true)) [] := by
  have same : ∀ (p : P), alk 52 p → callN T (k + 1) 24 [.pure p, .pure p] = .ok (.pure (.bl true)) [] := fun p ha => by
    have := same_s 52 p (k + 1 - 53) ha
    rwa [show k + 1 - 53 + 52 + 1 = k + 1 by omega] at this
  obtain ⟨e1, A1, E1⟩ := asked_c k (named + 1) (by omega) a (.lst xs) PR d0 (by
    rcases hn with rfl | rfl <;> simpa [whichR] using h0)
  obtain ⟨e2, A2, E2⟩ := asked_c k (named + 2) (by omega) a (.lst xs) PR d1 (by
    rcases hn with rfl | rfl <;> simpa [whichR] using h1)
  have S0 := same d0 a0
  have S1 := same d1 a1
  have SX := same _ ax
  rcases h5 with rfl | rfl <;> simp [-ix_l, il0, il1, fList, A1, A2, leak_v, E1, E2, S0, S1, SX]
theorem wrong_tail (k : Nat) (hk : 150 ≤ k) (named : Int) (hn : named = 0 ∨ named = 3) (ns : List Int) (s : St) (ws : List (List Nat)) (hws : ∀ w ∈ ws, isWordL w) (hw1 : 1 ≤ ws.length) {p q n : Int} {rows : List Row} (g : 0 ≤ p ∧ 0 ≤ q ∧ 0 ≤ n) (hg : goodT rows) (hrl : rows.length ≤ 6) (row : List Tr) (hwf : wfR row) (hs : szR row ≤ 12) (RT R6 d0 d1 r8 : P) (x7 x12 x13 s5 : Sl) (xs : List P) (h5 : s5 = some (.pure (.lst xs)) ∨ s5 = some (.ols xs))
    (h0 : Conv (callN T k 18 [.pure (.tup (row.map pT)), .pure (.lst xs)]) d0) (h1 : Conv (callN T k 20 [.pure (.tup (row.map pT)), .pure (.lst xs), .pure (priceP p q n rows)]) d1) (a0 : alk 52 d0) (a1 : alk 52 d1) (ax : alk 52 (.lst xs)) :
    endR [false] false ((mSeq (mSet 14 (mCall 22 false [(true, mV 1), (false, mC (.int 12))])) (mSeq (mIf (mTr (mOp2 opEq (mV 14) (mC (.int 0)))) (mSeq (mSet 9 (mCall 43 false [(true, mV 1), (false, mOp2 opIx (mV 2) (mC (.int 0)))])) (mSet 11 (mLst [mLst [mC (.str [102, 111, 114, 101, 115, 116]), mV 9, mC (.bl true)], mLst [mC (.str [102, 111, 114, 101, 115, 116]), mV 9, mC (.bl true)]]))) (mNx)) (mSeq (mIf (mTr (mOp2 opEq (mV 14) (mC (.int 1)))) (mSeq (mSet 3 (mCall 44 false [(true, mV 1), (false, mV 3)])) (mPut 11 (mC (.int 1)) (mLst [mC (.str [112, 114, 105, 99, 101, 115]), mV 3, mC (.bl true)]))) (mNx)) (mSeq (mSet 15 (mFn fList [mV 5])) (mSeq (mIf (mOrT (mNotT (mTr (mCall 24 false [(false, mCall 41 false [(false, mOp2 opAdd (mV 10) (mC (.int 1))), (false, mV 9), (false, mV 15), (false, mV 3)]), (false, mOp2 opIx (mV 11) (mC (.int 0)))]))) (mNotT (mTr (mCall 24 false [(false, mV 15), (false, mV 5)])))) (mRt [] (mC (.bl false))) (mNx)) (mRt [] (mAndV (mCall 24 false [(false, mCall 41 false [(false, mOp2 opAdd (mV 10) (mC (.int 2))), (false, mV 9), (false, mV 15), (false, mV 3)]), (false, mOp2 opIx (mV 11) (mC (.int 1)))]) (mCall 24 false [(false, mV 15), (false, mV 5)])))))))) ⟨callN T (k + 1), []⟩ [some (.pure (.inp ns)), some s.d, some (.pure (.lst (ws.map .str))), some (.pure (priceP p q n rows)), some (.pure RT), s5, some (.pure R6), x7, some (.pure r8), some (.pure (.tup (row.map pT))), some (.pure (.int named)), some (.ols [d0, d1]), x12, x13, none, none]) = .ok (.pure (.bl true)) [] := by
  have D12 : callN T (k + 1) 22 [s.d, .pure (.int 12)] = .ok (.pure (.int (dv (k - 1) s 12))) [(ds (k - 1) s 12).d] := by
    have := draw_s (k - 1) s (n := 12) (by decide) (by decide)
    rwa [show k - 1 + 2 = k + 1 by omega] at this
  have FT := fun s a PR d0 d1 wr => final_tail k hk named hn ns s (.lst (ws.map .str)) PR RT R6 a d0 d1 r8 x7 x12 x13 s5 wr xs h5
  generalize (mSeq (mSet 15 (mFn fList [mV 5])) (mSeq (mIf (mOrT (mNotT (mTr (mCall 24 false [(false, mCall 41 false [(false, mOp2 opAdd (mV 10) (mC (.int 1))), (false, mV 9), (false, mV 15), (false, mV 3)]), (false, mOp2 opIx (mV 11) (mC (.int 0)))]))) (mNotT (mTr (mCall 24 false [(false, mV 15), (false, mV 5)])))) (mRt [] (mC (.bl false))) (mNx)) (mRt [] (mAndV (mCall 24 false [(false, mCall 41 false [(false, mOp2 opAdd (mV 10) (mC (.int 2))), (false, mV 9), (false, mV 15), (false, mV 3)]), (false, mOp2 opIx (mV 11) (mC (.int 1)))]) (mCall 24 false [(false, mV 15), (false, mV 5)]))))) = S17 at FT ⊢
  by_cases w0 : dv (k - 1) s 12 = 0
  · have gw := hws _ (List.getElem_mem (show 0 < ws.length by omega))
    have iw := il_map P.str (l := ws) (n := 0) (t := ws[0]) (by simp)
    rw [show ((0 : Nat) : Int) = 0 from rfl] at iw
    have N : OkS (prQ noF) (callN T (k + 1) 43 [(ds (k - 1) s 12).d, .pure (.str ws[0])]) := by
      have := noforest_r (k - 3) (ds (k - 1) s 12) ws[0] gw
      rwa [show k - 3 + 4 = k + 1 by omega] at this
    obtain ⟨v, s2, N1, N2⟩ := okS_p N
    have F1 := fbad1 (k - 111) N2 (.lst xs)
    have F2 := fbad2 (k - 111) N2 (.lst xs) (priceP p q n rows)
    rw [show k - 111 + 111 = k by omega] at F1 F2
    have av : alk 52 (.lst [.str [102, 111, 114, 101, 115, 116], v, .bl true]) := alk_mono (alk3l N2.2.2) (by omega)
    have R := FT s2 v (priceP p q n rows) (.lst [.str [102, 111, 114, 101, 115, 116], v, .bl true]) (.lst [.str [102, 111, 114, 101, 115, 116], v, .bl true]) 0 (.inr ⟨_, _, _, _, F1, .inl ⟨rfl, rfl, rfl⟩, rfl⟩) (.inr ⟨_, _, _, _, F2, .inl ⟨rfl, rfl, rfl⟩, rfl⟩) av av ax
    rcases h5 with rfl | rfl <;> (simp [-ix_l, D12, w0, iw, N1]; exact R)
  · by_cases w1 : dv (k - 1) s 12 = 1
    · have N : OkS (prQ noP) (callN T (k + 1) 44 [(ds (k - 1) s 12).d, .pure (priceP p q n rows)]) := by
        have := noprices_r (k - 2) (ds (k - 1) s 12) g.1 g.2.1 g.2.2 hg hrl
        rwa [show k - 2 + 3 = k + 1 by omega] at this
      obtain ⟨v, s2, N1, N2⟩ := okS_p N
      have F2 := pbad (k - 111) row hwf (by omega) N2 (.lst xs)
      rw [show k - 111 + 111 = k by omega] at F2
      have av : alk 52 (.lst [.str [112, 114, 105, 99, 101, 115], v, .bl true]) := alk_mono (alk3l N2.2.2) (by omega)
      have R := FT s2 (.tup (row.map pT)) v d0 (.lst [.str [112, 114, 105, 99, 101, 115], v, .bl true]) 1 h0 (.inr ⟨_, _, _, _, F2, .inr (.inl ⟨rfl, rfl, rfl⟩), rfl⟩) a0 av ax
      rcases h5 with rfl | rfl <;> (simp [-ix_l, D12, w1, N1]; exact R)
    · have R := FT (ds (k - 1) s 12) (.tup (row.map pT)) (priceP p q n rows) d0 d1 (dv (k - 1) s 12) h0 h1 a0 a1 ax
      rcases h5 with rfl | rfl <;> (simp [-ix_l, D12, w0, w1]; exact R)
end Gbk20
set_option linter.all false
set_option maxRecDepth 100000
/-! k20: the law. -/
namespace Gbk20
open Gr
theorem RunE_at2 {row rf : List Tr} {ss : List Stp} {rs : List (List Tr)} (h : RunE row ss rs rf) : ∀ (a : Nat), a < ss.length → ∃ s ra r1, ss[a]? = some s ∧ (row :: rs)[a]? = some ra ∧ (row :: rs)[a + 1]? = some r1 ∧ okSt s ∧ wfR ra ∧ szR ra ≤ 12 ∧ stepped s s.p ra = some r1 := by
  induction h with
  | nil r => intro a ha; simp at ha
  | cons h1 h2 h3 h4 h ih =>
    intro a ha
    rename_i r r1 rf s ss rs
    cases a with
    | zero => exact ⟨s, r, r1, rfl, rfl, rfl, h1, h2, h3, h4⟩
    | succ a =>
      obtain ⟨s', ra, r1', e1, e2, e3, e5⟩ := ih a (by simpa using ha)
      exact ⟨s', ra, r1', by simpa using e1, by simpa using e2, by simpa using e3, e5⟩
theorem insAt_mid (A D : List P) (v w : P) (a j : Nat) (h : A.length = a) : insAt (A ++ v :: D) (a + 1 + j) w = A ++ v :: insAt D j w := by
  subst h
  unfold insAt
  have e1 : (A ++ v :: D).take (A.length + 1 + j) = A ++ v :: D.take j := by
    rw [List.take_append, List.take_of_length_le (by omega), show A.length + 1 + j - A.length = j + 1 by omega, List.take_succ_cons]
  have e2 : (A ++ v :: D).drop (A.length + 1 + j) = D.drop j := by
    rw [List.drop_append, List.drop_eq_nil_of_le (by omega), show A.length + 1 + j - A.length = j + 1 by omega, List.drop_succ_cons, List.nil_append]
  rw [e1, e2]
  simp
theorem insAt_len (D : List P) (j : Nat) (w : P) : (insAt D j w).length = D.length + 1 := by
  unfold insAt
  simp only [List.length_append, List.length_cons, List.length_take, List.length_drop]
  omega
theorem insAt_mem {D : List P} {j : Nat} {w x : P} (h : x ∈ insAt D j w) : x = w ∨ x ∈ D := by
  unfold insAt at h
  rcases List.mem_append.mp h with h | h
  · exact .inr (List.mem_of_mem_take h)
  · rcases List.mem_cons.mp h with h | h
    · exact .inl h
    · exact .inr (List.mem_of_mem_drop h)
theorem mid_tail (k : Nat) (hk : 150 ≤ k) (named : Int) (hn : named = 0 ∨ named = 3) (ns : List Int) (s : St) (ws : List (List Nat)) (hws : ∀ w ∈ ws, isWordL w) (hw1 : 1 ≤ ws.length) (hw2 : ws.length ≤ 6) {p q n : Int} {rows : List Row} (g : 0 ≤ p ∧ 0 ≤ q ∧ 0 ≤ n) (hg : goodT rows) (hrl : rows.length ≤ 6) {row rf : List Tr} {ss : List Stp} {rs : List (List Tr)} (h : RunE row ss rs rf) (hl : ss.length ≤ 8) (hp : ∀ s ∈ ss, s.p.length ≤ 40) (hwf : wfR row) (hs : szR row ≤ 12) (hrw : wfR rf) (hrs : szR rf ≤ 12) (x7 : Sl) :
    endR [false] false ((mSeq (mIf (mTr (mOp2 opEq (mCall 22 false [(true, mV 1), (false, mC (.int 2))]) (mC (.int 0)))) (mSeq (mSet 12 (mCall 22 false [(true, mV 1), (false, mOp2 opAdd (mFn fLen [mV 5]) (mC (.int 1)))])) (mSeq (mSet 13 (mCall 42 false [(true, mV 1), (false, mV 2), (false, mOp2 opIx (mOp2 opIx (mV 8) (mC (.int 0))) (mV 12))])) (mSeq (mSet 11 (mLst [mOp2 opIx (mV 13) (mC (.int 1)), mOp2 opIx (mV 13) (mC (.int 1))])) (mSeq (mIf (mNotT (mTr (mCall 24 false [(false, mCall 41 false [(false, mC (.int 0)), (false, mCall 28 false [(false, mOp2 opIx (mOp2 opIx (mV 8) (mC (.int 0))) (mV 12))]), (false, mOp2 opIx (mV 13) (mC (.int 0))), (false, mV 3)]), (false, mOp2 opIx (mV 13) (mC (.int 1)))]))) (mRt [] (mC (.bl false))) (mNx)) (mSeq (mSet 5 (mOp2 opAdd (mOp2 opAdd (mSl (mV 5) none (some (mV 12))) (mLst [mOp2 opIx (mV 13) (mC (.int 0))])) (mSl (mV 5) (some (mV 12)) none))) (mIf (mTr (mOp2 opEq (mCall 22 false [(true, mV 1), (false, mC (.int 2))]) (mC (.int 0)))) (mEx (mIns 5 (mOp2 opAdd (mOp2 opAdd (mV 12) (mC (.int 1))) (mCall 22 false [(true, mV 1), (false, mOp2 opSub (mFn fLen [mV 5]) (mV 12))])) (mOp2 opIx (mCall 42 false [(true, mV 1), (false, mV 2), (false, mV 4)]) (mC (.int 0))))) (mNx))))))) (mNx)) (mSeq (mSet 14 (mCall 22 false [(true, mV 1), (false, mC (.int 12))])) (mSeq (mIf (mTr (mOp2 opEq (mV 14) (mC (.int 0)))) (mSeq (mSet 9 (mCall 43 false [(true, mV 1), (false, mOp2 opIx (mV 2) (mC (.int 0)))])) (mSet 11 (mLst [mLst [mC (.str [102, 111, 114, 101, 115, 116]), mV 9, mC (.bl true)], mLst [mC (.str [102, 111, 114, 101, 115, 116]), mV 9, mC (.bl true)]]))) (mNx)) (mSeq (mIf (mTr (mOp2 opEq (mV 14) (mC (.int 1)))) (mSeq (mSet 3 (mCall 44 false [(true, mV 1), (false, mV 3)])) (mPut 11 (mC (.int 1)) (mLst [mC (.str [112, 114, 105, 99, 101, 115]), mV 3, mC (.bl true)]))) (mNx)) (mSeq (mSet 15 (mFn fList [mV 5])) (mSeq (mIf (mOrT (mNotT (mTr (mCall 24 false [(false, mCall 41 false [(false, mOp2 opAdd (mV 10) (mC (.int 1))), (false, mV 9), (false, mV 15), (false, mV 3)]), (false, mOp2 opIx (mV 11) (mC (.int 0)))]))) (mNotT (mTr (mCall 24 false [(false, mV 15), (false, mV 5)])))) (mRt [] (mC (.bl false))) (mNx)) (mRt [] (mAndV (mCall 24 false [(false, mCall 41 false [(false, mOp2 opAdd (mV 10) (mC (.int 2))), (false, mV 9), (false, mV 15), (false, mV 3)]), (false, mOp2 opIx (mV 11) (mC (.int 1)))]) (mCall 24 false [(false, mV 15), (false, mV 5)]))))))))) ⟨callN T (k + 1), []⟩ [some (.pure (.inp ns)), some s.d, some (.pure (.lst (ws.map .str))), some (.pure (priceP p q n rows)), some (.pure (rT row)), some (.pure (.lst (ss.map Stp.v))), some (.pure (rT rf)), x7, some (.pure (.tup [.lst ((row :: rs).map rT), .int (totalC p q (chg n rows) row ss)])), some (.pure (.tup (row.map pT))), some (.pure (.int named)), some (.ols [.tup (rf.map pT), .int (totalC p q (chg n rows) row ss)]), none, none, none, none]) = .ok (.pure (.bl true)) [] := by
  have Dr : ∀ (s : St) (n : Int), 0 < n → n < 1073741824 → callN T (k + 1) 22 [s.d, .pure (.int n)] = .ok (.pure (.int (dv (k - 1) s n))) [(ds (k - 1) s n).d] := fun s n a b => by
    have := draw_s (k - 1) s (n := n) a b
    rwa [show k - 1 + 2 = k + 1 by omega] at this
  have same : ∀ (p : P), alk 52 p → callN T (k + 1) 24 [.pure p, .pure p] = .ok (.pure (.bl true)) [] := fun p ha => by
    have := same_s 52 p (k + 1 - 53) ha
    rwa [show k + 1 - 53 + 52 + 1 = k + 1 by omega] at this
  have PL : ∀ r : List Tr, szR r ≤ 20 → callN T (k + 1) 28 [.pure (rT r)] = .ok (.pure (.tup (r.map pT))) [] := fun r hr => by
    have := plain_k (k - 20) r hr
    rwa [show k - 20 + 21 = k + 1 by omega] at this
  have hpr := pr_good g.1 g.2.1 g.2.2 hg
  have hqr : fineQ (priceP p q n rows) := fq_good hg hrl
  have R := h.runC p q (chg n rows)
  have WT := fun s d0 d1 x12 x13 s5 xs h5 => wrong_tail k hk named hn ns s ws hws hw1 g hg hrl row hwf hs (rT row) (rT rf) d0 d1 (.tup [.lst ((row :: rs).map rT), .int (totalC p q (chg n rows) row ss)]) x7 x12 x13 s5 xs h5
  generalize (mSeq (mSet 14 (mCall 22 false [(true, mV 1), (false, mC (.int 12))])) (mSeq (mIf (mTr (mOp2 opEq (mV 14) (mC (.int 0)))) (mSeq (mSet 9 (mCall 43 false [(true, mV 1), (false, mOp2 opIx (mV 2) (mC (.int 0)))])) (mSet 11 (mLst [mLst [mC (.str [102, 111, 114, 101, 115, 116]), mV 9, mC (.bl true)], mLst [mC (.str [102, 111, 114, 101, 115, 116]), mV 9, mC (.bl true)]]))) (mNx)) (mSeq (mIf (mTr (mOp2 opEq (mV 14) (mC (.int 1)))) (mSeq (mSet 3 (mCall 44 false [(true, mV 1), (false, mV 3)])) (mPut 11 (mC (.int 1)) (mLst [mC (.str [112, 114, 105, 99, 101, 115]), mV 3, mC (.bl true)]))) (mNx)) (mSeq (mSet 15 (mFn fList [mV 5])) (mSeq (mIf (mOrT (mNotT (mTr (mCall 24 false [(false, mCall 41 false [(false, mOp2 opAdd (mV 10) (mC (.int 1))), (false, mV 9), (false, mV 15), (false, mV 3)]), (false, mOp2 opIx (mV 11) (mC (.int 0)))]))) (mNotT (mTr (mCall 24 false [(false, mV 15), (false, mV 5)])))) (mRt [] (mC (.bl false))) (mNx)) (mRt [] (mAndV (mCall 24 false [(false, mCall 41 false [(false, mOp2 opAdd (mV 10) (mC (.int 2))), (false, mV 9), (false, mV 15), (false, mV 3)]), (false, mOp2 opIx (mV 11) (mC (.int 1)))]) (mCall 24 false [(false, mV 15), (false, mV 5)])))))))) = S14 at WT ⊢
  have alx : ∀ s ∈ ss, s.p.length ≤ 1000 := fun s hs => by have := hp s hs; omega
  have D2 := Dr s 2 (by decide) (by decide)
  by_cases h2 : dv (k - 1) s 2 = 0
  · generalize ds (k - 1) s 2 = s1 at *
    have Da := Dr s1 ((ss.length : Int) + 1) (by omega) (by omega)
    have ba := dv_b (k - 1) s1 (n := (ss.length : Int) + 1) (by omega) (by omega)
    refine to_nat (x := dv (k - 1) s1 ((ss.length : Int) + 1)) (by omega) fun a ha => ?_
    rw [ha] at Da ba
    generalize ds (k - 1) s1 ((ss.length : Int) + 1) = s2 at *
    have hal : a ≤ ss.length := by omega
    obtain ⟨ra, e1, e2, e3, e4⟩ := h.take hrw hrs a hal
    have ir := il_map rT e1
    have M : OkS (prQ (badQ ra)) (callN T (k + 1) 42 [s2.d, .pure (.lst (ws.map .str)), .pure (rT ra)]) := badr_k k (by omega) s2 ra ws hws hw1 hw2 e4
    obtain ⟨pp, s3, M1, v, due, rfl, av, ad, c, f, x, tag, he, hdue, hck⟩ := okS_p M
    have ON := on_e (k - 111) ra v c [(f, x)] e3 (by omega) (hck (k - 111 + 0))
    rw [show k - 111 + 111 = k by omega] at ON
    obtain ⟨e5, A5, E5⟩ := asked_c k 0 (by omega) (.tup (ra.map pT)) v (priceP p q n rows) due (.inr ⟨c, f, x, tag, by simpa [whichR] using ON, he, hdue⟩)
    have SD := same due (alk_mono ad (by omega))
    have hTl : ((ss.take a).map Stp.v).length = a := by simp; omega
    have S1 : slP (.lst (ss.map Stp.v)) none (some (a : Int)) = some (.ols ((ss.take a).map Stp.v)) := by rw [sl_lt, List.map_take]
    have S2 : slP (.lst (ss.map Stp.v)) (some (a : Int)) none = some (.ols ((ss.drop a).map Stp.v)) := by rw [sl_ld, List.map_drop]
    have A1 : opAdd (.lst ((ss.take a).map Stp.v)) (.lst [v]) = some (.ols ((ss.take a).map Stp.v ++ [v])) := add_lst (by simp; omega)
    have A2 : opAdd (.lst ((ss.take a).map Stp.v ++ [v])) (.lst ((ss.drop a).map Stp.v)) = some (.ols ((ss.take a).map Stp.v ++ v :: (ss.drop a).map Stp.v)) := by
      rw [add_lst (by simp; omega)]
      simp
    have Rt := e2.runC p q (chg n rows)
    have hlt : (ss.take a).length ≤ 1000 := by rw [List.length_take]; omega
    have C0 : ∀ post : List P, Conv (callN T k 18 [.pure (.tup (row.map pT)), .pure (.lst ((ss.take a).map Stp.v ++ v :: post))]) due := fun post => by
      have := runs_f (k - 111) Rt hlt hwf (by omega) v post c [(f, x)] (hck _)
      rw [show k - 111 + 111 = k by omega] at this
      exact .inr ⟨c, f, x, tag, this, he, hdue⟩
    have C1 : ∀ post : List P, Conv (callN T k 20 [.pure (.tup (row.map pT)), .pure (.lst ((ss.take a).map Stp.v ++ v :: post)), .pure (priceP p q n rows)]) due := fun post => by
      have := price_f (k - 111) Rt hlt hwf (by omega) hqr hpr v post c [(f, x)] (hck _)
      rw [show k - 111 + 111 = k by omega] at this
      exact .inr ⟨c, f, x, tag, this, he, hdue⟩
    have ad52 : alk 52 due := alk_mono ad (by omega)
    have at3 : ∀ y ∈ (ss.take a).map Stp.v, alk 3 y := alk_vs hlt (fun s hs => alx s (List.mem_of_mem_take hs)) (by omega)
    have ad3 : ∀ y ∈ (ss.drop a).map Stp.v, alk 3 y := alk_vs (by rw [List.length_drop]; omega) (fun s hs => alx s (List.mem_of_mem_drop hs)) (by omega)
    have ax : ∀ post : List P, post.length ≤ 100 → (∀ y ∈ post, alk 3 y) → alk 52 (.lst ((ss.take a).map Stp.v ++ v :: post)) := fun post hpl hpa => alk_mono (alk_lst (n := 3) (by simp; omega) (fun y hy => by
      rcases List.mem_append.mp hy with hy | hy
      · exact at3 y hy
      · rcases List.mem_cons.mp hy with rfl | hy
        · exact av
        · exact hpa y hy)) (by omega)
    have D2' := Dr s3 2 (by decide) (by decide)
    have hXl : ((ss.take a).map Stp.v ++ v :: (ss.drop a).map Stp.v).length = ss.length + 1 := by simp; omega
    by_cases h2' : dv (k - 1) s3 2 = 0
    · generalize ds (k - 1) s3 2 = s4 at *
      have Dj := Dr s4 ((ss.length : Int) + 1 - a) (by omega) (by omega)
      have bj := dv_b (k - 1) s4 (n := (ss.length : Int) + 1 - a) (by omega) (by omega)
      refine to_nat (x := dv (k - 1) s4 ((ss.length : Int) + 1 - a)) (by omega) fun j hj => ?_
      rw [hj] at Dj bj
      generalize ds (k - 1) s4 ((ss.length : Int) + 1 - a) = s5 at *
      have M' : OkS (prQ (badQ row)) (callN T (k + 1) 42 [s5.d, .pure (.lst (ws.map .str)), .pure (rT row)]) := badr_k k (by omega) s5 row ws hws hw1 hw2 hs
      obtain ⟨pp, s6, M1', v2, due2, rfl, av2, _⟩ := okS_p M'
      have hins := insAt_mid ((ss.take a).map Stp.v) ((ss.drop a).map Stp.v) v v2 a j hTl
      have hoi : okR ((a : Int) + 1 + j) = true := okR_small (by omega) (by omega)
      have h0i : (0 : Int) ≤ (a : Int) + 1 + j := by omega
      have hti : ((a : Int) + 1 + j).toNat = a + 1 + j := by omega
      have W := WT s6 due due (some (.pure (.int a))) (some (.pure (.tup [v, due]))) _ _ (.inr rfl) (C0 (insAt ((ss.drop a).map Stp.v) j v2)) (C1 (insAt ((ss.drop a).map Stp.v) j v2)) ad52 ad52 (ax _ (by rw [insAt_len]; simp; omega) (fun y hy => by
        rcases insAt_mem hy with rfl | hy
        · exact av2
        · exact ad3 y hy))
      rw [← hins] at W
      generalize (row :: rs).map rT = RR at *
      have hsl2 : ss.length + 1 < line := by unfold line; omega
      have hXl2 : ((ss.take a).map Stp.v ++ v :: (ss.drop a).map Stp.v).length < line := by rw [hXl]; unfold line; omega
      generalize (ss.take a).map Stp.v ++ v :: (ss.drop a).map Stp.v = X at *
      simp [-ix_l, -ix_t, -List.map_take, -List.map_drop, D2, h2, Da, it0, it1, ir, M1, PL ra (by omega), A5, leak_v, E5, SD, mPart, S1, S2, A1, A2, D2', h2', hXl, hsl2, Dj, M1', hoi, h0i, hti]
      exact W
    · have W := WT (ds (k - 1) s3 2) due due (some (.pure (.int a))) (some (.pure (.tup [v, due]))) _ _ (.inr rfl) (C0 ((ss.drop a).map Stp.v)) (C1 ((ss.drop a).map Stp.v)) ad52 ad52 (ax _ (by simp; omega) ad3)
      generalize (row :: rs).map rT = RR at *
      generalize (ss.take a).map Stp.v ++ v :: (ss.drop a).map Stp.v = X at *
      simp [-ix_l, -ix_t, -List.map_take, -List.map_drop, D2, h2, Da, it0, it1, ir, M1, PL ra (by omega), A5, leak_v, E5, SD, mPart, S1, S2, A1, A2, D2', h2']
      exact W
  · have C0 : Conv (callN T k 18 [.pure (.tup (row.map pT)), .pure (.lst (ss.map Stp.v))]) (.tup (rf.map pT)) := by
      have := runs_s (k - 111) R (by omega) hwf (by omega) (.lst (ss.map Stp.v)) (.inl rfl)
      rw [show k - 111 + 111 = k by omega] at this
      exact .inl this
    have C1 : Conv (callN T k 20 [.pure (.tup (row.map pT)), .pure (.lst (ss.map Stp.v)), .pure (priceP p q n rows)]) (.int (totalC p q (chg n rows) row ss)) := by
      have := price_s2 (k - 111) R (by omega) hwf (by omega) hqr hpr (.lst (ss.map Stp.v)) (.inl rfl)
      rw [show k - 111 + 111 = k by omega] at this
      exact .inl this
    have W := WT (ds (k - 1) s 2) _ _ none none _ _ (.inl rfl) C0 C1 (alk_mono (alk_plain (by omega)) (by omega)) alk_int (alk_mono (alk_lst (n := 2) (by simp; omega) (alk_vs (by omega) alx (by omega))) (by omega))
    generalize (row :: rs).map rT = RR at *
    simp [D2, h2]
    exact W
def lawI (ns : List Int) (W PR : P) (row : List Tr) (rest : List P) (e : Ev) : Prop := ∃ (s : St) (ss : List Stp) (rs : List (List Tr)) (rf : List Tr) (x : Sl) (m : Nat), rest = upTo (ss.length : Nat) m ∧ e = [some (.pure (.inp ns)), some s.d, some (.pure W), some (.pure PR), some (.pure (rT row)), some (.ols (ss.map Stp.v)), some (.pure (rT rf)), x, none, none, none, none, none, none, none, none] ∧ RunE row ss rs rf ∧ ss.length + m ≤ 8 ∧ (∀ s ∈ ss, s.p.length ≤ 40) ∧ wfR rf ∧ szR rf ≤ 12
theorem law_s (k0 : Nat) (hk0 : 151 ≤ k0) (ns : List Int) (hl : ns.length ≤ 63) : callN T (k0 + 1) 45 [.pure (.inp ns)] = .ok (.pure (.bl true)) [] := by
  obtain ⟨k, rfl⟩ : ∃ k, k0 = k + 1 := ⟨k0 - 1, by omega⟩
  have hk : 150 ≤ k := by omega
  rw [call_s (T := T) (f := 45) rfl rfl (by simp)]
  have Dr : ∀ (s : St) (n : Int), 0 < n → n < 1073741824 → callN T (k + 1) 22 [s.d, .pure (.int n)] = .ok (.pure (.int (dv (k - 1) s n))) [(ds (k - 1) s n).d] := fun s n a b => by
    have := draw_s (k - 1) s (n := n) a b
    rwa [show k - 1 + 2 = k + 1 by omega] at this
  have bb := fun s n h h2 => dv_b (k - 1) s (n := n) h h2
  obtain ⟨s1, H1⟩ : ∃ s : St, callN T (k + 1) 23 [.pure (.inp ns)] = .ok s.d [] := by
    have := start_r (k - 2) ns hl
    rwa [show k - 2 + 3 = k + 1 by omega] at this
  obtain ⟨ws, s2, H2, hw, hw1, hw2⟩ : ∃ (ws : List (List Nat)) (s' : St), callN T (k + 1) 25 [s1.d] = .ok (.ols (ws.map .str)) [s'.d] ∧ (∀ w ∈ ws, isWordL w) ∧ 1 ≤ ws.length ∧ ws.length ≤ 6 := by
    have := pool_r (k - 2) s1
    rwa [show k - 2 + 3 = k + 1 by omega] at this
  obtain ⟨p, q, n, rows, s3, H3, p0, q0, n0, _, _, _, hg, hrl⟩ : ∃ (p q n : Int) (rows : List Row) (s' : St), callN T (k + 1) 32 [s2.d, .pure (.lst (ws.map .str))] = .ok (.pure (priceP p q n rows)) [s'.d] ∧ 0 ≤ p ∧ 0 ≤ q ∧ 0 ≤ n ∧ p < 1000 ∧ q < 1000 ∧ n < 1000 ∧ goodT rows ∧ rows.length ≤ 6 := by
    have := prices_r (k - 2) s2 ws hw hw1 hw2
    rwa [show k - 2 + 3 = k + 1 by omega] at this
  obtain ⟨fs, s4, H4, hf, hfl⟩ : ∃ (fs : List FE) (s' : St), callN T (k + 1) 26 [s3.d, .pure (.lst (ws.map .str)), .pure (.int 12), .pure (.int 8)] = .ok (.ols (fs.map feP)) [s'.d] ∧ (∀ f ∈ fs, goodF f) ∧ fs.length ≤ 12 := by
    have := grown_r (k - 2) s3 ws hw hw1 hw2
    rwa [show k - 2 + 3 = k + 1 by omega] at this
  obtain ⟨row, H5, hwf, hsz⟩ : ∃ row : List Tr, callN T (k + 1) 27 [.pure (.lst (fs.map feP))] = .ok (.pure (rT row)) [] ∧ wfR row ∧ szR row ≤ 12 := planted_r k fs hf hfl
  have D9 := Dr s4 9 (by decide) (by decide)
  have b9 := bb s4 9 (by decide) (by decide)
  have o9 : okR (dv (k - 1) s4 9) = true := okR_small (by omega) (by omega)
  have hloop := for_nx (tg := .nm 7) (body := (mSeq (mEx (mApp 5 (mCall 35 false [(true, mV 1), (false, mV 2), (false, mV 6), (false, mC (.int 12)), (false, mC (.int 8))]))) (mSet 6 (mCall 30 false [(false, mV 6), (false, mOp2 opIx (mOp2 opIx (mV 5) (mV 7)) (mC (.int 1))), (false, mOp2 opIx (mV 5) (mV 7))])))) (c := ⟨callN T (k + 1), []⟩) (xs := upTo 0 (dv (k - 1) s4 9).toNat) (e := [some (.pure (.inp ns)), some (ds (k - 1) s4 9).d, some (.pure (.lst (ws.map .str))), some (.pure (priceP p q n rows)), some (.pure (rT row)), some (.ols []), some (.pure (rT row)), none, none, none, none, none, none, none, none, none]) (Q := fun e => lawI ns (.lst (ws.map .str)) (priceP p q n rows) row [] e)
    (fun rest e => lawI ns (.lst (ws.map .str)) (priceP p q n rows) row rest e) ⟨ds (k - 1) s4 9, [], [], row, none, (dv (k - 1) s4 9).toNat, rfl, rfl, .nil row, by simp; omega, by simp, hwf, hsz⟩ (fun x rest e i => ?_) (fun e h => h)
  · obtain ⟨e', hF, s5, ss, rs, rf, x, m, hm, rfl, hR, hln, hpl, hrw, hrs⟩ := hloop
    have hssl : ss.length ≤ 8 := by omega
    have RN : callN T (k + 1) 36 [.pure (rT row), .pure (.lst (ss.map Stp.v)), .pure (priceP p q n rows)] = .ok (.pure (.tup [.lst ((row :: rs).map rT), .int (totalC p q (chg n rows) row ss)])) [] := by
      have := run_s (k - 62) p q n rows hR (by omega) hpl
      rwa [show k - 62 + 63 = k + 1 by omega] at this
    have PL : ∀ r : List Tr, szR r ≤ 20 → callN T (k + 1) 28 [.pure (rT r)] = .ok (.pure (.tup (r.map pT))) [] := fun r hr => by
      have := plain_k (k - 20) r hr
      rwa [show k - 20 + 21 = k + 1 by omega] at this
    have same : ∀ (p : P), alk 52 p → callN T (k + 1) 24 [.pure p, .pure p] = .ok (.pure (.bl true)) [] := fun p ha => by
      have := same_s 52 p (k + 1 - 53) ha
      rwa [show k + 1 - 53 + 52 + 1 = k + 1 by omega] at this
    have D2 := Dr s5 2 (by decide) (by decide)
    have b2 := bb s5 2 (by decide) (by decide)
    have hnm : 3 * dv (k - 1) s5 2 = 0 ∨ 3 * dv (k - 1) s5 2 = 3 := by omega
    have hmul : opMul (.int 3) (.int (dv (k - 1) s5 2)) = some (.pure (.int (3 * dv (k - 1) s5 2))) := by
      simp only [opMul]
      rw [if_pos (mulOk_r (by unfold big64; omega))]
    generalize hNM : 3 * dv (k - 1) s5 2 = named at *
    generalize dv (k - 1) s5 2 = d2 at *
    generalize ds (k - 1) s5 2 = s6 at *
    have hol : okR (ss.length : Int) = true := okR_small (by omega) (by omega)
    have hssl2 : ss.length ≤ line := by unfold line; omega
    have R := hR.runC p q (chg n rows)
    have l2 := for_nx (tg := .nm 7) (body := (mIf (mNotT (mTr (mCall 24 false [(false, mCall 41 false [(false, mV 10), (false, mCall 28 false [(false, mOp2 opIx (mOp2 opIx (mV 8) (mC (.int 0))) (mV 7))]), (false, mOp2 opIx (mV 5) (mV 7)), (false, mV 3)]), (false, mCall 28 false [(false, mOp2 opIx (mOp2 opIx (mV 8) (mC (.int 0))) (mOp2 opAdd (mV 7) (mC (.int 1))))])]))) (mRt [] (mC (.bl false))) (mNx))) (c := ⟨callN T (k + 1), []⟩) (xs := upTo 0 ss.length) (e := [some (.pure (.inp ns)), some s6.d, some (.pure (.lst (ws.map .str))), some (.pure (priceP p q n rows)), some (.pure (rT row)), some (.pure (.lst (ss.map Stp.v))), some (.pure (rT rf)), x, some (.pure (.tup [.lst ((row :: rs).map rT), .int (totalC p q (chg n rows) row ss)])), some (.pure (.tup (row.map pT))), some (.pure (.int named)), none, none, none, none, none]) (Q := fun e => ∃ x, e = [some (.pure (.inp ns)), some s6.d, some (.pure (.lst (ws.map .str))), some (.pure (priceP p q n rows)), some (.pure (rT row)), some (.pure (.lst (ss.map Stp.v))), some (.pure (rT rf)), x, some (.pure (.tup [.lst ((row :: rs).map rT), .int (totalC p q (chg n rows) row ss)])), some (.pure (.tup (row.map pT))), some (.pure (.int named)), none, none, none, none, none])
      (fun rest e => (∀ x ∈ rest, ∃ j : Nat, x = .int j ∧ j < ss.length) ∧ ∃ x, e = [some (.pure (.inp ns)), some s6.d, some (.pure (.lst (ws.map .str))), some (.pure (priceP p q n rows)), some (.pure (rT row)), some (.pure (.lst (ss.map Stp.v))), some (.pure (rT rf)), x, some (.pure (.tup [.lst ((row :: rs).map rT), .int (totalC p q (chg n rows) row ss)])), some (.pure (.tup (row.map pT))), some (.pure (.int named)), none, none, none, none, none]) ⟨fun x hx => upTo_memN hx, _, rfl⟩ (fun x1 rest e i => ?_) (fun e h => h.2)
    · obtain ⟨e', hF2, x2, rfl⟩ := l2
      obtain ⟨e3, A3, E3⟩ := asked_c k 1 (by omega) (.tup (row.map pT)) (.tup (ss.map Stp.v)) (priceP p q n rows) (.tup (rf.map pT)) (by
        have := runs_s (k - 111) R (by omega) hwf (by omega) (.tup (ss.map Stp.v)) (.inr rfl)
        rw [show k - 111 + 111 = k by omega] at this
        exact .inl (by simpa [whichR] using this))
      have S3 := same (.tup (rf.map pT)) (alk_mono (alk_plain (by omega)) (by omega))
      have MT := mid_tail k hk named hnm ns s6 ws hw hw1 hw2 (p := p) (q := q) (n := n) (rows := rows) ⟨p0, q0, n0⟩ hg hrl hR hssl hpl hwf hsz hrw hrs x2
      generalize (row :: rs).map rT = RR at *
      unfold b_law
      generalize (mSeq (mIf (mTr (mOp2 opEq (mCall 22 false [(true, mV 1), (false, mC (.int 2))]) (mC (.int 0)))) (mSeq (mSet 12 (mCall 22 false [(true, mV 1), (false, mOp2 opAdd (mFn fLen [mV 5]) (mC (.int 1)))])) (mSeq (mSet 13 (mCall 42 false [(true, mV 1), (false, mV 2), (false, mOp2 opIx (mOp2 opIx (mV 8) (mC (.int 0))) (mV 12))])) (mSeq (mSet 11 (mLst [mOp2 opIx (mV 13) (mC (.int 1)), mOp2 opIx (mV 13) (mC (.int 1))])) (mSeq (mIf (mNotT (mTr (mCall 24 false [(false, mCall 41 false [(false, mC (.int 0)), (false, mCall 28 false [(false, mOp2 opIx (mOp2 opIx (mV 8) (mC (.int 0))) (mV 12))]), (false, mOp2 opIx (mV 13) (mC (.int 0))), (false, mV 3)]), (false, mOp2 opIx (mV 13) (mC (.int 1)))]))) (mRt [] (mC (.bl false))) (mNx)) (mSeq (mSet 5 (mOp2 opAdd (mOp2 opAdd (mSl (mV 5) none (some (mV 12))) (mLst [mOp2 opIx (mV 13) (mC (.int 0))])) (mSl (mV 5) (some (mV 12)) none))) (mIf (mTr (mOp2 opEq (mCall 22 false [(true, mV 1), (false, mC (.int 2))]) (mC (.int 0)))) (mEx (mIns 5 (mOp2 opAdd (mOp2 opAdd (mV 12) (mC (.int 1))) (mCall 22 false [(true, mV 1), (false, mOp2 opSub (mFn fLen [mV 5]) (mV 12))])) (mOp2 opIx (mCall 42 false [(true, mV 1), (false, mV 2), (false, mV 4)]) (mC (.int 0))))) (mNx))))))) (mNx)) (mSeq (mSet 14 (mCall 22 false [(true, mV 1), (false, mC (.int 12))])) (mSeq (mIf (mTr (mOp2 opEq (mV 14) (mC (.int 0)))) (mSeq (mSet 9 (mCall 43 false [(true, mV 1), (false, mOp2 opIx (mV 2) (mC (.int 0)))])) (mSet 11 (mLst [mLst [mC (.str [102, 111, 114, 101, 115, 116]), mV 9, mC (.bl true)], mLst [mC (.str [102, 111, 114, 101, 115, 116]), mV 9, mC (.bl true)]]))) (mNx)) (mSeq (mIf (mTr (mOp2 opEq (mV 14) (mC (.int 1)))) (mSeq (mSet 3 (mCall 44 false [(true, mV 1), (false, mV 3)])) (mPut 11 (mC (.int 1)) (mLst [mC (.str [112, 114, 105, 99, 101, 115]), mV 3, mC (.bl true)]))) (mNx)) (mSeq (mSet 15 (mFn fList [mV 5])) (mSeq (mIf (mOrT (mNotT (mTr (mCall 24 false [(false, mCall 41 false [(false, mOp2 opAdd (mV 10) (mC (.int 1))), (false, mV 9), (false, mV 15), (false, mV 3)]), (false, mOp2 opIx (mV 11) (mC (.int 0)))]))) (mNotT (mTr (mCall 24 false [(false, mV 15), (false, mV 5)])))) (mRt [] (mC (.bl false))) (mNx)) (mRt [] (mAndV (mCall 24 false [(false, mCall 41 false [(false, mOp2 opAdd (mV 10) (mC (.int 2))), (false, mV 9), (false, mV 15), (false, mV 3)]), (false, mOp2 opIx (mV 11) (mC (.int 1)))]) (mCall 24 false [(false, mV 15), (false, mV 5)]))))))))) = S13 at MT ⊢
      simp [-ix_l, -ix_t, H1, H2, H3, H4, H5, D9, o9, hF, RN, PL row (by omega), D2, hmul, hol, hF2, fTuple, A3, leak_v, E3, PL rf (by omega), S3, it1]
      exact MT
    · obtain ⟨hm1, x3, rfl⟩ := i
      obtain ⟨j, rfl, hj⟩ := hm1 _ List.mem_cons_self
      have hm2 := fun x hx => hm1 x (List.mem_cons_of_mem _ hx)
      obtain ⟨sv, ra, r1, f1, f2, f3, f5, f6, f7, f8⟩ := RunE_at2 hR j hj
      have CK := checked_s (k - 111) ra sv (by omega) f5
      rw [f8] at CK
      have ON := on_o (k - 111) ra sv.v (.tup (r1.map pT)) f6 (by omega) CK
      rw [show k - 111 + 111 = k by omega] at ON
      have sz1 := (stepped_sz f8).1
      obtain ⟨e3, A3, E3⟩ := asked_c k named (by omega) (.tup (ra.map pT)) sv.v (priceP p q n rows) (.tup (r1.map pT)) (.inl (by rcases hnm with h | h <;> simpa [whichR, h] using ON))
      have S3 := same (.tup (r1.map pT)) (alk_mono (alk_plain (by omega)) (by omega))
      have i1 := il_map Stp.v f1
      have i2 := il_map rT f2
      have i3 : opIx (.lst ((row :: rs).map rT)) (.int ((j : Int) + 1)) = some (.pure (rT r1)) := by
        have := il_map rT f3
        rwa [Int.natCast_add] at this
      generalize hRR : (row :: rs).map rT = RR at *
      simp [-ix_l, -ix_t, it0, i1, i2, i3, PL ra (by omega), PL r1 (by omega), A3, leak_v, E3, S3]
      exact hm2
  · obtain ⟨s5, ss, rs, rf, x0, m, hm, rfl, hR, hln, hpl, hrw, hrs⟩ := i
    cases m with
    | zero => simp [upTo] at hm
    | succ m =>
      simp only [upTo, List.cons.injEq] at hm
      obtain ⟨rfl, hm⟩ := hm
      obtain ⟨v, s6, S1, sv, row', rfl, ⟨ok, hp40⟩, hst, hw', hs'⟩ := okS_p (show OkS (prQ (stepQ rf)) (callN T (k + 1) 35 [s5.d, .pure (.lst (ws.map .str)), .pure (rT rf), .pure (.int 12), .pure (.int 8)]) by
        have := step_r (k - 2) (by omega) s5 rf ws hw hw1 hw2 hrw hrs
        rwa [show k - 2 + 3 = k + 1 by omega] at this)
      have ST : callN T (k + 1) 30 [.pure (rT rf), .pure (.tup (natsP sv.p)), .pure sv.v] = .ok (.pure (rT row')) [] := by
        have := stepped_k (k - 39) sv rf ok (by omega) hp40
        rw [show k - 39 + 40 = k + 1 by omega, hst] at this
        exact this
      have hlen : ss.length < line := by unfold line; omega
      have ix : opIx (.lst (ss.map Stp.v ++ [sv.v])) (.int (ss.length : Int)) = some (.pure sv.v) := il_at (by simp)
      have sp := stp_p sv
      have hE := RunE.snoc hR ok hrw hrs hst
      have hnew : lawI ns (.lst (ws.map .str)) (priceP p q n rows) row rest [some (.pure (.inp ns)), some s6.d, some (.pure (.lst (ws.map .str))), some (.pure (priceP p q n rows)), some (.pure (rT row)), some (.ols (ss.map Stp.v ++ [sv.v])), some (.pure (rT row')), some (.pure (.int (ss.length : Int))), none, none, none, none, none, none, none, none] := by
        refine ⟨s6, ss ++ [sv], rs ++ [row'], row', _, m, ?_, by simp; rfl, hE, by simp; omega, fun s hs => ?_, hw', hs'⟩
        · rw [hm]; simp
        · rcases List.mem_append.mp hs with hs | hs
          · exact hpl s hs
          · rw [List.mem_singleton.mp hs]; exact hp40
      generalize sv.v = vv at *
      simp [-ix_l, -ix_t, S1, hlen, ix, sp, ST]
      exact hnew
end Gbk20
set_option Elab.async false
set_option linter.all false
set_option maxRecDepth 100000
set_option maxHeartbeats 0
namespace Gbk20
open PySem PySem.Spec L2 Gr PyProof.Rows
theorem facts {P : Program} {w : World} {K : PySem.W.Frag} {h : Heap} {mg : Str → Option Value} {f : Addr} (hP : P = Pg) (X : K.In h) (G : h.Ns mainGlobals mg) (hfa : mg ("law" : Str) = some (.ref f)) (c : SaysE fa fn cl xsL Pg.main.file K) :
    ∃ (fd : FuncData) (sp : Sp), (∀ (s : Shared) (v : Value), BindsTo s fd ⟨[v], []⟩ [("_law_script", v)]) ∧ (∀ (H : Hp) (a : Addr) (ns : List Int), ns.length ≤ 63 → Only H → SqL K H a (ns.map V.int) → sp [.ref a] H (fun v _ => v = .bl true) fun _ _ _ => False) ∧ ∀ base : Heap, K.In base → base.Ns mainGlobals mg → FnOk P w K mg base CX0 (151 + 1) f fd ["_law_script"] sp := by
  subst hP
  obtain ⟨fd, F⟩ := c.d.def_ 45 (d := dD "law" 58) rfl
  have e := hfa.symm.trans (He.glo_ok X G (c.d.fact 45 (f := .glo "law") rfl))
  cases e
  have b := FunD.bindsA (ps := ["_law_script"]) F fun _ _ _ _ _ _ us hl => match us, hl with | [_], _ => rfl
  refine ⟨fd, fun vs H Q _ => spA (mkKx K) [false] (callN T (151 + 1) 45) vs H Q fun _ _ _ => False, fun s v => b s [v] rfl, fun H a ns hns _ hS => sp_law (law_s 151 (by decide) ns hns) hS, fun base hb hg => noX ?_⟩
  exact def_ok (df := ⟨[false], 16, false, b_law⟩) F sc_law rfl rfl (fun _ _ _ _ _ _ C => p_law (gx X G c) (lv X G c 151) C)
end Gbk20
open PySem PySem.W PySem.Calls PyProof.Rows
set_option maxRecDepth 100000 in
set_option maxHeartbeats 0 in
theorem PySem.Challenge.cw_graftbook_k20_steps_run_holds : PySem.Challenge.rw_graftbook_k20_steps_run.Holds := by
  w_on; o_law
  refine HandSHeadRun.head_any (r := OpenLaw.row PySem.Challenge.rw_graftbook_k20_steps_run) (q := view (OpenLaw.row PySem.Challenge.rw_graftbook_k20_steps_run).prog [58]) (H := Gbk20.hk) (ob := Gbk20.ob) (M := 6000) (loose := Gbk20.names) (d := HandSHeadRun.topDef (OpenLaw.row PySem.Challenge.rw_graftbook_k20_steps_run).prog 58) (kwd := []) Gbk20.ob_eq
    (by kernel_rfl) (fun s => by kernel_rfl) Gbk20.run (by kernel_rfl) (by kernel_rfl) (by kernel_rfl) (by rfl) (by first | assumption | decide +kernel) (by decide +kernel) ⟨rfl, rfl, rfl, rfl, rfl, by decide +kernel⟩ ?hw ?hc
  case hw => w_witness2
  case hc =>
    refine L2.walk_ofE (l := PySem.Challenge.rw_graftbook_k20_steps_run) (n := 63) (k := 151 + 1) (x := "_law_script") (CX := L2.CX0) rfl (by decide) (by kernel_rfl) ⟨rfl, by decide, by decide⟩ ?F (fun _ _ _ _ z => z)
    intro w mg fa h Y G hmg0
    obtain ⟨K, KX, c⟩ := Y
    have hmg : mg ("law" : PySem.Str) = some (.ref fa) := by
      have e : (HandSHeadRun.topDef (OpenLaw.row PySem.Challenge.rw_graftbook_k20_steps_run).prog 58).name = ("law" : PySem.Str) := by kernel_rfl
      rw [← e]
      exact hmg0
    obtain ⟨fd, sp, hb, hsp, hF⟩ := Gbk20.facts (P := (PySem.Challenge.rw_graftbook_k20_steps_run).prog) (w := w) rfl KX G hmg c
    exact ⟨K, fd, sp, KX, hb, hsp, hF⟩
