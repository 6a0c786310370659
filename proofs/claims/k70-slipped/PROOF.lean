import PyProof.Rows.All
import Wide.All
import OpenK.AllK
import Wide.FinOn
import HandS.ForMost
import HandS.IsInst
import HandS.Style
import HandS.Flow
import HandS.Replace
import HandS.Wide
import HandS.Zip
import HandS.Rev
import HandS.Exc
import HandS.ExcOwn
import HandS.WordsExc
import KE.GoesEnum
import KE.GoesMore
import KE.GoesZip
import KE.KUnpack
import PyProof.StrWalks
import PyProof.CollectStr
import HandS.TupAny
import HandS.TupMul
import HandS.SortInts
import PyProof.StrLawsFirst
import PyProof.SliceStr2
import HandS.SetFor
import HandS.WideBits
import HandS.ExcValue
import KE.KDictZip
import HandS.Dict
import HandS.Small
import HandS.WordsDict
import HandS.SortRule
import HandS.Gcd
import HandS.RaiseMore
import HandS.StrMore
import KE.KMathGC
import HandS.Conv
import HandS.Text
import PyProof.StrLawsChain
import PyProof.StrLawsTight
import HandS.ExcInit
import HandS.ExcField
import HandS.ExcIs
import KE.KExcIs
import KE.KTryMore
import PyProof.TupleOfStr
import HandS.ReplaceLit
import PyProof.Rows.StrStrike
import HandS.Strs
import PySem.Challenge.RW_layerballs_k70_whole_slipped_growth
set_option Elab.async false
set_option linter.all false
set_option maxRecDepth 100000
set_option maxHeartbeats 4000000
namespace Ev
/-- data as the law sees it; lists that are never changed stand by value, changed ones by their number in the store -/
abbrev DK := Sum Int (List Nat)
inductive D where
  | non | bl (b : Bool) | int (i : Int) | str (s : List Nat) | tup (ds : List D) | lst (ds : List D) | ref (n : Nat) | gl (x : String) | ty (n : String) | scr (ns : List Int)
  /-- a dict that is not changed any more -/
  | dcv (ks : List DK) (vs : List D)
  /-- an error that was caught: its class, the name of its field, what it keeps -/
  | exv (x f : String) (d : D)
  deriving Inhabited
inductive MO where
  | lst (ds : List D)
  | dct (kvs : List (DK × D))
  | dead
abbrev Store := List MO
abbrev Env := List (Option D)
inductive Res (α : Type) where
  | ok (a : α) (μ : Store)
  | exc (x : String) (d : D) (μ : Store)
  | stuck
namespace Res
variable {α β γ : Type}
def bind (r : Res α) (f : α → Store → Res β) : Res β := match r with
  | .ok a μ => f a μ
  | .exc x d μ => .exc x d μ
  | .stuck => .stuck
@[simp] theorem bind_ok (a : α) (μ : Store) (f : α → Store → Res β) : (Res.ok a μ).bind f = f a μ := rfl
@[simp] theorem bind_exc (x : String) (d : D) (μ : Store) (f : α → Store → Res β) : (Res.exc x d μ : Res α).bind f = .exc x d μ := rfl
@[simp] theorem bind_stuck (f : α → Store → Res β) : (Res.stuck : Res α).bind f = .stuck := rfl
theorem bind_assoc (r : Res α) (f : α → Store → Res β) (g : β → Store → Res γ) : (r.bind f).bind g = r.bind fun a μ => (f a μ).bind g := by
  cases r <;> rfl
def Out (r : Res α) (k : α → Store → Prop) (e : String → D → Store → Prop) : Prop := match r with
  | .ok a μ => k a μ
  | .exc x d μ => e x d μ
  | .stuck => False
@[simp] theorem Out_ok (a : α) (μ : Store) (k : α → Store → Prop) (e : String → D → Store → Prop) : Out (.ok a μ) k e = k a μ := rfl
theorem Out.bind {r : Res α} {f : α → Store → Res β} {k : β → Store → Prop} {e : String → D → Store → Prop} (h : Out (r.bind f) k e) : Out r (fun a μ => Out (f a μ) k e) e := by
  cases r <;> exact h
theorem Out.mono {r : Res α} {k k' : α → Store → Prop} {e e' : String → D → Store → Prop} (h : Out r k e) (hk : ∀ a μ, k a μ → k' a μ) (he : ∀ x d μ, e x d μ → e' x d μ) : Out r k' e' := by
  cases r with
  | ok a μ => exact hk a μ h
  | exc x d μ => exact he x d μ h
  | stuck => exact h
end Res
open Res

mutual
def noRef : D → Bool
  | .ref _ => false
  | .tup ds => noRefs ds
  | .lst ds => noRefs ds
  | .dcv _ vs => noRefs vs
  | .exv _ _ d => noRef d
  | _ => true
def noRefs : List D → Bool
  | [] => true
  | d :: ds => noRef d && noRefs ds
end
mutual
/-- no list within -/
def noLst : D → Bool
  | .ref _ => false
  | .tup ds => noLsts ds
  | .lst _ => false
  | .scr _ => false
  | .dcv _ _ => false
  | .exv _ _ _ => false
  | _ => true
def noLsts : List D → Bool
  | [] => true
  | d :: ds => noLst d && noLsts ds
end
mutual
/-- no caught error within -/
def noX : D → Bool
  | .exv _ _ _ => false
  | .tup ds => noXs ds
  | .lst ds => noXs ds
  | .dcv _ vs => noXs vs
  | _ => true
def noXs : List D → Bool
  | [] => true
  | d :: ds => noX d && noXs ds
end
/-- no caught error in a name -/
def noXE : Env → Bool
  | [] => true
  | some d :: ρ => noX d && noXE ρ
  | none :: ρ => noXE ρ
/-- the most that a list or a text may hold here -/
def cap : Nat := 1000000
def lift {α : Type} (o : Option α) (μ : Store) : Res α := match o with
  | some a => .ok a μ
  | none => .stuck
@[simp] theorem lift_some {α : Type} (a : α) (μ : Store) : lift (some a) μ = .ok a μ := rfl
@[simp] theorem lift_none {α : Type} (μ : Store) : lift (none : Option α) μ = .stuck := rfl
/-- a list is made: by value, or in the store -/
def mkL (m : Bool) (ds : List D) (μ : Store) : Res D :=
  if ds.length ≤ cap then (if m then (if noLsts ds then .ok (.ref μ.length) (μ ++ [.lst ds]) else .stuck) else .ok (.lst ds) μ) else .stuck
/-- a list of the store is not changed any more: it stands by value from here on -/
def freeze (d : D) (μ : Store) : Res D := match d with
  | .ref n => match μ[n]? with
    | some (.lst ds) => .ok (.lst ds) (μ.set n .dead)
    | _ => .stuck
  | d => .ok d μ
/-- the dict that name i holds stands by value from here on -/
def ghE (i : Nat) (ρ : Env) (μ : Store) : Option (Env × Store) := match ρ[i]? with
  | some (some (.ref n)) => match μ[n]? with
    | some (.dct kvs) => some (ρ.set i (some (.dcv (kvs.map (·.1)) (kvs.map (·.2)))), μ.set n .dead)
    | _ => none
  | _ => none
def truth (μ : Store) (d : D) : Option Bool := match d with
  | .non => some false
  | .bl b => some b
  | .int i => some (i != 0)
  | .str s => if s.length ≤ cap then some (!s.isEmpty) else none
  | .tup ds => some (!ds.isEmpty)
  | .lst ds => some (!ds.isEmpty)
  | .ref n => match μ[n]? with
    | some (.lst ds) => some (!ds.isEmpty)
    | _ => none
  | _ => none

inductive CT where
  | name (i : Nat)
  | tup (ts : List CT)
mutual
def bindT : CT → D → Env → Option Env
  | .name i, d, ρ => if i < ρ.length then some (ρ.set i (some d)) else none
  | .tup ts, .tup ds, ρ => bindTs ts ds ρ
  | .tup ts, .str s, ρ => bindTs ts (s.map fun c => .str [c]) ρ
  | .tup _, _, _ => none
def bindTs : List CT → List D → Env → Option Env
  | [], [], ρ => some ρ
  | t :: ts, d :: ds, ρ => match bindT t d ρ with
    | some ρ' => bindTs ts ds ρ'
    | none => none
  | _, _, _ => none
end
def wipeE (ρ : Env) : List Nat → Env
  | [] => ρ
  | i :: is => (wipeE ρ is).set i none

/-- what is walked: from the values of some expressions the items -/
abbrev Itf := Store → List D → Option (List D)
inductive CE where
  | var (i : Nat)
  | lit (d : D)
  | op1 (f : Store → D → Option D) (a : CE)
  | op2 (f : Store → D → D → Option D) (a b : CE)
  | op3 (f : Store → D → D → D → Option D) (a b c : CE)
  | opN (f : Store → List D → Option D) (as : List CE)
  | opM (f : List D → Store → Res D) (as : List CE)
  | meth (chk : Store → D → Bool) (f : List D → Store → Res D) (o : CE) (as : List CE)
  | frz (a : CE)
  | lst (m : Bool) (as : List CE)
  | tup (as : List CE)
  | and (a b : CE)
  | or (a b : CE)
  | not (a : CE)
  | ite (c a b : CE)
  | chain (f g : Store → D → D → Option D) (a b c : CE)
  | call (x : String) (g : List D → List D) (as : List CE)
  | comp (m : Bool) (elt : CE) (tg : CT) (f : Itf) (as : List CE) (cond : CE) (own : List Nat)
  /-- two clauses -/
  | comp2 (m : Bool) (elt : CE) (tg : CT) (f : Itf) (as : List CE) (cond : CE) (own : List Nat) (tg1 : CT) (f1 : Itf) (as1 : List CE) (cond1 : CE) (own1 : List Nat)

/-- an exception within a comprehension is not followed -/
def noExc {α : Type} (r : Res α) : Res α := match r with
  | .exc _ _ _ => .stuck
  | r => r
@[simp] theorem noExc_ok {α : Type} (a : α) (μ : Store) : noExc (.ok a μ) = .ok a μ := rfl
@[simp] theorem noExc_stuck {α : Type} : noExc (.stuck : Res α) = .stuck := rfl
def compLoop (step : D → Store → Res (Option D)) : List D → Store → Res (List D)
  | [], μ => .ok [] μ
  | d :: ds, μ => (noExc (step d μ)).bind fun o μ1 => (compLoop step ds μ1).bind fun r μ2 => .ok (match o with | some y => y :: r | none => r) μ2
def compLoop2 (step : D → Store → Res (List D)) : List D → Store → Res (List D)
  | [], μ => .ok [] μ
  | d :: ds, μ => (noExc (step d μ)).bind fun r μ1 => (compLoop2 step ds μ1).bind fun rs μ2 => .ok (r ++ rs) μ2

section
variable (cf : String → List D → Store → Res D)
mutual
def ev : CE → Env → Store → Res D
  | .var i, ρ, μ => match ρ[i]? with
    | some (some d) => .ok d μ
    | _ => .stuck
  | .lit d, _, μ => .ok d μ
  | .op1 f a, ρ, μ => (ev a ρ μ).bind fun x μ1 => lift (f μ1 x) μ1
  | .op2 f a b, ρ, μ => (ev a ρ μ).bind fun x μ1 => (ev b ρ μ1).bind fun y μ2 => lift (f μ2 x y) μ2
  | .op3 f a b c, ρ, μ => (ev a ρ μ).bind fun x μ1 => (ev b ρ μ1).bind fun y μ2 => (ev c ρ μ2).bind fun z μ3 => lift (f μ3 x y z) μ3
  | .opN f as, ρ, μ => (evs as ρ μ).bind fun ds μ1 => lift (f μ1 ds) μ1
  | .opM f as, ρ, μ => (evs as ρ μ).bind fun ds μ1 => noExc (f ds μ1)
  | .meth chk f o as, ρ, μ => (ev o ρ μ).bind fun x μ1 => if chk μ1 x then (evs as ρ μ1).bind fun xs μ2 => noExc (f (x :: xs) μ2) else .stuck
  | .frz a, ρ, μ => (ev a ρ μ).bind freeze
  | .lst m as, ρ, μ => (evs as ρ μ).bind fun ds μ1 => mkL m ds μ1
  | .tup as, ρ, μ => (evs as ρ μ).bind fun ds μ1 => if ds.length ≤ cap then .ok (.tup ds) μ1 else .stuck
  | .and a b, ρ, μ => (ev a ρ μ).bind fun x μ1 => (lift (truth μ1 x) μ1).bind fun t μ2 => if t then ev b ρ μ2 else .ok x μ2
  | .or a b, ρ, μ => (ev a ρ μ).bind fun x μ1 => (lift (truth μ1 x) μ1).bind fun t μ2 => if t then .ok x μ2 else ev b ρ μ2
  | .not a, ρ, μ => (ev a ρ μ).bind fun x μ1 => (lift (truth μ1 x) μ1).bind fun t μ2 => .ok (.bl (!t)) μ2
  | .ite c a b, ρ, μ => (ev c ρ μ).bind fun x μ1 => (lift (truth μ1 x) μ1).bind fun t μ2 => if t then ev a ρ μ2 else ev b ρ μ2
  | .chain f g a b c, ρ, μ => (ev a ρ μ).bind fun x μ1 => (ev b ρ μ1).bind fun y μ2 => (lift (f μ2 x y) μ2).bind fun z μ3 => match z with
    | .bl true => (ev c ρ μ3).bind fun w μ4 => lift (g μ4 y w) μ4
    | .bl false => .ok (.bl false) μ3
    | _ => .stuck
  | .call x g as, ρ, μ => (evs as ρ μ).bind fun ds μ1 => cf x (g ds) μ1
  | .comp m elt tg f as cond own, ρ, μ => (evs as ρ μ).bind fun ds μ1 => (lift (f μ1 ds) μ1).bind fun items μ2 =>
      if items.length ≤ cap then (compLoop (fun d μ => match bindT tg d (wipeE ρ own) with
        | none => .stuck
        | some ρ1 => (ev cond ρ1 μ).bind fun x μ1 => (lift (truth μ1 x) μ1).bind fun t μ2 => if t then (ev elt ρ1 μ2).bind fun y μ3 => .ok (some y) μ3 else .ok none μ2) items μ2).bind fun out μ3 => mkL m out μ3 else .stuck
  | .comp2 m elt tg f as cond own tg1 f1 as1 cond1 own1, ρ, μ => (evs as ρ μ).bind fun ds μ1 => (lift (f μ1 ds) μ1).bind fun items μ2 =>
      if items.length ≤ cap then (compLoop2 (fun d μ => match bindT tg d (wipeE ρ own) with
        | none => .stuck
        | some ρ1 => (ev cond ρ1 μ).bind fun x μ1 => (lift (truth μ1 x) μ1).bind fun t μ2 => if t then (evs as1 ρ1 μ2).bind fun ds1 μ3 => (lift (f1 μ3 ds1) μ3).bind fun items1 μ4 =>
            if items1.length ≤ cap then compLoop (fun d μ => match bindT tg1 d (wipeE ρ1 own1) with
              | none => .stuck
              | some ρ2 => (ev cond1 ρ2 μ).bind fun x μ1 => (lift (truth μ1 x) μ1).bind fun t μ2 => if t then (ev elt ρ2 μ2).bind fun y μ3 => .ok (some y) μ3 else .ok none μ2) items1 μ4 else .stuck
          else .ok [] μ2) items μ2).bind fun out μ3 => mkL m out μ3 else .stuck
def evs : List CE → Env → Store → Res (List D)
  | [], _, μ => .ok [] μ
  | a :: as, ρ, μ => (ev a ρ μ).bind fun x μ1 => (evs as ρ μ1).bind fun xs μ2 => .ok (x :: xs) μ2
end
end

inductive AT where
  | name (i : Nat)
  | sub (o i : CE)
  | key (o i : CE)
  | tup (ts : List AT)
/-- the one statement of a try -/
inductive TK where
  | ret
  | expr
  | asg (t : AT)
inductive CS where
  | pass
  | expr (e : CE)
  | asg (t : AT) (e : CE)
  | ifs (c : CE) (a b : List CS)
  | for (t : CT) (f : Itf) (as : List CE) (body : List CS)
  | whil (fuel : Nat) (c : CE) (body : List CS)
  | ret (e : CE)
  | retN
  | brk
  | cont
  | never
  /-- the dict that name i holds is not changed any more; then the statement -/
  | gh (i : Nat) (c : CS)
  /-- raise x(e), e kept as f -/
  | rse (x f : String) (e : CE)
  /-- try: one statement; except a class that p tells, as name i: hd -/
  | tr (k : TK) (e : CE) (p : String → Bool) (i : Nat) (hd : List CS)
inductive Fl where
  | nx (ρ : Env) | rt (d : D) | bk (ρ : Env) | ct (ρ : Env)

/-- a[i] for an index of any sign -/
def ixOf (n : Nat) (i : Int) : Option Nat := if 0 ≤ i then (if i < n then some i.toNat else none) else if -(n : Int) ≤ i then some (i + n).toNat else none
def setIx (o i d : D) (μ : Store) : Option Store := match o, i with
  | .ref n, .int i => match μ[n]? with
    | some (.lst ds) => match ixOf ds.length i with
      | some j => if noLst d then some (μ.set n (.lst (ds.set j d))) else none
      | none => none
    | _ => none
  | _, _ => none
def keyD : D → Option DK
  | .int i => some (.inl i)
  | .str s => some (.inr s)
  | _ => none
def valD (kvs : List (DK × D)) (k : DK) : Option D := (kvs.find? fun kv => decide (kv.1 = k)).map (·.2)
def putD (kvs : List (DK × D)) (k : DK) (d : D) : List (DK × D) :=
  if (kvs.any fun kv => decide (kv.1 = k)) = true then kvs.map (fun kv => if kv.1 = k then (kv.1, d) else kv) else kvs ++ [(k, d)]
def dctOf (μ : Store) : D → Option (Nat × List (DK × D))
  | .ref n => match μ[n]? with
    | some (.dct kvs) => some (n, kvs)
    | _ => none
  | _ => none
/-- d[k] = v -/
def putIx (o i d : D) (μ : Store) : Option Store := match dctOf μ o, keyD i with
  | some (n, kvs), some k => if noLst d = true ∧ kvs.length < cap then some (μ.set n (.dct (putD kvs k d))) else none
  | _, _ => none
def forLoop (step : Env → D → Store → Res Fl) : List D → Env → Store → Res Fl
  | [], ρ, μ => .ok (.nx ρ) μ
  | d :: ds, ρ, μ => (step ρ d μ).bind fun fl μ1 => match fl with
    | .nx ρ1 => forLoop step ds ρ1 μ1
    | .ct ρ1 => forLoop step ds ρ1 μ1
    | .bk ρ1 => .ok (.nx ρ1) μ1
    | .rt d => .ok (.rt d) μ1
def whileLoop (cond : Env → Store → Res Bool) (body : Env → Store → Res Fl) : Nat → Env → Store → Res Fl
  | 0, _, _ => .stuck
  | n + 1, ρ, μ => (cond ρ μ).bind fun t μ1 => if t then (body ρ μ1).bind fun fl μ2 => match fl with
    | .nx ρ1 => whileLoop cond body n ρ1 μ2
    | .ct ρ1 => whileLoop cond body n ρ1 μ2
    | .bk ρ1 => .ok (.nx ρ1) μ2
    | .rt d => .ok (.rt d) μ2 else .ok (.nx ρ) μ1
section
variable (cf : String → List D → Store → Res D)
mutual
def asgT : AT → D → Env → Store → Res Env
  | .name i, d, ρ, μ => if i < ρ.length then .ok (ρ.set i (some d)) μ else .stuck
  | .sub o i, d, ρ, μ => (noExc (ev cf o ρ μ)).bind fun x μ1 => (noExc (ev cf i ρ μ1)).bind fun y μ2 => match setIx x y d μ2 with
    | some μ3 => .ok ρ μ3
    | none => .stuck
  | .key o i, d, ρ, μ => (noExc (ev cf o ρ μ)).bind fun x μ1 => (noExc (ev cf i ρ μ1)).bind fun y μ2 => match putIx x y d μ2 with
    | some μ3 => .ok ρ μ3
    | none => .stuck
  | .tup ts, .tup ds, ρ, μ => asgTs ts ds ρ μ
  | .tup ts, .str s, ρ, μ => asgTs ts (s.map fun c => .str [c]) ρ μ
  | .tup _, _, _, _ => .stuck
def asgTs : List AT → List D → Env → Store → Res Env
  | [], [], ρ, μ => .ok ρ μ
  | t :: ts, d :: ds, ρ, μ => (asgT t d ρ μ).bind fun ρ1 μ1 => asgTs ts ds ρ1 μ1
  | _, _, _, _ => .stuck
end
def evT (c : CE) (ρ : Env) (μ : Store) : Res Bool := (ev cf c ρ μ).bind fun x μ1 => lift (truth μ1 x) μ1
mutual
def ex : CS → Env → Store → Res Fl
  | .pass, ρ, μ => .ok (.nx ρ) μ
  | .expr e, ρ, μ => (ev cf e ρ μ).bind fun _ μ1 => .ok (.nx ρ) μ1
  | .asg t e, ρ, μ => (ev cf e ρ μ).bind fun d μ1 => (asgT cf t d ρ μ1).bind fun ρ1 μ2 => .ok (.nx ρ1) μ2
  | .ifs c a b, ρ, μ => (evT cf c ρ μ).bind fun t μ1 => if t then exs a ρ μ1 else exs b ρ μ1
  | .for t f as body, ρ, μ => (evs cf as ρ μ).bind fun ds μ1 => (lift (f μ1 ds) μ1).bind fun items μ2 => forLoop (fun ρ d μ => match bindT t d ρ with
      | none => .stuck
      | some ρ1 => exs body ρ1 μ) items ρ μ2
  | .whil n c body, ρ, μ => whileLoop (evT cf c) (fun ρ μ => exs body ρ μ) n ρ μ
  | .ret e, ρ, μ => (ev cf e ρ μ).bind fun d μ1 => .ok (.rt d) μ1
  | .retN, _, μ => .ok (.rt .non) μ
  | .brk, ρ, μ => .ok (.bk ρ) μ
  | .cont, ρ, μ => .ok (.ct ρ) μ
  | .never, _, _ => .stuck
  | .gh i c, ρ, μ => match ghE i ρ μ with
    | some (ρ1, μ1) => ex c ρ1 μ1
    | none => .stuck
  | .rse x f e, ρ, μ => (ev cf e ρ μ).bind fun d μ1 => .exc x (.exv x f d) μ1
  | .tr k e p i hd, ρ, μ => match ev cf e ρ μ with
    | .stuck => .stuck
    | .exc x d μ1 => if p x then (if i < ρ.length then (noExc (exs hd (ρ.set i (some d)) μ1)).bind fun fl μ2 => match fl with
        | .rt r => if noX r then .ok (.rt r) μ2 else .stuck
        | .nx ρ2 => if noXE (ρ2.set i none) then .ok (.nx (ρ2.set i none)) μ2 else .stuck
        | .ct ρ2 => if noXE (ρ2.set i none) then .ok (.ct (ρ2.set i none)) μ2 else .stuck
        | .bk ρ2 => if noXE (ρ2.set i none) then .ok (.bk (ρ2.set i none)) μ2 else .stuck else .stuck) else .stuck
    | .ok d μ1 => match k with
      | .ret => .ok (.rt d) μ1
      | .expr => .ok (.nx ρ) μ1
      | .asg t => (asgT cf t d ρ μ1).bind fun ρ1 μ2 => .ok (.nx ρ1) μ2
def exs : List CS → Env → Store → Res Fl
  | [], ρ, μ => .ok (.nx ρ) μ
  | c :: cs, ρ, μ => (ex c ρ μ).bind fun fl μ1 => match fl with
    | .nx ρ1 => exs cs ρ1 μ1
    | fl => .ok fl μ1
end
end
structure FD where
  np : Nat
  nl : Nat
  body : List CS
def trunc (μ : Store) (d : D) (μ' : Store) : Res D := if noRef d then .ok d (μ'.take μ.length) else .ok d μ'
def finish (μ : Store) (fl : Fl) (μ' : Store) : Res D := match fl with
  | .rt d => trunc μ d μ'
  | .nx _ => trunc μ .non μ'
  | _ => .stuck
def startE (fd : FD) (ds : List D) : Env := ds.map some ++ List.replicate (fd.nl - ds.length) none
def callD (P : String → Option FD) : Nat → String → List D → Store → Res D
  | 0, _, _, _ => .stuck
  | n + 1, x, ds, μ => match P x with
    | none => .stuck
    | some fd => if ds.length = fd.np then (exs (callD P n) fd.body (startE fd ds) μ).bind (finish μ) else .stuck
end Ev

namespace Ev
open PySem PySem.Spec L2

structure AM where
  /-- the store's lists by number; none: held by value from here on -/
  l : List (Option Addr)
  /-- lists that are being made -/
  x : List Addr
def AM.has (m : AM) (a : Addr) : Prop := some a ∈ m.l ∨ a ∈ m.x
structure GC where
  K : PySem.W.Frag
  FA : String → Option Addr
  /-- the error that is held here, its dict, its class -/
  XA : Option (Addr × Addr × Addr) := none
abbrev toS (s : List Nat) : Str := ⟨s.toArray⟩

def toKey : DK → Key
  | .inl i => .inl i
  | .inr s => .inr (toS s)
mutual
def Rep (G : GC) (m : AM) (H : Hp) : D → V → Prop
  | .non, v => v = .non
  | .bl b, v => v = .bl b
  | .int i, v => v = .int i
  | .str s, v => v = .str (toS s)
  | .tup ds, v => ∃ a xs, v = .ref a ∧ SqT G.K H a xs ∧ Reps G m H ds xs
  | .lst ds, v => ∃ a xs, v = .ref a ∧ ¬ m.has a ∧ Rd H a (.lst xs) ∧ Reps G m H ds xs
  | .ref n, v => ∃ a, v = .ref a ∧ (m.l[n]? = some (some a) ∨ m.l[n]? = some none)
  | .gl x, v => ∃ a, v = .ref a ∧ G.FA x = some a
  | .ty n, v => v = .ty n
  | .dcv ks ds, v => ∃ a xs od, v = .ref a ∧ ¬ m.has a ∧ H a = some (.frz od (.dK ((ks.map toKey).zip xs))) ∧ ks.length = ds.length ∧ Reps G m H ds xs
  | .exv x f d, v => ∃ a dd C fs w, v = .ref a ∧ G.XA = some (a, dd, C) ∧ G.FA x = some C ∧ H dd = some (.xd fs) ∧ fs.lookup (Str.ofString f) = some w ∧ Rep G m H d w
  | .scr ns, v => ∃ a, v = .ref a ∧ ((¬ m.has a ∧ Rd H a (.lst (ns.map V.int))) ∨ ∀ H' : Hp, SqL G.K H' a (ns.map V.int))
def Reps (G : GC) (m : AM) (H : Hp) : List D → List V → Prop
  | [], xs => xs = []
  | d :: ds, xs => ∃ v vs, xs = v :: vs ∧ Rep G m H d v ∧ Reps G m H ds vs
end

/-- an error in flight: of the class x, with its dict -/
def GC.EA (G : GC) (x : String) (d : D) (cls : Value) (dd : Option Addr) (m : AM) (H : Hp) : Prop :=
  ∃ C a f d0 fs w, d = .exv x f d0 ∧ G.FA x = some C ∧ cls = .ref C ∧ dd = some a ∧ H a = some (.xd fs) ∧ fs.lookup (Str.ofString f) = some w ∧ Rep G m H d0 w
/-- what may change: lists, dicts -/
def MutO : HO → Prop
  | .lst _ => True
  | .dK _ => True
  | _ => False
/-- the data of an object of the store; the tracked object with values xs -/
def moD : MO → Option (List D)
  | .lst ds => some ds
  | .dct kvs => some (kvs.map (·.2))
  | .dead => none
def moH : MO → List V → HO
  | .lst _, xs => .lst xs
  | .dct kvs, xs => .dK ((kvs.map fun kv => toKey kv.1).zip xs)
  | .dead, xs => .lst xs
theorem moH_mut (o : MO) (xs : List V) : MutO (moH o xs) := by cases o <;> exact trivial
structure Ext (m : AM) (H : Hp) (m' : AM) (H' : Hp) : Prop where
  len : m.l.length ≤ m'.l.length
  pre : ∀ i, i < m.l.length → m'.l[i]? = m.l[i]? ∨ m'.l[i]? = some none
  fresh : ∀ a, m'.has a → ¬ m.has a → H a = none
  keep : ∀ a o, H a = some o → ¬ m.has a → H' a = some o
  xeq : m'.x = m.x
  keepx : ∀ a ∈ m.x, H' a = H a

theorem Ext.refl (m : AM) (H : Hp) : Ext m H m H := ⟨Nat.le_refl _, fun _ _ => .inl rfl, fun _ h h' => absurd h h', fun _ _ h _ => h, rfl, fun _ _ => rfl⟩
theorem Ext.nm {m m' : AM} {H H' : Hp} (e : Ext m H m' H') {a : Addr} {o : HO} (h : H a = some o) (n : ¬ m.has a) : ¬ m'.has a := fun z => by
  have := e.fresh a z n
  rw [h] at this; cases this
theorem Ext.trans {m m1 m2 : AM} {H H1 H2 : Hp} (a : Ext m H m1 H1) (b : Ext m1 H1 m2 H2) : Ext m H m2 H2 where
  len := Nat.le_trans a.len b.len
  pre := fun i hi => by
    rcases b.pre i (Nat.lt_of_lt_of_le hi a.len) with q | q
    · rw [q]; exact a.pre i hi
    · exact .inr q
  fresh := fun c h h' => by
    by_cases q : m1.has c
    · exact a.fresh c q h'
    · have z := b.fresh c h q
      cases e : H c with
      | none => rfl
      | some o =>
        have := a.keep c o e h'
        rw [z] at this; cases this
  keep := fun c o h h' => b.keep c o (a.keep c o h h') (a.nm h h')
  xeq := b.xeq.trans a.xeq
  keepx := fun c h => (b.keepx c (by rw [a.xeq]; exact h)).trans (a.keepx c h)
/-- a new object beside the store -/
theorem Ext.new {m : AM} {H : Hp} {p : Addr} {o : HO} (L : ∀ a, m.has a → ∃ o, MutO o ∧ H a = some o) (h : H p = none) : Ext m H m (upd H p o) :=
  ⟨Nat.le_refl _, fun _ _ => .inl rfl, fun _ h h' => absurd h h', fun a u q _ => by rw [upd_ne (ne_of_none q h)]; exact q, rfl, fun a ha => by
    obtain ⟨xs, _, q⟩ := L a (.inr ha)
    rw [upd_ne (ne_of_none q h)]⟩

/-- what data lean on -/
structure Mon (m : AM) (H : Hp) (m' : AM) (H' : Hp) : Prop where
  pre : ∀ i, i < m.l.length → m'.l[i]? = m.l[i]? ∨ m'.l[i]? = some none
  keep : ∀ a o, H a = some o → ¬ m.has a → H' a = some o ∧ ¬ m'.has a
theorem Ext.mon {m m' : AM} {H H' : Hp} (e : Ext m H m' H') : Mon m H m' H' := ⟨e.pre, fun a o h n => ⟨e.keep a o h n, e.nm h n⟩⟩
theorem Mon.trans {m m1 m2 : AM} {H H1 H2 : Hp} (a : Mon m H m1 H1) (b : Mon m1 H1 m2 H2) : Mon m H m2 H2 where
  pre := fun i hi => by
    have h1 : i < m1.l.length := by
      rcases a.pre i hi with q | q
      · rw [List.getElem?_eq_getElem hi] at q
        exact (List.getElem?_eq_some_iff.mp q).1
      · exact (List.getElem?_eq_some_iff.mp q).1
    rcases b.pre i h1 with q | q
    · rw [q]; exact a.pre i hi
    · exact .inr q
  keep := fun c o h n => b.keep c o (a.keep c o h n).1 (a.keep c o h n).2
theorem Mon.new {m : AM} {H : Hp} {p : Addr} {o : HO} (h : H p = none) : Mon m H m (upd H p o) := ⟨fun _ _ => .inl rfl, fun a u q n => ⟨by rw [upd_ne (ne_of_none q h)]; exact q, n⟩⟩
theorem Mon.refl (m : AM) (H : Hp) : Mon m H m H := ⟨fun _ _ => .inl rfl, fun _ _ q n => ⟨q, n⟩⟩
theorem Rd.mon {m m' : AM} {H H' : Hp} (e : Mon m H m' H') {a : Addr} {u : HO} (h : Rd H a u) (n : ¬ m.has a) : Rd H' a u ∧ ¬ m'.has a := by
  rcases h with h | ⟨o, h⟩
  · exact ⟨.inl (e.keep _ _ h n).1, (e.keep _ _ h n).2⟩
  · exact ⟨.inr ⟨o, (e.keep _ _ h n).1⟩, (e.keep _ _ h n).2⟩
theorem Rd.ext {m m' : AM} {H H' : Hp} (e : Ext m H m' H') {a : Addr} {u : HO} (h : Rd H a u) (n : ¬ m.has a) : Rd H' a u ∧ ¬ m'.has a := Rd.mon e.mon h n

structure StOk (G : GC) (μ : Store) (m : AM) (H : Hp) : Prop where
  len : m.l.length = μ.length
  inj : ∀ (i j : Nat) (a : Addr), m.l[i]? = some (some a) → m.l[j]? = some (some a) → i = j
  apart : ∀ a, some a ∈ m.l → a ∈ m.x → False
  obj : ∀ (n : Nat) (o : MO) (ds : List D), μ[n]? = some o → moD o = some ds → noLsts ds = true ∧ ∃ a xs, m.l[n]? = some (some a) ∧ H a = some (moH o xs) ∧ Reps G m H ds xs
  dead : ∀ (n : Nat), μ[n]? = some .dead → m.l[n]? = some none
  live : ∀ a, m.has a → ∃ o, MutO o ∧ H a = some o

theorem StOk.lst {G : GC} {μ : Store} {m : AM} {H : Hp} (S : StOk G μ m H) (n : Nat) (ds : List D) (h : μ[n]? = some (.lst ds)) : noLsts ds = true ∧ ∃ a xs, m.l[n]? = some (some a) ∧ H a = some (.lst xs) ∧ Reps G m H ds xs := S.obj n _ ds h rfl
theorem SqT.mon {G : GC} {m m' : AM} {H H' : Hp} {a : Addr} {xs : List V} (S : ∀ a, m.has a → ∃ o, MutO o ∧ H a = some o) (e : Mon m H m' H') (h : SqT G.K H a xs) : SqT G.K H' a xs := by
  rcases h with (h | ⟨o, h⟩) | h
  · refine .inl (.inl (e.keep _ _ h fun z => ?_).1)
    obtain ⟨ys, mu, q⟩ := S a z
    rw [h] at q; cases q; exact mu.elim
  · refine .inl (.inr ⟨o, (e.keep _ _ h fun z => ?_).1⟩)
    obtain ⟨ys, mu, q⟩ := S a z
    rw [h] at q; cases q; exact mu.elim
  · exact .inr h

section
variable {G : GC} {m m' : AM} {H H' : Hp}
mutual
theorem Rep.mon (S : ∀ a, m.has a → ∃ o, MutO o ∧ H a = some o) (e : Mon m H m' H') : ∀ (d : D) (v : V), Rep G m H d v → Rep G m' H' d v
  | .non, _, h => by unfold Rep at h ⊢; exact h
  | .bl _, _, h => by unfold Rep at h ⊢; exact h
  | .int _, _, h => by unfold Rep at h ⊢; exact h
  | .str _, _, h => by unfold Rep at h ⊢; exact h
  | .tup ds, v, h => by
    unfold Rep at h ⊢
    obtain ⟨a, xs, e1, hs, r⟩ := h
    exact ⟨a, xs, e1, SqT.mon S e hs, Reps.mon S e ds xs r⟩
  | .lst ds, v, h => by
    unfold Rep at h ⊢
    obtain ⟨a, xs, e1, n, hs, r⟩ := h
    obtain ⟨q1, q2⟩ := Rd.mon e hs n
    exact ⟨a, xs, e1, q2, q1, Reps.mon S e ds xs r⟩
  | .ref n, _, h => by
    unfold Rep at h ⊢
    obtain ⟨a, e1, h⟩ := h
    refine ⟨a, e1, ?_⟩
    have hn : n < m.l.length := by
      rcases h with h | h
      · exact (List.getElem?_eq_some_iff.mp h).1
      · exact (List.getElem?_eq_some_iff.mp h).1
    rcases e.pre n hn with q | q
    · rw [q]; exact h
    · exact .inr q
  | .gl _, _, h => by unfold Rep at h ⊢; exact h
  | .ty _, _, h => by unfold Rep at h ⊢; exact h
  | .dcv ks ds, v, h => by
    unfold Rep at h ⊢
    obtain ⟨a, xs, od, e1, n, hs, hl, r⟩ := h
    obtain ⟨q1, q2⟩ := e.keep _ _ hs n
    exact ⟨a, xs, od, e1, q2, q1, hl, Reps.mon S e ds xs r⟩
  | .exv x f d, v, h => by
    unfold Rep at h ⊢
    obtain ⟨a, dd, C, fs, w, e1, hx, hf, hd, hl, r⟩ := h
    refine ⟨a, dd, C, fs, w, e1, hx, hf, (e.keep _ _ hd fun z => ?_).1, hl, Rep.mon S e d w r⟩
    obtain ⟨o, mu, q⟩ := S dd z
    rw [hd] at q; cases q; exact mu.elim
  | .scr _, _, h => by
    unfold Rep at h ⊢
    obtain ⟨a, e1, h⟩ := h
    rcases h with ⟨n, h⟩ | h
    · exact ⟨a, e1, .inl ⟨(Rd.mon e h n).2, (Rd.mon e h n).1⟩⟩
    · exact ⟨a, e1, .inr h⟩
theorem Reps.mon (S : ∀ a, m.has a → ∃ o, MutO o ∧ H a = some o) (e : Mon m H m' H') : ∀ (ds : List D) (vs : List V), Reps G m H ds vs → Reps G m' H' ds vs
  | [], _, h => by unfold Reps at h ⊢; exact h
  | d :: ds, vs, h => by
    unfold Reps at h ⊢
    obtain ⟨w, ws, e1, r1, r2⟩ := h
    exact ⟨w, ws, e1, Rep.mon S e d w r1, Reps.mon S e ds ws r2⟩
end
theorem SqT.ext (S : ∀ a, m.has a → ∃ o, MutO o ∧ H a = some o) (e : Ext m H m' H') {a : Addr} {xs : List V} (h : SqT G.K H a xs) : SqT G.K H' a xs := SqT.mon S e.mon h
theorem Rep.ext (S : ∀ a, m.has a → ∃ o, MutO o ∧ H a = some o) (e : Ext m H m' H') (d : D) (v : V) (h : Rep G m H d v) : Rep G m' H' d v := Rep.mon S e.mon d v h
theorem Reps.ext (S : ∀ a, m.has a → ∃ o, MutO o ∧ H a = some o) (e : Ext m H m' H') (ds : List D) (vs : List V) (h : Reps G m H ds vs) : Reps G m' H' ds vs := Reps.mon S e.mon ds vs h
mutual
theorem Rep.flat : ∀ (d : D) (v : V), noLst d = true → Rep G m H d v → Rep G m' H d v
  | .non, _, _, h => by unfold Rep at h ⊢; exact h
  | .bl _, _, _, h => by unfold Rep at h ⊢; exact h
  | .int _, _, _, h => by unfold Rep at h ⊢; exact h
  | .str _, _, _, h => by unfold Rep at h ⊢; exact h
  | .tup ds, v, n, h => by
    unfold Rep at h ⊢
    obtain ⟨a, xs, e1, hs, r⟩ := h
    exact ⟨a, xs, e1, hs, Reps.flat ds xs (by unfold noLst at n; exact n) r⟩
  | .lst ds, v, n, h => by unfold noLst at n; cases n
  | .ref n, _, n', h => by unfold noLst at n'; cases n'
  | .gl _, _, _, h => by unfold Rep at h ⊢; exact h
  | .ty _, _, _, h => by unfold Rep at h ⊢; exact h
  | .scr _, _, n, h => by unfold noLst at n; cases n
  | .dcv _ _, _, n, h => by unfold noLst at n; cases n
  | .exv _ _ _, _, n, h => by unfold noLst at n; cases n
theorem Reps.flat : ∀ (ds : List D) (vs : List V), noLsts ds = true → Reps G m H ds vs → Reps G m' H ds vs
  | [], _, _, h => by unfold Reps at h ⊢; exact h
  | d :: ds, vs, n, h => by
    unfold noLsts at n
    obtain ⟨n1, n2⟩ := Bool.and_eq_true_iff.mp n
    unfold Reps at h ⊢
    obtain ⟨w, ws, e1, r1, r2⟩ := h
    exact ⟨w, ws, e1, Rep.flat d w n1 r1, Reps.flat ds ws n2 r2⟩
end
mutual
theorem noRef_of : ∀ d : D, noLst d = true → noRef d = true
  | .non, _ => rfl
  | .bl _, _ => rfl
  | .int _, _ => rfl
  | .str _, _ => rfl
  | .gl _, _ => rfl
  | .ty _, _ => rfl
  | .scr _, _ => rfl
  | .tup ds, h => by unfold noLst at h; unfold noRef; exact noRefs_of ds h
  | .lst ds, h => by unfold noLst at h; cases h
  | .ref n, h => by unfold noLst at h; cases h
  | .dcv _ _, h => by unfold noLst at h; cases h
  | .exv _ _ _, h => by unfold noLst at h; cases h
theorem noRefs_of : ∀ ds : List D, noLsts ds = true → noRefs ds = true
  | [], _ => rfl
  | d :: ds, h => by
    unfold noLsts at h
    obtain ⟨h1, h2⟩ := Bool.and_eq_true_iff.mp h
    unfold noRefs
    rw [noRef_of d h1, noRefs_of ds h2]
    rfl
end
mutual
/-- what bears no number of the store stands over the older store too -/
theorem Rep.back (hm : ∀ a : Addr, m.has a → m'.has a) : ∀ (d : D) (v : V), noRef d = true → Rep G m' H d v → Rep G m H d v
  | .non, _, _, h => by unfold Rep at h ⊢; exact h
  | .bl _, _, _, h => by unfold Rep at h ⊢; exact h
  | .int _, _, _, h => by unfold Rep at h ⊢; exact h
  | .str _, _, _, h => by unfold Rep at h ⊢; exact h
  | .tup ds, v, n, h => by
    unfold Rep at h ⊢
    obtain ⟨a, xs, e1, hs, r⟩ := h
    exact ⟨a, xs, e1, hs, Reps.back hm ds xs (by unfold noRef at n; exact n) r⟩
  | .lst ds, v, n, h => by
    unfold Rep at h ⊢
    obtain ⟨a, xs, e1, nm, hs, r⟩ := h
    exact ⟨a, xs, e1, fun z => nm (hm a z), hs, Reps.back hm ds xs (by unfold noRef at n; exact n) r⟩
  | .ref n, _, n', h => by unfold noRef at n'; cases n'
  | .gl _, _, _, h => by unfold Rep at h ⊢; exact h
  | .ty _, _, _, h => by unfold Rep at h ⊢; exact h
  | .dcv ks ds, v, n, h => by
    unfold Rep at h ⊢
    obtain ⟨a, xs, od, e1, nm, hs, hl, r⟩ := h
    exact ⟨a, xs, od, e1, fun z => nm (hm a z), hs, hl, Reps.back hm ds xs (by unfold noRef at n; exact n) r⟩
  | .exv x f d, v, n, h => by
    unfold Rep at h ⊢
    obtain ⟨a, dd, C, fs, w, e1, hx, hf, hd, hl, r⟩ := h
    exact ⟨a, dd, C, fs, w, e1, hx, hf, hd, hl, Rep.back hm d w (by unfold noRef at n; exact n) r⟩
  | .scr _, _, n, h => by
    unfold Rep at h ⊢
    obtain ⟨a, e1, h⟩ := h
    rcases h with ⟨n, h⟩ | h
    · exact ⟨a, e1, .inl ⟨fun z => n (hm a z), h⟩⟩
    · exact ⟨a, e1, .inr h⟩
theorem Reps.back (hm : ∀ a : Addr, m.has a → m'.has a) : ∀ (ds : List D) (vs : List V), noRefs ds = true → Reps G m' H ds vs → Reps G m H ds vs
  | [], _, _, h => by unfold Reps at h ⊢; exact h
  | d :: ds, vs, n, h => by
    unfold noRefs at n
    obtain ⟨n1, n2⟩ := Bool.and_eq_true_iff.mp n
    unfold Reps at h ⊢
    obtain ⟨w, ws, e1, r1, r2⟩ := h
    exact ⟨w, ws, e1, Rep.back hm d w n1 r1, Reps.back hm ds ws n2 r2⟩
end
theorem Reps.length : ∀ {ds : List D} {vs : List V}, Reps G m H ds vs → ds.length = vs.length
  | [], vs, h => by unfold Reps at h; rw [h]; rfl
  | d :: ds, vs, h => by
    unfold Reps at h
    obtain ⟨w, ws, e1, r1, r2⟩ := h
    rw [e1, List.length_cons, List.length_cons, Reps.length r2]
theorem Reps.get : ∀ {ds : List D} {vs : List V} {i : Nat} {d : D}, Reps G m H ds vs → ds[i]? = some d → ∃ v, vs[i]? = some v ∧ Rep G m H d v
  | [], _, _, _, _, e => by simp at e
  | d :: ds, vs, 0, d', h, e => by
    unfold Reps at h
    obtain ⟨w, ws, e1, r1, r2⟩ := h
    have e2 : d = d' := by simpa using e
    subst e2
    exact ⟨w, by rw [e1]; rfl, r1⟩
  | d :: ds, vs, i + 1, d', h, e => by
    unfold Reps at h
    obtain ⟨w, ws, e1, r1, r2⟩ := h
    obtain ⟨v, q1, q2⟩ := Reps.get (i := i) r2 (by simpa using e)
    exact ⟨v, by rw [e1]; simpa using q1, q2⟩
theorem Reps.nil : Reps G m H [] [] := by unfold Reps; rfl
theorem Reps.cons {d : D} {v : V} {ds : List D} {vs : List V} (h : Rep G m H d v) (t : Reps G m H ds vs) : Reps G m H (d :: ds) (v :: vs) := by
  unfold Reps; exact ⟨v, vs, rfl, h, t⟩
theorem Reps.uncons {d : D} {ds : List D} {vs : List V} (h : Reps G m H (d :: ds) vs) : ∃ w ws, vs = w :: ws ∧ Rep G m H d w ∧ Reps G m H ds ws := by
  unfold Reps at h; exact h
theorem Reps.isnil {vs : List V} (h : Reps G m H [] vs) : vs = [] := by unfold Reps at h; exact h
theorem Reps.append : ∀ {ds es : List D} {vs ws : List V}, Reps G m H ds vs → Reps G m H es ws → Reps G m H (ds ++ es) (vs ++ ws)
  | [], _, _, _, h, k => by rw [h.isnil]; exact k
  | d :: ds, es, vs, ws, h, k => by
    obtain ⟨w, us, e1, r1, r2⟩ := h.uncons
    rw [e1]
    exact .cons r1 (Reps.append r2 k)
theorem Reps.take : ∀ {ds : List D} {vs : List V} (n : Nat), Reps G m H ds vs → Reps G m H (ds.take n) (vs.take n)
  | _, _, 0, _ => by simpa using Reps.nil
  | [], _, _ + 1, h => by rw [h.isnil]; exact Reps.nil
  | d :: ds, vs, n + 1, h => by
    obtain ⟨w, us, e1, r1, r2⟩ := h.uncons
    rw [e1]
    exact .cons r1 (Reps.take n r2)
theorem Reps.drop : ∀ {ds : List D} {vs : List V} (n : Nat), Reps G m H ds vs → Reps G m H (ds.drop n) (vs.drop n)
  | _, _, 0, h => h
  | [], _, _ + 1, h => by rw [h.isnil]; exact Reps.nil
  | d :: ds, vs, n + 1, h => by
    obtain ⟨w, us, e1, r1, r2⟩ := h.uncons
    rw [e1]
    exact Reps.drop n r2
theorem Reps.set : ∀ {ds : List D} {vs : List V} {d : D} {v : V} (i : Nat), Reps G m H ds vs → Rep G m H d v → Reps G m H (ds.set i d) (vs.set i v)
  | [], _, _, _, _, h, _ => by rw [h.isnil]; exact Reps.nil
  | d :: ds, vs, _, _, 0, h, k => by
    obtain ⟨w, us, e1, r1, r2⟩ := h.uncons
    rw [e1]
    exact .cons k r2
  | d :: ds, vs, _, _, n + 1, h, k => by
    obtain ⟨w, us, e1, r1, r2⟩ := h.uncons
    rw [e1]
    exact .cons r1 (Reps.set n r2 k)
theorem Reps.reverse : ∀ {ds : List D} {vs : List V}, Reps G m H ds vs → Reps G m H ds.reverse vs.reverse
  | [], _, h => by rw [h.isnil]; exact Reps.nil
  | d :: ds, vs, h => by
    obtain ⟨w, us, e1, r1, r2⟩ := h.uncons
    rw [e1, List.reverse_cons, List.reverse_cons]
    exact Reps.append (Reps.reverse r2) (.cons r1 .nil)
theorem reps_ints : ∀ (ns : List Int), Reps G m H (ns.map D.int) (ns.map V.int)
  | [] => .nil
  | n :: ns => .cons (by unfold Rep; rfl) (reps_ints ns)
theorem reps_ints_eq : ∀ {ns : List Int} {vs : List V}, Reps G m H (ns.map D.int) vs → vs = ns.map V.int
  | [], _, h => h.isnil
  | n :: ns, vs, h => by
    obtain ⟨w, us, e1, r1, r2⟩ := h.uncons
    unfold Rep at r1
    rw [e1, r1, reps_ints_eq r2]
    rfl
end

/-- the state -/
structure SR (G : GC) (ρ : Env) (μ : Store) (m : AM) (σ : St) (H : Hp) : Prop where
  len : ρ.length = σ.length
  env : ∀ (i : Nat) (d : D), ρ[i]? = some (some d) → ∃ v, σ[i]? = some (some v) ∧ Rep G m H d v
  st : StOk G μ m H

section
variable {G : GC} {ρ : Env} {μ μ' : Store} {m m' : AM} {σ : St} {H H' : Hp}
theorem SR.ext (S : SR G ρ μ m σ H) (e : Ext m H m' H') (st : StOk G μ' m' H') : SR G ρ μ' m' σ H' :=
  ⟨S.len, fun i d h => by
    obtain ⟨v, h1, h2⟩ := S.env i d h
    exact ⟨v, h1, Rep.ext S.st.live e d v h2⟩, st⟩
/-- a new tracked object leaves the store as it is -/
theorem StOk.ext0 (S : StOk G μ m H) (e : Ext m H m H') (k : ∀ a, m.has a → H' a = H a) : StOk G μ m H' where
  len := S.len
  inj := S.inj
  apart := S.apart
  obj := fun n o ds h hd => by
    obtain ⟨h0, a, xs, h1, h2, h3⟩ := S.obj n o ds h hd
    exact ⟨h0, a, xs, h1, by rw [k a (.inl (List.mem_of_getElem? h1))]; exact h2, Reps.ext S.live e ds xs h3⟩
  dead := S.dead
  live := fun a h => by
    obtain ⟨xs, mu, q⟩ := S.live a h
    exact ⟨xs, mu, by rw [k a h]; exact q⟩
theorem StOk.new (S : StOk G μ m H) {p : Addr} {o : HO} (h : H p = none) : StOk G μ m (upd H p o) :=
  S.ext0 (.new S.live h) fun a ha => by
    obtain ⟨xs, _, q⟩ := S.live a ha
    rw [upd_ne (ne_of_none q h)]
theorem SR.set (S : SR G ρ μ m σ H) {i : Nat} {d : D} {v : V} (hi : i < ρ.length) (r : Rep G m H d v) : SR G (ρ.set i (some d)) μ m (σ.set i (some v)) H where
  len := by rw [List.length_set, List.length_set]; exact S.len
  env := fun j e h => by
    by_cases hj : i = j
    · subst hj
      rw [List.getElem?_set_self hi] at h
      have e1 : d = e := by simpa using h
      subst e1
      exact ⟨v, by rw [List.getElem?_set_self (by rw [← S.len]; exact hi)], r⟩
    · rw [List.getElem?_set_ne hj] at h
      obtain ⟨w, h1, h2⟩ := S.env j e h
      exact ⟨w, by rw [List.getElem?_set_ne hj]; exact h1, h2⟩
  st := S.st
theorem wipeE_length (ρ : Env) : ∀ own : List Nat, (wipeE ρ own).length = ρ.length
  | [] => rfl
  | i :: is => by unfold wipeE; rw [List.length_set, wipeE_length ρ is]
theorem SR.wipe (S : SR G ρ μ m σ H) : ∀ own : List Nat, SR G (wipeE ρ own) μ m (wipe σ own) H
  | [] => S
  | i :: is => by
    have ih := SR.wipe S is
    unfold wipeE L2.wipe
    refine ⟨by rw [List.length_set, List.length_set]; exact ih.len, fun j d h => ?_, ih.st⟩
    by_cases hj : i = j
    · subst hj
      by_cases hv : i < (wipeE ρ is).length
      · rw [List.getElem?_set_self hv] at h; cases h
      · rw [List.getElem?_eq_none (by simpa using hv)] at h; cases h
    · rw [List.getElem?_set_ne hj] at h
      obtain ⟨w, h1, h2⟩ := ih.env j d h
      exact ⟨w, by rw [List.getElem?_set_ne hj]; exact h1, h2⟩
end
end Ev

namespace Ev
open PySem PySem.Spec L2 Res

def ExK (G : GC) (W : WX) (m : AM) (H : Hp) (σ : St) : String → D → Store → Prop := fun x d μ' =>
  ∀ cls dd H' m', Ext m H m' H' → StOk G μ' m' H' → G.EA x d cls dd m' H' → W cls dd σ H'
theorem ExK.step {G : GC} {W : WX} {m m1 : AM} {H H1 : Hp} {σ : St} {x : String} {d : D} {μ' : Store} (h : ExK G W m H σ x d μ') (e : Ext m H m1 H1) : ExK G W m1 H1 σ x d μ' :=
  fun cls dd H' m' e' s ea => h cls dd H' m' (e.trans e') s ea

section
variable (G : GC) (W : WX) (cf : String → List D → Store → Res D)
def tE (c : CE) : TE := fun σ H Q => ∃ ρ μ m, SR G ρ μ m σ H ∧ Out (ev cf c ρ μ) (fun d μ' => ∀ v H' m', Ext m H m' H' → SR G ρ μ' m' σ H' → Rep G m' H' d v → Q v H') (ExK G W m H σ)
def tT (c : CE) : TT := fun σ H Q => ∃ ρ μ m, SR G ρ μ m σ H ∧ Out (evT cf c ρ μ) (fun b μ' => ∀ H' m', Ext m H m' H' → SR G ρ μ' m' σ H' → Q b H') (ExK G W m H σ)
def tA (cs : List CE) : TA := fun σ H Q => ∃ ρ μ m, SR G ρ μ m σ H ∧ Out (evs cf cs ρ μ) (fun ds μ' => ∀ vs H' m', Ext m H m' H' → SR G ρ μ' m' σ H' → Reps G m' H' ds vs → Q vs H') (ExK G W m H σ)
end

theorem pe_of {X : Cx} {e : Expr} {t t' : TE} (h : PE X e t) (k : ∀ σ H Q, t' σ H Q → t σ H Q) : PE X e t' := ⟨fun pins s σ H Q I q => h.run pins s σ H Q I (k σ H Q q)⟩
theorem pt_of {X : Cx} {e : Expr} {t t' : TT} (h : PT X e t) (k : ∀ σ H Q, t' σ H Q → t σ H Q) : PT X e t' := ⟨fun pins s σ H Q I q => h.run pins s σ H Q I (k σ H Q q)⟩
theorem pw_of {X : Cx} {e : Expr} {t t' : TT} (h : PW X e t) (k : ∀ σ H Q, t' σ H Q → t σ H Q) : PW X e t' := ⟨fun wh pins s σ H Q I q => h.run wh pins s σ H Q I (k σ H Q q)⟩
theorem pa_of {X : Cx} {es : List Expr} {t t' : TA} (h : PA X es t) (k : ∀ σ H Q, t' σ H Q → t σ H Q) : PA X es t' := ⟨fun pos pins s σ H Q I q => h.run pos pins s σ H Q I (k σ H Q q)⟩

section
variable {G : GC} {W : WX} {cf : String → List D → Store → Res D} {X : Cx} {ρ : Env} {μ : Store} {m m0 : AM} {σ : St} {H H0 : Hp}
variable {a b c e : Expr} {ca cb cc ce : CE} {pos : Pos}

theorem tE_sub {k : D → Store → Prop} {R : VK} (S : SR G ρ μ m σ H) (h : Out (ev cf ca ρ μ) k (ExK G W m0 H0 σ)) (e0 : Ext m0 H0 m H)
    (hk : ∀ d μ1 v H1 m1, k d μ1 → Ext m H m1 H1 → SR G ρ μ1 m1 σ H1 → Rep G m1 H1 d v → R v H1) : tE G W cf ca σ H R :=
  ⟨ρ, μ, m, S, h.mono (fun d μ1 q v H1 m1 e s r => hk d μ1 v H1 m1 q e s r) fun _ _ _ z => z.step e0⟩
theorem tA_sub {cs : List CE} {k : List D → Store → Prop} {R : List V → Hp → Prop} (S : SR G ρ μ m σ H) (h : Out (evs cf cs ρ μ) k (ExK G W m0 H0 σ)) (e0 : Ext m0 H0 m H)
    (hk : ∀ ds μ1 vs H1 m1, k ds μ1 → Ext m H m1 H1 → SR G ρ μ1 m1 σ H1 → Reps G m1 H1 ds vs → R vs H1) : tA G W cf cs σ H R :=
  ⟨ρ, μ, m, S, h.mono (fun d μ1 q v H1 m1 e s r => hk d μ1 v H1 m1 q e s r) fun _ _ _ z => z.step e0⟩
theorem tT_sub {k : Bool → Store → Prop} {R : Bool → Hp → Prop} (S : SR G ρ μ m σ H) (h : Out (evT cf ca ρ μ) k (ExK G W m0 H0 σ)) (e0 : Ext m0 H0 m H)
    (hk : ∀ t μ1 H1 m1, k t μ1 → Ext m H m1 H1 → SR G ρ μ1 m1 σ H1 → R t H1) : tT G W cf ca σ H R :=
  ⟨ρ, μ, m, S, h.mono (fun d μ1 q H1 m1 e s => hk d μ1 H1 m1 q e s) fun _ _ _ z => z.step e0⟩
theorem out_lift {α : Type} {o : Option α} {μ : Store} {k : α → Store → Prop} {e : String → D → Store → Prop} (h : Out (lift o μ) k e) : ∃ r, o = some r ∧ k r μ := by
  cases o with
  | none => exact h.elim
  | some r => exact ⟨r, rfl, h⟩
theorem out_noExc {α : Type} {r : Res α} {k : α → Store → Prop} {e : String → D → Store → Prop} (h : Out (noExc r) k e) : ∃ d μ, r = .ok d μ ∧ k d μ := by
  cases r with
  | ok d μ => exact ⟨d, μ, rfl, h⟩
  | exc x d μ => exact h.elim
  | stuck => exact h.elim

/-! ### names and constants -/
theorem se_var (i : Nat) {x : Str} {pos : Pos} (hN : X.N[i]? = some x := by rfl) (hv : Vis X.env.scope x := by first | exact Or.inl rfl | exact Or.inr (Or.inl rfl) | exact Or.inr (Or.inr rfl)) (hd : (x == ("__debug__" : Str)) = false := by decide)
    (hcd : (x == ("__classdict__" : Str)) = false := by decide) : PE X (.Name x pos) (tE G W cf (.var i)) :=
  pe_of (pe_var hN hv hd hcd) fun σ H Q ⟨ρ, μ, m, S, h⟩ => by
    unfold ev at h
    cases q : ρ[i]? with
    | none => rw [q] at h; exact h.elim
    | some o =>
      cases o with
      | none => rw [q] at h; exact h.elim
      | some d =>
        rw [q] at h
        obtain ⟨v, h1, h2⟩ := S.env i d q
        exact ⟨v, h1, h v H m (.refl _ _) S h2⟩
theorem se_lit {v : V} {d : D} (h : PE X e (tC v)) (r : ∀ m H, Rep G m H d v) : PE X e (tE G W cf (.lit d)) :=
  pe_of h fun σ H Q ⟨ρ, μ, m, S, k⟩ => by
    unfold ev at k
    exact k v H m (.refl _ _) S (r m H)
theorem se_int {i : Int} {j : Nat} {pos : Pos} : PE X (.Constant (.int i) j pos) (tE G W cf (.lit (.int i))) := se_lit pe_int fun _ _ => by unfold Rep; rfl
theorem se_bl {b : Bool} {j : Nat} {pos : Pos} : PE X (.Constant (.bool b) j pos) (tE G W cf (.lit (.bl b))) := se_lit pe_bl fun _ _ => by unfold Rep; rfl
theorem se_non {j : Nat} {pos : Pos} : PE X (.Constant .none j pos) (tE G W cf (.lit .non)) := se_lit pe_non fun _ _ => by unfold Rep; rfl
theorem se_str {x : Str} {s : List Nat} {j : Nat} {pos : Pos} (h : x = toS s) : PE X (.Constant (.str x) j pos) (tE G W cf (.lit (.str s))) := se_lit pe_str fun _ _ => by unfold Rep; rw [h]
theorem se_gstr {x : Str} {y : Str} {u : Tok} {s : List Nat} {pos : Pos} (hg : Gl X x) (hm : X.mg x = some (.str y u)) (h : y = toS s) (hd : (x == ("__debug__" : Str)) = false := by decide) : PE X (.Name x pos) (tE G W cf (.lit (.str s))) :=
  se_lit (pe_glob (v := .str y) hg hm ⟨_, rfl⟩ hd) fun _ _ => by unfold Rep; rw [h]
theorem se_gint {x : Str} {i : Int} {u : Tok} {pos : Pos} (hg : Gl X x) (hm : X.mg x = some (.int i u)) (hd : (x == ("__debug__" : Str)) = false := by decide) : PE X (.Name x pos) (tE G W cf (.lit (.int i))) :=
  se_lit (pe_glob (v := .int i) hg hm ⟨_, rfl⟩ hd) fun _ _ => by unfold Rep; rfl
theorem se_ty {x : Str} {n : String} {pos : Pos} (hg : Gl X x) (hm : X.mg x = none) (hv : bootBuiltins x = some (.type n)) (hn : x ≠ "__name__" := by decide) (hd : (x == ("__debug__" : Str)) = false := by decide) : PE X (.Name x pos) (tE G W cf (.lit (.ty n))) :=
  se_lit (pe_bltn (v := .ty n) hg hm hv rfl hn hd) fun _ _ => by unfold Rep; rfl
theorem se_gl {x : Str} {y : String} {f : Addr} {pos : Pos} (hg : Gl X x) (hm : X.mg x = some (.ref f)) (hF : G.FA y = some f) (hd : (x == ("__debug__" : Str)) = false := by decide) : PE X (.Name x pos) (tE G W cf (.lit (.gl y))) :=
  se_lit (pe_glob (v := .ref f) hg hm rfl hd) fun _ _ => by unfold Rep; exact ⟨f, rfl, hF⟩

/-! ### operators -/
/-- what is asked of an operator that reads -/
def r1 (G : GC) (f : Store → D → Option D) : V → Hp → VK → Prop := fun x H Q => ∃ d μ m r, StOk G μ m H ∧ Rep G m H d x ∧ f μ d = some r ∧ ∀ v H', Ext m H m H' → StOk G μ m H' → Rep G m H' r v → Q v H'
def r2 (G : GC) (f : Store → D → D → Option D) : R2 := fun x y H Q => ∃ d e μ m r, StOk G μ m H ∧ Rep G m H d x ∧ Rep G m H e y ∧ f μ d e = some r ∧ ∀ v H', Ext m H m H' → StOk G μ m H' → Rep G m H' r v → Q v H'
def rN (G : GC) (f : Store → List D → Option D) : List V → Hp → VK → Prop := fun xs H Q => ∃ ds μ m r, StOk G μ m H ∧ Reps G m H ds xs ∧ f μ ds = some r ∧ ∀ v H', Ext m H m H' → StOk G μ m H' → Rep G m H' r v → Q v H'
def rM (G : GC) (f : List D → Store → Res D) : List V → Hp → VK → Prop := fun xs H Q => ∃ ds μ m r μ', StOk G μ m H ∧ Reps G m H ds xs ∧ f ds μ = .ok r μ' ∧ ∀ v H' m', Ext m H m' H' → StOk G μ' m' H' → Rep G m' H' r v → Q v H'

theorem se_un {op : UnaryOp} {f : Store → D → Option D} (ho : UnR X (unaryOp op) (r1 G f)) (ha : PE X a (tE G W cf ca)) : PE X (.UnaryOp op a pos) (tE G W cf (.op1 f ca)) :=
  pe_of (pe_un ho ha) fun σ H Q ⟨ρ, μ, m, S, h⟩ => by
    unfold ev at h
    refine tE_sub S h.bind (.refl _ _) fun d μ1 v H1 m1 q e1 s1 rv => ?_
    obtain ⟨r, hr, q⟩ := out_lift q
    exact ⟨d, μ1, m1, r, s1.st, rv, hr, fun w H2 e2 st2 rw' => q w H2 m1 (e1.trans e2) (s1.ext e2 st2) rw'⟩
theorem tE_two {f : Store → D → D → Option D} {Q : VK} (S : SR G ρ μ m σ H) (h : Out (ev cf (.op2 f ca cb) ρ μ) (fun d μ' => ∀ v H' m', Ext m H m' H' → SR G ρ μ' m' σ H' → Rep G m' H' d v → Q v H') (ExK G W m H σ)) : tOp (r2 G f) (tE G W cf ca) (tE G W cf cb) σ H Q := by
  unfold ev at h
  refine tE_sub S h.bind (.refl _ _) fun d μ1 v H1 m1 q e1 s1 rv => ?_
  refine tE_sub s1 q.bind e1 fun d2 μ2 v2 H2 m2 q e2 s2 rv2 => ?_
  obtain ⟨r, hr, q⟩ := out_lift q
  exact ⟨d, d2, μ2, m2, r, s2.st, Rep.ext s1.st.live e2 _ _ rv, rv2, hr, fun w H3 e3 st3 rw' => q w H3 m2 ((e1.trans e2).trans e3) (s2.ext e3 st3) rw'⟩
theorem se_bin {op : Operator} {f : Store → D → D → Option D} (ho : OpR X (binaryOp op) (r2 G f)) (ha : PE X a (tE G W cf ca)) (hb : PE X b (tE G W cf cb)) : PE X (.BinOp a op b pos) (tE G W cf (.op2 f ca cb)) :=
  pe_of (pe_op ho ha hb) fun σ H Q ⟨ρ, μ, m, S, h⟩ => tE_two S h
theorem se_cmp {op : CmpOp} {f : Store → D → D → Option D} (ho : OpR X (compareOp op) (r2 G f)) (ha : PE X a (tE G W cf ca)) (hb : PE X b (tE G W cf cb)) (hm : behindInMarks op b = false) : PE X (.Compare a [op] [b] pos) (tE G W cf (.op2 f ca cb)) :=
  pe_of (pe_cmpR ho ha hb hm) fun σ H Q ⟨ρ, μ, m, S, h⟩ => tE_two S h
theorem se_ix {f : Store → D → D → Option D} (ho : IxR X (r2 G f)) (ha : PE X a (tE G W cf ca)) (hb : PE X b (tE G W cf cb)) (hs : PlainIx b) : PE X (.Subscript a b pos) (tE G W cf (.op2 f ca cb)) :=
  pe_of (pe_ix ho ha hb hs) fun σ H Q ⟨ρ, μ, m, S, h⟩ => tE_two S h
theorem se_chain {op op' : CmpOp} {f g : Store → D → D → Option D} (ho : OpR X (compareOp op) (r2 G f)) (ho' : OpR X (compareOp op') (r2 G g)) (ha : PE X a (tE G W cf ca)) (hb : PE X b (tE G W cf cb)) (hc : PE X c (tE G W cf cc))
    (h1 : lastMarks [op, op'] [b, c] = false := by rfl) : PE X (.Compare a [op, op'] [b, c] pos) (tE G W cf (.chain f g ca cb cc)) :=
  pe_of (pe_chain ho ho' ha hb hc h1) fun σ H Q ⟨ρ, μ, m, S, h⟩ => by
    unfold ev at h
    refine tE_sub S h.bind (.refl _ _) fun d μ1 v H1 m1 q e1 s1 rv => ?_
    refine tE_sub s1 q.bind e1 fun d2 μ2 v2 H2 m2 q e2 s2 rv2 => ?_
    obtain ⟨r, hr, q⟩ := out_lift q.bind
    refine ⟨d, d2, μ2, m2, r, s2.st, Rep.ext s1.st.live e2 _ _ rv, rv2, hr, fun w H3 e3 st3 rw' => ?_⟩
    have s3 := s2.ext e3 st3
    have e03 := (e1.trans e2).trans e3
    cases r with
    | bl t =>
      unfold Rep at rw'
      refine ⟨t, rw', ?_⟩
      cases t with
      | false =>
        rw [if_neg Bool.false_ne_true]
        exact q (.bl false) H3 m2 e03 s3 (by unfold Rep; rfl)
      | true =>
        rw [if_pos rfl]
        refine tE_sub s3 q.bind e03 fun d4 μ4 v4 H4 m4 q e4 s4 rv4 => ?_
        obtain ⟨r, hr, q⟩ := out_lift q
        exact ⟨d2, d4, μ4, m4, r, s4.st, Rep.ext s2.st.live (e3.trans e4) _ _ rv2, rv4, hr, fun w H5 e5 st5 rw' => q w H5 m4 ((e03.trans e4).trans e5) (s4.ext e5 st5) rw'⟩
    | _ => exact q.elim

/-! ### argument lists -/
theorem sa_nil : PA X [] (tA G W cf []) := pa_of pa_nil fun σ H Q ⟨ρ, μ, m, S, h⟩ => by
  unfold evs at h
  exact h [] H m (.refl _ _) S .nil
theorem sa_cons {es : List Expr} {cs : List CE} (ha : PE X e (tE G W cf ce)) (hr : PA X es (tA G W cf cs)) (hs : starEach (e :: es) X.env = (false, eval e X.env) :: starEach es X.env := by rfl) : PA X (e :: es) (tA G W cf (ce :: cs)) :=
  pa_of (pa_cons ha hr hs) fun σ H Q ⟨ρ, μ, m, S, h⟩ => by
    unfold evs at h
    refine tE_sub S h.bind (.refl _ _) fun d μ1 v H1 m1 q e1 s1 rv => ?_
    refine tA_sub s1 q.bind e1 fun ds μ2 vs H2 m2 q e2 s2 rvs => ?_
    exact q (v :: vs) H2 m2 (e1.trans e2) s2 (.cons (Rep.ext s1.st.live e2 _ _ rv) rvs)
theorem se_tup {es : List Expr} {cs : List CE} {k : Nat} (h : PA X es (tA G W cf cs)) : PE X (.Tuple es k pos) (tE G W cf (.tup cs)) :=
  pe_of (pe_tup h) fun σ H Q ⟨ρ, μ, m, S, h⟩ => by
    unfold ev at h
    refine tA_sub S h.bind (.refl _ _) fun ds μ1 vs H1 m1 q e1 s1 rv => ?_
    by_cases hl : ds.length ≤ cap
    · rw [if_pos hl] at q
      have hl' : vs.length ≤ cap := by rw [← rv.length]; exact hl
      refine ⟨Nat.le_trans hl' (by decide), fun p np => ?_⟩
      exact q (.ref p) _ m1 (e1.trans (.new s1.st.live np)) (s1.ext (.new s1.st.live np) (s1.st.new np)) (by
        unfold Rep
        exact ⟨p, vs, rfl, .inl (.inl upd_same), Reps.ext s1.st.live (.new s1.st.live np) _ _ rv⟩)
    · rw [if_neg hl] at q; exact q.elim
/-- a list that was just laid, taken into the store or held by value -/
theorem mkL_new {M : Bool} {ds : List D} {vs : List V} {m1 : AM} {H1 : Hp} {μ1 : Store} {p : Addr} {k : D → Store → Prop} {ee : String → D → Store → Prop} (h : Out (mkL M ds μ1) k ee) (e : Ext m H m1 H1) (st : StOk G μ1 m1 H1)
    (np : H p = none) (hp : H1 p = some (.lst vs)) (nm : ¬ m1.has p) (r : Reps G m1 H1 ds vs) : ∃ d μ2 m2, k d μ2 ∧ Ext m H m2 H1 ∧ Rep G m2 H1 d (.ref p) ∧ StOk G μ2 m2 H1 := by
  unfold mkL at h
  by_cases hl : ds.length ≤ cap
  · rw [if_pos hl] at h
    cases M with
    | false =>
      rw [if_neg Bool.false_ne_true] at h
      exact ⟨_, _, m1, h, e, by unfold Rep; exact ⟨p, vs, rfl, nm, .inl hp, r⟩, st⟩
    | true =>
      rw [if_pos rfl] at h
      by_cases hn : noLsts ds = true
      · rw [if_pos hn] at h
        have hlen := st.len
        have old : ∀ {i : Nat} {o : Option Addr}, m1.l[i]? = some o → (m1.l ++ [some p])[i]? = some o := fun {i o} q => by
          rw [List.getElem?_append_left (List.getElem?_eq_some_iff.mp q).1]; exact q
        have cases' : ∀ {i : Nat} {o : Option Addr}, (m1.l ++ [some p])[i]? = some o → m1.l[i]? = some o ∨ (i = m1.l.length ∧ o = some p) := fun {i o} q => by
          by_cases hi : i < m1.l.length
          · rw [List.getElem?_append_left hi] at q; exact .inl q
          · rw [List.getElem?_append_right (by omega)] at q
            have hz : i - m1.l.length = 0 := by
              have := (List.getElem?_eq_some_iff.mp q).1
              simp at this; omega
            rw [hz] at q
            exact .inr ⟨by omega, by simpa using q.symm⟩
        have memm : ∀ {a : Addr}, some a ∈ m1.l ++ [some p] → some a ∈ m1.l ∨ a = p := fun {a} z => by
          rcases List.mem_append.mp z with q | q
          · exact .inl q
          · exact .inr (by simpa using q)
        refine ⟨_, _, ⟨m1.l ++ [some p], m1.x⟩, h, ⟨by simp; have := e.len; omega, fun i hi => ?_, fun a ha hna => ?_, e.keep, e.xeq, e.keepx⟩, ?_, ⟨by simp [hlen], fun i j a h1 h2 => ?_, fun a h1 h2 => ?_, fun n o es h1 h1d => ?_, fun n h1 => ?_, fun a ha => ?_⟩⟩
        · show (m1.l ++ [some p])[i]? = _ ∨ (m1.l ++ [some p])[i]? = _
          rw [List.getElem?_append_left (Nat.lt_of_lt_of_le hi e.len)]
          exact e.pre i hi
        · rcases ha with ha | ha
          · rcases memm ha with q | q
            · exact e.fresh a (.inl q) hna
            · rw [q]; exact np
          · exact e.fresh a (.inr ha) hna
        · unfold Rep
          exact ⟨p, rfl, .inl (by show (m1.l ++ [some p])[μ1.length]? = _; rw [← hlen, List.getElem?_append_right (Nat.le_refl _)]; simp)⟩
        · rcases cases' h1 with q1 | ⟨q1, q1'⟩ <;> rcases cases' h2 with q2 | ⟨q2, q2'⟩
          · exact st.inj i j a q1 q2
          · cases q2'; exact absurd (.inl (List.mem_of_getElem? q1)) nm
          · cases q1'; exact absurd (.inl (List.mem_of_getElem? q2)) nm
          · omega
        · rcases memm h1 with q | q
          · exact st.apart a q h2
          · rw [q] at h2; exact nm (.inr h2)
        · by_cases hi : n < μ1.length
          · rw [List.getElem?_append_left hi] at h1
            obtain ⟨h0, a, xs, q1, q2, q3⟩ := st.obj n o es h1 h1d
            exact ⟨h0, a, xs, old q1, q2, Reps.flat _ _ h0 q3⟩
          · rw [List.getElem?_append_right (by omega)] at h1
            have hz : n - μ1.length = 0 := by
              have := (List.getElem?_eq_some_iff.mp h1).1
              simp at this; omega
            rw [hz] at h1
            have e0 : MO.lst ds = o := by simpa using h1
            subst e0
            have e1 : ds = es := Option.some.inj h1d
            subst e1
            exact ⟨hn, p, vs, by show (m1.l ++ [some p])[n]? = _; rw [List.getElem?_append_right (by omega)]; simp [show n - m1.l.length = 0 by omega], hp, Reps.flat _ _ hn r⟩
        · by_cases hi : n < μ1.length
          · rw [List.getElem?_append_left hi] at h1
            exact old (st.dead n h1)
          · rw [List.getElem?_append_right (by omega)] at h1
            have hz : n - μ1.length = 0 := by
              have := (List.getElem?_eq_some_iff.mp h1).1
              simp at this; omega
            rw [hz] at h1
            simp at h1
        · rcases ha with ha | ha
          · rcases memm ha with q | q
            · exact st.live a (.inl q)
            · rw [q]; exact ⟨.lst vs, trivial, hp⟩
          · exact st.live a (.inr ha)
      · rw [if_neg hn] at h; exact h.elim
  · rw [if_neg hl] at h; exact h.elim

theorem se_lst {M : Bool} {es : List Expr} {cs : List CE} (h : PA X es (tA G W cf cs)) : PE X (.List es pos) (tE G W cf (.lst M cs)) :=
  pe_of (pe_lst h) fun σ H Q ⟨ρ, μ, m, S, h⟩ => by
    unfold ev at h
    refine tA_sub S h.bind (.refl _ _) fun ds μ1 vs H1 m1 q e1 s1 rv => ?_
    have hl : ds.length ≤ cap := by
      unfold mkL at q
      by_cases hl : ds.length ≤ cap
      · exact hl
      · rw [if_neg hl] at q; exact q.elim
    refine ⟨Nat.le_trans (by rw [← rv.length]; exact hl) (by decide : cap ≤ sizeLine), fun p np => ?_⟩
    have e2 : Ext m1 H1 m1 (upd H1 p (.lst vs)) := .new s1.st.live np
    have nm : ¬ m1.has p := fun z => by
      obtain ⟨xs, _, q⟩ := s1.st.live p z
      rw [np] at q; cases q
    obtain ⟨d, μ2, m2, k, e3, r, st⟩ := mkL_new q e2 (s1.st.new np) np upd_same nm (Reps.ext s1.st.live e2 _ _ rv)
    exact k (.ref p) _ m2 (e1.trans e3) (s1.ext e3 st) r

/-! ### a list of the store is held by value from here on -/
theorem se_frz (h : PE X e (tE G W cf ce)) : PE X e (tE G W cf (.frz ce)) :=
  pe_of h fun σ H Q ⟨ρ, μ, m, S, h⟩ => by
    unfold ev at h
    refine tE_sub S h.bind (.refl _ _) fun d μ1 v H1 m1 q e1 s1 rv => ?_
    have plain : ∀ {k : D → Store → Prop} {ee}, (∀ n, d ≠ .ref n) → Out (freeze d μ1) k ee → k d μ1 := fun {k ee} n q => by
      unfold freeze at q
      split at q
      · exact absurd rfl (n _)
      · exact q
    by_cases hd : ∃ n, d = .ref n
    · obtain ⟨n, rfl⟩ := hd
      unfold freeze at q
      simp only at q
      cases hq : μ1[n]? with
      | none => rw [hq] at q; exact q.elim
      | some o =>
        rw [hq] at q
        cases o with
        | dead => exact q.elim
        | dct kvs => exact q.elim
        | lst ds =>
          have st := s1.st
          obtain ⟨h0, a, xs, q1, q2, q3⟩ := st.lst n ds hq
          have hn : n < m1.l.length := (List.getElem?_eq_some_iff.mp q1).1
          have ev' : v = .ref a := by
            unfold Rep at rv
            obtain ⟨b, e2, q4⟩ := rv
            rw [q1] at q4
            rcases q4 with q4 | q4
            · rw [e2]; simp at q4; rw [q4]
            · simp at q4
          have mem : ∀ c : Addr, some c ∈ m1.l.set n none → some c ∈ m1.l := fun c z => by
            rcases List.mem_or_eq_of_mem_set z with z | z
            · exact z
            · cases z
          have memh : ∀ c : Addr, (⟨m1.l.set n none, m1.x⟩ : AM).has c → m1.has c := fun c z => z.elim (fun z => .inl (mem c z)) .inr
          have na : ¬ (⟨m1.l.set n none, m1.x⟩ : AM).has a := fun z => by
            rcases z with z | z
            · obtain ⟨j, hj⟩ := List.mem_iff_getElem?.mp z
              by_cases hjn : n = j
              · subst hjn; rw [List.getElem?_set_self hn] at hj; simp at hj
              · rw [List.getElem?_set_ne hjn] at hj
                exact hjn (st.inj _ _ _ q1 hj)
            · exact st.apart a (List.mem_of_getElem? q1) z
          have ex : Ext m1 H1 ⟨m1.l.set n none, m1.x⟩ H1 := ⟨by simp, fun i hi => by
            by_cases hjn : n = i
            · subst hjn; exact .inr (by rw [List.getElem?_set_self hn])
            · exact .inl (by rw [List.getElem?_set_ne hjn]), fun c hc hnc => absurd (memh c hc) hnc, fun _ _ z _ => z, rfl, fun _ _ => rfl⟩
          refine q v H1 _ (e1.trans ex) (s1.ext ex ⟨by simp [st.len], fun i j c h1 h2 => ?_, fun c h1 h2 => st.apart c (mem c h1) h2, fun k o es hk hkd => ?_, fun k hk => ?_, fun c hc => st.live c (memh c hc)⟩) ?_
          · have z : ∀ {i : Nat}, (m1.l.set n none)[i]? = some (some c) → m1.l[i]? = some (some c) := fun {i} z => by
              by_cases hjn : n = i
              · subst hjn; rw [List.getElem?_set_self hn] at z; simp at z
              · rw [List.getElem?_set_ne hjn] at z; exact z
            exact st.inj i j c (z h1) (z h2)
          · by_cases hjn : n = k
            · subst hjn
              rw [List.getElem?_set_self (by rw [← st.len]; exact hn)] at hk
              have e0 : MO.dead = o := by simpa using hk
              subst e0
              cases hkd
            · rw [List.getElem?_set_ne hjn] at hk
              obtain ⟨g0, b, ys, g1, g2, g3⟩ := st.obj k o es hk hkd
              exact ⟨g0, b, ys, by show (m1.l.set n none)[k]? = _; rw [List.getElem?_set_ne hjn]; exact g1, g2, Reps.flat _ _ g0 g3⟩
          · by_cases hjn : n = k
            · subst hjn; show (m1.l.set n none)[n]? = _; rw [List.getElem?_set_self hn]
            · rw [List.getElem?_set_ne hjn] at hk
              show (m1.l.set n none)[k]? = _
              rw [List.getElem?_set_ne hjn]
              exact st.dead k hk
          · unfold Rep
            exact ⟨a, xs, ev', na, .inl q2, Reps.flat _ _ h0 q3⟩
    · exact plain (fun n z => hd ⟨n, z⟩) q v H1 m1 e1 s1 rv
end
end Ev

namespace Ev
open PySem PySem.Spec L2 Res
section
variable {G : GC} {W : WX} {cf : String → List D → Store → Res D} {X : Cx} {ρ : Env} {μ : Store} {m m0 : AM} {σ : St} {H H0 : Hp}
variable {a b c e : Expr} {ca cb cc ce : CE} {pos : Pos}

/-! ### truth -/
theorem truth_ok (hK : X.K = G.K) {d : D} {v : V} {t : Bool} (st : StOk G μ m H) (r : Rep G m H d v) (h : truth μ d = some t) : TruV X.K v H t := by
  cases d with
  | non => unfold Rep at r; subst r; simp only [truth, Option.some.injEq] at h; subst h; rfl
  | bl b => unfold Rep at r; subst r; simp only [truth, Option.some.injEq] at h; subst h; rfl
  | int i => unfold Rep at r; subst r; simp only [truth, Option.some.injEq] at h; subst h; rfl
  | str s =>
    unfold Rep at r; subst r
    simp only [truth] at h
    have hl : (toS s).length = s.length := by simp [toS, Str.length]
    by_cases h1 : s.length ≤ cap
    · rw [if_pos h1] at h
      simp only [Option.some.injEq] at h
      subst h
      refine ⟨?_, ?_⟩
      · show (toS s).length ≤ sizeLine
        rw [hl]; exact Nat.le_trans h1 (by decide)
      · rw [hl]
        cases s <;> rfl
    · rw [if_neg h1] at h; cases h
  | tup ds =>
    unfold Rep at r
    obtain ⟨p, xs, rfl, hs, rr⟩ := r
    simp only [truth, Option.some.injEq] at h
    subst h
    refine .inr (.inl ⟨xs, by rw [hK]; exact hs, ?_⟩)
    have := rr.length
    cases ds <;> cases xs <;> simp_all
  | lst ds =>
    unfold Rep at r
    obtain ⟨p, xs, rfl, nm, hs, rr⟩ := r
    simp only [truth, Option.some.injEq] at h
    subst h
    refine .inl ⟨xs, .inl hs, ?_⟩
    have := rr.length
    cases ds <;> cases xs <;> simp_all
  | ref n =>
    unfold Rep at r
    obtain ⟨p, rfl, hp⟩ := r
    simp only [truth] at h
    cases q : μ[n]? with
    | none => rw [q] at h; cases h
    | some o =>
      rw [q] at h
      cases o with
      | dead => cases h
      | dct _ => cases h
      | lst ds =>
        obtain ⟨h0, p', xs, q1, q2, q3⟩ := st.lst n ds q
        have e1 : p' = p := by
          rw [q1] at hp
          rcases hp with hp | hp
          · simpa using hp
          · simp at hp
        subst e1
        simp only [Option.some.injEq] at h
        subst h
        refine .inl ⟨xs, .of q2, ?_⟩
        have := q3.length
        cases ds <;> cases xs <;> simp_all
  | gl x => simp only [truth] at h; cases h
  | ty n => simp only [truth] at h; cases h
  | scr n => simp only [truth] at h; cases h
  | dcv a b => simp only [truth] at h; cases h
  | exv a b c => simp only [truth] at h; cases h

theorem st_truth (hK : X.K = G.K) (ha : PE X a (tE G W cf ca)) (he : ∀ whole, isTrue a X.env whole = (do let v ← whole; standAt a.pos; holding [v] (truthy v))) : PT X a (tT G W cf ca) :=
  pt_of (pt_truth ha he) fun σ H Q ⟨ρ, μ, m, S, h⟩ => by
    unfold evT at h
    refine tE_sub S h.bind (.refl _ _) fun d μ1 v H1 m1 q e1 s1 rv => ?_
    obtain ⟨t, ht, q⟩ := out_lift q
    exact ⟨t, truth_ok hK s1.st rv ht, q H1 m1 e1 s1⟩
theorem st_cmp {op : CmpOp} {f : Store → D → D → Option D} (ho : OpR X (compareOp op) (r2 G f)) (hb' : ∀ μ x y r, f μ x y = some r → ∃ t, r = .bl t) (ha : PE X a (tE G W cf ca)) (hb : PE X b (tE G W cf cb)) (hm : behindInMarks op b = false) : PT X (.Compare a [op] [b] pos) (tT G W cf (.op2 f ca cb)) :=
  pt_of (pt_cmpR ho ha hb hm) fun σ H Q ⟨ρ, μ, m, S, h⟩ => by
    unfold evT ev at h
    rw [Res.bind_assoc] at h
    refine tE_sub S h.bind (.refl _ _) fun d μ1 v H1 m1 q e1 s1 rv => ?_
    rw [Res.bind_assoc] at q
    refine tE_sub s1 q.bind e1 fun d2 μ2 v2 H2 m2 q e2 s2 rv2 => ?_
    obtain ⟨r, hr, q⟩ := out_lift q.bind
    obtain ⟨t, rfl⟩ := hb' _ _ _ _ hr
    refine ⟨d, d2, μ2, m2, _, s2.st, Rep.ext s1.st.live e2 _ _ rv, rv2, hr, fun w H3 e3 st3 rw' => ?_⟩
    unfold Rep at rw'
    obtain ⟨t', ht, q⟩ := out_lift q
    simp [truth] at ht
    subst ht
    exact ⟨t, rw', q H3 m2 ((e1.trans e2).trans e3) (s2.ext e3 st3)⟩
theorem st_chain {op op' : CmpOp} {f g : Store → D → D → Option D} (ho : OpR X (compareOp op) (r2 G f)) (ho' : OpR X (compareOp op') (r2 G g)) (hf : ∀ μ x y r, f μ x y = some r → ∃ t, r = .bl t) (hg : ∀ μ x y r, g μ x y = some r → ∃ t, r = .bl t)
    (ha : PE X a (tE G W cf ca)) (hb : PE X b (tE G W cf cb)) (hc : PE X c (tE G W cf cc)) (h1 : lastMarks [op, op'] [b, c] = false := by rfl) : PT X (.Compare a [op, op'] [b, c] pos) (tT G W cf (.chain f g ca cb cc)) :=
  pt_of (pt_chain ho ho' ha hb hc h1) fun σ H Q ⟨ρ, μ, m, S, h⟩ => by
    unfold evT ev at h
    rw [Res.bind_assoc] at h
    refine tE_sub S h.bind (.refl _ _) fun d μ1 v H1 m1 q e1 s1 rv => ?_
    rw [Res.bind_assoc] at q
    refine tE_sub s1 q.bind e1 fun d2 μ2 v2 H2 m2 q e2 s2 rv2 => ?_
    rw [Res.bind_assoc] at q
    obtain ⟨r, hr, q⟩ := out_lift q.bind
    obtain ⟨t, rfl⟩ := hf _ _ _ _ hr
    refine ⟨d, d2, μ2, m2, _, s2.st, Rep.ext s1.st.live e2 _ _ rv, rv2, hr, fun w H3 e3 st3 rw' => ?_⟩
    have s3 := s2.ext e3 st3
    have e03 := (e1.trans e2).trans e3
    unfold Rep at rw'
    refine ⟨t, rw', ?_⟩
    cases t with
    | false =>
      rw [if_neg Bool.false_ne_true]
      simp only [bind_ok] at q
      obtain ⟨t', ht, q⟩ := out_lift q
      simp [truth] at ht
      subst ht
      exact ⟨false, rfl, q H3 m2 e03 s3⟩
    | true =>
      rw [if_pos rfl]
      simp only [Res.bind_assoc] at q
      refine tE_sub (ca := cc) s3 q.bind e03 fun d4 μ4 v4 H4 m4 q e4 s4 rv4 => ?_
      obtain ⟨r, hr, q⟩ := out_lift q.bind
      obtain ⟨t', rfl⟩ := hg _ _ _ _ hr
      obtain ⟨t', ht, q⟩ := out_lift q
      simp [truth] at ht
      subst ht
      refine ⟨d2, d4, μ4, m4, _, s4.st, Rep.ext s2.st.live (e3.trans e4) _ _ rv2, rv4, hr, fun w H5 e5 st5 rw' => ?_⟩
      unfold Rep at rw'
      exact ⟨_, rw', q H5 m4 ((e03.trans e4).trans e5) (s4.ext e5 st5)⟩

/-! ### not, and, or, if else -/
theorem st_not (ha : PT X a (tT G W cf ca)) : PT X (.UnaryOp .Not a pos) (tT G W cf (.not ca)) :=
  pt_of (pt_not ha) fun σ H Q ⟨ρ, μ, m, S, h⟩ => by
    unfold evT ev at h
    rw [Res.bind_assoc] at h
    simp only [Res.bind_assoc] at h
    refine tT_sub S (k := fun t μ1 => ∀ H' m', Ext m H m' H' → SR G ρ μ1 m' σ H' → Q (!t) H') ?_ (.refl _ _) fun t μ1 H1 m1 q e1 s1 => q H1 m1 e1 s1
    unfold evT
    revert h
    cases ev cf ca ρ μ with
    | ok d μ1 =>
      intro h
      simp only [bind_ok] at h ⊢
      cases q : truth μ1 d with
      | none => rw [q] at h; exact h.elim
      | some t =>
        rw [q] at h
        simp only [lift_some, bind_ok, truth] at h
        exact h
    | exc x d μ1 => intro h; exact h
    | stuck => intro h; exact h
theorem se_not (hK : X.K = G.K) (ha : PE X a (tE G W cf ca)) : PE X (.UnaryOp .Not a pos) (tE G W cf (.not ca)) :=
  pe_of (pe_notT ha) fun σ H Q ⟨ρ, μ, m, S, h⟩ => by
    unfold ev at h
    refine tE_sub S h.bind (.refl _ _) fun d μ1 v H1 m1 q e1 s1 rv => ?_
    obtain ⟨t, ht, q⟩ := out_lift q.bind
    exact ⟨t, truth_ok hK s1.st rv ht, q (.bl (!t)) H1 m1 e1 s1 (by unfold Rep; rfl)⟩
theorem se_one {op : BoolOp} (h : PE X a (tE G W cf ca)) : PE X (.BoolOp op [a] pos) (tE G W cf ca) := pe_one h
theorem se_and {rest : List Expr} (hK : X.K = G.K) (ha : PE X a (tE G W cf ca)) (hb : PE X (.BoolOp .And (b :: rest) pos) (tE G W cf cb)) : PE X (.BoolOp .And (a :: b :: rest) pos) (tE G W cf (.and ca cb)) :=
  pe_of (pe_andT ha hb) fun σ H Q ⟨ρ, μ, m, S, h⟩ => by
    unfold ev at h
    refine tE_sub S h.bind (.refl _ _) fun d μ1 v H1 m1 q e1 s1 rv => ?_
    obtain ⟨t, ht, q⟩ := out_lift q.bind
    refine ⟨t, truth_ok hK s1.st rv ht, ?_⟩
    cases t with
    | true =>
      rw [if_pos rfl]
      rw [if_pos rfl] at q
      exact tE_sub s1 q e1 fun d2 μ2 v2 H2 m2 q e2 s2 rv2 => q v2 H2 m2 (e1.trans e2) s2 rv2
    | false =>
      rw [if_neg Bool.false_ne_true]
      rw [if_neg Bool.false_ne_true] at q
      exact q v H1 m1 e1 s1 rv
theorem se_or {rest : List Expr} (hK : X.K = G.K) (ha : PE X a (tE G W cf ca)) (hb : PE X (.BoolOp .Or (b :: rest) pos) (tE G W cf cb)) : PE X (.BoolOp .Or (a :: b :: rest) pos) (tE G W cf (.or ca cb)) :=
  pe_of (pe_orT ha hb) fun σ H Q ⟨ρ, μ, m, S, h⟩ => by
    unfold ev at h
    refine tE_sub S h.bind (.refl _ _) fun d μ1 v H1 m1 q e1 s1 rv => ?_
    obtain ⟨t, ht, q⟩ := out_lift q.bind
    refine ⟨t, truth_ok hK s1.st rv ht, ?_⟩
    cases t with
    | false =>
      rw [if_neg Bool.false_ne_true]
      rw [if_neg Bool.false_ne_true] at q
      exact tE_sub s1 q e1 fun d2 μ2 v2 H2 m2 q e2 s2 rv2 => q v2 H2 m2 (e1.trans e2) s2 rv2
    | true =>
      rw [if_pos rfl]
      rw [if_pos rfl] at q
      exact q v H1 m1 e1 s1 rv
theorem sw_one_and (h : PT X a (tT G W cf ca)) : PW X (.BoolOp .And [a] pos) (tT G W cf ca) := pw_and1 h
theorem sw_one_or (h : PT X a (tT G W cf ca)) : PW X (.BoolOp .Or [a] pos) (tT G W cf ca) := pw_or1 h
theorem evT_and {k : Bool → Store → Prop} {ee : String → D → Store → Prop} (h : Out (evT cf (.and ca cb) ρ μ) k ee) : Out (evT cf ca ρ μ) (fun t μ1 => if t = true then Out (evT cf cb ρ μ1) k ee else k false μ1) ee := by
  unfold evT ev at h
  unfold evT
  simp only [Res.bind_assoc] at h
  revert h
  cases ev cf ca ρ μ with
  | ok d μ1 =>
    intro h
    simp only [bind_ok] at h ⊢
    cases q : truth μ1 d with
    | none => rw [q] at h; exact h.elim
    | some t =>
      rw [q] at h
      simp only [lift_some, bind_ok, Out_ok] at h ⊢
      cases t with
      | true => simpa using h
      | false =>
        simp only [Bool.false_eq_true, if_false, bind_ok, q, lift_some] at h
        exact h
  | exc x d μ1 => intro h; exact h
  | stuck => intro h; exact h
theorem evT_or {k : Bool → Store → Prop} {ee : String → D → Store → Prop} (h : Out (evT cf (.or ca cb) ρ μ) k ee) : Out (evT cf ca ρ μ) (fun t μ1 => if t = true then k true μ1 else Out (evT cf cb ρ μ1) k ee) ee := by
  unfold evT ev at h
  unfold evT
  simp only [Res.bind_assoc] at h
  revert h
  cases ev cf ca ρ μ with
  | ok d μ1 =>
    intro h
    simp only [bind_ok] at h ⊢
    cases q : truth μ1 d with
    | none => rw [q] at h; exact h.elim
    | some t =>
      rw [q] at h
      simp only [lift_some, bind_ok, Out_ok] at h ⊢
      cases t with
      | false => simpa using h
      | true =>
        simp only [if_true, bind_ok, q, lift_some] at h
        exact h
  | exc x d μ1 => intro h; exact h
  | stuck => intro h; exact h
theorem sw_and {rest : List Expr} (ha : PT X a (tT G W cf ca)) (hb : PW X (.BoolOp .And (b :: rest) pos) (tT G W cf cb)) : PW X (.BoolOp .And (a :: b :: rest) pos) (tT G W cf (.and ca cb)) :=
  pw_of (pw_and ha hb) fun σ H Q ⟨ρ, μ, m, S, h⟩ => tT_sub S (evT_and h) (.refl _ _) fun t μ1 H1 m1 q e1 s1 => by
    cases t with
    | true =>
      simp only [if_true] at q ⊢
      exact tT_sub s1 q e1 fun t2 μ2 H2 m2 q e2 s2 => q H2 m2 (e1.trans e2) s2
    | false =>
      simp only [Bool.false_eq_true, if_false] at q ⊢
      exact q H1 m1 e1 s1
theorem sw_or {rest : List Expr} (ha : PT X a (tT G W cf ca)) (hb : PW X (.BoolOp .Or (b :: rest) pos) (tT G W cf cb)) : PW X (.BoolOp .Or (a :: b :: rest) pos) (tT G W cf (.or ca cb)) :=
  pw_of (pw_or ha hb) fun σ H Q ⟨ρ, μ, m, S, h⟩ => tT_sub S (evT_or h) (.refl _ _) fun t μ1 H1 m1 q e1 s1 => by
    cases t with
    | false =>
      simp only [Bool.false_eq_true, if_false] at q ⊢
      exact tT_sub s1 q e1 fun t2 μ2 H2 m2 q e2 s2 => q H2 m2 (e1.trans e2) s2
    | true =>
      simp only [if_true] at q ⊢
      exact q H1 m1 e1 s1
theorem st_ite (hc : PT X c (tT G W cf cc)) (ha : PE X a (tE G W cf ca)) (hb : PE X b (tE G W cf cb)) : PE X (.IfExp c a b pos) (tE G W cf (.ite cc ca cb)) :=
  pe_of (pe_ifExp hc ha hb) fun σ H Q ⟨ρ, μ, m, S, h⟩ => by
    unfold ev at h
    have h' : Out ((evT cf cc ρ μ).bind fun t μ2 => if t = true then ev cf ca ρ μ2 else ev cf cb ρ μ2) (fun d μ' => ∀ v H' m', Ext m H m' H' → SR G ρ μ' m' σ H' → Rep G m' H' d v → Q v H') (ExK G W m H σ) := by
      unfold evT; rw [Res.bind_assoc]; exact h
    refine tT_sub S h'.bind (.refl _ _) fun t μ1 H1 m1 q e1 s1 => ?_
    cases t with
    | true =>
      simp only [if_true] at q ⊢
      exact tE_sub s1 q e1 fun d2 μ2 v2 H2 m2 q e2 s2 rv2 => q v2 H2 m2 (e1.trans e2) s2 rv2
    | false =>
      simp only [Bool.false_eq_true, if_false] at q ⊢
      exact tE_sub s1 q e1 fun d2 μ2 v2 H2 m2 q e2 s2 rv2 => q v2 H2 m2 (e1.trans e2) s2 rv2

/-! ### calls -/
variable {x : Str} {p apos : Pos} {id T : String} {es : List Expr} {cs : List CE} {name : Str} {o : Expr} {co : CE}
theorem se_blt {f : Store → List D → Option D} (hc : CallR X (.builtin id) (rN G f)) (hg : Gl X x) (hm : X.mg x = none) (hv : bootBuiltins x = some (.builtin id)) (ha : PA X (e :: es) (tA G W cf cs)) (hn : x ≠ "__name__" := by decide) (hdb : (x == ("__debug__" : Str)) = false := by decide)
    (he : starEach (e :: es) X.env = (false, eval e X.env) :: starEach es X.env := by rfl) (hpl : (backTo pos (starEach es X.env)).any (·.1) = false := by rfl) : PE X (.Call (.Name x p) (e :: es) [] pos) (tE G W cf (.opN f cs)) :=
  pe_of (pe_callB hc hg hm hv ha hn hdb he hpl) fun σ H Q ⟨ρ, μ, m, S, h⟩ => by
    unfold ev at h
    refine tA_sub S h.bind (.refl _ _) fun ds μ1 vs H1 m1 q e1 s1 rv => ?_
    obtain ⟨r, hr, q⟩ := out_lift q
    exact ⟨ds, μ1, m1, r, s1.st, rv, hr, fun w H2 e2 st2 rw' => q w H2 m1 (e1.trans e2) (s1.ext e2 st2) rw'⟩
theorem se_bty {f : Store → List D → Option D} (hc : CallR X (.type T) (rN G f)) (hg : Gl X x) (hm : X.mg x = none) (hv : bootBuiltins x = some (.type T)) (ha : PA X (e :: es) (tA G W cf cs)) (hn : x ≠ "__name__" := by decide) (hdb : (x == ("__debug__" : Str)) = false := by decide)
    (he : starEach (e :: es) X.env = (false, eval e X.env) :: starEach es X.env := by rfl) (hpl : (backTo pos (starEach es X.env)).any (·.1) = false := by rfl) : PE X (.Call (.Name x p) (e :: es) [] pos) (tE G W cf (.opN f cs)) :=
  pe_of (pe_callTy hc hg hm hv ha hn hdb he hpl) fun σ H Q ⟨ρ, μ, m, S, h⟩ => by
    unfold ev at h
    refine tA_sub S h.bind (.refl _ _) fun ds μ1 vs H1 m1 q e1 s1 rv => ?_
    obtain ⟨r, hr, q⟩ := out_lift q
    exact ⟨ds, μ1, m1, r, s1.st, rv, hr, fun w H2 e2 st2 rw' => q w H2 m1 (e1.trans e2) (s1.ext e2 st2) rw'⟩
end
end Ev

namespace Ev
open PySem PySem.Spec L2 Res

/-! ### what is walked: a list, a tuple, a text -/
inductive SK where
  | lst | tup | str
/-- the items of x, as they stand in H -/
def SrcV (K : PySem.W.Frag) (H : Hp) : SK → V → List V → Prop
  | .lst, .ref l, xs => SqL K H l xs
  | .tup, .ref l, xs => SqT K H l xs
  | .str, .str x, xs => xs = x.cps.toList.map fun c => V.str ⟨#[c]⟩
  | _, _, _ => False
/-- an iterator over it at turn i -/
def SubI : SK → Value → Addr → Nat → Heap → Prop
  | .lst, .ref l, it, i, h => h.IsListIter it l i
  | .tup, .ref l, it, i, h => h.IsTupleIter it l i
  | .str, .str x t, it, i, h => h.IsStrIter it (strIterType x) x t i
  | _, _, _, _, _ => False
/-- the new iterator's record -/
def begO : SK → Value → Obj
  | .lst, v => { cls := .type "list_iterator", data := .fields #[v, .int 0 0] }
  | .tup, v => { cls := .type "tuple_iterator", data := .fields #[v, .int 0 0] }
  | .str, .str x t => { cls := .type (strIterType x), data := .fields #[.str x t, .int 0 0] }
  | .str, v => { cls := .type "str_iterator", data := .fields #[v, .int 0 0] }

section
variable {X : Cx} {pins : List (Addr × Obj)} {σ : St} {H : Hp} {s : Shared}
theorem SrcV.inj (I : Inv X pins σ H s) {k : SK} {x : V} {xs ys : List V} (a : SrcV X.K H k x xs) (b : SrcV X.K H k x ys) : xs = ys := by
  cases k <;> cases x <;> first
    | exact I.list_inj a b
    | exact I.tuple_inj a b
    | exact (show xs = _ from a).trans (show ys = _ from b).symm
    | exact False.elim a
theorem SubI.obj {k : SK} {v : Value} {it : Addr} {i : Nat} {h : Heap} (a : SubI k v it i h) : ∃ o, h.get? it = some o ∧ ∀ w, o.data ≠ .cell w := by
  cases k <;> cases v <;> first
    | (obtain ⟨o, e, c, d⟩ := a; exact ⟨o, e, fun w z => by rw [d] at z; cases z⟩)
    | exact False.elim a
theorem SubI.at {k : SK} {v : Value} {it : Addr} {i : Nat} {h h' : Heap} (a : SubI k v it i h) (e : ∀ o, h.get? it = some o → h'.get? it = some o) : SubI k v it i h' := by
  cases k <;> cases v <;> first
    | (obtain ⟨o, q, r⟩ := a; exact ⟨o, e o q, r⟩)
    | exact False.elim a
theorem sub_draws (I : Inv X pins σ H s) (hc : X.calm = true) {k : SK} {x : V} {v : Value} {xs : List V} {it : Addr} {i : Nat} (rx : RelV x v) (a : SrcV X.K H k x xs) (b : SubI k v it i s.heap) (hn : H it = none) :
    ∃ (fp : List Addr) (P : Nat → Value → Prop) (St : Nat → Heap → Prop), Draws X.prog X.w X.A.in1 it fp xs.length P St ∧ St i s.heap ∧ it ∈ fp ∧ (∀ c ∈ fp, c = it ∨ v = .ref c) ∧
      (∀ j u, P j u → ∃ y, xs[j]? = some y ∧ RelV y u) ∧ ∀ j h, St j h → SubI k v it j h := by
  have hh : X.A.in1.handled = none := I.ok.hd hc
  cases k with
  | lst =>
    cases x <;> first | exact False.elim a | skip
    rename_i l
    cases rx
    obtain ⟨its, rv, p, hz⟩ := I.list a
    have hne : l ≠ it := fun z => by
      subst z
      obtain ⟨o, n, e1, e2, _, e3⟩ := p
      obtain ⟨o', q, _, d⟩ := b
      rw [e1] at q; cases q
      rw [d] at e3; cases e3
    refine ⟨[it, l], _, fun i h => h.IsListIter it l i ∧ h.IsList l its.toArray, by have := Draws.list (prog := X.prog) (w := X.w) hh it l hne its.toArray; rw [List.size_toArray, ← rv.length] at this; exact this, ⟨b, p.isList⟩, by simp, fun c hc => ?_, fun j u hu => ?_, fun j h st => st.1⟩
    · rcases List.mem_cons.mp hc with z | z
      · exact .inl z
      · have z' : c = l := by simpa using z
        subst z'
        exact .inr rfl
    · have hu' : its[j]? = some u := by simpa using hu
      have hl := (List.getElem?_eq_some_iff.mp hu').1
      rw [← rv.length] at hl
      obtain ⟨u', q1, q2⟩ := rv.get (List.getElem?_eq_getElem hl)
      rw [hu'] at q1; cases q1
      exact ⟨_, List.getElem?_eq_getElem hl, q2⟩
  | tup =>
    cases x <;> first | exact False.elim a | skip
    rename_i l
    cases rx
    obtain ⟨its, rv, p, hz⟩ := I.tuple a
    have hne : l ≠ it := fun z => by
      subst z
      obtain ⟨o, e1, e2, n, e3⟩ := p
      obtain ⟨o', q, _, d⟩ := b
      rw [e1] at q; cases q
      rw [d] at e3; cases e3
    refine ⟨[it, l], _, fun i h => h.IsTupleIter it l i ∧ h.IsTuple l its.toArray, by have := Draws.tuple (prog := X.prog) (w := X.w) hh it l hne its.toArray; rw [List.size_toArray, ← rv.length] at this; exact this, ⟨b, p⟩, by simp, fun c hc => ?_, fun j u hu => ?_, fun j h st => st.1⟩
    · rcases List.mem_cons.mp hc with z | z
      · exact .inl z
      · have z' : c = l := by simpa using z
        subst z'
        exact .inr rfl
    · have hu' : its[j]? = some u := by simpa using hu
      have hl := (List.getElem?_eq_some_iff.mp hu').1
      rw [← rv.length] at hl
      obtain ⟨u', q1, q2⟩ := rv.get (List.getElem?_eq_getElem hl)
      rw [hu'] at q1; cases q1
      exact ⟨_, List.getElem?_eq_getElem hl, q2⟩
  | str =>
    cases x <;> first | exact False.elim a | skip
    rename_i z
    obtain ⟨t, rfl⟩ := rx
    have a' : xs = z.cps.toList.map fun c => V.str ⟨#[c]⟩ := a
    subst a'
    refine ⟨[it], _, _, by rw [List.length_map, Array.length_toList]; exact Draws.text hh it z t, b, by simp, fun c hc => .inl (by simpa using hc), fun j u hu => ?_, fun j h st => st⟩
    obtain ⟨c, t', q1, rfl⟩ := hu
    exact ⟨V.str ⟨#[c]⟩, by rw [List.getElem?_map, Array.getElem?_toList, q1]; rfl, ⟨t', rfl⟩⟩
theorem begins_src (I : Inv X pins σ H s) {k : SK} {x : V} {v : Value} {xs : List V} (rx : RelV x v) (a : SrcV X.K H k x xs) : ∃ S : Heap → Prop, Begins v (begO k v) S ∧ S s.heap := by
  cases k with
  | lst =>
    cases x <;> first | exact False.elim a | skip
    cases rx
    obtain ⟨its, rv, p, hz⟩ := I.list a
    exact ⟨_, begins_list _ its.toArray, p.isList⟩
  | tup =>
    cases x <;> first | exact False.elim a | skip
    cases rx
    obtain ⟨its, rv, p, hz⟩ := I.tuple a
    exact ⟨_, begins_tuple _ its.toArray, p⟩
  | str =>
    cases x <;> first | exact False.elim a | skip
    obtain ⟨t, rfl⟩ := rx
    exact ⟨_, begins_text _ t, trivial⟩
theorem sub_beg {k : SK} {x : V} {v : Value} {xs : List V} {it : Addr} {h : Heap} (rx : RelV x v) (a : SrcV X.K H k x xs) (e : h.get? it = some (begO k v)) : SubI k v it 0 h := by
  cases k with
  | lst => cases x <;> first | exact False.elim a | (cases rx; exact ⟨_, e, rfl, rfl⟩)
  | tup => cases x <;> first | exact False.elim a | (cases rx; exact ⟨_, e, rfl, rfl⟩)
  | str => cases x <;> first | exact False.elim a | (obtain ⟨t, rfl⟩ := rx; exact ⟨_, e, rfl, rfl⟩)
theorem src_lt (I : Inv X pins σ H s) {k : SK} {x : V} {v : Value} {xs : List V} (rx : RelV x v) (a : SrcV X.K H k x xs) : ∀ l, v = .ref l → l < s.heap.objs.size := fun l e => by
  subst e
  cases k with
  | lst => cases x <;> first | exact False.elim a | (cases rx; obtain ⟨its, rv, p, hz⟩ := I.list a; exact p.lt)
  | tup => cases x <;> first | exact False.elim a | (cases rx; obtain ⟨its, rv, p, hz⟩ := I.tuple a; exact p.lt)
  | str => cases x <;> first | exact False.elim a | (obtain ⟨t, q⟩ := rx; cases q)
end

/-! ### zip of two of any kind, the target a tuple -/
def ItzG (K : PySem.W.Frag) (k1 : SK) (x1 : V) (k2 : SK) (x2 : V) : It :=
  ⟨fun i H => ∃ xs ys, SrcV K H k1 x1 xs ∧ SrcV K H k2 x2 ys ∧ i < xs.length ∧ i < ys.length,
    fun i H v H' => ∃ T x y, v = .ref T ∧ H T = none ∧ H' = upd H T (.tup [x, y]) ∧ (∀ xs, SrcV K H k1 x1 xs → xs[i]? = some x) ∧ ∀ ys, SrcV K H k2 x2 ys → ys[i]? = some y,
    fun i H => ∃ xs ys, SrcV K H k1 x1 xs ∧ SrcV K H k2 x2 ys ∧ i ≤ xs.length ∧ i ≤ ys.length ∧ (i = xs.length ∨ i = ys.length)⟩
theorem turn_zipG {P : Program} {w : World} {K : PySem.W.Frag} {elts : List Expr} {kk : Nat} {tpos : Pos} {k1 k2 : SK} {x1 x2 : V} {v1 v2 : Value} {z TI TO i1 i2 : Addr} (r1 : RelV x1 v1) (r2 : RelV x2 v2)
    (D1 : TI ≠ z) (D2 : TO ≠ z) (D3 : TI ≠ TO) (D4 : TI ≠ i1) (D5 : TI ≠ i2) (D6 : z ≠ i1) (D7 : z ≠ i2) (D8 : TO ≠ i1) (D9 : TO ≠ i2) (D10 : i1 ≠ i2)
    (A1 : ∀ l, v1 = .ref l → l ≠ z ∧ l ≠ TO ∧ l ≠ i2) (A2 : ∀ l, v2 = .ref l → l ≠ z ∧ l ≠ TO ∧ l ≠ i1) :
    Turn P w K (.Tuple elts kk tpos) (ItzG K k1 x1 k2 x2) [z, TI, TO, i1, i2] z (fun i h => IsZip h z TI TO .none ∧ IsTupOf2 h TI (.ref i1) (.ref i2) ∧ (∃ x y, IsTupOf2 h TO x y) ∧ SubI k1 v1 i1 i h ∧ SubI k2 v2 i2 i h) where
  mem := by simp
  obj := fun i h st c hc => by
    obtain ⟨hz, hTI, ⟨x, y, hTO⟩, h1, h2⟩ := st
    have e' : c = z ∨ c = TI ∨ c = TO ∨ c = i1 ∨ c = i2 := by simpa using hc
    rcases e' with q | q | q | q | q
    · rw [q]; exact ⟨_, hz, fun v q => nomatch q⟩
    · rw [q]; exact ⟨_, hTI, fun v q => nomatch q⟩
    · rw [q]; exact ⟨_, hTO, fun v q => nomatch q⟩
    · rw [q]; exact h1.obj
    · rw [q]; exact h2.obj
  keep := fun i h h' st k => by
    obtain ⟨hz, hTI, ⟨x, y, hTO⟩, h1, h2⟩ := st
    exact ⟨k z (by simp) _ hz, k TI (by simp) _ hTI, ⟨x, y, k TO (by simp) _ hTO⟩, h1.at fun o q => k i1 (by simp) o q, h2.at fun o q => k i2 (by simp) o q⟩
  item := by
    intro X hP hw hK hc i pins s σ H E I hf st hg
    subst hP hw hK
    obtain ⟨hz, hTI, ⟨x0, y0, hTO⟩, h1, h2⟩ := st
    obtain ⟨xs, ys, hqx, hqy, lx, ly⟩ := hg
    obtain ⟨fp1, P1, St1, d1, s1, m1, n1, p1, b1⟩ := sub_draws I hc r1 hqx h1 (hf i1 (by simp)).1
    obtain ⟨fp2, P2, St2, d2, s2, m2, n2, p2, b2⟩ := sub_draws I hc r2 hqy h2 (hf i2 (by simp)).1
    have hzl : z < s.heap.objs.size := Heap.lt_size hz
    have S : ZipSep2 z TI TO i1 i2 fp1 fp2 := by
      have w1 : ∀ c, c ∈ fp1 → c = i1 ∨ v1 = .ref c := n1
      have w2 : ∀ c, c ∈ fp2 → c = i2 ∨ v2 = .ref c := n2
      exact {
        TIz := D1, TOz := D2, TITO := D3, TIi1 := D4, mem1 := m1, TIi2 := D5, mem2 := m2,
        zf1 := fun q => (w1 _ q).elim D6 fun r => (A1 _ r).1 rfl
        Tf1 := fun q => (w1 _ q).elim D8 fun r => (A1 _ r).2.1 rfl
        zf2 := fun q => (w2 _ q).elim D7 fun r => (A2 _ r).1 rfl
        Tf2 := fun q => (w2 _ q).elim D9 fun r => (A2 _ r).2.1 rfl
        sep1_2 := fun q => (w2 _ q).elim D10 fun r => (A2 _ r).2.2 rfl
        sep2_1 := fun q => (w1 _ q).elim D10.symm fun r => (A1 _ r).2.2 rfl }
    refine wpAny_pyNext_zipD2_item S d1 d2 hz hTI hTO s1 s2 lx ly fun u1 u2 h' tk q1 q2 z' TO' t1 t2 hT hsz hk => ?_
    refine ⟨_, rfl, wpAny_letOwnedTupleGo_zip (s := { s with heap := h', toks := tk }) z' fun h'' z'' sb => ?_⟩
    obtain ⟨y1, g1, ry1⟩ := p1 _ _ q1
    obtain ⟨y2, g2, ry2⟩ := p2 _ _ q2
    have hT2 : h''.get? s.heap.objs.size = some { cls := .type "tuple", data := .seq #[u1, u2] } := (sb.2 _ (Nat.ne_of_gt hzl)).trans hT
    have new : ObjOk X.prog X.w (upd H s.heap.objs.size (.tup [y1, y2])) h'' s.heap.objs.size (.tup [y1, y2]) :=
      ⟨by show 2 ≤ sizeLine; decide, [u1, u2], .cons ry1 (.cons ry2 .nil), ⟨_, hT2, rfl, _, rfl⟩⟩
    have I1 : Inv X pins σ (upd H s.heap.objs.size (.tup [y1, y2])) { s with heap := h'', toks := tk } :=
      I.turnedNew (t' := tk) (ch := [z, TI, TO, i1, i2]) (fun c o hb q => (sb.2 c (fun q' => hb (by simp [q']))).trans (hk c o (fun q' => hb (by simp [q'])) (fun q' => hb (by simp [q'])) (fun q' => hb (by simp [q'])) (fun q' => hb (by simp [q'])) q)) hf (Nat.le_refl _) new
    refine ⟨.ref s.heap.objs.size, _, I1, rfl, ⟨_, y1, y2, rfl, I.hok.fresh (Nat.le_refl _), rfl, fun l hl => by rw [SrcV.inj I hl hqx]; exact g1, fun l hl => by rw [SrcV.inj I hl hqy]; exact g2⟩, ⟨z'', ?_, ⟨u1, u2, ?_⟩, ?_, ?_⟩, fun c hcm => ?_⟩
    · exact (sb.2 _ D1).trans (hk _ _ D1 D3 D4 D5 hTI)
    · exact (sb.2 _ D2).trans TO'
    · exact (b1 _ _ t1).at fun o q => (sb.2 _ (Ne.symm D6)).trans q
    · exact (b2 _ _ t2).at fun o q => (sb.2 _ (Ne.symm D7)).trans q
    · have hlt : c < s.heap.objs.size := by
        have e' : c = z ∨ c = TI ∨ c = TO ∨ c = i1 ∨ c = i2 := by simpa using hcm
        rcases e' with q | q | q | q | q
        · rw [q]; exact hzl
        · rw [q]; exact Heap.lt_size hTI
        · rw [q]; exact Heap.lt_size hTO
        · rw [q]; obtain ⟨_, e1, _⟩ := h1.obj; exact Heap.lt_size e1
        · rw [q]; obtain ⟨_, e1, _⟩ := h2.obj; exact Heap.lt_size e1
      rw [upd_ne (Nat.ne_of_lt hlt)]
      exact (hf c hcm).1
  done := by
    intro X hP hw hK hc i pins s σ H E I hf st hg
    subst hP hw hK
    obtain ⟨hz, hTI, ⟨x0, y0, hTO⟩, h1, h2⟩ := st
    obtain ⟨xs, ys, hqx, hqy, lx, ly, hend⟩ := hg
    obtain ⟨fp1, P1, St1, d1, s1, m1, n1, p1, b1⟩ := sub_draws I hc r1 hqx h1 (hf i1 (by simp)).1
    obtain ⟨fp2, P2, St2, d2, s2, m2, n2, p2, b2⟩ := sub_draws I hc r2 hqy h2 (hf i2 (by simp)).1
    have S : ZipSep2 z TI TO i1 i2 fp1 fp2 := by
      have w1 : ∀ c, c ∈ fp1 → c = i1 ∨ v1 = .ref c := n1
      have w2 : ∀ c, c ∈ fp2 → c = i2 ∨ v2 = .ref c := n2
      exact {
        TIz := D1, TOz := D2, TITO := D3, TIi1 := D4, mem1 := m1, TIi2 := D5, mem2 := m2,
        zf1 := fun q => (w1 _ q).elim D6 fun r => (A1 _ r).1 rfl
        Tf1 := fun q => (w1 _ q).elim D8 fun r => (A1 _ r).2.1 rfl
        zf2 := fun q => (w2 _ q).elim D7 fun r => (A2 _ r).1 rfl
        Tf2 := fun q => (w2 _ q).elim D9 fun r => (A2 _ r).2.1 rfl
        sep1_2 := fun q => (w2 _ q).elim D10 fun r => (A2 _ r).2.2 rfl
        sep2_1 := fun q => (w1 _ q).elim D10.symm fun r => (A1 _ r).2.2 rfl }
    exact wpAny_pyNext_zipD2_end S d1 d2 hz hTI hTO s1 s2 lx ly hend fun h' tk hk => ⟨rfl, I.turnedL (t' := tk) (ch := [z, TI, TO, i1, i2]) (fun c o hb q =>
      hk c o (fun q' => hb (by simp [q'])) (fun q' => hb (by simp [q'])) (fun q' => hb (by simp [q'])) (fun q' => hb (by simp [q'])) q) hf⟩
  self := fun A i s Q E st h => wpAny_pyIter_zip st.1 h

/-! ### enumerate of any kind, the target a tuple -/
def IteG (K : PySem.W.Frag) (k1 : SK) (x1 : V) : It :=
  ⟨fun i H => ∃ xs, SrcV K H k1 x1 xs ∧ i < xs.length, fun i H v H' => ∃ T x, v = .ref T ∧ H T = none ∧ H' = upd H T (.tup [.int (i : Nat), x]) ∧ ∀ xs, SrcV K H k1 x1 xs → xs[i]? = some x,
    fun i H => ∃ xs, SrcV K H k1 x1 xs ∧ i = xs.length⟩
theorem turn_enumG {P : Program} {w : World} {K : PySem.W.Frag} {elts : List Expr} {kk : Nat} {tpos : Pos} {k1 : SK} {x1 : V} {v1 : Value} {e it : Addr} (r1 : RelV x1 v1) (hne : e ≠ it) (A1 : ∀ l, v1 = .ref l → l ≠ e) :
    Turn P w K (.Tuple elts kk tpos) (IteG K k1 x1) [e, it] e (fun i h => (∃ old, IsEnum h e it ((i : Nat) : Int) old) ∧ SubI k1 v1 it i h) where
  mem := by simp
  obj := fun i h st b hb => by
    obtain ⟨⟨old, he⟩, h1⟩ := st
    have e' : b = e ∨ b = it := by simpa using hb
    rcases e' with z | z
    · rw [z]; exact ⟨_, he, fun v q => nomatch q⟩
    · rw [z]; exact h1.obj
  keep := fun i h h' st k => let ⟨⟨old, he⟩, hi⟩ := st; ⟨⟨old, k e (by simp) _ he⟩, hi.at fun o q => k it (by simp) o q⟩
  item := by
    intro X hP hw hK hc i pins s σ H E I hf st hg
    subst hP hw hK
    obtain ⟨⟨old, he⟩, h1⟩ := st
    obtain ⟨xs, hq, lx⟩ := hg
    obtain ⟨fp1, P1, St1, d1, s1, m1, n1, p1, b1⟩ := sub_draws I hc r1 hq h1 (hf it (by simp)).1
    have hef : e ∉ fp1 := fun q => (n1 _ q).elim hne fun r => A1 _ r rfl
    have hel : e < s.heap.objs.size := Heap.lt_size he
    have hil : it < s.heap.objs.size := by obtain ⟨_, q, _⟩ := h1.obj; exact Heap.lt_size q
    refine wpAny_pyNext_enum_itemD d1 he s1 lx hne hef fun u h' tk q1 ho t1 hT hsz hk => ?_
    obtain ⟨y, g1, ry⟩ := p1 _ _ q1
    refine ⟨_, rfl, wpAny_letOwnedTupleGo_enum (s := { s with heap := h', toks := tk + 1 }) ho fun h'' he' sb => ?_⟩
    have hT2 : h''.get? s.heap.objs.size = some { cls := .type "tuple", data := .seq #[.int i tk, u] } := (sb.2 _ (Nat.ne_of_gt hel)).trans hT
    have new : ObjOk X.prog X.w (upd H s.heap.objs.size (.tup [.int (i : Nat), y])) h'' s.heap.objs.size (.tup [.int (i : Nat), y]) :=
      ⟨by show 2 ≤ sizeLine; decide, [.int i tk, u], .cons ⟨_, rfl⟩ (.cons ry .nil), ⟨_, hT2, rfl, _, rfl⟩⟩
    have I1 : Inv X pins σ (upd H s.heap.objs.size (.tup [.int (i : Nat), y])) { s with heap := h'', toks := tk + 1 } :=
      I.turnedNew (ch := [e, it]) (fun b ob hb q => (sb.2 b (fun z => hb (by simp [z]))).trans (hk b ob (fun z => hb (by simp [z])) (fun z => hb (by simp [z])) q)) hf (Nat.le_refl _) new
    refine ⟨.ref s.heap.objs.size, _, I1, rfl, ⟨_, y, rfl, I.hok.fresh (Nat.le_refl _), rfl, fun ys hy => by rw [SrcV.inj I hy hq]; exact g1⟩, ⟨⟨u, ?_⟩, (b1 _ _ t1).at fun o q => (sb.2 it (Ne.symm hne)).trans q⟩, fun b hb => ?_⟩
    · have e1 : ((i + 1 : Nat) : Int) = (i : Int) + 1 := by omega
      rw [e1]; exact he'
    · have hb' : b < s.heap.objs.size := by
        have e' : b = e ∨ b = it := by simpa using hb
        rcases e' with z | z
        · rw [z]; exact hel
        · rw [z]; exact hil
      rw [upd_ne (Nat.ne_of_lt hb')]
      exact (hf b hb).1
  done := by
    intro X hP hw hK hc i pins s σ H E I hf st hg
    subst hP hw hK
    obtain ⟨⟨old, he⟩, h1⟩ := st
    obtain ⟨xs, hq, lx⟩ := hg
    obtain ⟨fp1, P1, St1, d1, s1, m1, n1, p1, b1⟩ := sub_draws I hc r1 hq h1 (hf it (by simp)).1
    obtain ⟨f0, f1, f2, f3, f4, f5⟩ := hf it (by simp)
    exact wpAny_pyNext_enum_endD d1 he (by rw [← lx]; exact s1) fun h' eb => ⟨rfl, I.turned (t' := s.toks) (fun b o hb q => eb b o hb q) f0 f1 f3 f4 f5⟩
  self := fun A i s Q E st h => let ⟨⟨_, he⟩, _⟩ := st; wpAny_pyIter_enum he h
end Ev

namespace Ev
open PySem PySem.Spec L2 Res

structure Serves (G : GC) (J : It) (m0 : AM) (H0 : Hp) (ds : List D) : Prop where
  goes : ∀ (i : Nat) (d : D) (H : Hp) (m : AM), Mon m0 H0 m H → ds[i]? = some d → J.go i H ∧ ∀ x H', J.yld i H x H' → (∀ a o, H a = some o → H' a = some o) ∧ Rep G m H' d x
  stop : ∀ (H : Hp) (m : AM), Mon m0 H0 m H → J.stop ds.length H

/-- what walks the values -/
def items1 : D → Option (List D)
  | .lst xs => some xs
  | .tup xs => some xs
  | .str s => some (s.map fun c => .str [c])
  | _ => none
def fVal : Itf := fun _ ds => match ds with
  | [d] => items1 d
  | _ => none
def fZip : Itf := fun _ ds => match ds with
  | [a, b] => match items1 a, items1 b with
    | some xs, some ys => some ((xs.zip ys).map fun p => .tup [p.1, p.2])
    | _, _ => none
  | _ => none
def enumD : Nat → List D → List D
  | _, [] => []
  | k, d :: ds => .tup [.int k, d] :: enumD (k + 1) ds
def fEnum : Itf := fun _ ds => match ds with
  | [a] => (items1 a).map (enumD 0)
  | _ => none
def rngD (lo c : Int) (n : Nat) : List D := (List.range n).map fun k => .int (lo + (k : Nat) * c)
def rngOk (i : Int) : Bool := decide (-4611686018427387904 ≤ i) && decide (i < 4611686018427387904)
def fRng1 : Itf := fun _ ds => match ds with
  | [.int j] => if rngOk j then some (rngD 0 1 j.toNat) else none
  | _ => none
def fRng2 : Itf := fun _ ds => match ds with
  | [.int i, .int j] => if rngOk i && rngOk j then some (rngD i 1 (j - i).toNat) else none
  | _ => none
def fRng3 : Itf := fun _ ds => match ds with
  | [.int i, .int j, .int c] => if rngOk i && rngOk j && decide (c = -1) then some (rngD i (-1) (i - j).toNat)
    else if rngOk i && rngOk j && decide (0 < c) && decide (c < 1000000) then some (rngD i c (if i < j then ((j - i - 1) / c + 1).toNat else 0)) else none
  | _ => none

section
variable (G : GC) (W : WX) (cf : String → List D → Store → Res D)
def tI (f : Itf) (cs : List CE) : TI := fun σ H R => ∃ ρ μ m, SR G ρ μ m σ H ∧ Out ((evs cf cs ρ μ).bind fun ds μ1 => lift (f μ1 ds) μ1)
  (fun items μ' => ∀ J H' m', Ext m H m' H' → SR G ρ μ' m' σ H' → Serves G J m' H' items → R J H') (ExK G W m H σ)
end
theorem pi_of {X : Cx} {tg e : Expr} {t t' : TI} (h : PI X tg e t) (k : ∀ σ H Q, t' σ H Q → t σ H Q) : PI X tg e t' := ⟨fun pins s σ H Q I q => h.run pins s σ H Q I (k σ H Q q)⟩

section
variable {G : GC} {m : AM} {H : Hp}
theorem src_of {d : D} {v : V} {ds : List D} (h : items1 d = some ds) (r : Rep G m H d v) : ∃ k xs, SrcV G.K H k v xs ∧ Reps G m H ds xs ∧ ((k = .lst ∧ ∃ l, v = .ref l ∧ SqL G.K H l xs) ∨ (k = .tup ∧ ∃ l, v = .ref l ∧ SqT G.K H l xs) ∨ (k = .str ∧ ∃ x, v = .str x)) ∧
    ∀ H' m', (∀ a, m.has a → ∃ o, MutO o ∧ H a = some o) → Mon m H m' H' → SrcV G.K H' k v xs := by
  cases d with
  | lst es =>
    unfold Rep at r
    obtain ⟨a, xs, rfl, nm, rd, rr⟩ := r
    cases h
    exact ⟨.lst, xs, .inl rd, rr, .inl ⟨rfl, a, rfl, .inl rd⟩, fun H' m' _ e => .inl (Rd.mon e rd nm).1⟩
  | tup es =>
    unfold Rep at r
    obtain ⟨a, xs, rfl, hs, rr⟩ := r
    cases h
    exact ⟨.tup, xs, hs, rr, .inr (.inl ⟨rfl, a, rfl, hs⟩), fun H' m' S e => SqT.mon S e hs⟩
  | str s =>
    unfold Rep at r
    subst r
    cases h
    refine ⟨.str, _, rfl, ?_, .inr (.inr ⟨rfl, _, rfl⟩), fun H' m' _ _ => rfl⟩
    show Reps G m H (s.map _) (s.map _)
    induction s with
    | nil => exact .nil
    | cons c s ih => exact .cons (by unfold Rep; rfl) ih
  | _ => cases h
theorem SrcV.inj0 {K : PySem.W.Frag} {k : SK} {x : V} {xs ys : List V} {X : Cx} {pins : List (Addr × Obj)} {σ : St} {s : Shared} (hK : X.K = K) (I : Inv X pins σ H s) (a : SrcV K H k x xs) (b : SrcV K H k x ys) : xs = ys := by
  subst hK; exact SrcV.inj I a b
theorem Reps.get2 {ds : List D} {vs : List V} {i : Nat} {v : V} (h : Reps G m H ds vs) (e : vs[i]? = some v) : ∃ d, ds[i]? = some d ∧ Rep G m H d v := by
  have hl := h.length
  have hi : i < ds.length := by rw [hl]; exact (List.getElem?_eq_some_iff.mp e).1
  obtain ⟨w, q1, q2⟩ := h.get (List.getElem?_eq_getElem hi)
  rw [e] at q1; cases q1
  exact ⟨_, List.getElem?_eq_getElem hi, q2⟩
end

section
variable {G : GC} {W : WX} {cf : String → List D → Store → Res D} {X : Cx} {tg : Expr}
variable {e e2 a b c : Expr} {ce ce2 ca cb cc : CE} {pos p tpos : Pos} {elts : List Expr} {kk : Nat}

theorem evs_one {k : List D → Store → Prop} {ee : String → D → Store → Prop} {ρ : Env} {μ : Store} (h : Out (evs cf [ce] ρ μ) k ee) : Out (ev cf ce ρ μ) (fun d μ' => k [d] μ') ee := by
  unfold evs at h
  refine h.bind.mono (fun d μ1 q => ?_) fun _ _ _ z => z
  unfold evs at q
  exact q
/-- a value is walked -/
theorem si_val (hK : X.K = G.K) (he : PE X e (tE G W cf ce)) : PI X tg e (tI G W cf fVal [ce]) := by
  refine ⟨fun pins s σ H R I h => ?_⟩
  obtain ⟨ρ, μ, m, S, h⟩ := h
  have h1 := evs_one h.bind
  cases q : ev cf ce ρ μ with
  | stuck => rw [q] at h1; exact h1.elim
  | exc x d μ1 =>
    rw [q] at h1
    refine (pi_list (tg := tg) he).run pins s σ H R I ⟨ρ, μ, m, S, ?_⟩
    rw [q]; exact h1
  | ok d μ1 =>
    rw [q] at h1
    simp only [Out_ok] at h1
    obtain ⟨ds, hd, hk⟩ := out_lift h1
    cases d with
    | lst es =>
      cases hd
      refine (pi_list (tg := tg) he).run pins s σ H R I ⟨ρ, μ, m, S, ?_⟩
      rw [q]
      intro v H1 m1 e1 s1 rv
      have rv0 := rv
      unfold Rep at rv
      obtain ⟨l, xs, rfl, nm, rd, rr⟩ := rv
      rw [hK]
      refine ⟨l, rfl, ⟨xs, .inl rd⟩, hk _ H1 m1 e1 s1 ⟨fun i d H2 m2 e2 hd => ?_, fun H2 m2 e2 => ?_⟩⟩
      · obtain ⟨w, q1, q2⟩ := rr.get hd
        have rd2 : SqL G.K H2 l xs := .inl (Rd.mon e2 rd nm).1
        refine ⟨⟨xs, w, rd2, q1⟩, fun y H' ⟨e3, hy⟩ => ?_⟩
        subst e3
        have e4 : w = y := Option.some.inj (q1.symm.trans (hy xs rd2))
        subst e4
        exact ⟨fun _ _ z => z, Rep.mon s1.st.live e2 _ _ q2⟩
      · exact ⟨xs, .inl (Rd.mon e2 rd nm).1, by rw [rr.length]; exact Nat.le_refl _⟩
    | tup es =>
      cases hd
      refine (pi_tup (tg := tg) he).run pins s σ H R I ⟨ρ, μ, m, S, ?_⟩
      rw [q]
      intro v H1 m1 e1 s1 rv
      unfold Rep at rv
      obtain ⟨l, xs, rfl, hs, rr⟩ := rv
      rw [hK]
      refine ⟨l, rfl, ⟨xs, hs⟩, hk _ H1 m1 e1 s1 ⟨fun i d H2 m2 e2 hd => ?_, fun H2 m2 e2 => ?_⟩⟩
      · obtain ⟨w, q1, q2⟩ := rr.get hd
        have rd2 := SqT.mon s1.st.live e2 hs
        refine ⟨⟨xs, w, rd2, q1⟩, fun y H' ⟨e3, hy⟩ => ?_⟩
        subst e3
        have e4 : w = y := Option.some.inj (q1.symm.trans (hy xs rd2))
        subst e4
        exact ⟨fun _ _ z => z, Rep.mon s1.st.live e2 _ _ q2⟩
      · exact ⟨xs, SqT.mon s1.st.live e2 hs, by rw [rr.length]; exact Nat.le_refl _⟩
    | str z =>
      cases hd
      refine (pi_str (tg := tg) he).run pins s σ H R I ⟨ρ, μ, m, S, ?_⟩
      rw [q]
      intro v H1 m1 e1 s1 rv
      unfold Rep at rv
      subst rv
      refine ⟨_, rfl, hk _ H1 m1 e1 s1 ⟨fun i d H2 m2 e2 hd => ?_, fun H2 m2 e2 => ?_⟩⟩
      · rw [List.getElem?_map] at hd
        cases q1 : z[i]? with
        | none => rw [q1] at hd; cases hd
        | some c =>
          rw [q1] at hd
          cases hd
          refine ⟨(List.getElem?_eq_some_iff.mp q1).1, fun y H' ⟨e3, c', hy, e4⟩ => ?_⟩
          subst e3 e4
          have e5 : c = c' := by
            have hy' : z[i]? = some c' := by simpa using hy
            exact Option.some.inj (q1.symm.trans hy')
          subst e5
          exact ⟨fun _ _ z => z, by unfold Rep; rfl⟩
      · show z.length ≤ (z.map _).length
        rw [List.length_map]; exact Nat.le_refl _
    | _ => cases hd

/-! ### range -/
theorem rngD_get {lo c : Int} {n i : Nat} {d : D} (h : (rngD lo c n)[i]? = some d) : i < n ∧ d = .int (lo + (i : Nat) * c) := by
  unfold rngD at h
  rw [List.getElem?_map] at h
  cases q : (List.range n)[i]? with
  | none => rw [q] at h; cases h
  | some k =>
    rw [q] at h
    obtain ⟨h1, h2⟩ := List.getElem?_eq_some_iff.mp q
    rw [List.getElem_range] at h2
    subst h2
    exact ⟨by simpa using h1, by simpa using h.symm⟩
theorem serves_rng {lo : Int} {n : Nat} {m : AM} {H : Hp} : Serves G (Itr lo n) m H (rngD lo 1 n) :=
  ⟨fun i d H2 m2 e2 hd => by
    obtain ⟨h1, rfl⟩ := rngD_get hd
    refine ⟨h1, fun x H' ⟨e3, e4⟩ => ?_⟩
    subst e3 e4
    exact ⟨fun _ _ z => z, by unfold Rep; rw [Int.mul_one]⟩,
   fun H2 m2 e2 => by show n ≤ (rngD lo 1 n).length; unfold rngD; simp⟩
theorem serves_rngC {lo c : Int} {n : Nat} {m : AM} {H : Hp} : Serves G (Itc lo c n) m H (rngD lo c n) :=
  ⟨fun i d H2 m2 e2 hd => by
    obtain ⟨h1, rfl⟩ := rngD_get hd
    refine ⟨h1, fun x H' ⟨e3, e4⟩ => ?_⟩
    subst e3 e4
    exact ⟨fun _ _ z => z, by unfold Rep; rfl⟩,
   fun H2 m2 e2 => by show n ≤ (rngD lo c n).length; unfold rngD; simp⟩
theorem reps1 {m : AM} {H : Hp} {d : D} {vs : List V} (h : Reps G m H [d] vs) : ∃ v, vs = [v] ∧ Rep G m H d v := by
  obtain ⟨w, ws, e, r, t⟩ := h.uncons
  rw [t.isnil] at e
  exact ⟨w, e, r⟩
theorem reps2 {m : AM} {H : Hp} {d d2 : D} {vs : List V} (h : Reps G m H [d, d2] vs) : ∃ v v2, vs = [v, v2] ∧ Rep G m H d v ∧ Rep G m H d2 v2 := by
  obtain ⟨w, ws, e, r, t⟩ := h.uncons
  obtain ⟨w2, e2, r2⟩ := reps1 t
  exact ⟨w, w2, by rw [e, e2], r, r2⟩
theorem reps3 {m : AM} {H : Hp} {d d2 d3 : D} {vs : List V} (h : Reps G m H [d, d2, d3] vs) : ∃ v v2 v3, vs = [v, v2, v3] ∧ Rep G m H d v ∧ Rep G m H d2 v2 ∧ Rep G m H d3 v3 := by
  obtain ⟨w, ws, e, r, t⟩ := h.uncons
  obtain ⟨w2, w3, e2, r2, r3⟩ := reps2 t
  exact ⟨w, w2, w3, by rw [e, e2], r, r2, r3⟩
theorem si_rng1 (hg : Gl X "range") (hm : X.mg "range" = none) (ha : PE X a (tE G W cf ca)) (hs : starEach [a] X.env = [(false, eval a X.env)] := by rfl) : PI X tg (.Call (.Name "range" p) [a] [] pos) (tI G W cf fRng1 [ca]) :=
  pi_of (pi_range1 hg hm (sa_cons (hs := hs) ha sa_nil) hs) fun σ H R ⟨ρ, μ, m, S, h⟩ => by
    refine tA_sub S h.bind (.refl _ _) fun ds μ1 vs H1 m1 q e1 s1 rv => ?_
    obtain ⟨ds', hd, q⟩ := out_lift q
    unfold fRng1 at hd
    split at hd
    · rename_i j
      split at hd
      · rename_i hj
        cases hd
        simp only [rngOk, Bool.and_eq_true, decide_eq_true_eq] at hj
        obtain ⟨v, rfl, r⟩ := reps1 rv
        unfold Rep at r
        subst r
        exact ⟨j, rfl, by omega, by omega, q _ H1 m1 e1 s1 serves_rng⟩
      · cases hd
    · cases hd
theorem si_rng2 (hg : Gl X "range") (hm : X.mg "range" = none) (ha : PE X a (tE G W cf ca)) (hb : PE X b (tE G W cf cb)) (hs : starEach [a, b] X.env = [(false, eval a X.env), (false, eval b X.env)] := by rfl) (hs2 : starEach [b] X.env = [(false, eval b X.env)] := by rfl) :
    PI X tg (.Call (.Name "range" p) [a, b] [] pos) (tI G W cf fRng2 [ca, cb]) :=
  pi_of (pi_range2 hg hm (sa_cons (hs := by rw [hs, hs2]) ha (sa_cons (hs := hs2) hb sa_nil)) hs hs2) fun σ H R ⟨ρ, μ, m, S, h⟩ => by
    refine tA_sub S h.bind (.refl _ _) fun ds μ1 vs H1 m1 q e1 s1 rv => ?_
    obtain ⟨ds', hd, q⟩ := out_lift q
    unfold fRng2 at hd
    split at hd
    · rename_i i j
      split at hd
      · rename_i hj
        cases hd
        simp only [rngOk, Bool.and_eq_true, decide_eq_true_eq] at hj
        obtain ⟨v, v2, rfl, r, r2⟩ := reps2 rv
        unfold Rep at r r2
        subst r r2
        exact ⟨i, j, rfl, by omega, q _ H1 m1 e1 s1 serves_rng⟩
      · cases hd
    · cases hd
theorem si_rng3 (hg : Gl X "range") (hm : X.mg "range" = none) (ha : PE X a (tE G W cf ca)) (hb : PE X b (tE G W cf cb)) (hc : PE X c (tE G W cf cc)) (hs : starEach [a, b, c] X.env = [(false, eval a X.env), (false, eval b X.env), (false, eval c X.env)] := by rfl)
    (hs2 : starEach [b, c] X.env = [(false, eval b X.env), (false, eval c X.env)] := by rfl) (hs3 : starEach [c] X.env = [(false, eval c X.env)] := by rfl) :
    PI X tg (.Call (.Name "range" p) [a, b, c] [] pos) (tI G W cf fRng3 [ca, cb, cc]) :=
  pi_of (pi_range3 hg hm (sa_cons (hs := by rw [hs, hs2]) ha (sa_cons (hs := by rw [hs2, hs3]) hb (sa_cons (hs := hs3) hc sa_nil))) (hs := by rw [hs, hs2]) (hpl := by rw [hs2]; rfl)) fun σ H R ⟨ρ, μ, m, S, h⟩ => by
    refine tA_sub S h.bind (.refl _ _) fun ds μ1 vs H1 m1 q e1 s1 rv => ?_
    obtain ⟨ds', hd, q'⟩ := out_lift q
    clear q
    unfold fRng3 at hd
    split at hd
    · rename_i i j c
      obtain ⟨v, v2, v3, rfl, r, r2, r3⟩ := reps3 rv
      unfold Rep at r r2 r3
      subst r r2 r3
      split at hd
      · rename_i hj
        cases hd
        simp only [rngOk, Bool.and_eq_true, decide_eq_true_eq] at hj
        obtain ⟨hj, rfl⟩ := hj
        exact ⟨i, j, -1, _, rfl, RgC.neg (by omega) (by omega) (by omega) (by omega), q' _ H1 m1 e1 s1 serves_rngC⟩
      · split at hd
        · rename_i hj
          cases hd
          simp only [rngOk, Bool.and_eq_true, decide_eq_true_eq] at hj
          obtain ⟨⟨hj, c1⟩, c2⟩ := hj
          have hsz : Builtin.Range.rangeSize i j c = (((if i < j then ((j - i - 1) / c + 1).toNat else 0) : Nat) : Int) := by
            unfold Builtin.Range.rangeSize
            rw [if_pos (show c > 0 by omega)]
            by_cases hij : i < j
            · rw [if_pos hij, if_pos hij]
              have := Int.ediv_nonneg (a := j - i - 1) (b := c) (by omega) (by omega)
              omega
            · rw [if_neg hij, if_neg hij]; rfl
          have hsm : Builtin.Range.small i j c = true := by
            unfold Builtin.Range.small
            unfold Builtin.Range.rangeSize
            rw [if_pos (show c > 0 by omega)]
            simp only [Builtin.Range.rangeFitsLong, Bool.and_eq_true, Bool.or_eq_true, decide_eq_true_eq, beq_iff_eq, if_pos (show c > 0 by omega)]
            by_cases hij : i < j
            · rw [if_pos hij]
              have h2 := Int.ediv_le_self c (show (0 : Int) ≤ j - i - 1 by omega)
              have h3 := Int.ediv_nonneg (a := j - i - 1) (b := c) (by omega) (by omega)
              omega
            · rw [if_neg hij]
              omega
          exact ⟨i, j, c, _, rfl, ⟨by omega, by omega, hsm, hsz⟩, q' _ H1 m1 e1 s1 serves_rngC⟩
        · cases hd
    · cases hd

/-! ### zip, enumerate -/
theorem serves_zip (hK : X.K = G.K) {m : AM} {H : Hp} {d1 d2 : D} {v1 v2 : V} {xs ys : List D} {k1 k2 : SK} {vs ws : List V} (L : ∀ a, m.has a → ∃ o, MutO o ∧ H a = some o)
    (p1 : Reps G m H xs vs) (p2 : Reps G m H ys ws) (q1 : ∀ H' m', Mon m H m' H' → SrcV G.K H' k1 v1 vs) (q2 : ∀ H' m', Mon m H m' H' → SrcV G.K H' k2 v2 ws) :
    Serves G (ItzG G.K k1 v1 k2 v2) m H ((xs.zip ys).map fun p => .tup [p.1, p.2]) := by
  refine ⟨fun i d H2 m2 e2 hd => ?_, fun H2 m2 e2 => ?_⟩
  · rw [List.getElem?_map] at hd
    cases z : (xs.zip ys)[i]? with
    | none => rw [z] at hd; cases hd
    | some p =>
      rw [z] at hd
      cases hd
      obtain ⟨z1, z2⟩ := List.getElem?_zip_eq_some.mp z
      obtain ⟨w1, g1, r1⟩ := p1.get z1
      obtain ⟨w2, g2, r2⟩ := p2.get z2
      refine ⟨⟨vs, ws, q1 _ _ e2, q2 _ _ e2, (List.getElem?_eq_some_iff.mp g1).1, (List.getElem?_eq_some_iff.mp g2).1⟩, fun x H' ⟨T, y1, y2, ex, nT, eH, f1, f2⟩ => ?_⟩
      subst ex eH
      have e3 : w1 = y1 := Option.some.inj (g1.symm.trans (f1 _ (q1 _ _ e2)))
      have e4 : w2 = y2 := Option.some.inj (g2.symm.trans (f2 _ (q2 _ _ e2)))
      subst e3 e4
      refine ⟨fun a o q => by rw [upd_ne (ne_of_none q nT)]; exact q, ?_⟩
      unfold Rep
      exact ⟨T, [w1, w2], rfl, .inl (.inl upd_same), .cons (Rep.mon L (e2.trans (.new nT)) _ _ r1) (.cons (Rep.mon L (e2.trans (.new nT)) _ _ r2) .nil)⟩
  · have l1 := p1.length
    have l2 := p2.length
    refine ⟨vs, ws, q1 _ _ e2, q2 _ _ e2, ?_⟩
    rw [List.length_map, List.length_zip]
    omega
theorem si_zip (hK : X.K = G.K) (hg : Gl X "zip") (hm : X.mg "zip" = none) (ha : PE X a (tE G W cf ca)) (hb : PE X b (tE G W cf cb))
    (hs : starEach [a, b] X.env = (false, eval a X.env) :: starEach [b] X.env := by rfl) (hs2 : starEach [b] X.env = (false, eval b X.env) :: starEach [] X.env := by rfl) (hpl : (backTo pos (starEach [b] X.env)).any (·.1) = false := by rfl) :
    PI X (.Tuple elts kk tpos) (.Call (.Name "zip" p) [a, b] [] pos) (tI G W cf fZip [ca, cb]) := by
  refine ⟨fun pins s σ H R I h => ?_⟩
  have hA := sa_cons (hs := hs) ha (sa_cons (hs := hs2) hb (sa_nil (G := G) (W := W) (cf := cf)))
  obtain ⟨ρ, μ, m, S, h⟩ := h
  refine PyProof.Rows.Call_ (ld_blt I hg hm PyProof.Rows.boot_zip (PyProof.Rows.callWith_type1 (thn (hA.run pos pins s σ H (fun vs H1 => ∃ ds μ1 m1 items, Reps G m1 H1 ds vs ∧ fZip μ1 ds = some items ∧ StOk G μ1 m1 H1 ∧ ∀ J, Serves G J m1 H1 items → R J H1) I
    (tA_sub S h.bind (.refl _ _) fun ds μ1 vs H1 m1 q e1 s1 rv => ?_)) fun us s1 ⟨vs, H1, I1, r1, ds, μ1, m1, items, rv, hf, st, q⟩ => ?_) hs hpl))
  · obtain ⟨items, hf, q⟩ := out_lift q
    exact ⟨ds, μ1, m1, items, rv, hf, s1.st, fun J sv => q J H1 m1 e1 s1 sv⟩
  · unfold fZip at hf
    split at hf
    · rename_i d1 d2
      obtain ⟨w1, w2, rfl, g1, g2⟩ := reps2 rv
      cases h1 : items1 d1 with
      | none => rw [h1] at hf; cases hf
      | some xs =>
        cases h2 : items1 d2 with
        | none => rw [h1, h2] at hf; cases hf
        | some ys =>
          rw [h1, h2] at hf
          cases hf
          obtain ⟨k1, vs, a1, b1, c1, f1⟩ := src_of h1 g1
          obtain ⟨k2, ws, a2, b2, c2, f2⟩ := src_of h2 g2
          obtain ⟨u1, u2, rfl, ru1, ru2⟩ := vals2 r1
          rw [← hK] at a1 a2
          obtain ⟨S1, B1, z1⟩ := begins_src I1 ru1 a1
          obtain ⟨S2, B2, z2⟩ := begins_src I1 ru2 a2
          have lt1 := src_lt I1 ru1 a1
          have lt2 := src_lt I1 ru2 a2
          refine zip_begins2 B1 B2 z1 z2 fun h' hz hTI hTO o1 o2 hsz hk => wpAny_pyIter_zip hz ?_
          have I2 : Inv X pins σ H1 { s1 with heap := h' } := I1.kept (t' := s1.toks) hk
          rw [hK] at a1 a2
          have ne : ∀ {i j : Nat}, i ≠ j → s1.heap.objs.size + i ≠ s1.heap.objs.size + j := fun {i j} q z => q (by omega)
          have ne0 : ∀ {j : Nat}, 0 ≠ j → s1.heap.objs.size ≠ s1.heap.objs.size + j := fun {j} q z => q (by have z' : (s1.heap.objs.size : Nat) = s1.heap.objs.size + j := z; omega)
          refine ⟨s1.heap.objs.size + 4, [s1.heap.objs.size + 4, s1.heap.objs.size + 2, s1.heap.objs.size + 3, s1.heap.objs.size, s1.heap.objs.size + 1], _, ItzG X.K k1 w1 k2 w2, H1, rfl, I2,
            turn_zipG ru1 ru2 (ne (by decide)) (ne (by decide)) (ne (by decide)) (ne0 (by decide)).symm (ne (by decide)) (ne0 (by decide)).symm (ne (by decide)) (ne0 (by decide)).symm (ne (by decide)) (ne0 (by decide)) ?_ ?_,
            ⟨hz, hTI, ⟨_, _, hTO⟩, sub_beg (X := X) ru1 (by rw [hK]; exact a1) o1, sub_beg (X := X) ru2 (by rw [hK]; exact a2) o2⟩, fun c hcm => ?_, ?_⟩
          · intro l e
            have q1 : (l : Nat) < s1.heap.objs.size := lt1 l e
            refine ⟨?_, ?_, ?_⟩ <;> first | exact Nat.ne_of_lt q1 | exact Nat.ne_of_lt (Nat.lt_of_lt_of_le q1 (Nat.le_add_right _ _))
          · intro l e
            have q1 : (l : Nat) < s1.heap.objs.size := lt2 l e
            refine ⟨?_, ?_, ?_⟩ <;> first | exact Nat.ne_of_lt q1 | exact Nat.ne_of_lt (Nat.lt_of_lt_of_le q1 (Nat.le_add_right _ _))
          · have e' : c = s1.heap.objs.size + 4 ∨ c = s1.heap.objs.size + 2 ∨ c = s1.heap.objs.size + 3 ∨ c = s1.heap.objs.size ∨ c = s1.heap.objs.size + 1 := by simpa using hcm
            have hle : s1.heap.objs.size ≤ c := by
              rcases e' with z | z | z | z | z <;> rw [z] <;> first | exact Nat.le_refl _ | exact Nat.le_add_right _ _
            exact I1.fpOk hle (I1.hok.fresh hle)
          · rw [hK]
            exact q _ (serves_zip (d1 := d1) (d2 := d2) hK st.live b1 b2 (fun H' m' e => f1 H' m' st.live e) (fun H' m' e => f2 H' m' st.live e))
    · cases hf
theorem enumD_get : ∀ {ds : List D} {k i : Nat} {d : D}, (enumD k ds)[i]? = some d → ∃ y, ds[i]? = some y ∧ d = .tup [.int ((k + i : Nat) : Int), y]
  | [], _, _, _, h => by simp [enumD] at h
  | y :: ds, k, 0, d, h => by
    have e : D.tup [.int k, y] = d := by simpa [enumD] using h
    exact ⟨y, rfl, e.symm⟩
  | y :: ds, k, i + 1, d, h => by
    obtain ⟨z, h1, h2⟩ := enumD_get (ds := ds) (k := k + 1) (i := i) (d := d) (by simpa [enumD] using h)
    exact ⟨z, by simpa using h1, by rw [h2, Nat.add_assoc, Nat.add_comm 1 i]⟩
theorem enumD_length : ∀ (ds : List D) (k : Nat), (enumD k ds).length = ds.length
  | [], _ => rfl
  | _ :: ds, k => by unfold enumD; rw [List.length_cons, List.length_cons, enumD_length ds]
theorem serves_enum {m : AM} {H : Hp} {v1 : V} {xs : List D} {k1 : SK} {vs : List V} (L : ∀ a, m.has a → ∃ o, MutO o ∧ H a = some o) (p1 : Reps G m H xs vs) (q1 : ∀ H' m', Mon m H m' H' → SrcV G.K H' k1 v1 vs) :
    Serves G (IteG G.K k1 v1) m H (enumD 0 xs) := by
  refine ⟨fun i d H2 m2 e2 hd => ?_, fun H2 m2 e2 => ?_⟩
  · obtain ⟨y, hy, rfl⟩ := enumD_get hd
    obtain ⟨w1, g1, r1⟩ := p1.get hy
    refine ⟨⟨vs, q1 _ _ e2, (List.getElem?_eq_some_iff.mp g1).1⟩, fun x H' ⟨T, y1, ex, nT, eH, f1⟩ => ?_⟩
    subst ex eH
    have e3 : w1 = y1 := Option.some.inj (g1.symm.trans (f1 _ (q1 _ _ e2)))
    subst e3
    refine ⟨fun a o q => by rw [upd_ne (ne_of_none q nT)]; exact q, ?_⟩
    unfold Rep
    exact ⟨T, [.int (i : Nat), w1], rfl, .inl (.inl upd_same), .cons (by unfold Rep; rw [Nat.zero_add]) (.cons (Rep.mon L (e2.trans (.new nT)) _ _ r1) .nil)⟩
  · exact ⟨vs, q1 _ _ e2, by rw [enumD_length, p1.length]⟩
set_option maxHeartbeats 1000000 in
theorem meets_enum1T {v : Value} {o : Obj} {S : Heap → Prop} (B : Begins v o S) :
    Meets (Builtin.«enumerate.__new__» ⟨[.type "enumerate", v], []⟩) (fun _ R s => S s.heap ∧
      R (.ok (.ret (.ref (s.heap.push o).objs.size))) { s with heap := (s.heap.push o).push { cls := .type "enumerate", data := .fields #[.none, .bool false, .ref s.heap.objs.size, rawInt 0, .none, .none] } }) :=
  .of_wp fun prog w A R s h => by
    obtain ⟨hp, g, d, tk, os⟩ := s; obtain ⟨h1, h⟩ := h
    have hsub := sub_enumerate
    have q1 : ∀ {A' : Around} {E : Value → Shared → Prop} {Q : Value → Shared → Prop}, Q (.ref hp.objs.size) ⟨hp.push o, g, d, tk, os⟩ → wpAny (model prog w) A' (pyIter v) Q E ⟨hp, g, d, tk, os⟩ :=
      fun q => B.iter prog w _ _ ⟨hp, g, d, tk, os⟩ _ h1 q
    wp_walk using q1
    refine wpAny_stack_any fun st => wpAny_pure ?_
    split
    · rename_i c _ _ _ _ _
      cases (c == Value.type "enumerate")
      · wp_walk using q1
        exact ⟨_, rfl, h⟩
      · wp_walk using q1
        exact ⟨_, rfl, h⟩
    · wp_walk using q1
      exact ⟨_, rfl, h⟩
theorem call_enumB {prog : Program} {w : World} {A : Around} {E : Value → Shared → Prop} {s : Shared} {v : Value} {o : Obj} {S : Heap → Prop} {Q : Value → Shared → Prop} (B : Begins v o S) (h1 : S s.heap)
    (h : ∀ h', IsEnum h' (s.heap.objs.size + 1) s.heap.objs.size 0 .none → h'.get? s.heap.objs.size = some o → h'.objs.size = s.heap.objs.size + 2 →
      (∀ b o, s.heap.get? b = some o → h'.get? b = some o) → Q (.ref (s.heap.objs.size + 1)) { s with heap := h' }) :
    wpAny (model prog w) A (call (.type "enumerate") [v]) Q E s := by
  refine callType_new F.called_enumerate (by decide) (F.typeCall_enumerate_1 _) (F.newCall_enumerate_1 _) (fun obj => F.args_object_init_2 obj _) F.entry_enumerate_new
    (meets_enum1T B) ⟨h1, ?_⟩
  have hz : (s.heap.push o).objs.size = s.heap.objs.size + 1 := Heap.size_push ..
  show _ ∧ _
  rw [hz]
  have he : IsEnum ((s.heap.push o).push { cls := .type "enumerate", data := .fields #[.none, .bool false, .ref s.heap.objs.size, rawInt 0, .none, .none] }) (s.heap.objs.size + 1) s.heap.objs.size 0 .none := by
    have := Heap.get?_push_size (s.heap.push o) (o := { cls := .type "enumerate", data := .fields #[.none, .bool false, .ref s.heap.objs.size, rawInt 0, .none, .none] }) rfl
    rw [hz] at this; exact this
  refine ⟨⟨_, he, rfl⟩, h _ he (Heap.get?_push_of_some _ (Heap.get?_push_size _ B.free)) (by rw [Heap.size_push, hz]) fun b o x => Heap.get?_push_of_some _ (Heap.get?_push_of_some _ x)⟩
theorem si_enum (hK : X.K = G.K) (hg : Gl X "enumerate") (hm : X.mg "enumerate" = none) (ha : PE X a (tE G W cf ca)) (hs : starEach [a] X.env = (false, eval a X.env) :: starEach [] X.env := by rfl) :
    PI X (.Tuple elts kk tpos) (.Call (.Name "enumerate" p) [a] [] pos) (tI G W cf fEnum [ca]) := by
  refine ⟨fun pins s σ H R I h => ?_⟩
  have hA := sa_cons (hs := hs) ha (sa_nil (G := G) (W := W) (cf := cf))
  obtain ⟨ρ, μ, m, S, h⟩ := h
  refine PyProof.Rows.Call_ (ld_blt I hg hm PyProof.Rows.boot_enumerate (PyProof.Rows.callWith_type1 (thn (hA.run pos pins s σ H (fun vs H1 => ∃ ds μ1 m1 items, Reps G m1 H1 ds vs ∧ fEnum μ1 ds = some items ∧ StOk G μ1 m1 H1 ∧ ∀ J, Serves G J m1 H1 items → R J H1) I
    (tA_sub S h.bind (.refl _ _) fun ds μ1 vs H1 m1 q e1 s1 rv => ?_)) fun us s1 ⟨vs, H1, I1, r1, ds, μ1, m1, items, rv, hf, st, q⟩ => ?_) hs rfl))
  · obtain ⟨items, hf, q⟩ := out_lift q
    exact ⟨ds, μ1, m1, items, rv, hf, s1.st, fun J sv => q J H1 m1 e1 s1 sv⟩
  · unfold fEnum at hf
    split at hf
    · rename_i d1
      obtain ⟨w1, rfl, g1⟩ := reps1 rv
      cases h1 : items1 d1 with
      | none => rw [h1] at hf; cases hf
      | some xs =>
        rw [h1] at hf
        cases hf
        obtain ⟨k1, vs, a1, b1, c1, f1⟩ := src_of h1 g1
        obtain ⟨u1, rfl, ru1⟩ := vals1 r1
        rw [← hK] at a1
        obtain ⟨S1, B1, z1⟩ := begins_src I1 ru1 a1
        have lt1 := src_lt I1 ru1 a1
        refine call_enumB B1 z1 fun h' he o1 hsz hk => wpAny_pyIter_enum he ?_
        have I2 : Inv X pins σ H1 { s1 with heap := h' } := I1.kept (t' := s1.toks) hk
        refine ⟨s1.heap.objs.size + 1, [s1.heap.objs.size + 1, s1.heap.objs.size], _, IteG X.K k1 w1, H1, rfl, I2,
          turn_enumG ru1 (Nat.succ_ne_self _) (fun l e => Nat.ne_of_lt (Nat.lt_of_lt_of_le (lt1 l e) (Nat.le_add_right _ _))), ⟨⟨.none, he⟩, sub_beg (X := X) ru1 a1 o1⟩, fun b hb => ?_, ?_⟩
        · have e' : b = s1.heap.objs.size + 1 ∨ b = s1.heap.objs.size := by simpa using hb
          have hle : s1.heap.objs.size ≤ b := by
            rcases e' with z | z
            · rw [z]; exact Nat.le_add_right _ _
            · rw [z]; exact Nat.le_refl _
          exact I1.fpOk hle (I1.hok.fresh hle)
        · rw [hK]
          exact q _ (serves_enum st.live b1 (fun H' m' e => f1 H' m' st.live e))
    · cases hf
end
end Ev

namespace Ev
open PySem PySem.Spec L2 PyProof.Rows
/-! ## a text taken apart by names -/
theorem draw_walk {P : Program} {w : World} {A : Around} {E : Value → Shared → Prop} {I : Addr} {N : Nat} {Pv : Nat → Value → Prop} {St : Nat → Heap → Prop} (W : Walks P w A I [I] [I] N Pv St) : ∀ (n i : Nat) (s : Shared) (Q : List Value → Shared → Prop), St i s.heap → i + n ≤ N →
    (∀ h' tk vs, St (i + n) h' → (∀ b o, b ≠ I → s.heap.get? b = some o → h'.get? b = some o) → vs.length = n → (∀ j v, vs[j]? = some v → Pv (i + j) v) → Q vs { s with heap := h', toks := tk }) → wpAny (model P w) A (draw (.ref I) n) Q E s
  | 0, i, s, Q, hst, _, hQ => by
    show wpAny _ _ (pure []) Q E s
    exact wpAny_pure (hQ s.heap s.toks [] hst (fun _ _ _ e => e) rfl fun j v h => by simp at h)
  | n + 1, i, s, Q, hst, hle, hQ => by
    show wpAny _ _ (pyNext (.ref I) >>= _) Q E s
    refine wpAny_bind (W.item i s _ _ (by omega) hst fun v h1 tk hP hst1 hk1 => ?_)
    refine wpAny_bind (wpAny_holding (draw_walk W n (i + 1) _ _ hst1 (by omega) fun h2 tk2 vs hst2 hk2 hl hv => wpAny_pure ?_))
    refine hQ h2 tk2 (v :: vs) (by rw [show i + (n + 1) = i + 1 + n by omega]; exact hst2) (fun b o hb e => hk2 b o hb (hk1 b o (by simpa using hb) e)) (by rw [List.length_cons, hl]) fun j u hj => ?_
    cases j with
    | zero => have : v = u := by simpa using hj
              rw [← this]; exact hP
    | succ j => have := hv j u (by simpa using hj)
                rw [show i + (j + 1) = i + 1 + j by omega]; exact this
theorem unpack_text {P : Program} {w : World} {A : Around} {E : Value → Shared → Prop} {s : Shared} {z : List Nat} {t : Tok} {Q : List Value → Shared → Prop} (hh : A.handled = none)
    (hQ : ∀ h' tk (vs : List Value), (∀ b o, s.heap.get? b = some o → h'.get? b = some o) → Vals (z.map fun c => V.str (toS [c])) vs → Q vs { s with heap := h', toks := tk }) : wpAny (model P w) A (unpackItems (.str (toS z) t) z.length none) Q E s := by
  have hz : (toS z).cps.size = z.length := by simp [toS]
  unfold unpackItems
  refine wpAny_bind ?_
  unfold notIterableAtAll
  refine wpAny_bind (wpAny_specialOf (typeIs_str s (toS z) t) F.slot_str_iter.lookup ?_)
  refine wpAny_pure ?_
  simp only [Bool.false_eq_true, if_false]
  refine wpAny_bind (wpAny_holding (wpAny_pyIter_str fun o St W hst => ?_))
  refine wpAny_bind (wpAny_holding (draw_walk (W A hh) z.length 0 _ _ hst (by rw [hz]; omega) fun h1 tk1 vs hst1 hk1 hl hv => ?_))
  rw [if_neg (by rw [hl]; exact Nat.lt_irrefl _)]
  rw [Nat.zero_add] at hst1
  refine wpAny_bind (wpAny_holding ((W A hh).done _ _ _ (by rw [hz]; exact hst1) fun h2 tk2 hk2 => ?_))
  simp only [Option.isSome_none, Bool.false_eq_true, if_false]
  refine wpAny_pure (hQ h2 tk2 vs (fun b o e => ?_) ?_)
  · have nb : b ≠ s.heap.objs.size := Nat.ne_of_lt (Heap.lt_size e)
    exact hk2 b o (by simpa using nb) (hk1 b o nb (Heap.get?_push_of_some _ e))
  · have gen : ∀ (z : List Nat) (vs : List Value), vs.length = z.length → (∀ (j : Nat) (v : Value), vs[j]? = some v → ∃ (c : Nat) (u : Tok), z[j]? = some c ∧ v = Value.str ⟨#[c]⟩ u) → Vals (z.map fun c => V.str (toS [c])) vs := by
      intro z
      induction z with
      | nil => intro vs h _; cases vs with
        | nil => exact .nil
        | cons _ _ => simp at h
      | cons c z ih =>
        intro vs h hv
        cases vs with
        | nil => simp at h
        | cons v vs =>
          obtain ⟨c', u, h1, rfl⟩ := hv 0 v rfl
          have e : c = c' := by simpa using h1
          subst e
          exact .cons ⟨u, rfl⟩ (ih vs (by simpa using h) fun j w hj => by
            obtain ⟨c', u', h2, h3⟩ := hv (j + 1) w (by simpa using hj)
            exact ⟨c', u', by simpa using h2, h3⟩)
    exact gen z vs hl fun j v hj => by
      obtain ⟨c, u, h1, h2⟩ := hv j v hj
      exact ⟨c, u, by simpa [toS] using h1, h2⟩
/-- (a, b, ..) = a text of so many signs -/
def gStr (n : Nat) (t : TGs) : TG := fun v σ H Q => ∃ z : List Nat, v = .str (toS z) ∧ z.length = n ∧ t (z.map fun c => V.str (toS [c])) σ H Q
theorem pg_str {X : Cx} {pos : Pos} {es : List Expr} {k : Nat} {t : TGs} {n : Nat} (hc : X.calm = true) (h : PGs X es t)
    (hn : (assignEach es X.env).length = n := by rfl) (hst : (assignEach es X.env).findIdx? (·.1) = none := by rfl) : PG X (.Tuple es k pos) (gStr n t) := by
  refine ⟨fun pins s σ H v u Q I r hw => ?_⟩
  obtain ⟨z, e1, hl, hw⟩ := hw
  subst e1
  obtain ⟨tk, rfl⟩ := r
  have hn' : (assignEach es X.env).length = z.length := hn.trans hl.symm
  rw [PyProof.Rows.assign_Tuple]
  refine wpAny_bind (wpAny_standAt ?_)
  unfold unpack
  rw [hn', hst]
  refine wpAny_bind (wpAny_holding (unpack_text (I.ok.hd hc) fun h' tk' vs hk rv => ?_))
  exact h.run pins _ σ H _ _ Q (I.kept hk) rv hw
end Ev

namespace Ev
open PySem PySem.Spec L2 Res

mutual
def slotsT : CT → List Nat
  | .name i => [i]
  | .tup ts => slotsTs ts
def slotsTs : List CT → List Nat
  | [] => []
  | t :: ts => slotsT t ++ slotsTs ts
end
/-- a target of names -/
def tG (G : GC) (t : CT) : TG := fun v σ H Q => ∃ ρ μ m d ρ', SR G ρ μ m σ H ∧ Rep G m H d v ∧ bindT t d ρ = some ρ' ∧ ∀ σ', SR G ρ' μ m σ' H → (∀ vs, (∀ i ∈ slotsT t, i ∈ vs) → L2.wipe σ' vs = L2.wipe σ vs) → Q σ' H
def tGs (G : GC) (ts : List CT) : TGs := fun vs σ H Q => ∃ ρ μ m ds ρ', SR G ρ μ m σ H ∧ Reps G m H ds vs ∧ bindTs ts ds ρ = some ρ' ∧ ∀ σ', SR G ρ' μ m σ' H → (∀ vs, (∀ i ∈ slotsTs ts, i ∈ vs) → L2.wipe σ' vs = L2.wipe σ vs) → Q σ' H
theorem pg_of {X : Cx} {e : Expr} {t t' : TG} (h : PG X e t) (k : ∀ v σ H Q, t' v σ H Q → t v σ H Q) : PG X e t' := ⟨fun pins s σ H v u Q I r q => h.run pins s σ H v u Q I r (k v σ H Q q)⟩
theorem pgs_of {X : Cx} {es : List Expr} {t t' : TGs} (h : PGs X es t) (k : ∀ v σ H Q, t' v σ H Q → t v σ H Q) : PGs X es t' := ⟨fun pins s σ H v u Q I r q => h.run pins s σ H v u Q I r (k v σ H Q q)⟩
theorem wipe_in {σ : St} {i : Nat} {v : Option V} : ∀ {vs : List Nat}, i ∈ vs → L2.wipe (σ.set i v) vs = L2.wipe σ vs
  | [], h => nomatch h
  | j :: vs, h => by
    unfold L2.wipe
    by_cases hj : i ∈ vs
    · rw [wipe_in hj]
    · have e : i = j := by rcases List.mem_cons.mp h with z | z; exact z; exact absurd z hj
      subst e
      have comm : ∀ {ws : List Nat}, i ∉ ws → L2.wipe (σ.set i v) ws = (L2.wipe σ ws).set i v := by
        intro ws
        induction ws with
        | nil => intro _; rfl
        | cons k ws ih =>
          intro hn
          have hk : i ≠ k := fun z => hn (by simp [z])
          have hw : i ∉ ws := fun z => hn (by simp [z])
          show (L2.wipe (σ.set i v) ws).set k none = ((L2.wipe σ ws).set k none).set i v
          rw [ih hw, List.set_comm _ _ hk]
      rw [comm hj, List.set_set]

theorem wipe_get (σ : St) : ∀ (vs : List Nat) (i : Nat), (L2.wipe σ vs)[i]? = if i ∈ vs then (if i < σ.length then some none else none) else σ[i]?
  | [], i => by simp [L2.wipe]
  | j :: vs, i => by
    unfold L2.wipe
    by_cases hj : j = i
    · subst hj
      rw [if_pos List.mem_cons_self]
      by_cases hl : j < σ.length
      · rw [if_pos hl, List.getElem?_set_self (by rw [wipe_length]; exact hl)]
      · rw [if_neg hl]; exact List.getElem?_eq_none (by rw [List.length_set, wipe_length]; omega)
    · rw [List.getElem?_set_ne hj, wipe_get σ vs i]
      by_cases hm : i ∈ vs
      · rw [if_pos hm, if_pos (List.mem_cons_of_mem _ hm)]
      · rw [if_neg hm, if_neg (fun z => (List.mem_cons.mp z).elim (fun z => hj z.symm) hm)]
theorem wipe_idem (σ : St) (vs : List Nat) : L2.wipe (L2.wipe σ vs) vs = L2.wipe σ vs := by
  apply List.ext_getElem?
  intro i
  rw [wipe_get, wipe_get, wipe_length]
  split
  · rfl
  · rfl

section
variable {G : GC} {W : WX} {cf : String → List D → Store → Res D} {X : Cx}
theorem sg_name (i : Nat) {x : Str} {pos : Pos} (hN : X.N.Nodup) (hi : X.N[i]? = some x := by rfl) (hx : Loc X.env.scope x := by first | exact Or.inl rfl | exact Or.inr rfl) (hf : X.fn x = true ∨ X.env.scope.names.lookup x = some .local := by first | exact .inl rfl | exact .inr rfl) : PG X (.Name x pos) (tG G (.name i)) :=
  pg_of (pg_name hN hi hx hf) fun v σ H Q ⟨ρ, μ, m, d, ρ', S, r, hb, k⟩ => by
    unfold bindT at hb
    by_cases hl : i < ρ.length
    · rw [if_pos hl] at hb
      cases hb
      exact k _ (S.set hl r) fun vs hv => wipe_in (hv i (by simp [slotsT]))
    · rw [if_neg hl] at hb; cases hb
theorem sgs_nil : PGs X [] (tGs G []) := pgs_of pgs_nil fun vs σ H Q ⟨ρ, μ, m, ds, ρ', S, r, hb, k⟩ => by
  cases ds with
  | nil => unfold bindTs at hb; cases hb; exact ⟨r.isnil, k σ S fun _ _ => rfl⟩
  | cons _ _ => unfold bindTs at hb; cases hb
theorem sgs_cons {e : Expr} {es : List Expr} {t : CT} {ts : List CT} (h1 : PG X e (tG G t)) (h2 : PGs X es (tGs G ts)) (hs : (assignEach (e :: es) X.env).map (·.2) = assign e X.env :: (assignEach es X.env).map (·.2) := by rfl) : PGs X (e :: es) (tGs G (t :: ts)) :=
  pgs_of (pgs_cons h1 h2 hs) fun vs σ H Q ⟨ρ, μ, m, ds, ρ', S, r, hb, k⟩ => by
    cases ds with
    | nil => unfold bindTs at hb; cases hb
    | cons d ds =>
      obtain ⟨w, ws, e1, r1, r2⟩ := r.uncons
      unfold bindTs at hb
      cases q : bindT t d ρ with
      | none => rw [q] at hb; cases hb
      | some ρ1 =>
        rw [q] at hb
        refine ⟨w, ws, e1, ρ, μ, m, d, ρ1, S, r1, q, fun σ1 S1 w1 => ⟨ρ1, μ, m, ds, ρ', S1, r2, hb, fun σ2 S2 w2 => k σ2 S2 fun vs hv => ?_⟩⟩
        rw [w2 vs fun i hi => hv i (by unfold slotsTs; exact List.mem_append_right _ hi), w1 vs fun i hi => hv i (by unfold slotsTs; exact List.mem_append_left _ hi)]
theorem bindTs_len : ∀ {ts : List CT} {ds : List D} {ρ ρ' : Env}, bindTs ts ds ρ = some ρ' → ds.length = ts.length
  | [], [], _, _, _ => rfl
  | [], _ :: _, _, _, h => by unfold bindTs at h; cases h
  | _ :: _, [], _, _, h => by unfold bindTs at h; cases h
  | t :: ts, d :: ds, ρ, ρ', h => by
    unfold bindTs at h
    cases q : bindT t d ρ with
    | none => rw [q] at h; cases h
    | some ρ1 => rw [q] at h; simp [bindTs_len h]
theorem reps_one_signs {m : AM} {H : Hp} : ∀ z : List Nat, Reps G m H (z.map fun c => Ev.D.str [c]) (z.map fun c => V.str (toS [c]))
  | [] => .nil
  | c :: z => .cons (by unfold Rep; rfl) (reps_one_signs z)
theorem sg_tup {es : List Expr} {k : Nat} {pos : Pos} {ts : List CT} (hK : X.K = G.K) (hc : X.calm = true) (h : PGs X es (tGs G ts)) (hn : (assignEach es X.env).length = ts.length := by rfl) (hst : (assignEach es X.env).findIdx? (·.1) = none := by rfl) : PG X (.Tuple es k pos) (tG G (.tup ts)) :=
  ⟨fun pins s σ H v u Q I rv ⟨ρ, μ, m, d, ρ', S, r, hb, k⟩ => by
    cases d with
    | tup ds =>
      unfold bindT at hb
      unfold Rep at r
      obtain ⟨a, xs, rfl, hs, rr⟩ := r
      exact (pg_tup hc h hn hst).run pins s σ H _ u Q I rv ⟨a, xs, rfl, by rw [hK]; exact hs, by rw [← rr.length, bindTs_len hb], ρ, μ, m, ds, ρ', S, rr, hb, fun σ' S' w => k σ' S' fun vs hv => w vs fun i hi => hv i (by unfold slotsT; exact hi)⟩
    | str z =>
      unfold bindT at hb
      unfold Rep at r
      subst r
      exact (pg_str hc h hn hst).run pins s σ H _ u Q I rv ⟨z, rfl, by have := bindTs_len hb; rw [List.length_map] at this; exact this, ρ, μ, m, _, ρ', S, reps_one_signs z, hb, fun σ' S' w => k σ' S' fun vs hv => w vs fun i hi => hv i (by unfold slotsT; exact hi)⟩
    | _ => unfold bindT at hb; cases hb⟩

/-! ### comprehensions -/
/-- one turn, as the evaluator does it -/
def compStep (cf : String → List D → Store → Res D) (elt : CE) (tg : CT) (cond : CE) (ρ : Env) : D → Store → Res (Option D) := fun d μ => match bindT tg d ρ with
  | none => .stuck
  | some ρ1 => (ev cf cond ρ1 μ).bind fun x μ1 => (lift (truth μ1 x) μ1).bind fun t μ2 => if t then (ev cf elt ρ1 μ2).bind fun y μ3 => .ok (some y) μ3 else .ok none μ2
theorem ev_comp {m : Bool} {elt cond : CE} {tg : CT} {f : Itf} {as : List CE} {own : List Nat} {ρ : Env} {μ : Store} : ev cf (.comp m elt tg f as cond own) ρ μ = ((evs cf as ρ μ).bind fun ds μ1 => lift (f μ1 ds) μ1).bind fun items μ2 =>
      if items.length ≤ cap then (compLoop (compStep cf elt tg cond (wipeE ρ own)) items μ2).bind fun out μ3 => mkL m out μ3 else .stuck := by
  rw [Res.bind_assoc]; conv => lhs; unfold ev
  rfl
theorem lc_sound {M : Bool} {elt cond : CE} {tg : CT} {own : List Nat} {ρ : Env} {μ : Store} {m : AM} {σ : St} {H1 : Hp} {J : It} {items : List D} {p : Addr} {Qd : VK} {tt : TT} {EK : String → Ev.D → Store → Prop}
    (hsl : ∀ i ∈ slotsT tg, i ∈ own)
    (htt : ∀ σ2 H2 R, tT G (fun _ _ _ _ => False) cf cond σ2 H2 R → tt σ2 H2 R)
    (S : SR G ρ μ m σ H1) (sv : Serves G J m H1 items) (hD : H1 p = none) (hcap : items.length ≤ cap)
    (h : Out ((compLoop (compStep cf elt tg cond (wipeE ρ own)) items μ).bind fun out μ3 => mkL M out μ3) (fun d μ' => ∀ v H' m', Ext m H1 m' H' → SR G ρ μ' m' σ H' → Rep G m' H' d v → Qd v H') EK) :
    ∃ Wv : Nat → Nat → Hp → Prop, (∃ mm, Wv 0 mm (upd H1 p (.lst []))) ∧ ∀ i mm H, Wv i mm H →
      (J.stop i H ∧ Qd (.ref p) H) ∨ (J.go i H ∧ ∃ Nx : Hp → Prop, (∀ H', Nx H' → ∃ m', m' < mm ∧ Wv (i + 1) m' H') ∧ ∀ x H', J.yld i H x H' → tG G tg x (L2.wipe σ own) H' fun σ2 H2 => L2.wipe σ2 own = L2.wipe σ own ∧ tt σ2 H2 fun b H3 =>
        if b = true then tE G (fun _ _ _ _ => False) cf elt σ2 H3 fun y H4 => ∃ acc, H4 p = some (.lst acc) ∧ acc.length < sizeLine ∧ Nx (upd H4 p (.lst (acc ++ [y]))) else Nx H3) := by
  let K : List Ev.D → Store → Prop := fun out μ3 => Out (mkL M out μ3) (fun d μ' => ∀ v H' m', Ext m H1 m' H' → SR G ρ μ' m' σ H' → Rep G m' H' d v → Qd v H') EK
  -- the list in the making is set apart
  let pl : List (Option Addr) → AM := fun l => ⟨l, p :: m.x⟩
  let mi' : List (Option Addr) → AM := fun l => ⟨l, m.x⟩
  have has_pl : ∀ l a, (pl l).has a ↔ (mi' l).has a ∨ a = p := fun l a => by
    constructor
    · rintro (q | q)
      · exact .inl (.inl q)
      · rcases List.mem_cons.mp q with q | q
        · exact .inr q
        · exact .inl (.inr q)
    · rintro ((q | q) | q)
      · exact .inl q
      · exact .inr (List.mem_cons_of_mem _ q)
      · exact .inr (by rw [q]; exact List.mem_cons_self)
  let Wi : Nat → Hp → Prop := fun i H => i ≤ items.length ∧ ∃ μi l accD acc, H p = some (.lst acc) ∧ Reps G (pl l) H accD acc ∧ acc.length ≤ i ∧ Ext m H1 (mi' l) H ∧ StOk G μi (pl l) H ∧
    Out (compLoop (compStep cf elt tg cond (wipeE ρ own)) (items.drop i) μi) (fun r μ3 => K (accD ++ r) μ3) EK
  have nD : ¬ m.has p := fun z => by
    obtain ⟨xs, _, q⟩ := S.st.live p z
    rw [hD] at q; cases q
  have up : Mon m H1 (pl m.l) (upd H1 p (.lst [])) := ⟨fun _ _ => .inl rfl, fun a o q n => ⟨by rw [upd_ne (ne_of_none q hD)]; exact q, fun z => ((has_pl _ _).mp z).elim n (ne_of_none q hD)⟩⟩
  have stUp : StOk G μ (pl m.l) (upd H1 p (.lst [])) := by
    have s1 := S.st
    exact ⟨s1.len, s1.inj, fun a h1 h2 => by
        rcases List.mem_cons.mp h2 with q | q
        · rw [q] at h1; exact nD (.inl h1)
        · exact s1.apart a h1 q, fun n o ds hn hd => by
        obtain ⟨h0, a, xs, q1, q2, q3⟩ := s1.obj n o ds hn hd
        exact ⟨h0, a, xs, q1, by rw [upd_ne (ne_of_none q2 hD)]; exact q2, Reps.mon s1.live up _ _ q3⟩, s1.dead, fun a ha => by
        rcases (has_pl _ _).mp ha with q | q
        · obtain ⟨xs, mu, z⟩ := s1.live a q
          exact ⟨xs, mu, by rw [upd_ne (ne_of_none z hD)]; exact z⟩
        · rw [q]; exact ⟨.lst [], trivial, upd_same⟩⟩
  refine ⟨fun i mm H => mm = items.length - i ∧ Wi i H, ⟨items.length, by simp, Nat.zero_le _, μ, m.l, [], [], upd_same, .nil, Nat.le_refl _, .new S.st.live hD, stUp, by simpa using h.bind⟩, ?_⟩
  rintro i mm H ⟨rfl, hi, μi, l, accD, acc, eD, rr, hacc, e1, st, ho⟩
  have down : Mon (pl l) H (mi' l) H := ⟨fun _ _ => .inl rfl, fun a o q n => ⟨q, fun z => n ((has_pl _ _).mpr (.inl z))⟩⟩
  have stDown : StOk G μi (mi' l) H := ⟨st.len, st.inj, fun a h1 h2 => st.apart a h1 (List.mem_cons_of_mem _ h2), fun n o ds hn hd => by
    obtain ⟨h0, a, xs, q1, q2, q3⟩ := st.obj n o ds hn hd
    exact ⟨h0, a, xs, q1, q2, Reps.mon st.live down _ _ q3⟩, st.dead, fun a ha => st.live a ((has_pl _ _).mpr (.inl ha))⟩
  by_cases hlt : i < items.length
  · right
    have hit : items[i]? = some items[i] := List.getElem?_eq_getElem hlt
    have upH : Mon m H1 (pl l) H := ⟨fun n hn => e1.pre n hn, fun a o q n => ⟨e1.keep _ _ q n, fun z => ((has_pl _ _).mp z).elim (e1.nm q n) (ne_of_none q hD)⟩⟩
    obtain ⟨g1, g2⟩ := sv.goes i _ H (pl l) upH hit
    refine ⟨g1, fun H' => Wi (i + 1) H', fun H' w => ⟨items.length - (i + 1), by omega, rfl, w⟩, fun x H' y => ?_⟩
    obtain ⟨k2, rx⟩ := g2 x H' y
    have hdrop : items.drop i = items[i] :: items.drop (i + 1) := by rw [List.drop_eq_getElem_cons hlt]
    rw [hdrop] at ho
    unfold compLoop at ho
    have ho := ho.bind
    have eDH' : H' p = some (.lst acc) := k2 _ _ eD
    -- the item comes, the list in the making set apart
    have e2' : Ext (pl l) H (pl l) H' := ⟨Nat.le_refl _, fun _ _ => .inl rfl, fun a ha hna => absurd ha hna, fun a o q _ => k2 a o q, rfl, fun a ha => by
      obtain ⟨xs, _, q⟩ := st.live a (.inr ha)
      rw [q]; exact k2 _ _ q⟩
    have st' : StOk G μi (pl l) H' := st.ext0 e2' fun a ha => by
      obtain ⟨xs, _, q⟩ := st.live a ha
      rw [q]; exact k2 _ _ q
    -- the slots
    have upS : Mon m H1 (pl l) H' := ⟨fun n hn => e1.pre n hn, fun a o q n => ⟨k2 _ _ (e1.keep _ _ q n), fun z => ((has_pl _ _).mp z).elim (e1.nm q n) (ne_of_none q hD)⟩⟩
    have S' : SR G (wipeE ρ own) μi (pl l) (L2.wipe σ own) H' := by
      have s1 : SR G ρ μi (pl l) σ H' := ⟨S.len, fun j d hj => by
        obtain ⟨v, q1, q2⟩ := S.env j d hj
        exact ⟨v, q1, Rep.mon S.st.live upS _ _ q2⟩, st'⟩
      exact s1.wipe own
    obtain ⟨o, μo, ho1, ho2⟩ := out_noExc ho
    unfold compStep at ho1
    cases hb : bindT tg items[i] (wipeE ρ own) with
    | none => rw [hb] at ho1; cases ho1
    | some ρ1 =>
      rw [hb] at ho1
      simp only at ho1
      refine ⟨wipeE ρ own, μi, pl l, items[i], ρ1, S', rx, hb, fun σ2 S2 wp => ⟨by rw [wp own hsl, wipe_idem], ?_⟩⟩
      refine htt σ2 H' _ ⟨ρ1, μi, pl l, S2, ?_⟩
      have hT : Out (evT cf cond ρ1 μi) (fun b μ2 => (if b = true then (ev cf elt ρ1 μ2).bind fun y μ3 => .ok (some y) μ3 else .ok none μ2) = .ok o μo) fun _ _ _ => False := by
        unfold evT
        cases q : ev cf cond ρ1 μi with
        | stuck => rw [q] at ho1; cases ho1
        | exc x d μ1 => rw [q] at ho1; cases ho1
        | ok d μ1 =>
          rw [q] at ho1
          simp only [bind_ok] at ho1 ⊢
          cases q2 : truth μ1 d with
          | none => rw [q2] at ho1; cases ho1
          | some t => rw [q2] at ho1; exact ho1
      -- what stands behind the turn's evaluation
      have fin : ∀ {m3 : AM} {H3 : Hp} {μ3 : Store}, Ext (pl l) H' m3 H3 → StOk G μ3 m3 H3 → m3 = pl m3.l ∧ H3 p = some (.lst acc) ∧ Ext m H1 (mi' m3.l) H3 := fun {m3 H3 μ3} e3 st3 => by
        have hx : m3 = pl m3.l := by
          obtain ⟨l3, x3⟩ := m3
          have q := e3.xeq
          simp only at q
          subst q
          rfl
        refine ⟨hx, (e3.keepx p List.mem_cons_self).trans eDH', Nat.le_trans e1.len e3.len, fun n hn => ?_, fun a ha hna => ?_, fun a o q n => ?_, rfl, fun a ha => ?_⟩
        · rcases e3.pre n (Nat.lt_of_lt_of_le hn e1.len) with q | q
          · rw [show (mi' m3.l).l = m3.l from rfl, q]; exact e1.pre n hn
          · exact .inr q
        · cases q : H1 a with
          | none => rfl
          | some u =>
            have k1 := e1.keep a u q hna
            have n1 := e1.nm q hna
            have n2 : ¬ (pl l).has a := fun z => ((has_pl _ _).mp z).elim n1 (ne_of_none q hD)
            have n3 := e3.nm (k2 _ _ k1) n2
            rw [hx] at n3
            exact absurd ((has_pl _ _).mpr (.inl ha)) n3
        · have n2 : ¬ (pl l).has a := fun z => ((has_pl _ _).mp z).elim (e1.nm q n) (ne_of_none q hD)
          exact e3.keep a o (k2 _ _ (e1.keep a o q n)) n2
        · have q1 := e3.keepx a (List.mem_cons_of_mem _ ha)
          obtain ⟨xs, _, q⟩ := st.live a (.inr (List.mem_cons_of_mem _ ha))
          rw [q1, k2 _ _ q, ← q]
          exact e1.keepx a ha
      refine hT.mono (fun b μ2 q H3 m3 e3 s3 => ?_) fun _ _ _ z => z.elim
      obtain ⟨hx3, eD3, e13⟩ := fin e3 s3.st
      cases b with
      | false =>
        simp only [Bool.false_eq_true, if_false] at q ⊢
        cases q
        rw [hx3] at s3 e3
        refine ⟨by omega, _, m3.l, accD, acc, eD3, Reps.ext st.live (e2'.trans e3) _ _ rr, Nat.le_succ_of_le hacc, e13, s3.st, ?_⟩
        exact ho2.bind.mono (fun r μ3 q => by simpa using q) fun _ _ _ z => z
      | true =>
        simp only [if_true] at q ⊢
        refine ⟨ρ1, μ2, m3, s3, ?_⟩
        have hV : Out (ev cf elt ρ1 μ2) (fun y μ3 => o = some y ∧ μo = μ3) fun _ _ _ => False := by
          cases q2 : ev cf elt ρ1 μ2 with
          | stuck => rw [q2] at q; cases q
          | exc x d μ1 => rw [q2] at q; cases q
          | ok y μ3 => rw [q2] at q; cases q; exact ⟨rfl, rfl⟩
        refine hV.mono (fun y μ3 q v H4 m4 e4 s4 rv => ?_) fun _ _ _ z => z.elim
        obtain ⟨rfl, rfl⟩ := q
        have e34 := e3.trans e4
        obtain ⟨hx4, eD4, e14⟩ := fin e34 s4.st
        have hsz : acc.length < sizeLine := by
          have : cap < sizeLine := by decide
          omega
        have wr : Mon m4 H4 (pl m4.l) (upd H4 p (.lst (acc ++ [v]))) := ⟨fun _ _ => .inl rfl, fun a o q n => by
          rw [hx4] at n
          have ne : a ≠ p := fun z => n ((has_pl _ _).mpr (.inr z))
          exact ⟨by rw [upd_ne ne]; exact q, n⟩⟩
        have apP : some p ∉ m4.l := fun z => s4.st.apart p z (by rw [hx4]; exact List.mem_cons_self)
        refine ⟨acc, eD4, hsz, by omega, μo, m4.l, accD ++ [y], acc ++ [v], upd_same, ?_, by simp; omega, ?_, ?_, ?_⟩
        · exact Reps.append (Reps.mon s4.st.live wr _ _ (Reps.ext st.live (e2'.trans e34) _ _ rr)) (.cons (Rep.mon s4.st.live wr _ _ rv) .nil)
        · exact ⟨e14.len, e14.pre, e14.fresh, fun a o q n => by
            rw [upd_ne (ne_of_none q hD)]; exact e14.keep a o q n, rfl, fun a ha => by
            obtain ⟨xs, _, q⟩ := S.st.live a (.inr ha)
            rw [upd_ne (ne_of_none q hD)]; exact e14.keepx a ha⟩
        · have s5 := s4.st
          rw [hx4] at s5
          refine ⟨s5.len, s5.inj, s5.apart, fun n o ds hn hd => ?_, s5.dead, fun a ha => ?_⟩
          · obtain ⟨h0, a, xs, q1, q2, q3⟩ := s5.obj n o ds hn hd
            have ne : a ≠ p := fun z => apP (by rw [← z]; exact List.mem_of_getElem? q1)
            rw [hx4] at wr
            exact ⟨h0, a, xs, q1, by rw [upd_ne ne]; exact q2, Reps.mon s5.live wr _ _ q3⟩
          · by_cases ne : a = p
            · rw [ne]; exact ⟨.lst _, trivial, upd_same⟩
            · obtain ⟨xs, mu, q⟩ := s5.live a ha
              exact ⟨xs, mu, by rw [upd_ne ne]; exact q⟩
        · exact ho2.bind.mono (fun r μ3 q => by simpa using q) fun _ _ _ z => z
  · left
    have hi' : i = items.length := by omega
    subst hi'
    have hd : items.drop items.length = [] := List.drop_length
    rw [hd] at ho
    unfold compLoop at ho
    simp only [Out_ok, List.append_nil] at ho
    refine ⟨sv.stop H (mi' l) e1.mon, ?_⟩
    have nDm : ¬ (mi' l).has p := fun z => z.elim (fun z => st.apart p z List.mem_cons_self) fun z => by
      obtain ⟨xs, _, q⟩ := S.st.live p (.inr z)
      rw [hD] at q; cases q
    obtain ⟨d, μ2, m2, k, e3, r, st2⟩ := mkL_new ho e1 stDown hD eD nDm (Reps.mon st.live down _ _ rr)
    exact k (.ref p) H m2 e3 (S.ext e3 st2) r
end
end Ev

namespace Ev
open PySem PySem.Spec L2 Res

abbrev W0 : WX := fun _ _ _ _ => False
theorem pi_mono {G : GC} {W : WX} {cf : String → List D → Store → Res D} {ρ : Env} {μ : Store} {m : AM} {σ : St} {H : Hp} {f : Itf} {cs : List CE} {k : List D → Store → Prop} {R : It → Hp → Prop} (S : SR G ρ μ m σ H)
    (h : Out ((evs cf cs ρ μ).bind fun ds μ1 => lift (f μ1 ds) μ1) k (ExK G W m H σ)) (hk : ∀ items μ1 J H1 m1, k items μ1 → Ext m H m1 H1 → SR G ρ μ1 m1 σ H1 → Serves G J m1 H1 items → R J H1) : tI G W cf f cs σ H R :=
  ⟨ρ, μ, m, S, h.mono (fun items μ1 q J H1 m1 e s sv => hk items μ1 J H1 m1 q e s sv) fun _ _ _ z => z⟩

section
variable {G : GC} {W : WX} {cf : String → List D → Store → Res D} {X : Cx}
variable {elt tg iter : Expr} {ifs : List Expr} {scope : Scope} {own : List (Str × Nat)} {pos : Pos} {M : Bool} {celt ccond : CE} {ct : CT} {f : Itf} {cas : List CE}

theorem tLc_of {tt : TT} {σ : St} {H : Hp} {Q : VK} (hsl : (slotsT ct).all (fun i => (own.map (·.2)).contains i) = true) (htt : ∀ σ2 H2 R, tT G W0 cf ccond σ2 H2 R → tt σ2 H2 R)
    (h : tE G W cf (.comp M celt ct f cas ccond (own.map (·.2))) σ H Q) : tLc (tI G W cf f cas) (tG G ct) tt (tE G W0 cf celt) (own.map (·.2)) σ H Q := by
  obtain ⟨ρ, μ, m, S, h⟩ := h
  rw [ev_comp] at h
  refine pi_mono S h.bind fun items μ1 J H1 m1 q e1 s1 sv p np => ?_
  by_cases hcap : items.length ≤ cap
  · rw [if_pos hcap] at q
    refine lc_sound (EK := ExK G W m H σ) (fun i hi => ?_) htt s1 sv np hcap (q.mono (fun d μ' k v H' m' e s r => k v H' m' (e1.trans e) s r) fun _ _ _ z => z)
    have := List.all_eq_true.mp hsl i hi
    simpa using this
  · rw [if_neg hcap] at q; exact q.elim
theorem tYes_of : ∀ σ2 H2 R, tT G W0 cf (.lit (.bl true)) σ2 H2 R → tYes σ2 H2 R := fun σ2 H2 R ⟨ρ, μ, m, S, h⟩ => by
  unfold evT ev at h
  simp only [bind_ok, truth, lift_some, Out_ok] at h
  exact h H2 m (.refl _ _) S
/-- [elt for target in iter] -/
theorem se_comp (hc : X.calm = true) (hN : X.N.Nodup) (hsl : (slotsT ct).all (fun i => (own.map (·.2)).contains i) = true) (hi : PI X tg iter (tI G W cf f cas)) (ok : blkC X.N X.env.scope scope own = true)
    (hg : ∀ (s : Shared) (H : Hp) (C : Addr) (cl : List (Str × Addr)) (fp : List Addr), PG (X.blk s H scope (compEnvC scope cl C X.env) fp) tg (tG G ct))
    (he : ∀ (s : Shared) (H : Hp) (C : Addr) (cl : List (Str × Addr)) (fp : List Addr), PE (X.blk s H scope (compEnvC scope cl C X.env) fp) elt (tE G W0 cf celt)) (hs : ∀ x, foldedSetIterable iter X.env x = pure x := by intro _; rfl) :
    PE X (.ListComp elt [⟨tg, iter, [], 0⟩] scope pos) (tE G W cf (.comp M celt ct f cas (.lit (.bl true)) (own.map (·.2)))) :=
  pe_of (pe_lc hc hN hi (blkOk_by ok) hg (fun _ _ _ _ _ => pts_nil) he hs) fun σ H Q h => tLc_of hsl tYes_of h
/-- [elt for target in iter if cond] -/
theorem se_compif {cond : Expr} (hc : X.calm = true) (hN : X.N.Nodup) (hsl : (slotsT ct).all (fun i => (own.map (·.2)).contains i) = true) (hi : PI X tg iter (tI G W cf f cas)) (ok : blkC X.N X.env.scope scope own = true)
    (hg : ∀ (s : Shared) (H : Hp) (C : Addr) (cl : List (Str × Addr)) (fp : List Addr), PG (X.blk s H scope (compEnvC scope cl C X.env) fp) tg (tG G ct))
    (ht : ∀ (s : Shared) (H : Hp) (C : Addr) (cl : List (Str × Addr)) (fp : List Addr), PT (X.blk s H scope (compEnvC scope cl C X.env) fp) cond (tT G W0 cf ccond))
    (he : ∀ (s : Shared) (H : Hp) (C : Addr) (cl : List (Str × Addr)) (fp : List Addr), PE (X.blk s H scope (compEnvC scope cl C X.env) fp) elt (tE G W0 cf celt)) (hs : ∀ x, foldedSetIterable iter X.env x = pure x := by intro _; rfl) :
    PE X (.ListComp elt [⟨tg, iter, [cond], 0⟩] scope pos) (tE G W cf (.comp M celt ct f cas ccond (own.map (·.2)))) :=
  pe_of (pe_lc hc hN hi (blkOk_by ok) hg (fun s H C cl fp => pts_one (ht s H C cl fp)) he hs) fun σ H Q h => tLc_of hsl (fun _ _ _ z => z) h

/-! ### statements -/
/-- what is wanted behind a statement -/
def FlK (G : GC) (D : Ends) (m : AM) (H : Hp) : Fl → Store → Prop := fun fl μ' => match fl with
  | .nx ρ' => ∀ σ' H' m', Ext m H m' H' → SR G ρ' μ' m' σ' H' → D.nx σ' H'
  | .rt d => ∀ v H' m', Ext m H m' H' → StOk G μ' m' H' → Rep G m' H' d v → D.rt v H'
  | .bk ρ' => ∀ σ' H' m', Ext m H m' H' → SR G ρ' μ' m' σ' H' → D.bk σ' H'
  | .ct ρ' => ∀ σ' H' m', Ext m H m' H' → SR G ρ' μ' m' σ' H' → D.ct σ' H'
/-- an exception that leaves: the slots don't matter -/
abbrev WofE (E : XK) : WX := fun cls dd _ H => E cls dd H
def ExS (G : GC) (E : XK) (m : AM) (H : Hp) : String → D → Store → Prop := fun x d μ' => ∀ cls dd H' m', Ext m H m' H' → StOk G μ' m' H' → G.EA x d cls dd m' H' → E cls dd H'
theorem ExS.toK {E : XK} {m : AM} {H : Hp} {σ : St} {x : String} {d : D} {μ : Store} (h : ExS G E m H x d μ) : ExK G (WofE E) m H σ x d μ := h
theorem ExS.step {E : XK} {m m1 : AM} {H H1 : Hp} {x : String} {d : D} {μ' : Store} (h : ExS G E m H x d μ') (e : Ext m H m1 H1) : ExS G E m1 H1 x d μ' := fun cls dd H' m' e' s ea => h cls dd H' m' (e.trans e') s ea
theorem FlK.step {D : Ends} {m m1 : AM} {H H1 : Hp} {fl : Fl} {μ' : Store} (h : FlK G D m H fl μ') (e : Ext m H m1 H1) : FlK G D m1 H1 fl μ' := by
  cases fl with
  | nx ρ => exact fun σ' H' m' e' s => h σ' H' m' (e.trans e') s
  | rt d => exact fun v H' m' e' s r => h v H' m' (e.trans e') s r
  | bk ρ => exact fun σ' H' m' e' s => h σ' H' m' (e.trans e') s
  | ct ρ => exact fun σ' H' m' e' s => h σ' H' m' (e.trans e') s
def tS (G : GC) (E : XK) (cf : String → List D → Store → Res D) (c : CS) : TS := fun Dn σ H => ∃ ρ μ m, SR G ρ μ m σ H ∧ Out (ex cf c ρ μ) (FlK G Dn m H) (ExS G E m H)
def tSs (G : GC) (E : XK) (cf : String → List D → Store → Res D) (cs : List CS) : TS := fun Dn σ H => ∃ ρ μ m, SR G ρ μ m σ H ∧ Out (exs cf cs ρ μ) (FlK G Dn m H) (ExS G E m H)
theorem ps_of {X : Cx} {e : Stmt} {t t' : TS} (h : PS X e t) (k : ∀ D σ H, t' D σ H → t D σ H) : PS X e t' := ⟨fun pins s σ H D I q => h.run pins s σ H D I (k D σ H q)⟩
theorem pss_of {X : Cx} {e : List Stmt} {t t' : TS} (h : PSs X e t) (k : ∀ D σ H, t' D σ H → t D σ H) : PSs X e t' := ⟨fun pins s σ H D I q => h.run pins s σ H D I (k D σ H q)⟩
end

section
variable {G : GC} {E : XK} {cf : String → List D → Store → Res D} {X : Cx} {st : Stmt} {rest : List Stmt} {pos : Pos} {e a b c : Expr} {ca cb cc ce : CE} {cs : CS} {css : List CS}

theorem sss_nil : PSs X [] (tSs G E cf []) := pss_of pss_nil fun Dn σ H ⟨ρ, μ, m, S, h⟩ => by
  unfold exs at h
  exact h σ H m (.refl _ _) S
theorem sss_cons (h1 : PS X st (tS G E cf cs)) (h2 : PSs X rest (tSs G E cf css)) : PSs X (st :: rest) (tSs G E cf (cs :: css)) :=
  pss_of (pss_cons h1 h2) fun Dn σ H ⟨ρ, μ, m, S, h⟩ => by
    unfold exs at h
    refine ⟨ρ, μ, m, S, h.bind.mono (fun fl μ1 q => ?_) fun _ _ _ z => z⟩
    cases fl with
    | nx ρ1 => exact fun σ' H' m' e s => ⟨ρ1, μ1, m', s, Out.mono q (fun fl μ2 k => k.step e) fun _ _ _ z => z.step e⟩
    | rt d => exact q
    | bk ρ1 => exact q
    | ct ρ1 => exact q
theorem ss_pass : PS X (.Pass pos) (tS G E cf .pass) := ps_of ps_pass fun Dn σ H ⟨ρ, μ, m, S, h⟩ => by
  unfold ex at h
  exact h σ H m (.refl _ _) S
theorem ss_brk : PS X (.Break pos) (tS G E cf .brk) := ps_of ps_break fun Dn σ H ⟨ρ, μ, m, S, h⟩ => by
  unfold ex at h
  exact h σ H m (.refl _ _) S
theorem ss_cont : PS X (.Continue pos) (tS G E cf .cont) := ps_of ps_continue fun Dn σ H ⟨ρ, μ, m, S, h⟩ => by
  unfold ex at h
  exact h σ H m (.refl _ _) S
theorem ss_never : PS X st (tS G E cf .never) := ps_of ps_never fun Dn σ H ⟨ρ, μ, m, S, h⟩ => by
  unfold ex at h
  exact h
theorem ss_expr (he : PE X e (tE G (WofE E) cf ce)) (hs : swapsWith e none pos.line X.env = pure false := by rfl) : PS X (.Expr e pos) (tS G E cf (.expr ce)) :=
  ps_of (ps_expr he hs) fun Dn σ H ⟨ρ, μ, m, S, h⟩ => by
    unfold ex at h
    exact tE_sub S h.bind (.refl _ _) fun d μ1 v H1 m1 q e1 s1 rv => q σ H1 m1 e1 s1
theorem ss_ret (he : PE X e (tE G (WofE E) cf ce)) : PS X (.Return (some e) pos) (tS G E cf (.ret ce)) :=
  ps_of (ps_ret he) fun Dn σ H ⟨ρ, μ, m, S, h⟩ => by
    unfold ex at h
    exact tE_sub S h.bind (.refl _ _) fun d μ1 v H1 m1 q e1 s1 rv => q v H1 m1 e1 s1.st rv
theorem ss_retN : PS X (.Return none pos) (tS G E cf .retN) := ps_of ps_retN fun Dn σ H ⟨ρ, μ, m, S, h⟩ => by
  unfold ex at h
  exact h .non H m (.refl _ _) S.st (by unfold Rep; rfl)
theorem ss_if {as bs : List Stmt} {cas cbs : List CS} (hc : PT X c (tT G (WofE E) cf cc)) (ha : PSs X as (tSs G E cf cas)) (hb : PSs X bs (tSs G E cf cbs)) : PS X (.If c as bs pos) (tS G E cf (.ifs cc cas cbs)) :=
  ps_of (ps_if hc ha hb) fun Dn σ H ⟨ρ, μ, m, S, h⟩ => by
    unfold ex at h
    refine tT_sub S h.bind (.refl _ _) fun t μ1 H1 m1 q e1 s1 => ?_
    cases t with
    | true =>
      simp only [if_true] at q ⊢
      exact ⟨ρ, μ1, m1, s1, Out.mono q (fun fl μ2 k => k.step e1) fun _ _ _ z => z.step e1⟩
    | false =>
      simp only [Bool.false_eq_true, if_false] at q ⊢
      exact ⟨ρ, μ1, m1, s1, Out.mono q (fun fl μ2 k => k.step e1) fun _ _ _ z => z.step e1⟩

/-! ### targets of assignments -/
def tAT (G : GC) (cf : String → List D → Store → Res D) (t : AT) : TG := fun v σ H Q => ∃ ρ μ m d, SR G ρ μ m σ H ∧ Rep G m H d v ∧ Out (asgT cf t d ρ μ) (fun ρ' μ' => ∀ σ' H' m', Ext m H m' H' → SR G ρ' μ' m' σ' H' → Q σ' H') fun _ _ _ => False
def tATs (G : GC) (cf : String → List D → Store → Res D) (ts : List AT) : TGs := fun vs σ H Q => ∃ ρ μ m ds, SR G ρ μ m σ H ∧ Reps G m H ds vs ∧ Out (asgTs cf ts ds ρ μ) (fun ρ' μ' => ∀ σ' H' m', Ext m H m' H' → SR G ρ' μ' m' σ' H' → Q σ' H') fun _ _ _ => False
theorem sa_name (i : Nat) {x : Str} (hN : X.N.Nodup) (hi : X.N[i]? = some x := by rfl) (hx : Loc X.env.scope x := by first | exact Or.inl rfl | exact Or.inr rfl) (hf : X.fn x = true ∨ X.env.scope.names.lookup x = some .local := by first | exact .inl rfl | exact .inr rfl) : PG X (.Name x pos) (tAT G cf (.name i)) :=
  pg_of (pg_name hN hi hx hf) fun v σ H Q ⟨ρ, μ, m, d, S, r, h⟩ => by
    unfold asgT at h
    by_cases hl : i < ρ.length
    · rw [if_pos hl] at h
      exact h _ H m (.refl _ _) (S.set hl r)
    · rw [if_neg hl] at h; exact h.elim
theorem sas_nil : PGs X [] (tATs G cf []) := pgs_of pgs_nil fun vs σ H Q ⟨ρ, μ, m, ds, S, r, h⟩ => by
  cases ds with
  | nil => unfold asgTs at h; exact ⟨r.isnil, h σ H m (.refl _ _) S⟩
  | cons _ _ => unfold asgTs at h; exact h.elim
theorem sas_cons {es : List Expr} {t : AT} {ts : List AT} (h1 : PG X e (tAT G cf t)) (h2 : PGs X es (tATs G cf ts)) (hs : (assignEach (e :: es) X.env).map (·.2) = assign e X.env :: (assignEach es X.env).map (·.2) := by rfl) : PGs X (e :: es) (tATs G cf (t :: ts)) :=
  pgs_of (pgs_cons h1 h2 hs) fun vs σ H Q ⟨ρ, μ, m, ds, S, r, h⟩ => by
    cases ds with
    | nil => unfold asgTs at h; exact h.elim
    | cons d ds =>
      obtain ⟨w, ws, e1, r1, r2⟩ := r.uncons
      unfold asgTs at h
      refine ⟨w, ws, e1, ρ, μ, m, d, S, r1, h.bind.mono (fun ρ1 μ1 q σ1 H1 m1 e1 s1 => ?_) fun _ _ _ z => z⟩
      exact ⟨ρ1, μ1, m1, ds, s1, Reps.ext S.st.live e1 _ _ r2, Out.mono q (fun ρ2 μ2 k σ2 H2 m2 e2 s2 => k σ2 H2 m2 (e1.trans e2) s2) fun _ _ _ z => z⟩
theorem asgTs_len : ∀ {ts : List AT} {ds : List D} {ρ : Env} {μ : Store} {k : Env → Store → Prop} {ee : String → D → Store → Prop}, Out (asgTs cf ts ds ρ μ) k ee → (∀ x d μ, ee x d μ → False) → ds.length = ts.length
  | [], [], _, _, _, _, _, _ => rfl
  | [], _ :: _, _, _, _, _, h, _ => by unfold asgTs at h; exact h.elim
  | _ :: _, [], _, _, _, _, h, _ => by unfold asgTs at h; exact h.elim
  | t :: ts, d :: ds, ρ, μ, k, ee, h, hn => by
    unfold asgTs at h
    cases q : asgT cf t d ρ μ with
    | stuck => rw [q] at h; exact h.elim
    | exc x d μ => rw [q] at h; exact (hn _ _ _ h).elim
    | ok ρ1 μ1 => rw [q] at h; simp [asgTs_len (ts := ts) h hn]
theorem sa_tup {es : List Expr} {k : Nat} {ts : List AT} (hK : X.K = G.K) (hc : X.calm = true) (h : PGs X es (tATs G cf ts)) (hn : (assignEach es X.env).length = ts.length := by rfl) (hst : (assignEach es X.env).findIdx? (·.1) = none := by rfl) : PG X (.Tuple es k pos) (tAT G cf (.tup ts)) :=
  ⟨fun pins s σ H v u Q I rv ⟨ρ, μ, m, d, S, r, hh⟩ => by
    cases d with
    | tup ds =>
      unfold asgT at hh
      unfold Rep at r
      obtain ⟨a, xs, rfl, hs, rr⟩ := r
      exact (pg_tup hc h hn hst).run pins s σ H _ u Q I rv ⟨a, xs, rfl, by rw [hK]; exact hs, by rw [← rr.length, asgTs_len hh fun _ _ _ z => z], ρ, μ, m, ds, S, rr, hh⟩
    | str z =>
      unfold asgT at hh
      unfold Rep at r
      subst r
      exact (pg_str hc h hn hst).run pins s σ H _ u Q I rv ⟨z, rfl, by have := asgTs_len hh fun _ _ _ z => z; rw [List.length_map] at this; exact this, ρ, μ, m, _, S, reps_one_signs z, hh⟩
    | _ => unfold asgT at hh; exact hh.elim⟩
/-- o[i] = .. of a list of the store -/
theorem ixOf_eq (n : Nat) (i : Int) : ixOf n i = ixN n i := rfl
theorem setIx_ok {o i d : D} {μ μ' : Store} {m : AM} {H : Hp} {x y z : V} (st : StOk G μ m H) (ro : Rep G m H o x) (ri : Rep G m H i y) (rd : Rep G m H d z) (h : setIx o i d μ = some μ') :
    ∃ p xs k j, x = .ref p ∧ y = .int k ∧ H p = some (.lst xs) ∧ ixN xs.length k = some j ∧ Ext m H m (upd H p (.lst (xs.set j z))) ∧ StOk G μ' m (upd H p (.lst (xs.set j z))) := by
  unfold setIx at h
  split at h
  · rename_i n k
    cases q : μ[n]? with
    | none => rw [q] at h; cases h
    | some mo =>
      rw [q] at h
      cases mo with
      | dead => cases h
      | dct _ => cases h
      | lst ds =>
        simp only at h
        cases q2 : ixOf ds.length k with
        | none => rw [q2] at h; cases h
        | some j =>
          rw [q2] at h
          simp only at h
          by_cases hn : noLst d = true
          · rw [if_pos hn] at h
            cases h
            obtain ⟨h0, a, xs, q1, q3, q4⟩ := st.lst n ds q
            unfold Rep at ro ri
            obtain ⟨b, rfl, hb⟩ := ro
            have eab : a = b := by
              rw [q1] at hb
              rcases hb with hb | hb
              · simpa using hb
              · simp at hb
            subst eab
            subst ri
            have hlen := q4.length
            have hin : some a ∈ m.l := List.mem_of_getElem? q1
            have ex : Ext m H m (upd H a (.lst (xs.set j z))) := ⟨Nat.le_refl _, fun _ _ => .inl rfl, fun c h1 h2 => absurd h1 h2, fun c o h1 h2 => by
              have ne : c ≠ a := fun z => h2 (by rw [z]; exact .inl hin)
              rw [upd_ne ne]; exact h1, rfl, fun c hc => by
              have ne : c ≠ a := fun z => st.apart a hin (by rw [← z]; exact hc)
              rw [upd_ne ne]⟩
            have nls : noLsts (ds.set j d) = true := by
              have gen : ∀ (l : List D) (j : Nat), noLsts l = true → noLsts (l.set j d) = true := by
                intro l
                induction l with
                | nil => intro j h; simpa using h
                | cons y l ih =>
                  intro j h
                  unfold noLsts at h
                  obtain ⟨h1, h2⟩ := Bool.and_eq_true_iff.mp h
                  cases j with
                  | zero => show noLsts (d :: l) = true; unfold noLsts; rw [hn, h2]; rfl
                  | succ j => show noLsts (y :: l.set j d) = true; unfold noLsts; rw [h1, ih j h2]; rfl
              exact gen ds j h0
            refine ⟨a, xs, k, j, rfl, rfl, q3, by rw [← hlen]; exact q2, ex, ⟨by rw [List.length_set]; exact st.len, st.inj, st.apart, fun n' o es hn' hd' => ?_, fun n' hn' => ?_, fun c hc => ?_⟩⟩
            · by_cases e : n = n'
              · subst e
                rw [List.getElem?_set_self (List.getElem?_eq_some_iff.mp q).1] at hn'
                have e0 : MO.lst (ds.set j d) = o := by simpa using hn'
                subst e0
                have e2 : ds.set j d = es := Option.some.inj hd'
                subst e2
                exact ⟨nls, a, _, q1, upd_same, Reps.set j (Reps.ext st.live ex _ _ q4) (Rep.ext st.live ex _ _ rd)⟩
              · rw [List.getElem?_set_ne e] at hn'
                obtain ⟨g0, c, ys, g1, g2, g3⟩ := st.obj n' o es hn' hd'
                have ne : c ≠ a := fun z => by subst z; exact e (st.inj _ _ _ q1 g1)
                exact ⟨g0, c, ys, g1, by rw [upd_ne ne]; exact g2, Reps.ext st.live ex _ _ g3⟩
            · by_cases e : n = n'
              · subst e
                rw [List.getElem?_set_self (List.getElem?_eq_some_iff.mp q).1] at hn'
                simp at hn'
              · rw [List.getElem?_set_ne e] at hn'
                exact st.dead n' hn'
            · by_cases ne : c = a
              · rw [ne]; exact ⟨.lst _, trivial, upd_same⟩
              · rw [upd_ne ne]; exact st.live c hc
          · rw [if_neg hn] at h; cases h
  · cases h
theorem sa_sub {o i : Expr} {co ci : CE} (ho : PE X o (tE G W0 cf co)) (hi : PE X i (tE G W0 cf ci))
    (ha : ∀ v, assign (.Subscript o i pos) X.env v = (do
      let ov ← holding [v] (eval o X.env)
      let iv ← holding [v, ov] (eval i X.env)
      standAt pos
      holding [v, ov, iv] (setItem ov iv v)
      release [v, ov, iv] []) := by intro _; rfl) : PG X (.Subscript o i pos) (tAT G cf (.sub co ci)) :=
  pg_of (pg_sub ho hi set_list ha) fun v σ H Q ⟨ρ, μ, m, d, S, r, h⟩ => by
    unfold asgT at h
    obtain ⟨x, μ1, q1, h⟩ := out_noExc h.bind
    refine ⟨ρ, μ, m, S, ?_⟩
    rw [q1]
    intro w H1 m1 e1 s1 rw1
    obtain ⟨y, μ2, q2, h⟩ := out_noExc h.bind
    refine ⟨ρ, μ1, m1, s1, ?_⟩
    rw [q2]
    intro w2 H2 m2 e2 s2 rw2
    cases q3 : setIx x y d μ2 with
    | none => rw [q3] at h; exact h.elim
    | some μ3 =>
      rw [q3] at h
      obtain ⟨p, xs, k, j, e3, e4, hp, hj, ex, st3⟩ := setIx_ok s2.st (Rep.ext s1.st.live e2 _ _ rw1) rw2 (Rep.ext S.st.live (e1.trans e2) _ _ r) q3
      exact ⟨p, xs, k, j, e3, e4, hp, hj, h σ _ m2 ((e1.trans e2).trans ex) (s2.ext ex st3)⟩

mutual
theorem asgT_nox : ∀ (t : AT) (d : D) (ρ : Env) (μ : Store) (x : String) (d' : D) (μ' : Store), asgT cf t d ρ μ ≠ .exc x d' μ'
  | .name i, d, ρ, μ, x, d', μ' => by unfold asgT; split <;> (intro z; cases z)
  | .sub o i, d, ρ, μ, x, d', μ' => by
    unfold asgT
    cases q : ev cf o ρ μ with
    | stuck => intro z; cases z
    | exc _ _ _ => intro z; cases z
    | ok w μ1 =>
      simp only [noExc_ok, bind_ok]
      cases q2 : ev cf i ρ μ1 with
      | stuck => intro z; cases z
      | exc _ _ _ => intro z; cases z
      | ok w2 μ2 =>
        simp only [noExc_ok, bind_ok]
        split <;> (intro z; cases z)
  | .key o i, d, ρ, μ, x, d', μ' => by
    unfold asgT
    cases q : ev cf o ρ μ with
    | stuck => intro z; cases z
    | exc _ _ _ => intro z; cases z
    | ok w μ1 =>
      simp only [noExc_ok, bind_ok]
      cases q2 : ev cf i ρ μ1 with
      | stuck => intro z; cases z
      | exc _ _ _ => intro z; cases z
      | ok w2 μ2 =>
        simp only [noExc_ok, bind_ok]
        split <;> (intro z; cases z)
  | .tup ts, .tup ds, ρ, μ, x, d', μ' => by unfold asgT; exact asgTs_nox ts ds ρ μ x d' μ'
  | .tup ts, .non, ρ, μ, x, d', μ' => by unfold asgT; intro z; cases z
  | .tup ts, .bl _, ρ, μ, x, d', μ' => by unfold asgT; intro z; cases z
  | .tup ts, .int _, ρ, μ, x, d', μ' => by unfold asgT; intro z; cases z
  | .tup ts, .str z, ρ, μ, x, d', μ' => by unfold asgT; exact asgTs_nox ts _ ρ μ x d' μ'
  | .tup ts, .lst _, ρ, μ, x, d', μ' => by unfold asgT; intro z; cases z
  | .tup ts, .ref _, ρ, μ, x, d', μ' => by unfold asgT; intro z; cases z
  | .tup ts, .gl _, ρ, μ, x, d', μ' => by unfold asgT; intro z; cases z
  | .tup ts, .ty _, ρ, μ, x, d', μ' => by unfold asgT; intro z; cases z
  | .tup ts, .scr _, ρ, μ, x, d', μ' => by unfold asgT; intro z; cases z
  | .tup ts, .dcv _ _, ρ, μ, x, d', μ' => by unfold asgT; intro z; cases z
  | .tup ts, .exv _ _ _, ρ, μ, x, d', μ' => by unfold asgT; intro z; cases z
theorem asgTs_nox : ∀ (ts : List AT) (ds : List D) (ρ : Env) (μ : Store) (x : String) (d' : D) (μ' : Store), asgTs cf ts ds ρ μ ≠ .exc x d' μ'
  | [], [], ρ, μ, x, d', μ' => by unfold asgTs; intro z; cases z
  | [], _ :: _, ρ, μ, x, d', μ' => by unfold asgTs; intro z; cases z
  | _ :: _, [], ρ, μ, x, d', μ' => by unfold asgTs; intro z; cases z
  | t :: ts, d :: ds, ρ, μ, x, d', μ' => by
    unfold asgTs
    cases q : asgT cf t d ρ μ with
    | stuck => intro z; cases z
    | exc x d μ => exact absurd q (asgT_nox t _ ρ _ _ _ _)
    | ok ρ1 μ1 => exact asgTs_nox ts ds ρ1 μ1 x d' μ'
end

/-! ### assignments -/
theorem tAsg_of {te : AT} {Dn : Ends} {σ : St} {H : Hp} (h : tS G E cf (.asg te ce) Dn σ H) : tAsg (tE G (WofE E) cf ce) (tAT G cf te) Dn σ H := by
  obtain ⟨ρ, μ, m, S, h⟩ := h
  unfold ex at h
  refine tE_sub S h.bind (.refl _ _) fun d μ1 v H1 m1 q e1 s1 rv => ⟨ρ, μ1, m1, d, s1, rv, ?_⟩
  have hn : ∀ x d' μ', asgT cf te d ρ μ1 ≠ .exc x d' μ' := asgT_nox te d ρ μ1
  cases q1 : asgT cf te d ρ μ1 with
  | stuck => rw [q1] at q; exact q.elim
  | exc x d' μ' => exact (hn _ _ _ q1).elim
  | ok ρ2 μ2 =>
    rw [q1] at q
    exact fun σ' H' m' e2 s2 => q σ' H' m' (e1.trans e2) s2
theorem ss_asg {tg : Expr} {te : AT} (he : PE X e (tE G (WofE E) cf ce)) (hg : PG X tg (tAT G cf te)) (hs : swapsWithSole [tg] e pos.line X.env = pure false := by rfl) (hw : swappedStores [tg] e X.env = pure none := by rfl)
    (h1 : (assignEach [tg] X.env).map (·.2) = [assign tg X.env] := by rfl) : PS X (.Assign [tg] e pos) (tS G E cf (.asg te ce)) :=
  ps_of (ps_asg he hg hs hw h1) fun Dn σ H h => tAsg_of h
/-- name = [..] on one line -/
theorem ss_setLc {i : Nat} {y : Str} {py : Pos} {elt tg iter : Expr} {scope : Scope} {own : List (Str × Nat)} {pos spos : Pos} {M : Bool} {celt : CE} {ct : CT} {f : Itf} {cas : List CE}
    (hc : X.calm = true) (hN : X.N.Nodup) (hy : X.N[i]? = some y) (hyl : X.env.scope.names.lookup y = some .local) (hsw : swapsWith (.ListComp elt [⟨tg, iter, [], 0⟩] scope pos) (some (.Name y py)) spos.line X.env = pure true)
    (hsl : (slotsT ct).all (fun i => (own.map (·.2)).contains i) = true) (hi : PI X tg iter (tI G (WofE E) cf f cas)) (ok : blkC X.N X.env.scope scope own = true)
    (hg : ∀ (s : Shared) (H : Hp) (C : Addr) (cl : List (Str × Addr)) (fp : List Addr), PG (X.blk s H scope (compEnvC scope cl C X.env) fp) tg (tG G ct))
    (he : ∀ (s : Shared) (H : Hp) (C : Addr) (cl : List (Str × Addr)) (fp : List Addr), PE (X.blk s H scope (compEnvC scope cl C X.env) fp) elt (tE G W0 cf celt)) (hs : ∀ x, foldedSetIterable iter X.env x = pure x := by intro _; rfl) :
    PS X (.Assign [.Name y py] (.ListComp elt [⟨tg, iter, [], 0⟩] scope pos) spos) (tS G E cf (.asg (.name i) (.comp M celt ct f cas (.lit (.bl true)) (own.map (·.2))))) :=
  ps_of (ps_setLc hc hN hy hyl hsw hi (blkOk_by ok) hg (fun _ _ _ _ _ => pts_nil) he hs) fun Dn σ H h => tLc_of (W := WofE E) hsl tYes_of (by
    obtain ⟨ρ, μ, m, S, q⟩ := tAsg_of h
    refine ⟨ρ, μ, m, S, q.mono (fun d μ1 k v H' m' e s r => ?_) fun _ _ _ z => z⟩
    obtain ⟨ρ2, μ2, m2, d2, S2, r2, q2⟩ := k v H' m' e s r
    unfold asgT at q2
    by_cases hl : i < ρ2.length
    · rw [if_pos hl] at q2
      exact q2 _ H' m2 (.refl _ _) (S2.set hl r2)
    · rw [if_neg hl] at q2; exact q2.elim)
theorem ss_setLcif {i : Nat} {y : Str} {py : Pos} {elt tg iter cond : Expr} {scope : Scope} {own : List (Str × Nat)} {pos spos : Pos} {M : Bool} {celt ccond : CE} {ct : CT} {f : Itf} {cas : List CE}
    (hc : X.calm = true) (hN : X.N.Nodup) (hy : X.N[i]? = some y) (hyl : X.env.scope.names.lookup y = some .local) (hsw : swapsWith (.ListComp elt [⟨tg, iter, [cond], 0⟩] scope pos) (some (.Name y py)) spos.line X.env = pure true)
    (hsl : (slotsT ct).all (fun i => (own.map (·.2)).contains i) = true) (hi : PI X tg iter (tI G (WofE E) cf f cas)) (ok : blkC X.N X.env.scope scope own = true)
    (hg : ∀ (s : Shared) (H : Hp) (C : Addr) (cl : List (Str × Addr)) (fp : List Addr), PG (X.blk s H scope (compEnvC scope cl C X.env) fp) tg (tG G ct))
    (ht : ∀ (s : Shared) (H : Hp) (C : Addr) (cl : List (Str × Addr)) (fp : List Addr), PT (X.blk s H scope (compEnvC scope cl C X.env) fp) cond (tT G W0 cf ccond))
    (he : ∀ (s : Shared) (H : Hp) (C : Addr) (cl : List (Str × Addr)) (fp : List Addr), PE (X.blk s H scope (compEnvC scope cl C X.env) fp) elt (tE G W0 cf celt)) (hs : ∀ x, foldedSetIterable iter X.env x = pure x := by intro _; rfl) :
    PS X (.Assign [.Name y py] (.ListComp elt [⟨tg, iter, [cond], 0⟩] scope pos) spos) (tS G E cf (.asg (.name i) (.comp M celt ct f cas ccond (own.map (·.2))))) :=
  ps_of (ps_setLc hc hN hy hyl hsw hi (blkOk_by ok) hg (fun s H C cl fp => pts_one (ht s H C cl fp)) he hs) fun Dn σ H h => tLc_of (W := WofE E) hsl (fun _ _ _ z => z) (by
    obtain ⟨ρ, μ, m, S, q⟩ := tAsg_of h
    refine ⟨ρ, μ, m, S, q.mono (fun d μ1 k v H' m' e s r => ?_) fun _ _ _ z => z⟩
    obtain ⟨ρ2, μ2, m2, d2, S2, r2, q2⟩ := k v H' m' e s r
    unfold asgT at q2
    by_cases hl : i < ρ2.length
    · rw [if_pos hl] at q2
      exact q2 _ H' m2 (.refl _ _) (S2.set hl r2)
    · rw [if_neg hl] at q2; exact q2.elim)
/-- a, b = x, y -/
theorem ss_par {i j : Nat} {x y : Str} {px py pt : Pos} {kt k2 : Nat} {pt2 : Pos} (hc : X.calm = true) (hN : X.N.Nodup) (hi : X.N[i]? = some x) (hj : X.N[j]? = some y) (hij : i ≠ j)
    (hx : X.env.scope.names.lookup x = some .local) (hy : X.env.scope.names.lookup y = some .local) (ha : PA X [a, b] (tA G (WofE E) cf [ca, cb]))
    (hw : swappedStores [.Tuple [.Name x px, .Name y py] kt pt] (.Tuple [a, b] k2 pt2) X.env = pure (some [x, y]))
    (hs : swapsWithSole [.Tuple [.Name x px, .Name y py] kt pt] (.Tuple [a, b] k2 pt2) pos.line X.env = pure false := by rfl) :
    PS X (.Assign [.Tuple [.Name x px, .Name y py] kt pt] (.Tuple [a, b] k2 pt2) pos) (tS G E cf (.asg (.tup [.name i, .name j]) (.tup [ca, cb]))) :=
  ps_of (ps_par hc hN hi hj hij hx hy ha hw hs) fun Dn σ H ⟨ρ, μ, m, S, h⟩ => by
    unfold ex ev at h
    rw [Res.bind_assoc] at h
    refine tA_sub S h.bind (.refl _ _) fun ds μ1 vs H1 m1 q e1 s1 rv => ?_
    by_cases hl : ds.length ≤ cap
    · rw [if_pos hl] at q
      simp only [bind_ok] at q
      unfold asgT at q
      have q := Out.bind q
      cases ds with
      | nil => unfold asgTs at q; exact q.elim
      | cons d ds =>
        cases ds with
        | nil =>
          unfold asgTs asgT at q
          have q := Out.bind q
          by_cases h1 : i < ρ.length
          · rw [if_pos h1] at q; simp only [Out_ok] at q; unfold asgTs at q; exact q.elim
          · rw [if_neg h1] at q; exact q.elim
        | cons d2 ds =>
          cases ds with
          | cons _ _ =>
            unfold asgTs asgT at q
            have q := Out.bind q
            by_cases h1 : i < ρ.length
            · rw [if_pos h1] at q
              simp only [Out_ok] at q
              unfold asgTs asgT at q
              have q := Out.bind q
              by_cases h2 : j < (ρ.set i (some d)).length
              · rw [if_pos h2] at q; simp only [Out_ok] at q; unfold asgTs at q; exact q.elim
              · rw [if_neg h2] at q; exact q.elim
            · rw [if_neg h1] at q; exact q.elim
          | nil =>
            obtain ⟨v, w, rfl, r1, r2⟩ := reps2 rv
            refine ⟨v, w, rfl, ?_⟩
            unfold asgTs asgT at q
            have q := Out.bind q
            by_cases h1 : i < ρ.length
            · rw [if_pos h1] at q
              simp only [Out_ok] at q
              unfold asgTs asgT at q
              have q := Out.bind q
              by_cases h2 : j < (ρ.set i (some d)).length
              · rw [if_pos h2] at q
                simp only [Out_ok] at q
                unfold asgTs at q
                simp only [Out_ok] at q
                exact q _ H1 m1 e1 ((s1.set h1 r1).set h2 r2)
              · rw [if_neg h2] at q; exact q.elim
            · rw [if_neg h1] at q; exact q.elim
    · rw [if_neg hl] at q; exact q.elim

/-! ### loops -/
theorem ss_for {tg iter : Expr} {body : List Stmt} {cb : List CS} {ct : CT} {f : Itf} {cas : List CE} (hp : PassesOwn (model X.prog X.w) X.A X.env X.xe) (hc : X.calm = true) (hi : PI X tg iter (tI G (WofE E) cf f cas)) (hg : PG X tg (tG G ct)) (hb : PSs X body (tSs G E cf cb))
    (hs : ∀ x, foldedSetIterable iter X.env x = pure x := by intro _; rfl) : PS X (.For tg iter body [] pos) (tS G E cf (.for ct f cas cb)) :=
  ps_of (ps_for hp hc hi hg hb hs) fun Dn σ H ⟨ρ, μ, m, S, h⟩ => by
    unfold ex at h
    rw [← Res.bind_assoc] at h
    refine pi_mono S h.bind fun items μ1 J H1 m1 q e1 s1 sv => ?_
    let step : Env → D → Store → Res Fl := fun ρ d μ => match bindT ct d ρ with
      | none => .stuck
      | some ρ1 => exs cf cb ρ1 μ
    have hstep : step = fun ρ d μ => match bindT ct d ρ with
      | none => .stuck
      | some ρ1 => exs cf cb ρ1 μ := rfl
    have q : Out (forLoop step items ρ μ1) (FlK G Dn m1 H1) (ExS G E m1 H1) := by
      refine Out.mono q (fun fl μ2 k => FlK.step k e1) fun _ _ _ z => ExS.step z e1
    clear_value step
    refine ⟨fun i mm σ H => mm = items.length - i ∧ i ≤ items.length ∧ ∃ ρi μi mi, SR G ρi μi mi σ H ∧ Ext m1 H1 mi H ∧ Out (forLoop step (items.drop i) ρi μi) (FlK G Dn m1 H1) (ExS G E m1 H1),
      ⟨items.length, by simp, Nat.zero_le _, ρ, μ1, m1, s1, .refl _ _, by simpa using q⟩, ?_⟩
    rintro i mm σi Hi ⟨rfl, hi, ρi, μi, mi, si, ei, ho⟩
    by_cases hlt : i < items.length
    · right
      obtain ⟨g1, g2⟩ := sv.goes i _ Hi mi ei.mon (List.getElem?_eq_getElem hlt)
      rw [List.drop_eq_getElem_cons hlt] at ho
      unfold forLoop at ho
      have ho := ho.bind
      refine ⟨g1, fun σ' H' => ∃ ρ' μ' m', SR G ρ' μ' m' σ' H' ∧ Ext m1 H1 m' H' ∧ Out (forLoop step (items.drop (i + 1)) ρ' μ') (FlK G Dn m1 H1) (ExS G E m1 H1), fun σ' H' w => ⟨items.length - (i + 1), by omega, rfl, hlt, w⟩, fun x H' y => ?_⟩
      obtain ⟨k2, rx⟩ := g2 x H' y
      have e2 : Ext mi Hi mi H' := ⟨Nat.le_refl _, fun _ _ => .inl rfl, fun a h1 h2 => absurd h1 h2, fun a o q _ => k2 a o q, rfl, fun a ha => by
        obtain ⟨xs, _, q⟩ := si.st.live a (.inr ha)
        rw [q]; exact k2 _ _ q⟩
      have s2 : SR G ρi μi mi σi H' := si.ext e2 (si.st.ext0 e2 fun a ha => by
        obtain ⟨xs, _, q⟩ := si.st.live a ha
        rw [q]; exact k2 _ _ q)
      subst hstep
      simp only at ho
      cases hb2 : bindT ct items[i] ρi with
      | none => rw [hb2] at ho; exact ho.elim
      | some ρ1 =>
        rw [hb2] at ho
        refine ⟨ρi, μi, mi, items[i], ρ1, s2, rx, hb2, fun σ3 s3 _ => ⟨ρ1, μi, mi, s3, Out.mono ho (fun fl μ4 k => ?_) fun x d μ4 z => ExS.step z (ei.trans e2)⟩⟩
        cases fl with
        | nx ρ4 => exact fun σ' H4 m4 e4 s4 => ⟨ρ4, μ4, m4, s4, (ei.trans e2).trans e4, k⟩
        | ct ρ4 => exact fun σ' H4 m4 e4 s4 => ⟨ρ4, μ4, m4, s4, (ei.trans e2).trans e4, k⟩
        | bk ρ4 => exact fun σ' H4 m4 e4 s4 => k σ' H4 m4 ((ei.trans e2).trans e4) s4
        | rt d => exact fun v H4 m4 e4 s4 r => k v H4 m4 ((ei.trans e2).trans e4) s4 r
    · left
      have hi' : i = items.length := by omega
      subst hi'
      rw [List.drop_length] at ho
      unfold forLoop at ho
      exact ⟨sv.stop Hi mi ei.mon, ho σi Hi mi ei si⟩
theorem ss_while {body : List Stmt} {cb : List CS} {n : Nat} (hp : PassesOwn (model X.prog X.w) X.A X.env X.xe) (hc : PT X c (tT G (WofE E) cf cc)) (hb : PSs X body (tSs G E cf cb)) : PS X (.While c body [] pos) (tS G E cf (.whil n cc cb)) :=
  ps_of (ps_while hp hc hb) fun Dn σ H ⟨ρ, μ, m, S, h⟩ => by
    unfold ex at h
    refine ⟨fun k σ' H' => ∃ ρ' μ' m', SR G ρ' μ' m' σ' H' ∧ Ext m H m' H' ∧ Out (whileLoop (evT cf cc) (fun ρ μ => exs cf cb ρ μ) k ρ' μ') (FlK G Dn m H) (ExS G E m H), ⟨n, ρ, μ, m, S, .refl _ _, h⟩, ?_⟩
    rintro k σ1 H1 ⟨ρ1, μ1, m1, s1, e1, ho⟩
    cases k with
    | zero => unfold whileLoop at ho; exact ho.elim
    | succ k =>
      unfold whileLoop at ho
      refine ⟨ρ1, μ1, m1, s1, Out.mono ho.bind (fun t μ2 q H2 m2 e2 s2 => ?_) fun x d μ2 z => ExS.step z e1⟩
      cases t with
      | false =>
        simp only [Bool.false_eq_true, if_false] at q ⊢
        exact q σ1 H2 m2 (e1.trans e2) s2
      | true =>
        simp only [if_true] at q ⊢
        refine ⟨fun σ' H' => ∃ ρ' μ' m', SR G ρ' μ' m' σ' H' ∧ Ext m H m' H' ∧ Out (whileLoop (evT cf cc) (fun ρ μ => exs cf cb ρ μ) k ρ' μ') (FlK G Dn m H) (ExS G E m H), fun σ' H' w => ⟨k, Nat.lt_succ_self k, w⟩, ρ1, μ2, m2, s2, Out.mono q.bind (fun fl μ4 z => ?_) fun x d μ4 z => ExS.step z (e1.trans e2)⟩
        cases fl with
        | nx ρ4 => exact fun σ' H4 m4 e4 s4 => ⟨ρ4, μ4, m4, s4, (e1.trans e2).trans e4, z⟩
        | ct ρ4 => exact fun σ' H4 m4 e4 s4 => ⟨ρ4, μ4, m4, s4, (e1.trans e2).trans e4, z⟩
        | bk ρ4 => exact fun σ' H4 m4 e4 s4 => z σ' H4 m4 ((e1.trans e2).trans e4) s4
        | rt d => exact fun v H4 m4 e4 s4 r => z v H4 m4 ((e1.trans e2).trans e4) s4 r
end
end Ev

namespace Ev
open PySem PySem.Spec L2 Res
/-! ## comprehensions of two clauses -/
/-- a list is being made at p, set apart -/
structure Mk (G : GC) (m : AM) (H1 : Hp) (p : Addr) (μ : Store) (l : List (Option Addr)) (accD : List D) (acc : List V) (H : Hp) : Prop where
  eD : H p = some (.lst acc)
  rr : Reps G ⟨l, p :: m.x⟩ H accD acc
  ex : Ext m H1 ⟨l, m.x⟩ H
  st : StOk G μ ⟨l, p :: m.x⟩ H
section
variable {G : GC} {m : AM} {H1 H H' H3 : Hp} {p : Addr} {μ μ1 μ3 : Store} {l : List (Option Addr)} {accD : List D} {acc : List V} {ρ : Env} {σ : St}
theorem has_pl (l : List (Option Addr)) (x : List Addr) (p a : Addr) : (AM.mk l (p :: x)).has a ↔ (AM.mk l x).has a ∨ a = p := by
  constructor
  · rintro (q | q)
    · exact .inl (.inl q)
    · rcases List.mem_cons.mp q with q | q
      · exact .inr q
      · exact .inl (.inr q)
  · rintro ((q | q) | q)
    · exact .inl q
    · exact .inr (List.mem_cons_of_mem _ q)
    · exact .inr (by rw [q]; exact List.mem_cons_self)
theorem Mk.nD (S : StOk G μ m H1) (hD : H1 p = none) : ¬ m.has p := fun z => by
  obtain ⟨xs, _, q⟩ := S.live p z
  rw [hD] at q; cases q
theorem Mk.start (S : StOk G μ m H1) (hD : H1 p = none) : Mk G m H1 p μ m.l [] [] (upd H1 p (.lst [])) := by
  have nD := Mk.nD S hD
  have up : Mon m H1 ⟨m.l, p :: m.x⟩ (upd H1 p (.lst [])) := ⟨fun _ _ => .inl rfl, fun a o q n => ⟨by rw [upd_ne (ne_of_none q hD)]; exact q, fun z => ((has_pl _ _ _ _).mp z).elim n (ne_of_none q hD)⟩⟩
  refine ⟨upd_same, .nil, .new S.live hD, ⟨S.len, S.inj, fun a h1 h2 => ?_, fun n o ds hn hd => ?_, S.dead, fun a ha => ?_⟩⟩
  · rcases List.mem_cons.mp h2 with q | q
    · rw [q] at h1; exact nD (.inl h1)
    · exact S.apart a h1 q
  · obtain ⟨h0, a, xs, q1, q2, q3⟩ := S.obj n o ds hn hd
    exact ⟨h0, a, xs, q1, by rw [upd_ne (ne_of_none q2 hD)]; exact q2, Reps.mon S.live up _ _ q3⟩
  · rcases (has_pl _ _ _ _).mp ha with q | q
    · obtain ⟨xs, mu, z⟩ := S.live a q
      exact ⟨xs, mu, by rw [upd_ne (ne_of_none z hD)]; exact z⟩
    · rw [q]; exact ⟨.lst [], trivial, upd_same⟩
theorem Mk.up (hD : H1 p = none) (K : Mk G m H1 p μ l accD acc H) : Mon m H1 ⟨l, p :: m.x⟩ H :=
  ⟨fun n hn => K.ex.pre n hn, fun a o q n => ⟨K.ex.keep _ _ q n, fun z => ((has_pl _ _ _ _).mp z).elim (K.ex.nm q n) (ne_of_none q hD)⟩⟩
/-- an item comes -/
theorem Mk.yld (S : StOk G μ1 m H1) (k2 : ∀ a o, H a = some o → H' a = some o) (K : Mk G m H1 p μ l accD acc H) : Mk G m H1 p μ l accD acc H' ∧ Ext ⟨l, p :: m.x⟩ H ⟨l, p :: m.x⟩ H' := by
  have e2 : Ext ⟨l, p :: m.x⟩ H ⟨l, p :: m.x⟩ H' := ⟨Nat.le_refl _, fun _ _ => .inl rfl, fun a ha hna => absurd ha hna, fun a o q _ => k2 a o q, rfl, fun a ha => by
      obtain ⟨xs, _, q⟩ := K.st.live a (.inr ha)
      rw [q]; exact k2 _ _ q⟩
  refine ⟨⟨k2 _ _ K.eD, Reps.ext K.st.live e2 _ _ K.rr, ⟨K.ex.len, K.ex.pre, K.ex.fresh, fun a o q n => k2 _ _ (K.ex.keep a o q n), rfl, fun a ha => ?_⟩, K.st.ext0 e2 fun a ha => ?_⟩, e2⟩
  · have q1 := K.ex.keepx a ha
    obtain ⟨xs, _, q⟩ := S.live a (.inr ha)
    rw [q]; rw [q] at q1
    exact k2 _ _ q1
  · obtain ⟨xs, _, q⟩ := K.st.live a ha
    rw [q]; exact k2 _ _ q
/-- what stands behind an evaluation -/
theorem Mk.fin (S : StOk G μ1 m H1) (hD : H1 p = none) (K : Mk G m H1 p μ l accD acc H) {m3 : AM} (e3 : Ext ⟨l, p :: m.x⟩ H m3 H3) (st3 : StOk G μ3 m3 H3) : m3 = ⟨m3.l, p :: m.x⟩ ∧ Mk G m H1 p μ3 m3.l accD acc H3 := by
  have hx : m3 = ⟨m3.l, p :: m.x⟩ := by
    obtain ⟨l3, x3⟩ := m3
    have q := e3.xeq
    simp only at q
    subst q
    rfl
  have rr3 := Reps.ext K.st.live e3 _ _ K.rr
  refine ⟨hx, (e3.keepx p List.mem_cons_self).trans K.eD, by rw [hx] at rr3; exact rr3, ⟨Nat.le_trans K.ex.len e3.len, fun n hn => ?_, fun a ha hna => ?_, fun a o q n => ?_, rfl, fun a ha => ?_⟩, by rw [hx] at st3; exact st3⟩
  · rcases e3.pre n (Nat.lt_of_lt_of_le hn K.ex.len) with q | q
    · show m3.l[n]? = _ ∨ _
      rw [q]; exact K.ex.pre n hn
    · exact .inr q
  · cases q : H1 a with
    | none => rfl
    | some u =>
      have k1 := K.ex.keep a u q hna
      have n1 := K.ex.nm q hna
      have n2 : ¬ (AM.mk l (p :: m.x)).has a := fun z => ((has_pl _ _ _ _).mp z).elim n1 (ne_of_none q hD)
      have n3 := e3.nm k1 n2
      rw [hx] at n3
      exact absurd ((has_pl _ _ _ _).mpr (.inl ha)) n3
  · have n2 : ¬ (AM.mk l (p :: m.x)).has a := fun z => ((has_pl _ _ _ _).mp z).elim (K.ex.nm q n) (ne_of_none q hD)
    exact e3.keep a o (K.ex.keep a o q n) n2
  · have q1 := e3.keepx a (List.mem_cons_of_mem _ ha)
    rw [q1]
    exact K.ex.keepx a ha
/-- one item more -/
theorem Mk.app (S : StOk G μ1 m H1) (hD : H1 p = none) (K : Mk G m H1 p μ l accD acc H) {y : D} {v : V} (rv : Rep G ⟨l, p :: m.x⟩ H y v) :
    Mk G m H1 p μ l (accD ++ [y]) (acc ++ [v]) (upd H p (.lst (acc ++ [v]))) ∧ Mon ⟨l, p :: m.x⟩ H ⟨l, p :: m.x⟩ (upd H p (.lst (acc ++ [v]))) := by
  have wr : Mon ⟨l, p :: m.x⟩ H ⟨l, p :: m.x⟩ (upd H p (.lst (acc ++ [v]))) := ⟨fun _ _ => .inl rfl, fun a o q n => by
    have ne : a ≠ p := fun z => n ((has_pl _ _ _ _).mpr (.inr z))
    exact ⟨by rw [upd_ne ne]; exact q, n⟩⟩
  have s5 := K.st
  have apP : some p ∉ l := fun z => s5.apart p z List.mem_cons_self
  refine ⟨⟨upd_same, Reps.append (Reps.mon s5.live wr _ _ K.rr) (.cons (Rep.mon s5.live wr _ _ rv) .nil), ⟨K.ex.len, K.ex.pre, K.ex.fresh, fun a o q n => ?_, rfl, fun a ha => ?_⟩, ⟨s5.len, s5.inj, s5.apart, fun n o ds hn hd => ?_, s5.dead, fun a ha => ?_⟩⟩, wr⟩
  · rw [upd_ne (ne_of_none q hD)]; exact K.ex.keep a o q n
  · obtain ⟨xs, _, q⟩ := S.live a (.inr ha)
    rw [upd_ne (ne_of_none q hD)]; exact K.ex.keepx a ha
  · obtain ⟨h0, a, xs, q1, q2, q3⟩ := s5.obj n o ds hn hd
    have ne : a ≠ p := fun z => apP (by rw [← z]; exact List.mem_of_getElem? q1)
    exact ⟨h0, a, xs, q1, by rw [upd_ne ne]; exact q2, Reps.mon s5.live wr _ _ q3⟩
  · by_cases ne : a = p
    · rw [ne]; exact ⟨.lst _, trivial, upd_same⟩
    · obtain ⟨xs, mu, q⟩ := s5.live a ha
      exact ⟨xs, mu, by rw [upd_ne ne]; exact q⟩
/-- the end -/
theorem Mk.done {M : Bool} {k : D → Store → Prop} {ee : String → D → Store → Prop} (S : SR G ρ μ1 m σ H1) (hD : H1 p = none) (K : Mk G m H1 p μ l accD acc H) (ho : Out (mkL M accD μ) k ee) :
    ∃ d μ2 m2, k d μ2 ∧ Ext m H1 m2 H ∧ Rep G m2 H d (.ref p) ∧ SR G ρ μ2 m2 σ H := by
  have st := K.st
  have down : Mon ⟨l, p :: m.x⟩ H ⟨l, m.x⟩ H := ⟨fun _ _ => .inl rfl, fun a o q n => ⟨q, fun z => n ((has_pl _ _ _ _).mpr (.inl z))⟩⟩
  have stDown : StOk G μ ⟨l, m.x⟩ H := ⟨st.len, st.inj, fun a h1 h2 => st.apart a h1 (List.mem_cons_of_mem _ h2), fun n o ds hn hd => by
    obtain ⟨h0, a, xs, q1, q2, q3⟩ := st.obj n o ds hn hd
    exact ⟨h0, a, xs, q1, q2, Reps.mon st.live down _ _ q3⟩, st.dead, fun a ha => st.live a ((has_pl _ _ _ _).mpr (.inl ha))⟩
  have nDm : ¬ (AM.mk l m.x).has p := fun z => z.elim (fun z => st.apart p z List.mem_cons_self) fun z => by
    obtain ⟨xs, _, q⟩ := S.st.live p (.inr z)
    rw [hD] at q; cases q
  obtain ⟨d, μ2, m2, k, e3, r, st2⟩ := mkL_new ho K.ex stDown hD K.eD nDm (Reps.mon st.live down _ _ K.rr)
  exact ⟨d, μ2, m2, k, e3, r, S.ext e3 st2⟩
/-- the slots over a later heap -/
theorem SR.over {m' : AM} (S : SR G ρ μ1 m σ H) (up : Mon m H m' H') (st : StOk G μ m' H') : SR G ρ μ m' σ H' :=
  ⟨S.len, fun j d hj => by
    obtain ⟨v, q1, q2⟩ := S.env j d hj
    exact ⟨v, q1, Rep.mon S.st.live up _ _ q2⟩, st⟩
theorem compLoop_ok {step : D → Store → Res (Option D)} : ∀ {ds : List D} {μ : Store} {k : List D → Store → Prop} {e : String → D → Store → Prop}, Out (compLoop step ds μ) k e → ∃ r μ', compLoop step ds μ = .ok r μ' ∧ k r μ'
  | [], μ, k, e, h => ⟨[], μ, rfl, h⟩
  | d :: ds, μ, k, e, h => by
    unfold compLoop at h ⊢
    obtain ⟨o, μ1, h1, h2⟩ := out_noExc h.bind
    rw [h1]
    obtain ⟨r, μ2, h3, h4⟩ := compLoop_ok h2.bind
    simp only [noExc_ok, bind_ok]
    rw [h3]
    exact ⟨_, _, rfl, h4⟩
theorem compLoop2_ok {step : D → Store → Res (List D)} : ∀ {ds : List D} {μ : Store} {k : List D → Store → Prop} {e : String → D → Store → Prop}, Out (compLoop2 step ds μ) k e → ∃ r μ', compLoop2 step ds μ = .ok r μ' ∧ k r μ'
  | [], μ, k, e, h => ⟨[], μ, rfl, h⟩
  | d :: ds, μ, k, e, h => by
    unfold compLoop2 at h ⊢
    obtain ⟨o, μ1, h1, h2⟩ := out_noExc h.bind
    rw [h1]
    obtain ⟨r, μ2, h3, h4⟩ := compLoop2_ok h2.bind
    simp only [noExc_ok, bind_ok]
    rw [h3]
    exact ⟨_, _, rfl, h4⟩
theorem mkL_cap {M : Bool} {ds : List D} {k : D → Store → Prop} {e : String → D → Store → Prop} (h : Out (mkL M ds μ) k e) : ds.length ≤ cap := by
  unfold mkL at h
  by_cases hl : ds.length ≤ cap
  · exact hl
  · rw [if_neg hl] at h; exact h.elim
end
section
variable {G : GC} {W : WX} {cf : String → List D → Store → Res D} {X : Cx}
/-- one turn of the first clause -/
def compStep2 (cf : String → List D → Store → Res D) (elt : CE) (tg : CT) (cond : CE) (tg1 : CT) (f1 : Itf) (as1 : List CE) (cond1 : CE) (own1 : List Nat) (ρ : Env) : D → Store → Res (List D) := fun d μ => match bindT tg d ρ with
  | none => .stuck
  | some ρ1 => (evT cf cond ρ1 μ).bind fun t μ2 => if t then ((evs cf as1 ρ1 μ2).bind fun ds μ3 => lift (f1 μ3 ds) μ3).bind fun items1 μ4 => if items1.length ≤ cap then compLoop (compStep cf elt tg1 cond1 (wipeE ρ1 own1)) items1 μ4 else .stuck
      else .ok [] μ2
theorem ev_comp2 {m : Bool} {elt cond cond1 : CE} {tg tg1 : CT} {f f1 : Itf} {as as1 : List CE} {own own1 : List Nat} {ρ : Env} {μ : Store} : ev cf (.comp2 m elt tg f as cond own tg1 f1 as1 cond1 own1) ρ μ = ((evs cf as ρ μ).bind fun ds μ1 => lift (f μ1 ds) μ1).bind fun items μ2 =>
      if items.length ≤ cap then (compLoop2 (compStep2 cf elt tg cond tg1 f1 as1 cond1 own1 (wipeE ρ own)) items μ2).bind fun out μ3 => mkL m out μ3 else .stuck := by
  rw [Res.bind_assoc]; conv => lhs; unfold ev
  have e : ∀ (ρ1 : Env) (μ : Store), ((evT cf cond ρ1 μ).bind fun t μ2 => if t then ((evs cf as1 ρ1 μ2).bind fun ds μ3 => lift (f1 μ3 ds) μ3).bind fun items1 μ4 => if items1.length ≤ cap then compLoop (compStep cf elt tg1 cond1 (wipeE ρ1 own1)) items1 μ4 else .stuck
      else .ok [] μ2) = (ev cf cond ρ1 μ).bind fun x μ1 => (lift (truth μ1 x) μ1).bind fun t μ2 => if t then (evs cf as1 ρ1 μ2).bind fun ds1 μ3 => (lift (f1 μ3 ds1) μ3).bind fun items1 μ4 => if items1.length ≤ cap then compLoop (compStep cf elt tg1 cond1 (wipeE ρ1 own1)) items1 μ4 else .stuck
      else .ok [] μ2 := fun ρ1 μ => by
    unfold evT
    rw [Res.bind_assoc]
    simp only [Res.bind_assoc]
  unfold compStep2
  simp only [e]
  rfl
theorem lc2_sound {M : Bool} {elt cond cond1 : CE} {tg tg1 : CT} {own own1 : List Nat} {f1 : Itf} {as1 : List CE} {ρ : Env} {μ : Store} {m : AM} {σ : St} {H1 : Hp} {J : It} {items : List D} {p : Addr} {Qd : VK} {tt tt1 : TT} {EK : String → Ev.D → Store → Prop}
    (hsl : ∀ i ∈ slotsT tg, i ∈ own) (hsl1 : ∀ i ∈ slotsT tg1, i ∈ own1)
    (htt : ∀ σ2 H2 R, tT G W0 cf cond σ2 H2 R → tt σ2 H2 R) (htt1 : ∀ σ2 H2 R, tT G W0 cf cond1 σ2 H2 R → tt1 σ2 H2 R)
    (S : SR G ρ μ m σ H1) (sv : Serves G J m H1 items) (hD : H1 p = none)
    (h : Out ((compLoop2 (compStep2 cf elt tg cond tg1 f1 as1 cond1 own1 (wipeE ρ own)) items μ).bind fun out μ3 => mkL M out μ3) (fun d μ' => ∀ v H' m', Ext m H1 m' H' → SR G ρ μ' m' σ H' → Rep G m' H' d v → Qd v H') EK) :
    ∃ Wv : Nat → Nat → Hp → Prop, (∃ mm, Wv 0 mm (upd H1 p (.lst []))) ∧ ∀ i mm H, Wv i mm H →
      (J.stop i H ∧ Qd (.ref p) H) ∨ (J.go i H ∧ ∃ Nx : Hp → Prop, (∀ H', Nx H' → ∃ m', m' < mm ∧ Wv (i + 1) m' H') ∧ ∀ x H', J.yld i H x H' → tG G tg x (L2.wipe σ own) H' fun σ2 H2 => L2.wipe σ2 own = L2.wipe σ own ∧ tt σ2 H2 fun b H3 =>
        if b = true then tI G W0 cf f1 as1 σ2 H3 fun J1 H4 => ∃ W1 : Nat → Nat → Hp → Prop, (∃ m, W1 0 m H4) ∧ ∀ j k H, W1 j k H →
          (J1.stop j H ∧ Nx H) ∨ (J1.go j H ∧ ∃ Nx1 : Hp → Prop, (∀ H', Nx1 H' → ∃ k', k' < k ∧ W1 (j + 1) k' H') ∧ ∀ x H', J1.yld j H x H' → tG G tg1 x (L2.wipe σ2 own1) H' fun σ3 H5 => L2.wipe σ3 own1 = L2.wipe σ2 own1 ∧ tt1 σ3 H5 fun b H6 =>
            if b = true then tE G W0 cf elt σ3 H6 fun y H7 => ∃ acc, H7 p = some (.lst acc) ∧ acc.length < sizeLine ∧ Nx1 (upd H7 p (.lst (acc ++ [y]))) else Nx1 H6)
        else Nx H3) := by
  let K : List Ev.D → Store → Prop := fun out μ3 => Out (mkL M out μ3) (fun d μ' => ∀ v H' m', Ext m H1 m' H' → SR G ρ μ' m' σ H' → Rep G m' H' d v → Qd v H') EK
  have Kcap : ∀ {out : List Ev.D} {μ3 : Store}, K out μ3 → out.length ≤ cap := fun q => mkL_cap q
  let cs2 := compStep2 cf elt tg cond tg1 f1 as1 cond1 own1 (wipeE ρ own)
  let Wi : Nat → Hp → Prop := fun i H => i ≤ items.length ∧ ∃ μi l accD acc, Mk G m H1 p μi l accD acc H ∧ Out (compLoop2 cs2 (items.drop i) μi) (fun r μ3 => K (accD ++ r) μ3) EK
  refine ⟨fun i mm H => mm = items.length - i ∧ Wi i H, ⟨items.length, by simp, Nat.zero_le _, μ, m.l, [], [], Mk.start S.st hD, by simpa using h.bind⟩, ?_⟩
  rintro i mm H ⟨rfl, hi, μi, l, accD, acc, mk, ho⟩
  by_cases hlt : i < items.length
  · right
    have hit : items[i]? = some items[i] := List.getElem?_eq_getElem hlt
    obtain ⟨g1, g2⟩ := sv.goes i _ H ⟨l, p :: m.x⟩ (mk.up hD) hit
    refine ⟨g1, fun H' => Wi (i + 1) H', fun H' w => ⟨items.length - (i + 1), by omega, rfl, w⟩, fun x H' y => ?_⟩
    obtain ⟨k2, rx⟩ := g2 x H' y
    have hdrop : items.drop i = items[i] :: items.drop (i + 1) := by rw [List.drop_eq_getElem_cons hlt]
    rw [hdrop] at ho
    unfold compLoop2 at ho
    obtain ⟨r0, μo, ho1, ho2⟩ := out_noExc ho.bind
    have ho2 : Out (compLoop2 cs2 (items.drop (i + 1)) μo) (fun r μ3 => K (accD ++ (r0 ++ r)) μ3) EK := ho2.bind.mono (fun r μ3 q => by simpa using q) fun _ _ _ z => z
    obtain ⟨mk', e2'⟩ := mk.yld S.st k2
    have S' : SR G (wipeE ρ own) μi ⟨l, p :: m.x⟩ (L2.wipe σ own) H' := (S.over (mk'.up hD) mk'.st).wipe own
    have ho1 : compStep2 cf elt tg cond tg1 f1 as1 cond1 own1 (wipeE ρ own) items[i] μi = .ok r0 μo := ho1
    unfold compStep2 at ho1
    cases hb : bindT tg items[i] (wipeE ρ own) with
    | none => rw [hb] at ho1; cases ho1
    | some ρ1 =>
      rw [hb] at ho1
      simp only at ho1
      refine ⟨wipeE ρ own, μi, ⟨l, p :: m.x⟩, items[i], ρ1, S', rx, hb, fun σ2 S2 wp => ⟨by rw [wp own hsl, wipe_idem], ?_⟩⟩
      refine htt σ2 H' _ ⟨ρ1, μi, ⟨l, p :: m.x⟩, S2, ?_⟩
      cases qT : evT cf cond ρ1 μi with
      | stuck => rw [qT] at ho1; cases ho1
      | exc x d μ1 => rw [qT] at ho1; cases ho1
      | ok b μ2 =>
        rw [qT] at ho1
        simp only [bind_ok] at ho1
        intro H3 m3 e3 s3
        obtain ⟨hx3, mk3⟩ := mk'.fin S.st hD e3 s3.st
        cases b with
        | false =>
          simp only [Bool.false_eq_true, if_false] at ho1 ⊢
          cases ho1
          exact ⟨by omega, _, m3.l, accD, acc, mk3, by simpa using ho2⟩
        | true =>
          simp only [if_true] at ho1 ⊢
          cases qI : (evs cf as1 ρ1 μ2).bind fun ds μ3 => lift (f1 μ3 ds) μ3 with
          | stuck => rw [qI] at ho1; cases ho1
          | exc x d μ1 => rw [qI] at ho1; cases ho1
          | ok items1 μ4 =>
            rw [qI] at ho1
            simp only [bind_ok] at ho1
            by_cases hcap1 : items1.length ≤ cap
            · rw [if_pos hcap1] at ho1
              refine ⟨ρ1, μ2, m3, s3, ?_⟩
              rw [qI]
              intro J1 H4 m4 e4 s4 sv1
              rw [hx3] at e4 s3
              obtain ⟨hx4, mk4⟩ := mk3.fin S.st hD e4 s4.st
              -- the inner loop
              let K1 : List Ev.D → Store → Prop := fun r1 μ3 => ∃ accE, accD ++ r0 = accE ++ r1 ∧ μ3 = μo
              let Wj : Nat → Hp → Prop := fun j H => j ≤ items1.length ∧ ∃ μj l accE accV r1, Mk G m H1 p μj l accE accV H ∧ Mon m4 H4 ⟨l, p :: m.x⟩ H ∧ compLoop (compStep cf elt tg1 cond1 (wipeE ρ1 own1)) (items1.drop j) μj = .ok r1 μo ∧ accD ++ r0 = accE ++ r1
              refine ⟨fun j k H => k = items1.length - j ∧ Wj j H, ⟨items1.length, by simp, Nat.zero_le _, μ4, m4.l, accD, acc, r0, mk4, by rw [← hx4]; exact .refl _ _, by simpa using ho1, rfl⟩, ?_⟩
              rintro j k H5 ⟨rfl, hj, μj, l5, accE, accV, r1, mk5, up5, hc, hr⟩
              by_cases hlt1 : j < items1.length
              · right
                have hit1 : items1[j]? = some items1[j] := List.getElem?_eq_getElem hlt1
                obtain ⟨g3, g4⟩ := sv1.goes j _ H5 ⟨l5, p :: m.x⟩ up5 hit1
                refine ⟨g3, fun H' => Wj (j + 1) H', fun H' w => ⟨items1.length - (j + 1), by omega, rfl, w⟩, fun x1 H6 y1 => ?_⟩
                obtain ⟨k5, rx1⟩ := g4 x1 H6 y1
                obtain ⟨mk6, e6⟩ := mk5.yld S.st k5
                have up6 : Mon m4 H4 ⟨l5, p :: m.x⟩ H6 := up5.trans e6.mon
                have hdrop1 : items1.drop j = items1[j] :: items1.drop (j + 1) := by rw [List.drop_eq_getElem_cons hlt1]
                rw [hdrop1] at hc
                have hc' : Out (compLoop (compStep cf elt tg1 cond1 (wipeE ρ1 own1)) (items1[j] :: items1.drop (j + 1)) μj) (fun r μ3 => r = r1 ∧ μ3 = μo) (fun _ _ _ => False) := by
                  rw [hc]; exact ⟨rfl, rfl⟩
                unfold compLoop at hc'
                obtain ⟨o, μp, hc1, hc2⟩ := out_noExc hc'.bind
                obtain ⟨r2, μq, hc3, hc4, hc5⟩ := compLoop_ok hc2.bind
                have hc5 : μq = μo := hc5
                subst hc5
                have S6 : SR G (wipeE ρ1 own1) μj ⟨l5, p :: m.x⟩ (L2.wipe σ2 own1) H6 := (s4.over up6 mk6.st).wipe own1
                unfold compStep at hc1
                cases hb1 : bindT tg1 items1[j] (wipeE ρ1 own1) with
                | none => rw [hb1] at hc1; cases hc1
                | some ρ2 =>
                  rw [hb1] at hc1
                  simp only at hc1
                  refine ⟨wipeE ρ1 own1, μj, ⟨l5, p :: m.x⟩, items1[j], ρ2, S6, rx1, hb1, fun σ3 S3 wp1 => ⟨by rw [wp1 own1 hsl1, wipe_idem], ?_⟩⟩
                  refine htt1 σ3 H6 _ ⟨ρ2, μj, ⟨l5, p :: m.x⟩, S3, ?_⟩
                  have hT : Out (evT cf cond1 ρ2 μj) (fun b μ2 => (if b = true then (ev cf elt ρ2 μ2).bind fun y μ3 => .ok (some y) μ3 else .ok none μ2) = .ok o μp) fun _ _ _ => False := by
                    unfold evT
                    cases q : ev cf cond1 ρ2 μj with
                    | stuck => rw [q] at hc1; cases hc1
                    | exc x d μ1 => rw [q] at hc1; cases hc1
                    | ok d μ1 =>
                      rw [q] at hc1
                      simp only [bind_ok] at hc1 ⊢
                      cases q2 : truth μ1 d with
                      | none => rw [q2] at hc1; cases hc1
                      | some t => rw [q2] at hc1; exact hc1
                  refine hT.mono (fun b μ7 q H7 m7 e7 s7 => ?_) fun _ _ _ z => z.elim
                  obtain ⟨hx7, mk7⟩ := mk6.fin S.st hD e7 s7.st
                  have up7 : Mon m4 H4 ⟨m7.l, p :: m.x⟩ H7 := by rw [← hx7]; exact up6.trans e7.mon
                  cases b with
                  | false =>
                    simp only [Bool.false_eq_true, if_false] at q ⊢
                    cases q
                    exact ⟨by omega, _, m7.l, accE, accV, r1, mk7, up7, by rw [hc3, ← hc4], hr⟩
                  | true =>
                    simp only [if_true] at q ⊢
                    refine ⟨ρ2, μ7, m7, s7, ?_⟩
                    have hV : Out (ev cf elt ρ2 μ7) (fun y μ3 => o = some y ∧ μp = μ3) fun _ _ _ => False := by
                      cases q2 : ev cf elt ρ2 μ7 with
                      | stuck => rw [q2] at q; cases q
                      | exc x d μ1 => rw [q2] at q; cases q
                      | ok y μ3 => rw [q2] at q; cases q; exact ⟨rfl, rfl⟩
                    refine hV.mono (fun y μ8 q v H8 m8 e8 s8 rv => ?_) fun _ _ _ z => z.elim
                    obtain ⟨rfl, rfl⟩ := q
                    rw [hx7] at e8
                    obtain ⟨hx8, mk8⟩ := mk7.fin S.st hD e8 s8.st
                    have up8 : Mon m4 H4 ⟨m8.l, p :: m.x⟩ H8 := by
                      have := up7.trans e8.mon
                      rw [hx8] at this; exact this
                    rw [hx8] at rv
                    obtain ⟨mk9, wr⟩ := mk8.app S.st hD rv
                    have hsz : accV.length < sizeLine := by
                      obtain ⟨r, μ3, _, hK⟩ := compLoop2_ok ho2
                      have hcp := Kcap hK
                      have hl : accE.length = accV.length := mk8.rr.length
                      have h1 : (accD ++ (r0 ++ r)).length = accE.length + r1.length + r.length := by rw [← List.append_assoc, hr, List.length_append, List.length_append]
                      have : cap < sizeLine := by decide
                      omega
                    refine ⟨accV, mk8.eD, hsz, by omega, μp, m8.l, accE ++ [y], accV ++ [v], r2, mk9, up8.trans wr, hc3, ?_⟩
                    rw [hr, ← hc4]; simp
              · left
                have hj' : j = items1.length := by omega
                subst hj'
                have hd1 : items1.drop items1.length = [] := List.drop_length
                rw [hd1] at hc
                unfold compLoop at hc
                cases hc
                refine ⟨sv1.stop H5 ⟨l5, p :: m.x⟩ up5, by omega, _, l5, accE, accV, mk5, ?_⟩
                have e0 : accD ++ r0 = accE := by rw [hr]; simp
                rw [← e0]
                exact ho2.mono (fun r μ3 q => by rw [List.append_assoc]; exact q) fun _ _ _ z => z
            · rw [if_neg hcap1] at ho1; cases ho1
  · left
    have hi' : i = items.length := by omega
    subst hi'
    have hd : items.drop items.length = [] := List.drop_length
    rw [hd] at ho
    unfold compLoop2 at ho
    simp only [Out_ok, List.append_nil] at ho
    refine ⟨sv.stop H ⟨l, m.x⟩ mk.ex.mon, ?_⟩
    obtain ⟨d, μ2, m2, k, e3, r, s2⟩ := mk.done S hD ho
    exact k (.ref p) H m2 e3 s2 r
variable {elt tg iter tg1 iter1 : Expr} {scope : Scope} {own : List (Str × Nat)} {own1 : List Nat} {pos : Pos} {M : Bool} {celt ccond ccond1 : CE} {ct ct1 : CT} {f f1 : Itf} {cas cas1 : List CE}
theorem tLc2_of {tt tt1 : TT} {σ : St} {H : Hp} {Q : VK} (hsl : (slotsT ct).all (fun i => (own.map (·.2)).contains i) = true) (hsl1 : (slotsT ct1).all (fun i => own1.contains i) = true) (htt : ∀ σ2 H2 R, tT G W0 cf ccond σ2 H2 R → tt σ2 H2 R) (htt1 : ∀ σ2 H2 R, tT G W0 cf ccond1 σ2 H2 R → tt1 σ2 H2 R)
    (h : tE G W cf (.comp2 M celt ct f cas ccond (own.map (·.2)) ct1 f1 cas1 ccond1 own1) σ H Q) : tLc2 (tI G W cf f cas) (tG G ct) tt (tI G W0 cf f1 cas1) (tG G ct1) tt1 (tE G W0 cf celt) (own.map (·.2)) own1 σ H Q := by
  obtain ⟨ρ, μ, m, S, h⟩ := h
  rw [ev_comp2] at h
  refine pi_mono S h.bind fun items μ1 J H1 m1 q e1 s1 sv p np => ?_
  by_cases hcap : items.length ≤ cap
  · rw [if_pos hcap] at q
    refine lc2_sound (EK := ExK G W m H σ) (fun i hi => ?_) (fun i hi => ?_) htt htt1 s1 sv np (q.mono (fun d μ' k v H' m' e s r => k v H' m' (e1.trans e) s r) fun _ _ _ z => z)
    · have := List.all_eq_true.mp hsl i hi
      simpa using this
    · have := List.all_eq_true.mp hsl1 i hi
      simpa using this
  · rw [if_neg hcap] at q; exact q.elim
/-- a clause's tests: none or one -/
structure Tst (X : Cx) (G : GC) (cf : String → List D → Store → Res D) (scope : Scope) (ifs : List Expr) (c : CE) (tt : TT) : Prop where
  p : ∀ (s : Shared) (H : Hp) (C : Addr) (cl : List (Str × Addr)) (fp : List Addr), PTs (X.blk s H scope (compEnvC scope cl C X.env) fp) ifs tt
  k : ∀ σ2 H2 R, tT G W0 cf c σ2 H2 R → tt σ2 H2 R
theorem tst_no : Tst X G cf scope [] (.lit (.bl true)) tYes := ⟨fun _ _ _ _ _ => pts_nil, tYes_of⟩
theorem tst_one {cond : Expr} (ht : ∀ (s : Shared) (H : Hp) (C : Addr) (cl : List (Str × Addr)) (fp : List Addr), PT (X.blk s H scope (compEnvC scope cl C X.env) fp) cond (tT G W0 cf ccond)) : Tst X G cf scope [cond] ccond (tT G W0 cf ccond) :=
  ⟨fun s H C cl fp => pts_one (ht s H C cl fp), fun _ _ _ z => z⟩
variable {ifs ifs1 : List Expr} {tt tt1 : TT}
/-- [elt for target in iter .. for target in iter ..] -/
theorem se_comp2 (hc : X.calm = true) (hN : X.N.Nodup) (hsl : (slotsT ct).all (fun i => (own.map (·.2)).contains i) = true) (hsl1 : (slotsT ct1).all (fun i => own1.contains i) = true) (hv : own1.all (fun i => (own.map (·.2)).contains i) = true) (hi : PI X tg iter (tI G W cf f cas)) (ok : blkC X.N X.env.scope scope own = true)
    (hg : ∀ (s : Shared) (H : Hp) (C : Addr) (cl : List (Str × Addr)) (fp : List Addr), PG (X.blk s H scope (compEnvC scope cl C X.env) fp) tg (tG G ct)) (T : Tst X G cf scope ifs ccond tt)
    (hi1 : ∀ (s : Shared) (H : Hp) (C : Addr) (cl : List (Str × Addr)) (fp : List Addr), PI (X.blk s H scope (compEnvC scope cl C X.env) fp) tg1 iter1 (tI G W0 cf f1 cas1))
    (hg1 : ∀ (s : Shared) (H : Hp) (C : Addr) (cl : List (Str × Addr)) (fp : List Addr), PG (X.blk s H scope (compEnvC scope cl C X.env) fp) tg1 (tG G ct1)) (T1 : Tst X G cf scope ifs1 ccond1 tt1)
    (he : ∀ (s : Shared) (H : Hp) (C : Addr) (cl : List (Str × Addr)) (fp : List Addr), PE (X.blk s H scope (compEnvC scope cl C X.env) fp) elt (tE G W0 cf celt)) (hs : ∀ x, foldedSetIterable iter X.env x = pure x := by intro _; rfl) (hs1 : ∀ env x, foldedSetIterable iter1 env x = pure x := by intro _ _; rfl) :
    PE X (.ListComp elt [⟨tg, iter, ifs, 0⟩, ⟨tg1, iter1, ifs1, 0⟩] scope pos) (tE G W cf (.comp2 M celt ct f cas ccond (own.map (·.2)) ct1 f1 cas1 ccond1 own1)) :=
  pe_of (pe_lc2 hc hN hi (blkOk_by ok) (fun i hi => by have := List.all_eq_true.mp hv i hi; simpa using this) hg T.p hi1 hg1 T1.p he hs hs1) fun σ H Q h => tLc2_of hsl hsl1 T.k T1.k h
theorem ss_setLc2 {E : XK} {i : Nat} {y : Str} {py spos : Pos} (hc : X.calm = true) (hN : X.N.Nodup) (hy : X.N[i]? = some y) (hyl : X.env.scope.names.lookup y = some .local) (hsw : swapsWith (.ListComp elt [⟨tg, iter, ifs, 0⟩, ⟨tg1, iter1, ifs1, 0⟩] scope pos) (some (.Name y py)) spos.line X.env = pure true)
    (hsl : (slotsT ct).all (fun i => (own.map (·.2)).contains i) = true) (hsl1 : (slotsT ct1).all (fun i => own1.contains i) = true) (hv : own1.all (fun i => (own.map (·.2)).contains i) = true) (hi : PI X tg iter (tI G (WofE E) cf f cas)) (ok : blkC X.N X.env.scope scope own = true)
    (hg : ∀ (s : Shared) (H : Hp) (C : Addr) (cl : List (Str × Addr)) (fp : List Addr), PG (X.blk s H scope (compEnvC scope cl C X.env) fp) tg (tG G ct)) (T : Tst X G cf scope ifs ccond tt)
    (hi1 : ∀ (s : Shared) (H : Hp) (C : Addr) (cl : List (Str × Addr)) (fp : List Addr), PI (X.blk s H scope (compEnvC scope cl C X.env) fp) tg1 iter1 (tI G W0 cf f1 cas1))
    (hg1 : ∀ (s : Shared) (H : Hp) (C : Addr) (cl : List (Str × Addr)) (fp : List Addr), PG (X.blk s H scope (compEnvC scope cl C X.env) fp) tg1 (tG G ct1)) (T1 : Tst X G cf scope ifs1 ccond1 tt1)
    (he : ∀ (s : Shared) (H : Hp) (C : Addr) (cl : List (Str × Addr)) (fp : List Addr), PE (X.blk s H scope (compEnvC scope cl C X.env) fp) elt (tE G W0 cf celt)) (hs : ∀ x, foldedSetIterable iter X.env x = pure x := by intro _; rfl) (hs1 : ∀ env x, foldedSetIterable iter1 env x = pure x := by intro _ _; rfl) :
    PS X (.Assign [.Name y py] (.ListComp elt [⟨tg, iter, ifs, 0⟩, ⟨tg1, iter1, ifs1, 0⟩] scope pos) spos) (tS G E cf (.asg (.name i) (.comp2 M celt ct f cas ccond (own.map (·.2)) ct1 f1 cas1 ccond1 own1))) :=
  ps_of (ps_setLc2 hc hN hy hyl hsw hi (blkOk_by ok) (fun i hi => by have := List.all_eq_true.mp hv i hi; simpa using this) hg T.p hi1 hg1 T1.p he hs hs1) fun Dn σ H h => tLc2_of (W := WofE E) hsl hsl1 T.k T1.k (by
    obtain ⟨ρ, μ, m, S, q⟩ := tAsg_of h
    refine ⟨ρ, μ, m, S, q.mono (fun d μ1 k v H' m' e s r => ?_) fun _ _ _ z => z⟩
    obtain ⟨ρ2, μ2, m2, d2, S2, r2, q2⟩ := k v H' m' e s r
    unfold asgT at q2
    by_cases hl : i < ρ2.length
    · rw [if_pos hl] at q2
      exact q2 _ H' m2 (.refl _ _) (S2.set hl r2)
    · rw [if_neg hl] at q2; exact q2.elim)
end
end Ev

namespace Ev
open PySem PySem.Spec L2 Res

/-- what a def promises: it does as cf does -/
def spF (G : GC) (np : Nat) (cf : List D → Store → Res D) : Sp := fun vs H Q E => vs.length = np ∧ ∃ ds μ m, StOk G μ m H ∧ Reps G m H ds vs ∧
  Out (cf ds μ) (fun d μ' => ∀ v H' m', Ext m H m' H' → StOk G μ' m' H' → Rep G m' H' d v → Q v H') (ExS G E m H)

/-- some of a list, by place -/
def permL {α : Type} (p : List Nat) (xs : List α) : List α := p.filterMap fun i => xs[i]?
section
variable {G : GC} {m : AM} {H : Hp}
theorem Reps.perm {ds : List D} {vs : List V} (h : Reps G m H ds vs) : ∀ p : List Nat, Reps G m H (permL p ds) (permL p vs)
  | [] => .nil
  | i :: p => by
    unfold permL
    rw [List.filterMap_cons, List.filterMap_cons]
    cases e : ds[i]? with
    | none =>
      have : vs[i]? = none := by
        have := List.getElem?_eq_none_iff.mp e
        exact List.getElem?_eq_none_iff.mpr (by rw [← h.length]; exact this)
      rw [this]; exact h.perm p
    | some d =>
      obtain ⟨v, q1, q2⟩ := h.get e
      rw [q1]
      exact .cons q2 (h.perm p)
theorem Vals.perm {vs : List V} {us : List Value} (h : Vals vs us) : ∀ p : List Nat, Vals (permL p vs) (permL p us)
  | [] => .nil
  | i :: p => by
    unfold permL
    rw [List.filterMap_cons, List.filterMap_cons]
    cases e : vs[i]? with
    | none =>
      rw [h.none_of e]; exact Vals.perm h p
    | some d =>
      obtain ⟨v, q1, q2⟩ := h.get e
      rw [q1]
      exact .cons q2 (Vals.perm h p)
end

section
variable {G : GC} {W : WX} {cf : String → List D → Store → Res D} {X : Cx}
theorem evs_nil {ρ : Env} {μ : Store} : evs cf [] ρ μ = .ok [] μ := by unfold evs; rfl
theorem evs_cons {a : CE} {as : List CE} {ρ : Env} {μ : Store} : evs cf (a :: as) ρ μ = (ev cf a ρ μ).bind fun x μ1 => (evs cf as ρ μ1).bind fun xs μ2 => .ok (x :: xs) μ2 := by conv => lhs; unfold evs
theorem bind_id {α : Type} (r : Res α) : (r.bind fun a μ => .ok a μ) = r := by cases r <;> rfl
theorem evs_append {as bs : List CE} {ρ : Env} {μ : Store} : evs cf (as ++ bs) ρ μ = (evs cf as ρ μ).bind fun xs μ1 => (evs cf bs ρ μ1).bind fun ys μ2 => .ok (xs ++ ys) μ2 := by
  induction as generalizing μ with
  | nil =>
    rw [evs_nil]
    simp only [bind_ok, List.nil_append, bind_id]
  | cons a as ih =>
    rw [List.cons_append, evs_cons, evs_cons, Res.bind_assoc]
    congr 1
    funext x μ1
    rw [ih]
    simp only [Res.bind_assoc, bind_ok, List.cons_append]
variable {k : Nat} {f : Addr} {fd : FuncData} {ps ks : List Str} {x : Str} {y : String} {p pos : Pos} {e : Expr} {es : List Expr} {kws : List Keyword} {cas cks : List CE} {ce : CE}

/-- a def of the module is called -/
theorem se_call (F : FnOk X.prog X.w X.K X.mg X.base (L2.CX X.prog X.w) k f fd ps (spF G ps.length (cf y))) (hr : Room k X.A) (hg : Gl X x) (hm : X.mg x = some (.ref f)) (hk : PySem.W.keepIn X.K (.ref f) = true) (hb : Binds X.K fd ps []) (tk : Takes X W)
    (ha : PA X (e :: es) (tA G W cf cas)) (hlen : cas.length = ps.length) (hdb : (x == ("__debug__" : Str)) = false := by decide) (he : starEach (e :: es) X.env = (false, eval e X.env) :: starEach es X.env := by rfl) (hpl : (backTo pos (starEach es X.env)).any (·.1) = false := by rfl) :
    PE X (.Call (.Name x p) (e :: es) [] pos) (tE G W cf (.call y id cas)) :=
  pe_of (pe_callS F hr hg hm hk hb (fun σ => passAt tk σ) ha hdb he hpl) fun σ H Q ⟨ρ, μ, m, S, h⟩ => by
    unfold ev at h
    have hl : ∀ {cs : List CE} {ρ : Env} {μ : Store} {kk ee}, Out (evs cf cs ρ μ) kk ee → Out (evs cf cs ρ μ) (fun ds μ' => ds.length = cs.length ∧ kk ds μ') ee := by
      intro cs
      induction cs with
      | nil => intro ρ μ kk ee h; unfold evs at h ⊢; exact ⟨rfl, h⟩
      | cons c cs ih =>
        intro ρ μ kk ee h
        unfold evs at h ⊢
        cases q : ev cf c ρ μ with
        | stuck => rw [q] at h; exact h.elim
        | exc x d μ1 => rw [q] at h; exact h
        | ok d μ1 =>
          rw [q] at h
          simp only [bind_ok] at h ⊢
          have h2 := ih h.bind
          cases q2 : evs cf cs ρ μ1 with
          | stuck => rw [q2] at h; exact h.elim
          | exc x d μ1 => rw [q2] at h; exact h
          | ok ds μ2 => rw [q2] at h h2; exact ⟨by simp [h2.1], h⟩
    refine tA_sub S (hl h.bind) (.refl _ _) fun ds μ1 vs H1 m1 q e1 s1 rv => ?_
    obtain ⟨q0, q⟩ := q
    refine ⟨by rw [← rv.length, q0, hlen], ds, μ1, m1, s1.st, rv, Out.mono q (fun d μ2 z v H2 m2 e2 st2 r2 => z v H2 m2 (e1.trans e2) (s1.ext e2 st2) r2) fun x d μ2 z => ?_⟩
    exact fun cls dd H' m' e' st' ea => z cls dd H' m' (e1.trans e') st' ea
theorem evs_len {cs : List CE} {ρ : Env} {μ : Store} {kk ee} (h : Out (evs cf cs ρ μ) kk ee) : Out (evs cf cs ρ μ) (fun ds μ' => ds.length = cs.length ∧ kk ds μ') ee := by
  induction cs generalizing ρ μ kk ee with
  | nil => unfold evs at h ⊢; exact ⟨rfl, h⟩
  | cons c cs ih =>
    unfold evs at h ⊢
    cases q : ev cf c ρ μ with
    | stuck => rw [q] at h; exact h.elim
    | exc x d μ1 => rw [q] at h; exact h
    | ok d μ1 =>
      rw [q] at h
      simp only [bind_ok] at h ⊢
      have h2 := ih h.bind
      cases q2 : evs cf cs ρ μ1 with
      | stuck => rw [q2] at h; exact h.elim
      | exc x d μ1 => rw [q2] at h; exact h
      | ok ds μ2 => rw [q2] at h h2; exact ⟨by simp [h2.1], h⟩

/-! ### keywords -/
theorem sk_nil : PK X [] (tA G W cf []) := ⟨fun pos pins s σ H Q I ⟨ρ, μ, m, S, h⟩ => pk_nil.run pos pins s σ H Q I (by
  unfold evs at h
  exact h [] H m (.refl _ _) S .nil)⟩
theorem sk_cons {nm : Option Str} {kpos : Pos} (ha : PE X e (tE G W cf ce)) (hr : PK X kws (tA G W cf cks)) : PK X (⟨nm, e, kpos⟩ :: kws) (tA G W cf (ce :: cks)) :=
  ⟨fun pos pins s σ H Q I ⟨ρ, μ, m, S, h⟩ => (pk_cons ha hr).run pos pins s σ H Q I (by
    unfold evs at h
    refine tE_sub S h.bind (.refl _ _) fun d μ1 v H1 m1 q e1 s1 rv => ?_
    refine tA_sub s1 q.bind e1 fun ds μ2 vs H2 m2 q e2 s2 rvs => ?_
    exact q (v :: vs) H2 m2 (e1.trans e2) s2 (.cons (Rep.ext s1.st.live e2 _ _ rv) rvs))⟩
theorem run_fnSK {pins : List (Addr × Obj)} {σ : St} {H : Hp} {s : Shared} {Q : VK} {args : Args} {us : List Value} {vs : List V} {sp : Sp} (F : FnOk X.prog X.w X.K X.mg X.base (L2.CX X.prog X.w) k f fd ps sp) (hr : Room k X.A) (tk : Takes X W)
    (hb : BindsTo s fd args (ps.zip us)) (I : Inv X pins σ H s) (r : Vals vs us) (h : sp vs H Q (WE W σ)) : wpAny (model X.prog X.w) X.A (call (.ref f) args.pos args.kw) (EP X pins σ Q) X.xe s := by
  obtain ⟨ap, ak⟩ := args
  refine wpAny_call (codeAny_mono (F.run X.A X.stack s H ⟨ap, ak⟩ us vs Q (WE W σ) hr I.env0 hb r h) fun r s' hq => ?_)
  cases r with
  | error e => exact passAt tk σ pins H s e s' I hq
  | ok fl =>
    cases fl with
    | ret u => exact I.after hq
    | next => exact False.elim hq
    | brk => exact False.elim hq
    | cont => exact False.elim hq
/-- f(.., k = v, ..): pl, how the parameters stand among what is given -/
theorem se_callK {pl : List Nat} (F : FnOk X.prog X.w X.K X.mg X.base (L2.CX X.prog X.w) k f fd ps (spF G ps.length (cf y))) (hr : Room k X.A) (hg : Gl X x) (hm : X.mg x = some (.ref f)) (hk : PySem.W.keepIn X.K (.ref f) = true) (tk : Takes X W)
    (hb : ∀ (s : Shared) (us ws : List Value), us.length = cas.length → ws.length = cks.length → BindsTo s fd ⟨us, ks.zip ws⟩ (ps.zip (permL pl (us ++ ws)))) (hpl : ∀ vs : List V, vs.length = cas.length + cks.length → (permL pl vs).length = ps.length)
    (ha : PA X (e :: es) (tA G W cf cas)) (hkw : PK X kws (tA G W cf cks)) (hall : (backToKw pos (keywordEach kws X.env)).all (·.1.isSome) = true := by rfl) (hks : (backToKw pos (keywordEach kws X.env)).filterMap (·.1) = ks := by rfl)
    (hdb : (x == ("__debug__" : Str)) = false := by decide) (he : starEach (e :: es) X.env = (false, eval e X.env) :: starEach es X.env := by rfl)
    (hpn : ((backTo pos (starEach (e :: es) X.env)).any (·.1) || (backToKw pos (keywordEach kws X.env)).any (·.1.isNone)) = false := by rfl) :
    PE X (.Call (.Name x p) (e :: es) kws pos) (tE G W cf (.call y (permL pl) (cas ++ cks))) := by
  refine ⟨fun pins s σ H Q I ⟨ρ, μ, m, S, h⟩ => ?_⟩
  unfold ev at h
  rw [evs_append] at h
  simp only [Res.bind_assoc, bind_ok] at h
  have hsp : ∀ {ds zs : List D} {μ2 : Store} {vs ws : List V} {H2 : Hp} {m2 : AM}, ds.length = cas.length → zs.length = cks.length → Ext m H m2 H2 → SR G ρ μ2 m2 σ H2 → Reps G m2 H2 ds vs → Reps G m2 H2 zs ws →
      Out (cf y (permL pl (ds ++ zs)) μ2) (fun d μ' => ∀ v H' m', Ext m H m' H' → SR G ρ μ' m' σ H' → Rep G m' H' d v → Q v H') (ExK G W m H σ) → spF G ps.length (cf y) (permL pl (vs ++ ws)) H2 Q (WE W σ) := fun {ds zs μ2 vs ws H2 m2} l1 l2 e2 s2 r1 r2 q => by
    refine ⟨hpl _ (by rw [List.length_append, ← r1.length, ← r2.length, l1, l2]), _, μ2, m2, s2.st, (r1.append r2).perm pl, Out.mono q (fun d μ3 z v H3 m3 e3 st3 r3 => z v H3 m3 (e2.trans e3) (s2.ext e3 st3) r3) fun x d μ3 z => ?_⟩
    exact fun cls dd H' m' e' st' ea => z cls dd H' m' (e2.trans e') st' ea
  refine wpAny_Call_Name_kw (ld_glob I hg hm ?_ hdb)
  have hA := ha.run pos pins s σ H (fun vs H1 => vs.length = cas.length ∧ tA G W cf cks σ H1 fun ws H2 => ws.length = cks.length ∧ spF G ps.length (cf y) (permL pl (vs ++ ws)) H2 Q (WE W σ)) I
    (tA_sub S (evs_len h.bind) (.refl _ _) fun ds μ1 vs H1 m1 q e1 s1 rv => ⟨by rw [← rv.length]; exact q.1, tA_sub s1 (evs_len q.2.bind) e1 fun zs μ2 ws H2 m2 q2 e2 s2 rv2 => ⟨by rw [← rv2.length]; exact q2.1, hsp q.1 q2.1 (e1.trans e2) s2 (Reps.ext s1.st.live e2 _ _ rv) rv2 q2.2⟩⟩)
  refine PySem.W.callWith_KW (h₀ := X.base) I.ok.mod.kin hk hall (thn hA fun us s1 ⟨vs, H1, I1, r, l1, q⟩ => ?_) hpn he
  refine thn (hkw.run pos pins s1 σ H1 _ I1 q) fun zs s2 ⟨ws, H2, I2, rz, l2, q2⟩ => ⟨I2.kIn, ?_⟩
  rw [hks]
  exact run_fnSK (args := ⟨us, ks.zip zs⟩) F hr tk (hb s2 us zs (by rw [← r.length]; exact l1) (by rw [← rz.length]; exact l2)) I2 (Vals.perm (r.append rz) pl) q2
/-- f(k = v, ..) -/
theorem se_callK0 {pl : List Nat} (F : FnOk X.prog X.w X.K X.mg X.base (L2.CX X.prog X.w) k f fd ps (spF G ps.length (cf y))) (hr : Room k X.A) (hg : Gl X x) (hm : X.mg x = some (.ref f)) (hk : PySem.W.keepIn X.K (.ref f) = true) (tk : Takes X W)
    (hb : ∀ (s : Shared) (ws : List Value), ws.length = cks.length → BindsTo s fd ⟨[], ks.zip ws⟩ (ps.zip (permL pl ws))) (hpl : ∀ vs : List V, vs.length = cks.length → (permL pl vs).length = ps.length)
    (hkw : PK X kws (tA G W cf cks)) (hall : (backToKw pos (keywordEach kws X.env)).all (·.1.isSome) = true := by rfl) (hks : (backToKw pos (keywordEach kws X.env)).filterMap (·.1) = ks := by rfl)
    (hdb : (x == ("__debug__" : Str)) = false := by decide) (hpn : ((backTo pos (starEach [] X.env)).any (·.1) || (backToKw pos (keywordEach kws X.env)).any (·.1.isNone)) = false := by rfl) :
    PE X (.Call (.Name x p) [] kws pos) (tE G W cf (.call y (permL pl) cks)) := by
  refine ⟨fun pins s σ H Q I ⟨ρ, μ, m, S, h⟩ => ?_⟩
  unfold ev at h
  refine wpAny_Call_Name_kw (ld_glob I hg hm ?_ hdb)
  have hA : tA G W cf cks σ H fun ws H2 => ws.length = cks.length ∧ spF G ps.length (cf y) (permL pl ws) H2 Q (WE W σ) :=
    tA_sub S (evs_len h.bind) (.refl _ _) fun ds μ1 vs H1 m1 q e1 s1 rv => by
      refine ⟨by rw [← rv.length]; exact q.1, hpl _ (by rw [← rv.length]; exact q.1), _, μ1, m1, s1.st, rv.perm pl, Out.mono q.2 (fun d μ3 z v H3 m3 e3 st3 r3 => z v H3 m3 (e1.trans e3) (s1.ext e3 st3) r3) fun x d μ3 z => ?_⟩
      exact fun cls dd H' m' e' st' ea => z cls dd H' m' (e1.trans e') st' ea
  refine PySem.W.callWith_KW0 (h₀ := X.base) I.ok.mod.kin hk hall (thn (hkw.run pos pins s σ H _ I hA) fun zs s2 ⟨ws, H2, I2, rz, l2, q2⟩ => ⟨I2.kIn, ?_⟩) hpn
  rw [hks]
  exact run_fnSK (args := ⟨[], ks.zip zs⟩) F hr tk (hb s2 zs (by rw [← rz.length]; exact l2)) I2 (Vals.perm rz pl) q2
end

/-! ### a def keeps its promise -/
section
variable {P : Program} {w : World} {K : PySem.W.Frag} {mg : Str → Option Value} {base : Heap} {G : GC}
theorem reps_start {m : AM} {H : Hp} {ds : List D} {vs : List V} {N : List Str} (h : Reps G m H ds vs) (nl : Nat) (hn : nl = N.length) (μ : Store) (st : StOk G μ m H) : SR G (ds.map some ++ List.replicate (nl - ds.length) none) μ m (L2.start N vs) H := by
  have hl := h.length
  refine ⟨by unfold L2.start; simp [hl, hn], fun i d e => ?_, st⟩
  unfold L2.start
  by_cases hi : i < ds.length
  · rw [List.getElem?_append_left (by simpa using hi), List.getElem?_map] at e
    cases q : ds[i]? with
    | none => rw [q] at e; cases e
    | some d' =>
      rw [q] at e
      have e' : d' = d := by simpa using e
      subst e'
      obtain ⟨v, q1, q2⟩ := h.get q
      exact ⟨v, by rw [List.getElem?_append_left (by rw [List.length_map, ← hl]; exact hi), List.getElem?_map, q1]; rfl, q2⟩
  · rw [List.getElem?_append_right (by simpa using hi)] at e
    rw [List.getElem?_replicate] at e
    split at e <;> cases e
theorem trunc_ok {μ μ' : Store} {m m' : AM} {H H' : Hp} {d : D} {v : V} {k : D → Store → Prop} {ee : String → D → Store → Prop} (h : Out (trunc μ d μ') k ee) (st0 : StOk G μ m H) (e : Ext m H m' H') (st : StOk G μ' m' H') (r : Rep G m' H' d v) :
    ∃ μ2 m2, k d μ2 ∧ Ext m H m2 H' ∧ StOk G μ2 m2 H' ∧ Rep G m2 H' d v := by
  unfold trunc at h
  by_cases hn : noRef d = true
  · rw [if_pos hn] at h
    refine ⟨_, ⟨m'.l.take m.l.length, m'.x⟩, h, ⟨by simp [e.len], fun i hi => ?_, fun a ha hna => ?_, e.keep, e.xeq, e.keepx⟩, ?_, ?_⟩
    · show (m'.l.take m.l.length)[i]? = _ ∨ (m'.l.take m.l.length)[i]? = _
      rw [List.getElem?_take_of_lt hi]
      exact e.pre i hi
    · exact e.fresh a (ha.elim (fun z => .inl (List.mem_of_mem_take z)) .inr) hna
    · have old : ∀ {i : Nat} {o : Option Addr}, (m'.l.take m.l.length)[i]? = some o → m'.l[i]? = some o := fun {i o} q => by
        rw [List.getElem?_take] at q
        split at q
        · exact q
        · cases q
      refine ⟨by simp [st.len, st0.len], fun i j a h1 h2 => st.inj i j a (old h1) (old h2), fun a h1 h2 => st.apart a (List.mem_of_mem_take h1) h2, fun n o ds hn' hd' => ?_, fun n hn' => ?_, fun a ha => st.live a (ha.elim (fun z => .inl (List.mem_of_mem_take z)) .inr)⟩
      · rw [List.getElem?_take] at hn'
        split at hn'
        · rename_i hlt
          obtain ⟨h0, a, xs, q1, q2, q3⟩ := st.obj n o ds hn' hd'
          exact ⟨h0, a, xs, by show (m'.l.take m.l.length)[n]? = _; rw [List.getElem?_take_of_lt (by rw [st0.len]; exact hlt)]; exact q1, q2, Reps.flat _ _ h0 q3⟩
        · cases hn'
      · rw [List.getElem?_take] at hn'
        split at hn'
        · rename_i hlt
          show (m'.l.take m.l.length)[n]? = _
          rw [List.getElem?_take_of_lt (by rw [st0.len]; exact hlt)]
          exact st.dead n hn'
        · cases hn'
    · exact Rep.back (m := ⟨m'.l.take m.l.length, m'.x⟩) (m' := m') (fun a ha => ha.elim (fun z => .inl (List.mem_of_mem_take z)) .inr) d v hn r
  · rw [if_neg hn] at h
    exact ⟨_, m', h, e, st, r⟩
/-- THE RULE for a def -/
theorem fun_ok {x qual : Str} {st : Stmt} {f : Addr} {fd : FuncData} {N ps : List Str} {k : Nat} {body : List CS} {cf : String → List D → Store → Res D} {call : List D → Store → Res D} (F : Fun K x qual st f fd) (S : FnScope N ps (defScope st))
    (hcall : ∀ ds μ, ds.length = ps.length → call ds μ = (exs cf body (ds.map some ++ List.replicate (N.length - ds.length) none) μ).bind (finish μ))
    (hbody : ∀ (cdv : Value) (A : Around) (outer : List PySem.Env) (s : Shared) (H : Hp) (E : XK), Room k (A.deeper (PyProof.Rows.envOfC qual (defScope st) s.heap.objs.size f cdv)) →
      PSs (cxOf (L2.CX P w) P w K mg base N qual (defScope st) f cdv A outer s H E) (defBody st) (tSs G E cf body)) : FnOk P w K mg base (L2.CX P w) (k + 1) f fd ps (spF G ps.length call) := by
  refine F.okX S (fun vs H Q E h => h.1) (fun cdv A outer s H vs Q E hr h => ⟨_, hbody cdv A outer s H E hr, ?_⟩)
  obtain ⟨hl, ds, μ, m, st0, r, h⟩ := h
  rw [hcall ds μ (by rw [r.length]; exact hl)] at h
  refine ⟨_, μ, m, reps_start r _ rfl μ st0, h.bind.mono (fun fl μ1 q => ?_) fun _ _ _ z => z⟩
  cases fl with
  | nx ρ1 =>
    intro σ' H' m' e' s'
    obtain ⟨μ2, m2, k2, e2, st2, r2⟩ := trunc_ok q st0 e' s'.st (d := .non) (v := .non) (by unfold Rep; rfl)
    exact k2 .non H' m2 e2 st2 r2
  | rt d =>
    intro v H' m' e' st' rv
    obtain ⟨μ2, m2, k2, e2, st2, r2⟩ := trunc_ok q st0 e' st' rv
    exact k2 v H' m2 e2 st2 r2
  | bk ρ1 => exact q.elim
  | ct ρ1 => exact q.elim
theorem fn_zero {f : Addr} {fd : FuncData} {ps : List Str} {k : Nat} {call : List D → Store → Res D} (h : ∀ ds μ, call ds μ = .stuck) : FnOk P w K mg base (L2.CX P w) k f fd ps (spF G ps.length call) :=
  ⟨fun vs H Q E q => q.1, fun A outer s H args us vs Q E _ _ _ _ q => by
    obtain ⟨_, ds, μ, m, _, _, z⟩ := q
    rw [h] at z
    exact z.elim⟩
end
end Ev

namespace Ev
open PySem PySem.Spec L2 Res

/-! ## what an operator does, on data -/
def asL (μ : Store) : D → Option (List D)
  | .lst ds => some ds
  | .ref n => match μ[n]? with
    | some (.lst ds) => some ds
    | _ => none
  | _ => none
def fAdd (μ : Store) : D → D → Option D
  | .int i, .int j => some (.int (i + j))
  | .str s, .str t => if s.length + t.length ≤ cap then some (.str (s ++ t)) else none
  | .tup ds, .tup es => if ds.length + es.length ≤ cap then some (.tup (ds ++ es)) else none
  | d, e => match asL μ d with
    | some ds => match asL μ e with
      | some es => if ds.length + es.length ≤ cap then some (.lst (ds ++ es)) else none
      | none => none
    | none => none
def fSub (_ : Store) : D → D → Option D
  | .int i, .int j => some (.int (i - j))
  | _, _ => none
def mulOk (i j : Int) : Bool := decide (i.natAbs < 18446744073709551616) || decide (j.natAbs < 18446744073709551616) || decide (i.natAbs.log2 + j.natAbs.log2 < 1000000)
def fMul (_ : Store) : D → D → Option D
  | .int i, .int j => if mulOk i j then some (.int (i * j)) else none
  | .str s, .int k => if -1000000 ≤ k ∧ k ≤ 1000 ∧ s.length ≤ 1000 then some (.str (List.replicate k.toNat s).flatten) else none
  | _, _ => none
def fMod (_ : Store) : D → D → Option D
  | .int i, .int j => if 0 < j then some (.int (i % j)) else none
  | _, _ => none
def fDiv (_ : Store) : D → D → Option D
  | .int i, .int j => if 0 < j ∧ j.natAbs.log2 < 9000 then some (.int (i / j)) else none
  | _, _ => none
def fPow (_ : Store) : D → D → Option D
  | .int i, .int j => if 0 ≤ j ∧ j ≤ 1000000 ∧ i.natAbs < 2 ^ 64 then some (.int (i ^ j.toNat)) else none
  | _, _ => none
def fNeg (_ : Store) : D → Option D
  | .int i => some (.int (-i))
  | _ => none
def fLt (_ : Store) : D → D → Option D
  | .int i, .int j => some (.bl (decide (i < j)))
  | .str s, .str t => some (.bl (decide (s < t)))
  | _, _ => none
def fLe (_ : Store) : D → D → Option D
  | .int i, .int j => some (.bl (decide (i ≤ j)))
  | .str s, .str t => some (.bl (!decide (t < s)))
  | _, _ => none
def fGt (_ : Store) : D → D → Option D
  | .int i, .int j => some (.bl (decide (j < i)))
  | .str s, .str t => some (.bl (decide (t < s)))
  | _, _ => none
def fGe (_ : Store) : D → D → Option D
  | .int i, .int j => some (.bl (decide (j ≤ i)))
  | .str s, .str t => some (.bl (!decide (s < t)))
  | _, _ => none

/-! ## equality -/
mutual
/-- as a datum of the hand layer -/
def toP : D → Option PyData
  | .non => some .none
  | .bl b => some (.bool b)
  | .int i => some (.int i)
  | .str s => some (.str (toS s))
  | .tup ds => match toPs ds with
    | some ps => some (.tuple ps)
    | none => none
  | .lst ds => match toPs ds with
    | some ps => some (.list ps)
    | none => none
  | _ => none
def toPs : List D → Option (List PyData)
  | [] => some []
  | d :: ds => match toP d with
    | some p => match toPs ds with
      | some ps => some (p :: ps)
      | none => none
    | none => none
end
mutual
/-- may be compared: so deep at most, signs of Unicode -/
def cmpOk : Nat → D → Bool
  | _, .non => true
  | _, .bl _ => true
  | _, .int _ => true
  | _, .str s => s.all (· < 1114112)
  | n + 1, .tup ds => cmpOks n ds
  | n + 1, .lst ds => cmpOks n ds
  | _, _ => false
def cmpOks : Nat → List D → Bool
  | _, [] => true
  | n, d :: ds => cmpOk n d && cmpOks n ds
end
mutual
def eqD : D → D → Bool
  | .non, .non => true
  | .bl a, .bl b => a == b
  | .bl a, .int j => (if a then 1 else 0) == j
  | .int i, .bl b => i == (if b then 1 else 0)
  | .int i, .int j => i == j
  | .str s, .str t => s == t
  | .lst ds, .lst es => eqDs ds es
  | .tup ds, .tup es => eqDs ds es
  | _, _ => false
def eqDs : List D → List D → Bool
  | [], [] => true
  | d :: ds, e :: es => eqD d e && eqDs ds es
  | _, _ => false
end
def rd (μ : Store) (d : D) : D := match asL μ d with
  | some ds => .lst ds
  | none => d
def fEq (μ : Store) (d e : D) : Option D := if cmpOk 8 (rd μ d) && cmpOk 8 (rd μ e) then some (.bl (eqD (rd μ d) (rd μ e))) else none
def fNe (μ : Store) (d e : D) : Option D := if cmpOk 8 (rd μ d) && cmpOk 8 (rd μ e) then some (.bl (!eqD (rd μ d) (rd μ e))) else none

section
variable {G : GC} {X : Cx} {μ : Store} {m : AM} {H : Hp}
theorem asL_ok {d : D} {v : V} {ds : List D} (st : StOk G μ m H) (r : Rep G m H d v) (h : asL μ d = some ds) : ∃ a xs, v = .ref a ∧ Rd H a (.lst xs) ∧ Reps G m H ds xs := by
  unfold asL at h
  split at h
  · cases h
    unfold Rep at r
    obtain ⟨a, xs, e1, n, hs, rr⟩ := r
    exact ⟨a, xs, e1, hs, rr⟩
  · rename_i n
    cases q : μ[n]? with
    | none => rw [q] at h; cases h
    | some o =>
      rw [q] at h
      cases o with
      | dead => cases h
      | dct _ => cases h
      | lst es =>
        cases h
        obtain ⟨h0, p', xs, q1, q2, q3⟩ := st.lst n ds q
        unfold Rep at r
        obtain ⟨p, rfl, hp⟩ := r
        have e1 : p' = p := by
          rw [q1] at hp
          rcases hp with hp | hp
          · simpa using hp
          · simp at hp
        subst e1
        exact ⟨_, xs, rfl, .of q2, q3⟩
  · cases h
theorem rd_ok {d : D} {v : V} (st : StOk G μ m H) (r : Rep G m H d v) (hn : noRef (rd μ d) = true) : ∃ u, rd μ d = u ∧ ((u = d ∧ Rep G m H d v) ∨ ∃ ds a xs, u = .lst ds ∧ v = .ref a ∧ Rd H a (.lst xs) ∧ Reps G m H ds xs) := by
  refine ⟨_, rfl, ?_⟩
  unfold rd at hn ⊢
  cases q : asL μ d with
  | none => exact .inl ⟨rfl, r⟩
  | some ds =>
    obtain ⟨a, xs, e1, h1, h2⟩ := asL_ok st r q
    exact .inr ⟨ds, a, xs, rfl, e1, h1, h2⟩
theorem st_new {p : Addr} {o : HO} (st : StOk G μ m H) (h : H p = none) : Ext m H m (upd H p o) ∧ StOk G μ m (upd H p o) := ⟨.new st.live h, st.new h⟩
theorem fresh_nm {p : Addr} (st : StOk G μ m H) (h : H p = none) : ¬ m.has p := fun z => by
  obtain ⟨xs, _, q⟩ := st.live p z
  rw [h] at q; cases q
/-- a new list by value -/
theorem rep_new {p : Addr} {ds : List D} {xs : List V} (st : StOk G μ m H) (h : H p = none) (r : Reps G m H ds xs) : Rep G m (upd H p (.lst xs)) (.lst ds) (.ref p) := by
  unfold Rep
  exact ⟨p, xs, rfl, fresh_nm st h, .inl upd_same, Reps.ext st.live (st_new st h).1 _ _ r⟩
theorem rep_newT {p : Addr} {ds : List D} {xs : List V} (st : StOk G μ m H) (h : H p = none) (r : Reps G m H ds xs) : Rep G m (upd H p (.tup xs)) (.tup ds) (.ref p) := by
  unfold Rep
  exact ⟨p, xs, rfl, .inl (.inl upd_same), Reps.ext st.live (st_new st h).1 _ _ r⟩
theorem cap_size {n : Nat} (h : n ≤ cap) : n ≤ sizeLine := Nat.le_trans h (by decide)
theorem toS_len (s : List Nat) : (toS s).length = s.length := by simp [toS, Str.length]
theorem toS_app (s t : List Nat) : toS s ++ toS t = toS (s ++ t) := by
  show (⟨(toS s).cps ++ (toS t).cps⟩ : Str) = _
  simp [toS]
theorem toS_list (s : List Nat) : (toS s).cps.toList = s := by simp [toS]

/-! ### + -/
theorem add_lists {pins : List (Addr × Obj)} {s : Shared} {σ : L2.St} {Q : VK} {l b : Addr} {xs zs : List V} (I : Inv X pins σ H s) (h1 : Rd H l (.lst xs)) (h2 : Rd H b (.lst zs)) (hz : xs.length + zs.length ≤ sizeLine)
    (q : ∀ p, H p = none → Q (.ref p) (upd H p (.lst (xs ++ zs)))) : wpAny (model X.prog X.w) X.A (binaryOp .Add (.ref l) (.ref b)) (EP X pins σ Q) X.xe s := by
  obtain ⟨z, its, n, r, e⟩ := h1.ok I.hok
  obtain ⟨z2, its2, n2, r2, e2⟩ := h2.ok I.hok
  have hl := r.length
  have hl2 := r2.length
  refine PySem.P.add_list e e2 ?_ (by rw [List.size_toArray, List.size_toArray]; omega)
  have ea : its.toArray ++ its2.toArray = (its ++ its2).toArray := by simp
  rw [ea]
  exact ⟨.ref _, _, I.lnew (t' := s.toks) (r.append r2) (by rw [List.length_append]; omega), rfl, q _ I.fresh⟩
theorem o_add (hK : X.K = G.K) : OpR X (binaryOp .Add) (r2 G fAdd) := by
  intro pins s σ H x y v u Q I rx ry ⟨d, e, μ, m, r, st, rd, re, hf, k⟩
  unfold fAdd at hf
  split at hf
  · cases hf
    unfold Rep at rd re
    subst rd re
    exact op_add pins s σ H _ _ v u Q I rx ry ⟨_, _, rfl, rfl, k _ H (.refl _ _) st (by unfold Rep; rfl)⟩
  · split at hf
    · rename_i hl
      cases hf
      unfold Rep at rd re
      subst rd re
      refine op_add_str pins s σ H _ _ v u Q I rx ry ⟨_, _, rfl, rfl, by rw [toS_len, toS_len]; exact cap_size hl, k _ H (.refl _ _) st (by unfold Rep; rw [toS_app])⟩
    · cases hf
  · rename_i ds es
    split at hf
    · rename_i hl
      cases hf
      unfold Rep at rd re
      obtain ⟨a, xs, rfl, h1, q1⟩ := rd
      obtain ⟨b, ys, rfl, h2, q2⟩ := re
      have l1 := q1.length
      have l2 := q2.length
      refine op_catA pins s σ H _ _ v u Q I rx ry ⟨_, _, _, _, rfl, rfl, by rw [hK]; exact h1, by rw [hK]; exact h2, by rw [← l1, ← l2]; exact cap_size hl, fun e1 => ?_, fun e0 e1 => ?_, fun _ _ p np => ?_⟩
      · subst e1
        have : ds = [] := by cases ds; rfl; simp at l1
        subst this
        exact k _ H (.refl _ _) st (by unfold Rep; exact ⟨_, _, rfl, h2, q2⟩)
      · subst e1
        have : es = [] := by cases es; rfl; simp at l2
        subst this
        rw [List.append_nil] at k
        exact k _ H (.refl _ _) st (by unfold Rep; exact ⟨_, _, rfl, h1, q1⟩)
      · exact k _ _ (st_new st np).1 (st_new st np).2 (rep_newT st np (q1.append q2))
    · cases hf
  · split at hf
    · rename_i ds h1
      split at hf
      · rename_i es h2
        split at hf
        · rename_i hl
          cases hf
          obtain ⟨a, xs, rfl, g1, q1⟩ := asL_ok st rd h1
          obtain ⟨b, ys, rfl, g2, q2⟩ := asL_ok st re h2
          cases rx
          cases ry
          refine add_lists I g1 g2 (by rw [← q1.length, ← q2.length]; exact cap_size hl) fun p np => ?_
          exact k _ _ (st_new st np).1 (st_new st np).2 (rep_new st np (q1.append q2))
        · cases hf
      · cases hf
    · cases hf
theorem o_sub : OpR X (binaryOp .Sub) (r2 G fSub) := by
  intro pins s σ H x y v u Q I rx ry ⟨d, e, μ, m, r, st, rd, re, hf, k⟩
  unfold fSub at hf
  split at hf
  · cases hf
    unfold Rep at rd re
    subst rd re
    exact op_sub pins s σ H _ _ v u Q I rx ry ⟨_, _, rfl, rfl, k _ H (.refl _ _) st (by unfold Rep; rfl)⟩
  · cases hf
theorem o_mul : OpR X (binaryOp .Mult) (r2 G fMul) := by
  intro pins s σ H x y v u Q I rx ry ⟨d, e, μ, m, r, st, rd, re, hf, k⟩
  unfold fMul at hf
  split at hf
  · split at hf
    · rename_i hl
      cases hf
      unfold Rep at rd re
      subst rd re
      rename_i i j
      unfold mulOk at hl
      rcases Bool.or_eq_true_iff.mp hl with hl | hl
      · have hc : CMul i j := by
          rcases Bool.or_eq_true_iff.mp hl with hl | hl
          · have := of_decide_eq_true hl
            exact .inl ⟨by omega, by omega⟩
          · have := of_decide_eq_true hl
            exact .inr ⟨by omega, by omega⟩
        exact op_mul pins s σ H _ _ v u Q I rx ry ⟨_, _, rfl, rfl, hc, k _ H (.refl _ _) st (by unfold Rep; rfl)⟩
      · exact op_mulW pins s σ H _ _ v u Q I rx ry ⟨_, _, rfl, rfl, (of_decide_eq_true hl : _ < _), k _ H (.refl _ _) st (by unfold Rep; rfl)⟩
    · cases hf
  · rename_i z n
    split at hf
    · rename_i hl
      obtain ⟨h1, h2, h3⟩ := hl
      cases hf
      unfold Rep at rd re
      subst rd re
      obtain ⟨t1, rfl⟩ := rx
      obtain ⟨t2, rfl⟩ := ry
      have hlen : (toS z).length = z.length := toS_len z
      have hfl : ∀ (j : Nat) (a : Array Nat), (List.replicate j (toS z).cps).foldl (· ++ ·) a = a ++ (List.replicate j z).flatten.toArray := by
        intro j
        induction j with
        | zero => intro a; simp
        | succ j ih => intro a; rw [List.replicate_succ, List.foldl_cons, ih, List.replicate_succ, List.flatten_cons]; simp [toS]
      have hlong : Builtin.Str.tooLong ((toS z).length * n.toNat) = false := by
        have hb : (toS z).length * n.toNat ≤ 1000000 := by
          rw [hlen]
          calc z.length * n.toNat ≤ 1000 * 1000 := Nat.mul_le_mul h3 (by omega)
            _ = 1000000 := by decide
        unfold Builtin.Str.tooLong
        rw [sizeLine_eq]
        exact decide_eq_false (by omega)
      refine PySem.P.mul_str (by
        have e1 : ¬ n < -(2 ^ 63) := by omega
        have e2 : ¬ n ≥ 2 ^ 63 := by omega
        rw [decide_eq_false e1, decide_eq_false e2]; rfl) (fun g1 g2 => ?_) (fun g1 g2 => ?_) ?_
      · rw [hlen]
        have : (1000 : Int) ≤ (2 ^ 63 - 1) / n := by
          have hn : 0 < n := by omega
          rw [Int.le_ediv_iff_mul_le hn]
          omega
        omega
      · exact hlong
      · split
        · have e0 : n.toNat = 0 := by omega
          rw [e0] at k
          refine ⟨by decide, .str Str.empty, H, I.tok _, ⟨_, rfl⟩, ?_⟩
          exact k _ H (.refl _ _) st (by unfold Rep; rfl)
        · rename_i g1
          split
          · rename_i g2
            refine ⟨.str (toS z), H, I, ⟨_, rfl⟩, ?_⟩
            refine k _ H (.refl _ _) st (by
              unfold Rep
              rcases Bool.or_eq_true_iff.mp g2 with g2 | g2
              · have : n = 1 := by simpa using g2
                subst this; simp
              · have : z = [] := by
                  have := toS_len z
                  have g3 : (toS z).length = 0 := by simpa using g2
                  cases z with
                  | nil => rfl
                  | cons a b => rw [g3] at this; simp at this
                subst this; simp)
          · refine ⟨?_, .str (toS (List.replicate n.toNat z).flatten), H, I.tok _, ⟨s.toks, ?_⟩, k _ H (.refl _ _) st (by unfold Rep; rfl)⟩
            · exact fits_reps hlong
            · rw [hfl]; simp [toS]
    · cases hf
  · cases hf
end
end Ev

namespace Ev
open PySem PySem.Spec L2 Res
section
variable {G : GC} {X : Cx} {μ : Store} {m : AM} {H : Hp}
theorem o_mod : OpR X (binaryOp .Mod) (r2 G fMod) := by
  intro pins s σ H x y v u Q I rx ry ⟨d, e, μ, m, r, st, rd, re, hf, k⟩
  unfold fMod at hf
  split at hf
  · split at hf
    · rename_i hl
      cases hf
      unfold Rep at rd re
      subst rd re
      exact op_mod pins s σ H _ _ v u Q I rx ry ⟨_, _, rfl, rfl, hl, k _ H (.refl _ _) st (by unfold Rep; rfl)⟩
    · cases hf
  · cases hf
theorem o_div : OpR X (binaryOp .FloorDiv) (r2 G fDiv) := by
  intro pins s σ H x y v u Q I rx ry ⟨d, e, μ, m, r, st, rd, re, hf, k⟩
  unfold fDiv at hf
  split at hf
  · split at hf
    · rename_i hl
      cases hf
      unfold Rep at rd re
      subst rd re
      exact op_fdivW pins s σ H _ _ v u Q I rx ry ⟨_, _, rfl, rfl, hl, k _ H (.refl _ _) st (by unfold Rep; rfl)⟩
    · cases hf
  · cases hf
theorem o_pow : OpR X (binaryOp .Pow) (r2 G fPow) := by
  intro pins s σ H x y v u Q I rx ry ⟨d, e, μ, m, r, st, rd, re, hf, k⟩
  unfold fPow at hf
  split at hf
  · split at hf
    · rename_i hl
      cases hf
      unfold Rep at rd re
      subst rd re
      exact op_pow pins s σ H _ _ v u Q I rx ry ⟨_, _, rfl, rfl, hl, k _ H (.refl _ _) st (by unfold Rep; rfl)⟩
    · cases hf
  · cases hf
theorem o_neg : UnR X (unaryOp .USub) (r1 G fNeg) := by
  intro pins s σ H x v Q I rx ⟨d, μ, m, r, st, rd, hf, k⟩
  unfold fNeg at hf
  split at hf
  · cases hf
    unfold Rep at rd
    subst rd
    exact un_neg pins s σ H _ v Q I rx ⟨_, rfl, k _ H (.refl _ _) st (by unfold Rep; rfl)⟩
  · cases hf
theorem o_lt : OpR X (compareOp .Lt) (r2 G fLt) := by
  intro pins s σ H x y v u Q I rx ry ⟨d, e, μ, m, r, st, rd, re, hf, k⟩
  unfold fLt at hf
  split at hf
  · cases hf
    unfold Rep at rd re
    subst rd re
    exact op_lt pins s σ H _ _ v u Q I rx ry ⟨_, _, rfl, rfl, k _ H (.refl _ _) st (by unfold Rep; rfl)⟩
  · cases hf
    unfold Rep at rd re
    subst rd re
    exact op_lt_str pins s σ H _ _ v u Q I rx ry ⟨_, _, rfl, rfl, k _ H (.refl _ _) st (by unfold Rep; simp only [toS_list])⟩
  · cases hf
theorem o_le : OpR X (compareOp .LtE) (r2 G fLe) := by
  intro pins s σ H x y v u Q I rx ry ⟨d, e, μ, m, r, st, rd, re, hf, k⟩
  unfold fLe at hf
  split at hf
  · cases hf
    unfold Rep at rd re
    subst rd re
    exact op_le pins s σ H _ _ v u Q I rx ry ⟨_, _, rfl, rfl, k _ H (.refl _ _) st (by unfold Rep; rfl)⟩
  · cases hf
    unfold Rep at rd re
    subst rd re
    exact op_le_str pins s σ H _ _ v u Q I rx ry ⟨_, _, rfl, rfl, k _ H (.refl _ _) st (by unfold Rep; simp only [toS_list])⟩
  · cases hf
theorem o_gt : OpR X (compareOp .Gt) (r2 G fGt) := by
  intro pins s σ H x y v u Q I rx ry ⟨d, e, μ, m, r, st, rd, re, hf, k⟩
  unfold fGt at hf
  split at hf
  · cases hf
    unfold Rep at rd re
    subst rd re
    exact op_gt pins s σ H _ _ v u Q I rx ry ⟨_, _, rfl, rfl, k _ H (.refl _ _) st (by unfold Rep; rfl)⟩
  · cases hf
    unfold Rep at rd re
    subst rd re
    exact op_gt_str pins s σ H _ _ v u Q I rx ry ⟨_, _, rfl, rfl, k _ H (.refl _ _) st (by unfold Rep; simp only [toS_list])⟩
  · cases hf
theorem o_ge : OpR X (compareOp .GtE) (r2 G fGe) := by
  intro pins s σ H x y v u Q I rx ry ⟨d, e, μ, m, r, st, rd, re, hf, k⟩
  unfold fGe at hf
  split at hf
  · cases hf
    unfold Rep at rd re
    subst rd re
    exact op_ge pins s σ H _ _ v u Q I rx ry ⟨_, _, rfl, rfl, k _ H (.refl _ _) st (by unfold Rep; rfl)⟩
  · cases hf
    unfold Rep at rd re
    subst rd re
    exact op_ge_str pins s σ H _ _ v u Q I rx ry ⟨_, _, rfl, rfl, k _ H (.refl _ _) st (by unfold Rep; simp only [toS_list])⟩
  · cases hf

/-! ### == -/
mutual
theorem toP_ok : ∀ (n : Nat) (d : D), cmpOk n d = true → ∃ p, toP d = some p ∧ p.canLay0 = true ∧ p.depth ≤ n
  | _, .non, _ => ⟨.none, by simp [toP], rfl, Nat.zero_le _⟩
  | _, .bl b, _ => ⟨.bool b, by simp [toP], rfl, Nat.zero_le _⟩
  | _, .int i, _ => ⟨.int i, by simp [toP], rfl, Nat.zero_le _⟩
  | _, .str s, h => ⟨.str (toS s), by simp [toP], by
      unfold cmpOk at h
      simp only [PyData.canLay0]
      show ((toS s).cps.all (· < 0x110000)) = true
      unfold toS
      simpa using h, Nat.zero_le _⟩
  | n + 1, .tup ds, h => by
    unfold cmpOk at h
    obtain ⟨ps, q1, q2, q3⟩ := toPs_ok n ds h
    exact ⟨.tuple ps, by unfold toP; rw [q1], q2, by unfold PyData.depth; omega⟩
  | n + 1, .lst ds, h => by
    unfold cmpOk at h
    obtain ⟨ps, q1, q2, q3⟩ := toPs_ok n ds h
    exact ⟨.list ps, by unfold toP; rw [q1], q2, by unfold PyData.depth; omega⟩
  | 0, .tup _, h => by unfold cmpOk at h; cases h
  | 0, .lst _, h => by unfold cmpOk at h; cases h
  | _, .ref _, h => by unfold cmpOk at h; cases h
  | _, .gl _, h => by unfold cmpOk at h; cases h
  | _, .ty _, h => by unfold cmpOk at h; cases h
  | _, .scr _, h => by unfold cmpOk at h; cases h
  | _, .dcv _ _, h => by unfold cmpOk at h; cases h
  | _, .exv _ _ _, h => by unfold cmpOk at h; cases h
theorem toPs_ok : ∀ (n : Nat) (ds : List D), cmpOks n ds = true → ∃ ps, toPs ds = some ps ∧ PyData.canLayAll0 ps = true ∧ PyData.depthAll ps ≤ n
  | _, [], _ => ⟨[], by unfold toPs; rfl, rfl, Nat.zero_le _⟩
  | n, d :: ds, h => by
    unfold cmpOks at h
    obtain ⟨h1, h2⟩ := Bool.and_eq_true_iff.mp h
    obtain ⟨p, q1, q2, q3⟩ := toP_ok n d h1
    obtain ⟨ps, r1, r2, r3⟩ := toPs_ok n ds h2
    refine ⟨p :: ps, by unfold toPs; rw [q1, r1], by unfold PyData.canLayAll0; rw [q2, r2]; rfl, by unfold PyData.depthAll; omega⟩
end
theorem toS_beq (s t : List Nat) : (toS s == toS t) = (s == t) := by
  rw [Bool.eq_iff_iff, beq_iff_eq, beq_iff_eq]
  constructor
  · intro h
    have := congrArg (fun z : Str => z.cps.toList) h
    simpa [toS] using this
  · intro h; rw [h]
mutual
theorem eqv_ok : ∀ (d e : D) (p q : PyData), toP d = some p → toP e = some q → PyData.eqv p q = eqD d e := by
  intro d e p q hd he
  cases d with
  | non => unfold toP at hd; cases hd; cases e <;> unfold toP at he <;> first | (cases he <;> (unfold eqD; rfl)) | (split at he <;> cases he <;> (unfold eqD; rfl))
  | bl b => unfold toP at hd; cases hd; cases e <;> unfold toP at he <;> first | (cases he <;> (unfold eqD; rfl)) | (split at he <;> cases he <;> (unfold eqD; rfl))
  | int b => unfold toP at hd; cases hd; cases e <;> unfold toP at he <;> first | (cases he <;> (unfold eqD; rfl)) | (split at he <;> cases he <;> (unfold eqD; rfl))
  | str b => unfold toP at hd; cases hd; cases e <;> unfold toP at he <;> first | (cases he <;> (unfold eqD; first | rfl | exact toS_beq _ _)) | (split at he <;> cases he <;> (unfold eqD; rfl))
  | tup ds =>
    unfold toP at hd
    split at hd
    · rename_i ps hps
      cases hd
      cases e <;> unfold toP at he <;> first | (cases he <;> (unfold eqD; rfl)) | (split at he <;> cases he <;> first | (unfold eqD; rfl) | skip)
      rename_i es qs hqs
      unfold eqD
      exact eqvs_ok ds _ _ _ hps hqs
    · cases hd
  | lst ds =>
    unfold toP at hd
    split at hd
    · rename_i ps hps
      cases hd
      cases e <;> unfold toP at he <;> first | (cases he <;> (unfold eqD; rfl)) | (split at he <;> cases he <;> first | (unfold eqD; rfl) | skip)
      rename_i es qs hqs
      unfold eqD
      exact eqvs_ok ds _ _ _ hps hqs
    · cases hd
  | _ => unfold toP at hd; cases hd
theorem eqvs_ok : ∀ (ds es : List D) (ps qs : List PyData), toPs ds = some ps → toPs es = some qs → PyData.eqvAll ps qs = eqDs ds es
  | [], [], ps, qs, hd, he => by unfold toPs at hd he; cases hd; cases he; unfold eqDs; rfl
  | [], e :: es, ps, qs, hd, he => by
    unfold toPs at hd he; cases hd
    split at he
    · split at he
      · cases he; unfold eqDs; rfl
      · cases he
    · cases he
  | d :: ds, [], ps, qs, hd, he => by
    unfold toPs at hd he; cases he
    split at hd
    · split at hd
      · cases hd; unfold eqDs; rfl
      · cases hd
    · cases hd
  | d :: ds, e :: es, ps, qs, hd, he => by
    unfold toPs at hd he
    split at hd
    · rename_i p hp
      split at hd
      · rename_i pss hps
        cases hd
        split at he
        · rename_i q hq
          split at he
          · rename_i qss hqs
            cases he
            unfold eqDs PyData.eqvAll
            rw [eqv_ok d e p q hp hq, eqvs_ok ds es pss qss hps hqs]
          · cases he
        · cases he
      · cases hd
    · cases hd
end
mutual
theorem dp_ok : ∀ (d : D) (v : V) (p : PyData), Rep G m H d v → toP d = some p → Dp G.K H v p
  | .non, v, p, r, h => by unfold Rep at r; unfold toP at h; cases h; subst r; exact .non
  | .bl b, v, p, r, h => by unfold Rep at r; unfold toP at h; cases h; subst r; exact .bl b
  | .int b, v, p, r, h => by unfold Rep at r; unfold toP at h; cases h; subst r; exact .int b
  | .str b, v, p, r, h => by unfold Rep at r; unfold toP at h; cases h; subst r; exact .str _
  | .tup ds, v, p, r, h => by
    unfold Rep at r; unfold toP at h
    obtain ⟨a, xs, rfl, hs, rr⟩ := r
    split at h
    · rename_i ps hps
      cases h
      exact .tup hs (dps_ok ds xs ps rr hps)
    · cases h
  | .lst ds, v, p, r, h => by
    unfold Rep at r; unfold toP at h
    obtain ⟨a, xs, rfl, nm, hs, rr⟩ := r
    split at h
    · rename_i ps hps
      cases h
      exact .lst (.inl hs) (dps_ok ds xs ps rr hps)
    · cases h
  | .ref _, v, p, r, h => by unfold toP at h; cases h
  | .gl _, v, p, r, h => by unfold toP at h; cases h
  | .ty _, v, p, r, h => by unfold toP at h; cases h
  | .scr _, v, p, r, h => by unfold toP at h; cases h
  | .dcv _ _, v, p, r, h => by unfold toP at h; cases h
  | .exv _ _ _, v, p, r, h => by unfold toP at h; cases h
theorem dps_ok : ∀ (ds : List D) (vs : List V) (ps : List PyData), Reps G m H ds vs → toPs ds = some ps → DpAll G.K H vs ps
  | [], vs, ps, r, h => by
    unfold toPs at h; cases h
    rw [r.isnil]; exact .nil
  | d :: ds, vs, ps, r, h => by
    obtain ⟨w, ws, rfl, r1, r2⟩ := r.uncons
    unfold toPs at h
    split at h
    · rename_i p hp
      split at h
      · rename_i pss hps
        cases h
        exact .cons (dp_ok d w p r1 hp) (dps_ok ds ws pss r2 hps)
      · cases h
    · cases h
end
theorem dp_rd {d : D} {v : V} (st : StOk G μ m H) (r : Rep G m H d v) (h : cmpOk 8 (rd μ d) = true) : ∃ p, toP (rd μ d) = some p ∧ Dp G.K H v p ∧ SeqAt.shaped p = true := by
  obtain ⟨p, h1, h2, h3⟩ := toP_ok 8 _ h
  refine ⟨p, h1, ?_, Bool.and_eq_true_iff.mpr ⟨h2, decide_eq_true (by omega)⟩⟩
  unfold rd at h1
  cases q : asL μ d with
  | none => rw [q] at h1; exact dp_ok d v p r h1
  | some ds =>
    rw [q] at h1
    obtain ⟨a, xs, rfl, g1, g2⟩ := asL_ok st r q
    simp only at h1
    unfold toP at h1
    split at h1
    · rename_i ps hps
      cases h1
      exact .lst (.inl g1) (dps_ok ds xs ps g2 hps)
    · cases h1
theorem o_eq (hK : X.K = G.K) (hu : X.A.units + 64 < cLine) : OpR X (compareOp .Eq) (r2 G fEq) := by
  intro pins s σ H x y v u Q I rx ry ⟨d, e, μ, m, r, st, rd', re, hf, k⟩
  unfold fEq at hf
  split at hf
  · rename_i hc
    obtain ⟨c1, c2⟩ := Bool.and_eq_true_iff.mp hc
    cases hf
    obtain ⟨p, p1, p2, p3⟩ := dp_rd st rd' c1
    obtain ⟨q, q1, q2, q3⟩ := dp_rd st re c2
    exact op_eqD hu pins s σ H _ _ v u Q I rx ry ⟨p, q, by rw [hK]; exact p2, by rw [hK]; exact q2, p3, q3, k _ H (.refl _ _) st (by unfold Rep; rw [eqv_ok _ _ _ _ p1 q1])⟩
  · cases hf
theorem o_ne (hK : X.K = G.K) (hu : X.A.units + 64 < cLine) : OpR X (compareOp .NotEq) (r2 G fNe) := by
  intro pins s σ H x y v u Q I rx ry ⟨d, e, μ, m, r, st, rd', re, hf, k⟩
  unfold fNe at hf
  split at hf
  · rename_i hc
    obtain ⟨c1, c2⟩ := Bool.and_eq_true_iff.mp hc
    cases hf
    obtain ⟨p, p1, p2, p3⟩ := dp_rd st rd' c1
    obtain ⟨q, q1, q2, q3⟩ := dp_rd st re c2
    exact op_neD hu pins s σ H _ _ v u Q I rx ry ⟨p, q, by rw [hK]; exact p2, by rw [hK]; exact q2, p3, q3, k _ H (.refl _ _) st (by unfold Rep; rw [eqv_ok _ _ _ _ p1 q1])⟩
  · cases hf
end
end Ev

namespace Ev
open PySem PySem.Spec L2 Res

/-! ## is -/
def fIs (_ : Store) : D → D → Option D
  | .non, .non => some (.bl true)
  | _, .non => some (.bl false)
  | .bl a, .bl b => some (.bl (decide (a = b)))
  | .non, .bl _ => some (.bl false)
  | .int _, .bl _ => some (.bl false)
  | .str _, .bl _ => some (.bl false)
  | .tup _, .bl _ => some (.bl false)
  | .lst _, .bl _ => some (.bl false)
  | _, _ => none
def notB : Option D → Option D
  | some (.bl b) => some (.bl (!b))
  | _ => none
def fIsNot (μ : Store) (d e : D) : Option D := notB (fIs μ d e)

section
variable {G : GC} {X : Cx} {μ : Store} {m : AM} {H : Hp}
def isNon : D → Bool
  | .non => true
  | _ => false
theorem rep_non {d : D} {x : V} (r : Rep G m H d x) : decide (x = V.non) = isNon d := by
  cases d <;> unfold Rep at r
  · subst r; rfl
  · subst r; rfl
  · subst r; rfl
  · subst r; rfl
  · obtain ⟨a, xs, rfl, _⟩ := r; rfl
  · obtain ⟨a, xs, rfl, _⟩ := r; rfl
  · obtain ⟨a, rfl, _⟩ := r; rfl
  · obtain ⟨a, rfl, _⟩ := r; rfl
  · subst r; rfl
  · obtain ⟨a, rfl, _⟩ := r; rfl
  · obtain ⟨a, xs, od, rfl, _⟩ := r; rfl
  · obtain ⟨a, dd, C, fs, w, rfl, _⟩ := r; rfl
theorem o_is : OpR X (compareOp .Is) (r2 G fIs) := by
  intro pins s σ H x y v u Q I rx ry ⟨d, e, μ, m, r, st, rd', re, hf, k⟩
  cases e with
  | non =>
    have hr : r = .bl (isNon d) := by
      unfold fIs at hf
      cases d <;> cases hf <;> rfl
    subst hr
    have hn := rep_non rd'
    unfold Rep at re
    exact op_isN pins s σ H _ _ v u Q I rx ry ⟨re, by rw [hn]; exact k _ H (.refl _ _) st (by unfold Rep; rfl)⟩
  | bl b =>
    have other : (∀ b', v ≠ Value.bool b' ∧ plainIs v (.bool b') = true) → r = .bl false → wpAny (model X.prog X.w) X.A (compareOp .Is v u) (EP X pins σ Q) X.xe s := fun hv hr => by
      subst hr
      unfold Rep at re
      subst re
      cases (show u = Value.bool b from ry)
      refine wpAny_is_other (hv b).2 (hv b).1 ⟨.bl false, H, I, rfl, k _ H (.refl _ _) st (by unfold Rep; rfl)⟩
    unfold fIs at hf
    cases d with
    | bl a =>
      cases hf
      unfold Rep at rd' re
      subst rd' re
      exact op_isBl pins s σ H _ _ v u Q I rx ry ⟨_, _, rfl, rfl, k _ H (.refl _ _) st (by unfold Rep; rfl)⟩
    | non =>
      unfold Rep at rd'; subst rd'
      exact other (fun b' => by cases rx; exact ⟨(fun h => by cases h), rfl⟩) (by cases hf; rfl)
    | int i =>
      unfold Rep at rd'; subst rd'
      exact other (fun b' => by obtain ⟨t, rfl⟩ := rx; exact ⟨(fun h => by cases h), rfl⟩) (by cases hf; rfl)
    | str i =>
      unfold Rep at rd'; subst rd'
      exact other (fun b' => by obtain ⟨t, rfl⟩ := rx; exact ⟨(fun h => by cases h), rfl⟩) (by cases hf; rfl)
    | tup i =>
      unfold Rep at rd'; obtain ⟨a, xs, rfl, _⟩ := rd'
      exact other (fun b' => by cases rx; exact ⟨(fun h => by cases h), rfl⟩) (by cases hf; rfl)
    | lst i =>
      unfold Rep at rd'; obtain ⟨a, xs, rfl, _⟩ := rd'
      exact other (fun b' => by cases rx; exact ⟨(fun h => by cases h), rfl⟩) (by cases hf; rfl)
    | _ => cases hf
  | _ => unfold fIs at hf; cases d <;> cases hf
theorem o_isNot : OpR X (compareOp .IsNot) (r2 G fIsNot) := by
  intro pins s σ H x y v u Q I rx ry ⟨d, e, μ, m, r, st, rd', re, hf, k⟩
  unfold fIsNot at hf
  cases e with
  | non =>
    have hr : r = .bl (!isNon d) := by
      unfold fIs notB at hf
      cases d <;> cases hf <;> rfl
    subst hr
    have hn := rep_non rd'
    unfold Rep at re
    exact op_notN pins s σ H _ _ v u Q I rx ry ⟨re, by rw [hn]; exact k _ H (.refl _ _) st (by unfold Rep; rfl)⟩
  | bl b =>
    have other : (∀ b', v ≠ Value.bool b' ∧ plainIs v (.bool b') = true) → r = .bl true → wpAny (model X.prog X.w) X.A (compareOp .IsNot v u) (EP X pins σ Q) X.xe s := fun hv hr => by
      subst hr
      unfold Rep at re
      subst re
      cases (show u = Value.bool b from ry)
      refine wpAny_isNot_other (hv b).2 (hv b).1 ⟨.bl true, H, I, rfl, k _ H (.refl _ _) st (by unfold Rep; rfl)⟩
    unfold fIs at hf
    cases d with
    | bl a =>
      cases hf
      unfold Rep at rd' re
      subst rd' re
      exact op_notBl pins s σ H _ _ v u Q I rx ry ⟨_, _, rfl, rfl, k _ H (.refl _ _) st (by unfold Rep; rfl)⟩
    | non =>
      unfold Rep at rd'; subst rd'
      exact other (fun b' => by cases rx; exact ⟨(fun h => by cases h), rfl⟩) (by cases hf; rfl)
    | int i =>
      unfold Rep at rd'; subst rd'
      exact other (fun b' => by obtain ⟨t, rfl⟩ := rx; exact ⟨(fun h => by cases h), rfl⟩) (by cases hf; rfl)
    | str i =>
      unfold Rep at rd'; subst rd'
      exact other (fun b' => by obtain ⟨t, rfl⟩ := rx; exact ⟨(fun h => by cases h), rfl⟩) (by cases hf; rfl)
    | tup i =>
      unfold Rep at rd'; obtain ⟨a, xs, rfl, _⟩ := rd'
      exact other (fun b' => by cases rx; exact ⟨(fun h => by cases h), rfl⟩) (by cases hf; rfl)
    | lst i =>
      unfold Rep at rd'; obtain ⟨a, xs, rfl, _⟩ := rd'
      exact other (fun b' => by cases rx; exact ⟨(fun h => by cases h), rfl⟩) (by cases hf; rfl)
    | _ => cases hf
  | _ => unfold fIs notB at hf; cases d <;> cases hf

/-! ## in -/
end
def flatD : D → Bool
  | .non => true
  | .bl _ => true
  | .int _ => true
  | .str _ => true
  | _ => false
def seqOf (μ : Store) (d : D) : Option (List D) := match d with
  | .tup ds => some ds
  | d => asL μ d
def fIn (μ : Store) (d e : D) : Option D := match d, e with
  | .str [c], .str s => some (.bl (decide (c ∈ s)))
  | _, .str _ => none
  | d, e => match seqOf μ e with
    | some ds => if flatD d && ds.all flatD then some (.bl (ds.any fun y => eqD y d)) else none
    | none => none
def fNotIn (μ : Store) (d e : D) : Option D := notB (fIn μ d e)
section
variable {G : GC} {X : Cx} {μ : Store} {m : AM} {H : Hp}
def toV : D → V
  | .non => .non
  | .bl b => .bl b
  | .int i => .int i
  | .str s => .str (toS s)
  | _ => .non
theorem flat_rep {d : D} {v : V} (h : flatD d = true) (r : Rep G m H d v) : v = toV d := by
  cases d <;> unfold Rep at r <;> first | exact r | (cases h)
theorem flats_rep : ∀ {ds : List D} {vs : List V}, ds.all flatD = true → Reps G m H ds vs → vs = ds.map toV
  | [], vs, _, r => r.isnil
  | d :: ds, vs, h, r => by
    obtain ⟨w, ws, rfl, r1, r2⟩ := r.uncons
    rw [List.all_cons] at h
    obtain ⟨h1, h2⟩ := Bool.and_eq_true_iff.mp h
    rw [List.map_cons, flat_rep h1 r1, flats_rep h2 r2]
theorem flat_toV {d : D} (h : flatD d = true) : flatV (toV d) = true := by cases d <;> first | rfl | cases h
theorem eqV_toV {d e : D} (h1 : flatD d = true) (h2 : flatD e = true) : eqV (toV d) (toV e) = eqD d e := by
  cases d <;> first | (exfalso; exact Bool.false_ne_true h1) | (cases e <;> first | (exfalso; exact Bool.false_ne_true h2) | (unfold eqD toV eqV; first | rfl | exact toS_beq _ _))
theorem inV_toV {d : D} (h1 : flatD d = true) : ∀ {ds : List D}, ds.all flatD = true → inV (toV d) (ds.map toV) = ds.any fun y => eqD y d
  | [], _ => rfl
  | e :: ds, h => by
    rw [List.all_cons] at h
    obtain ⟨h2, h3⟩ := Bool.and_eq_true_iff.mp h
    have := inV_toV h1 h3
    unfold inV at this ⊢
    rw [List.map_cons, List.any_cons, List.any_cons, eqV_toV h2 h1, this]
theorem seqOf_ok {d : D} {v : V} {ds : List D} (st : StOk G μ m H) (r : Rep G m H d v) (h : seqOf μ d = some ds) : ∃ a xs, v = .ref a ∧ (SqL G.K H a xs ∨ SqT G.K H a xs) ∧ Reps G m H ds xs := by
  unfold seqOf at h
  split at h
  · cases h
    unfold Rep at r
    obtain ⟨a, xs, e1, hs, rr⟩ := r
    exact ⟨a, xs, e1, .inr hs, rr⟩
  · obtain ⟨a, xs, e1, hs, rr⟩ := asL_ok st r h
    exact ⟨a, xs, e1, .inl (.inl hs), rr⟩
theorem in_cases {d e r : D} {x y : V} (st : StOk G μ m H) (rd' : Rep G m H d x) (re : Rep G m H e y) (h : fIn μ d e = some r) :
    (∃ c s, x = V.str ⟨#[c]⟩ ∧ y = .str (toS s) ∧ r = .bl (decide (c ∈ s))) ∨ ∃ b p xs, r = .bl b ∧ y = .ref p ∧ (SqL G.K H p xs ∨ SqT G.K H p xs) ∧ flatV x = true ∧ xs.all flatV = true ∧ inV x xs = b := by
  unfold fIn at h
  split at h
  · cases h
    unfold Rep at rd' re
    subst rd' re
    exact .inl ⟨_, _, rfl, rfl, rfl⟩
  · cases h
  · split at h
    · rename_i ds hd
      split at h
      · rename_i hc
        obtain ⟨c1, c2⟩ := Bool.and_eq_true_iff.mp hc
        cases h
        obtain ⟨a, xs, rfl, hs, rr⟩ := seqOf_ok st re hd
        have ev := flats_rep c2 rr
        subst ev
        have ex := flat_rep c1 rd'
        subst ex
        refine .inr ⟨_, a, _, rfl, rfl, hs, flat_toV c1, ?_, inV_toV c1 c2⟩
        rw [List.all_map, List.all_eq_true]
        intro z hz
        exact flat_toV (List.all_eq_true.mp c2 z hz)
      · cases h
    · cases h
theorem o_in (hK : X.K = G.K) : OpR X (compareOp .In) (r2 G fIn) := by
  intro pins s σ H x y v u Q I rx ry ⟨d, e, μ, m, r, st, rd', re, hf, k⟩
  rcases in_cases st rd' re hf with ⟨c, z, rfl, rfl, rfl⟩ | ⟨b, p, xs, rfl, rfl, hs, f1, f2, hb⟩
  · exact op_in_sign pins s σ H _ _ v u Q I rx ry ⟨_, _, rfl, rfl, k _ H (.refl _ _) st (by unfold Rep; rw [toS_list])⟩
  · exact op_in_seq pins s σ H _ _ v u Q I rx ry ⟨p, xs, rfl, by rw [hK]; exact hs, f1, f2, k _ H (.refl _ _) st (by unfold Rep; rw [hb]; rfl)⟩
theorem o_notIn (hK : X.K = G.K) : OpR X (compareOp .NotIn) (r2 G fNotIn) := by
  intro pins s σ H x y v u Q I rx ry ⟨d, e, μ, m, r, st, rd', re, hf, k⟩
  unfold fNotIn at hf
  cases q : fIn μ d e with
  | none => rw [q] at hf; cases hf
  | some r0 =>
    rw [q] at hf
    rcases in_cases st rd' re q with ⟨c, z, rfl, rfl, rfl⟩ | ⟨b, p, xs, rfl, rfl, hs, f1, f2, hb⟩
    · cases hf
      exact op_notIn_sign pins s σ H _ _ v u Q I rx ry ⟨_, _, rfl, rfl, k _ H (.refl _ _) st (by unfold Rep; rw [toS_list])⟩
    · cases hf
      exact op_notIn_seq pins s σ H _ _ v u Q I rx ry ⟨p, xs, rfl, by rw [hK]; exact hs, f1, f2, k _ H (.refl _ _) st (by unfold Rep; rw [hb]; rfl)⟩
end

/-! ## indices and slices -/
def fIx (μ : Store) (d e : D) : Option D := match d, e with
  | .tup ds, .int i => (ixOf ds.length i).bind fun j => ds[j]?
  | .str s, .int i => if s.length ≤ cap then ((ixOf s.length i).bind fun j => s[j]?).map fun c => .str [c] else none
  | .scr ns, .int i => ((ixOf ns.length i).bind fun j => ns[j]?).map .int
  | d, .int i => match asL μ d with
    | some ds => (ixOf ds.length i).bind fun j => ds[j]?
    | none => none
  | _, _ => none
/-- from which place on, for a part that may be left out -/
def ptOf (n dflt : Nat) : D → Option Nat
  | .non => some dflt
  | .int i => some (if i < 0 then (i + (n : Int)).toNat else min i.toNat n)
  | _ => none
def cutL {α : Type} (xs : List α) (lo hi : Nat) : List α := (xs.drop lo).take (hi - lo)
def fSl (μ : Store) (d lo hi : D) : Option D := match d with
  | .str s => if s.length ≤ cap then match ptOf s.length 0 lo, ptOf s.length s.length hi with
    | some l, some h => some (.str (cutL s l h))
    | _, _ => none else none
  | .tup ds => match ptOf ds.length 0 lo, ptOf ds.length ds.length hi with
    | some l, some h => some (.tup (cutL ds l h))
    | _, _ => none
  | .scr ns => match ptOf ns.length 0 lo, ptOf ns.length ns.length hi with
    | some l, some h => some (.lst ((cutL ns l h).map .int))
    | _, _ => none
  | d => match asL μ d with
    | some ds => match ptOf ds.length 0 lo, ptOf ds.length ds.length hi with
      | some l, some h => some (.lst (cutL ds l h))
      | _, _ => none
    | none => none
def fRev (μ : Store) (d : D) : Option D := match d with
  | .str s => if s.length ≤ cap then some (.str s.reverse) else none
  | d => match asL μ d with
    | some ds => some (.lst ds.reverse)
    | none => none
section
variable {G : GC} {X : Cx} {μ : Store} {m : AM} {H : Hp}
theorem scr_ok {ns : List Int} {v : V} (r : Rep G m H (.scr ns) v) : ∃ a, v = .ref a ∧ SqL G.K H a (ns.map V.int) := by
  unfold Rep at r
  obtain ⟨a, e, h⟩ := r
  rcases h with ⟨_, h⟩ | h
  · exact ⟨a, e, .inl h⟩
  · exact ⟨a, e, h H⟩
theorem atI_get {ds : List D} {xs : List V} {i : Int} {r : D} (rr : Reps G m H ds xs) (h : ((ixOf ds.length i).bind fun j => ds[j]?) = some r) : ∃ v, atI xs i = some v ∧ Rep G m H r v := by
  cases q : ixOf ds.length i with
  | none => rw [q] at h; cases h
  | some j =>
    rw [q] at h
    obtain ⟨v, h1, h2⟩ := rr.get (show ds[j]? = some r from h)
    refine ⟨v, ?_, h2⟩
    unfold atI
    rw [← rr.length]
    show (ixOf ds.length i).bind _ = _
    rw [q]; exact h1
theorem o_ix (hK : X.K = G.K) : IxR X (r2 G fIx) := by
  intro value slice pins s σ H x y v u Q I rx ry ⟨d, e, μ, m, r, st, rd', re, hf, k⟩ hs
  unfold fIx at hf
  split at hf
  · unfold Rep at rd' re
    obtain ⟨a, xs, rfl, h1, rr⟩ := rd'
    subst re
    obtain ⟨w, q1, q2⟩ := atI_get rr hf
    exact ix_tup value slice pins s σ H _ _ v u Q I rx ry ⟨a, xs, _, w, rfl, rfl, by rw [hK]; exact h1, q1, k _ H (.refl _ _) st q2⟩ hs
  · rename_i z i
    split at hf
    · rename_i hl
      unfold Rep at rd' re
      subst rd' re
      cases q : ixOf z.length i with
      | none => rw [q] at hf; cases hf
      | some j =>
        rw [q] at hf
        cases q2 : z[j]? with
        | none => simp [q2] at hf
        | some c =>
          simp [q2] at hf
          subst hf
          refine ix_str value slice pins s σ H _ _ v u Q I rx ry ⟨_, _, c, rfl, rfl, by rw [toS_len]; exact cap_size hl, ?_, k _ H (.refl _ _) st (by unfold Rep; rfl)⟩ hs
          unfold atI
          rw [toS_list]
          show (ixOf z.length i).bind _ = _
          rw [q]; exact q2
    · cases hf
  · rename_i ns i
    obtain ⟨a, rfl, h1⟩ := scr_ok rd'
    unfold Rep at re
    subst re
    cases q : ixOf ns.length i with
    | none => rw [q] at hf; cases hf
    | some j =>
      rw [q] at hf
      cases q2 : ns[j]? with
      | none => simp [q2] at hf
      | some c =>
        simp [q2] at hf
        subst hf
        refine ix_list value slice pins s σ H _ _ v u Q I rx ry ⟨a, _, _, .int c, rfl, rfl, by rw [hK]; exact h1, ?_, k _ H (.refl _ _) st (by unfold Rep; rfl)⟩ hs
        unfold atI
        rw [List.length_map]
        show (ixOf ns.length i).bind _ = _
        rw [q]
        show (ns.map V.int)[j]? = _
        rw [List.getElem?_map, q2]; rfl
  · split at hf
    · rename_i ds hd
      obtain ⟨a, xs, rfl, h1, rr⟩ := asL_ok st rd' hd
      unfold Rep at re
      subst re
      obtain ⟨w, q1, q2⟩ := atI_get rr hf
      exact ix_list value slice pins s σ H _ _ v u Q I rx ry ⟨a, xs, _, w, rfl, rfl, .inl h1, q1, k _ H (.refl _ _) st q2⟩ hs
    · cases hf
  · cases hf

/-- a part of a slice -/
def partD : D → Option Int
  | .int i => some i
  | _ => none
theorem ptOf_ok {n dflt j : Nat} {d : D} (h : ptOf n dflt d = some j) : HT.sIx n dflt (partD d) = j := by
  cases d <;> first | (cases h; rfl) | cases h
def okPart : D → Bool
  | .non => true
  | .int _ => true
  | _ => false
theorem ptOf_part {n dflt j : Nat} {d : D} (h : ptOf n dflt d = some j) : okPart d = true := by
  cases d <;> first | rfl | cases h
def rSl (G : GC) : V → Option Int → Option Int → Hp → VK → Prop := fun x lo hi H Q => ∃ d l h μ m r, StOk G μ m H ∧ Rep G m H d x ∧ partD l = lo ∧ partD h = hi ∧ fSl μ d l h = some r ∧ ∀ v H', Ext m H m H' → StOk G μ m H' → Rep G m H' r v → Q v H'
theorem reps_cut {ds : List D} {xs : List V} {l h : Nat} {lo hi : Option Int} (rr : Reps G m H ds xs) (h1 : HT.sIx ds.length 0 lo = l) (h2 : HT.sIx ds.length ds.length hi = h) : Reps G m H (cutL ds l h) (cutV xs lo hi) := by
  unfold cutL cutV
  rw [← rr.length, h1, h2]
  exact (rr.drop _).take _
theorem o_sl (hK : X.K = G.K) : SlR X (rSl G) := by
  intro pins s σ H x v vl vu lo hi sl Q I rx hs pl pu ⟨d, l, h, μ, m, r, st, rd', e1, e2, hf, k⟩
  unfold fSl at hf
  split at hf
  · rename_i z
    split at hf
    · rename_i hl
      split at hf
      · rename_i a b ha hb
        cases hf
        unfold Rep at rd'
        subst rd'
        refine sl_str pins s σ H _ v vl vu lo hi sl Q I rx hs pl pu ⟨_, rfl, by rw [toS_len]; exact cap_size hl, k _ H (.refl _ _) st ?_⟩
        unfold Rep cutL cutS
        have h1 := ptOf_ok ha
        have h2 := ptOf_ok hb
        rw [toS_len, toS_list, ← e1, ← e2, h1, h2]
      · cases hf
    · cases hf
  · split at hf
    · rename_i a b ha hb
      cases hf
      unfold Rep at rd'
      obtain ⟨p, xs, rfl, h1, rr⟩ := rd'
      have g1 := ptOf_ok ha
      have g2 := ptOf_ok hb
      rw [e1] at g1
      rw [e2] at g2
      have cut := reps_cut rr g1 g2
      refine sl_tupA pins s σ H _ v vl vu lo hi sl Q I rx hs pl pu ⟨p, xs, rfl, by rw [hK]; exact h1, fun ⟨w1, w2⟩ => ?_, fun _ q nq => ?_⟩
      · rw [← rr.length] at w1 w2
        have e0 : a = 0 := by rw [← g1, w1]
        have e0' := g2.symm.trans w2
        subst e0 e0'
        unfold cutL at k
        rw [List.drop_zero, Nat.sub_zero, List.take_length] at k
        exact k _ H (.refl _ _) st (by unfold Rep; exact ⟨p, xs, rfl, h1, rr⟩)
      · exact k _ _ (st_new st nq).1 (st_new st nq).2 (rep_newT st nq cut)
    · cases hf
  · rename_i ns
    split at hf
    · rename_i a b ha hb
      cases hf
      obtain ⟨p, rfl, h1⟩ := scr_ok rd'
      have g1 := ptOf_ok ha
      have g2 := ptOf_ok hb
      rw [e1] at g1
      rw [e2] at g2
      refine sl_list pins s σ H _ v vl vu lo hi sl Q I rx hs pl pu ⟨p, _, rfl, by rw [hK]; exact h1, fun q nq => ?_⟩
      have ec : cutV (ns.map V.int) lo hi = (cutL ns a b).map V.int := by
        unfold cutV cutL
        rw [List.length_map, g1, g2, List.map_take, List.map_drop]
      rw [ec]
      exact k _ _ (st_new st nq).1 (st_new st nq).2 (rep_new st nq (reps_ints _))
    · cases hf
  · split at hf
    · rename_i ds hd
      split at hf
      · rename_i a b ha hb
        cases hf
        obtain ⟨p, xs, rfl, h1, rr⟩ := asL_ok st rd' hd
        have g1 := ptOf_ok ha
        have g2 := ptOf_ok hb
        rw [e1] at g1
        rw [e2] at g2
        refine sl_list pins s σ H _ v vl vu lo hi sl Q I rx hs pl pu ⟨p, xs, rfl, .inl h1, fun q nq => ?_⟩
        exact k _ _ (st_new st nq).1 (st_new st nq).2 (rep_new st nq (reps_cut rr g1 g2))
      · cases hf
    · cases hf
end
end Ev

namespace Ev
open PySem PySem.Spec L2 Res

/-! ## slices and reversed ones as expressions -/
def fI (_ : Store) : D → Option D
  | .int i => some (.int i)
  | _ => none
section
variable {G : GC} {W : WX} {cf : String → List D → Store → Res D} {X : Cx} {μ : Store} {m : AM} {H : Hp}
variable {a b c e : Expr} {ca cb cc ce : CE} {pos p2 : Pos}
/-- a part that may be left out -/
def tOD (G : GC) (W : WX) (cf : String → List D → Store → Res D) (c : CE) : TO := fun σ H Q => ∃ ρ μ m, SR G ρ μ m σ H ∧ Out (ev cf c ρ μ) (fun d μ' => ∀ H' m', Ext m H m' H' → SR G ρ μ' m' σ H' → Q (partD d) H') (ExK G W m H σ)
theorem so_none : PO X none (tOD G W cf (.lit .non)) := ⟨fun pins s σ H Q I ⟨ρ, μ, m, S, h⟩ => po_none.run pins s σ H Q I (by
  unfold ev at h
  exact h H m (.refl _ _) S)⟩
theorem so_some (he : PE X e (tE G W cf ce)) : PO X (some e) (tOD G W cf (.op1 fI ce)) := ⟨fun pins s σ H Q I ⟨ρ, μ, m, S, h⟩ => by
  refine (po_some he).run pins s σ H Q I ?_
  unfold ev at h
  refine tE_sub S h.bind (.refl _ _) fun d μ1 v H1 m1 q e1 s1 rv => ?_
  obtain ⟨r, hr, q⟩ := out_lift q
  unfold fI at hr
  split at hr
  · cases hr
    unfold Rep at rv
    exact ⟨_, rv, q H1 m1 e1 s1⟩
  · cases hr⟩
theorem se_sl {lo hi : Option Expr} {cl ch : CE} (hK : X.K = G.K) (he : PE X e (tE G W cf ce)) (hl : PO X lo (tOD G W cf cl)) (hh : PO X hi (tOD G W cf ch)) : PE X (.Subscript e (.Slice lo hi none p2) pos) (tE G W cf (.op3 fSl ce cl ch)) :=
  pe_of (pe_slice (o_sl hK) he hl hh) fun σ H Q ⟨ρ, μ, m, S, h⟩ => by
    unfold ev at h
    refine tE_sub S h.bind (.refl _ _) fun d μ1 v H1 m1 q e1 s1 rv => ?_
    refine ⟨ρ, μ1, m1, s1, Out.mono q.bind (fun d2 μ2 q2 H2 m2 e2 s2 => ?_) fun _ _ _ z => z.step e1⟩
    refine ⟨ρ, μ2, m2, s2, Out.mono q2.bind (fun d3 μ3 q3 H3 m3 e3 s3 => ?_) fun _ _ _ z => z.step (e1.trans e2)⟩
    obtain ⟨r, hr, q⟩ := out_lift q3
    exact ⟨d, d2, d3, μ3, m3, r, s3.st, Rep.ext s1.st.live (e2.trans e3) _ _ rv, rfl, rfl, hr, fun w H4 e4 st4 rw' => q w H4 m3 ((e1.trans (e2.trans e3)).trans e4) (s3.ext e4 st4) rw'⟩

theorem rev_text (z : Str) (u : Tok) : (⟨((slicePicked z none none (some ((-1 : Int), u))).filterMap (z.cps[·]?)).toArray⟩ : Str) = ⟨z.cps.toList.reverse.toArray⟩ := by
  have h := PyProof.Rows.step_rev_list z u
  have e1 : (Txt.sliceBy z none none (-1, u)) = ⟨((slicePicked z none none (some ((-1 : Int), u))).filterMap (z.cps[·]?)).toArray⟩ := by
    unfold Txt.sliceBy
    rw [if_neg (by
      have : ((((some ((-1 : Int), u)).map (·.1)).getD 1 == 1)) = false := rfl
      rw [this]; simp)]
  rw [← e1]
  have e2 : (List.range z.length).map (fun k => z.cps.getD (z.length - 1 - k) 0) = z.cps.toList.reverse := by
    apply List.ext_getElem
    · simp [Str.length]
    · intro i h1 h2
      have hi : i < z.cps.size := by simpa using h2
      have hj : z.cps.size - 1 - i < z.cps.size := by omega
      simp [Str.length, Array.getD, List.getElem_reverse, hj]
  rw [e2] at h
  generalize Txt.sliceBy z none none (-1, u) = y at h
  obtain ⟨y⟩ := y
  simp at h
  show (⟨y⟩ : Str) = _
  rw [← h]
theorem se_rev {k : Nat} {p1 p2 p3 pos : Pos} (hK : X.K = G.K) (he : PE X e (tE G W cf ce)) :
    PE X (.Subscript e (.Slice none none (some (.UnaryOp .USub (.Constant (.int 1) k p1) p2)) p3) pos) (tE G W cf (.op1 fRev ce)) := by
  refine ⟨fun pins s σ H Q I ⟨ρ, μ, m, S, h⟩ => ?_⟩
  unfold ev at h
  have hE : tE G W cf ce σ H fun v H1 => ∃ d μ1 m1 r, SR G ρ μ1 m1 σ H1 ∧ Rep G m1 H1 d v ∧ fRev μ1 d = some r ∧ ∀ w H2, Ext m1 H1 m1 H2 → StOk G μ1 m1 H2 → Rep G m1 H2 r w → Q w H2 := by
    refine tE_sub S h.bind (.refl _ _) fun d μ1 v H1 m1 q e1 s1 rv => ?_
    obtain ⟨r, hr, q⟩ := out_lift q
    exact ⟨d, μ1, m1, r, s1, rv, hr, fun w H2 e2 st2 rw' => q w H2 m1 (e1.trans e2) (s1.ext e2 st2) rw'⟩
  refine PyProof.Rows.Subscript_ (thn (he.run pins s σ H _ I hE) fun v s1 ⟨x, H1, I1, r1, d, μ1, m1, r, S1, rv, hf, q⟩ => ?_)
  have hst : PO X (some (.UnaryOp .USub (.Constant (.int 1) k p1) p2)) (tPart (tUn (rU fun i => .int (-i)) (tC (.int 1)))) := po_some (pe_un un_neg pe_int)
  refine wpAny_Slice (thn (po_none.run pins s1 σ H1 (fun o H2 => o = none ∧ H2 = H1) I1 ⟨rfl, rfl⟩) fun vl s2 ⟨l, H2, I2, pl, el, e2⟩ => ?_)
  subst el e2
  refine thn (po_none.run pins s2 σ H2 (fun o H3 => o = none ∧ H3 = H2) I2 ⟨rfl, rfl⟩) fun vu s3 ⟨u, H3, I3, pu, eu, e3⟩ => ?_
  subst eu e3
  refine thn (hst.run pins s3 σ H3 (fun o H4 => o = some (-1) ∧ H4 = H3) I3 ⟨1, rfl, -1, rfl, rfl, rfl⟩) fun vs s4 ⟨o, H4, I4, ps, eo, e4⟩ => ?_
  subst eo e4
  have I5 : Inv X pins σ H4 { s4 with heap := s4.heap.push { cls := .type "slice", data := .fields #[vl, vu, vs] } } := I4.kept (t' := s4.toks) fun b ob q => Heap.get?_push_of_some _ q
  unfold fRev at hf
  split at hf
  · rename_i z
    split at hf
    · rename_i hl
      cases hf
      unfold Rep at rv
      subst rv
      obtain ⟨t, rfl⟩ := r1
      cases pl
      cases pu
      cases ps with
      | int _ u =>
      refine PyProof.Rows.tail_any (ops := [.str (toS z) t, .ref s4.heap.objs.size]) (typeIs_str _ _ _) F.slot_str_getitem.lookup ?_ (by with_unfolding_all rfl)
      refine wpAny_getItem_str_slice (l := none) (u := none) (st := some (-1, u)) (Heap.IsSliceOf.new _ .none .none (.int (-1) u)) (by rfl) ?_
      unfold sliceMade
      rw [if_neg (by
        have : ((((some ((-1 : Int), u)).map (·.1)).getD 1 == 1)) = false := rfl
        rw [this]; simp)]
      rw [rev_text, toS_list]
      exact ⟨by show (toS z.reverse).length ≤ _; rw [toS_len, List.length_reverse]; exact cap_size hl, .str (toS z.reverse), _, I5.tok _, ⟨_, rfl⟩, q _ H4 (.refl _ _) S1.st (by unfold Rep; rfl)⟩
    · cases hf
  · split at hf
    · rename_i ds hd
      cases hf
      obtain ⟨a, xs, rfl, h1, rr⟩ := asL_ok S1.st rv hd
      cases r1
      obtain ⟨its, r, ht, hz⟩ := I5.list (.inl h1)
      refine PyProof.Rows.tail_any (ops := [.ref a, .ref s4.heap.objs.size]) ht.isList.typeIs (PySem.slot_list_getitem.lookup) ?_ (by with_unfolding_all rfl)
      refine wpAny_getItem_list_slice ht.isList (Heap.IsSliceOf.new _ vl vu vs) pl pu ps (by decide) ?_ (by rw [List.size_toArray]; have := r.length; omega)
      rw [PySem.W.krv_pick]
      have np := I5.hok.fresh (Nat.le_refl _)
      refine ⟨.ref _, _, I5.laid (t' := s4.toks) (o := .lst xs.reverse) (fun b ob q => Heap.get?_push_of_some _ q) (Nat.le_refl _) ?_, rfl, ?_⟩
      · exact ⟨by rw [List.length_reverse]; exact hz, _, 0, r.reverse, Heap.get?_push_size _ rfl⟩
      · exact q _ _ (st_new S1.st np).1 (st_new S1.st np).2 (rep_new S1.st np rr.reverse)
    · cases hf

/-! ## methods -/
theorem se_meth {es : List Expr} {cs : List CE} {o : Expr} {co : CE} {name : Str} {apos cpos : Pos} {T id : String} {chk : Store → D → Bool} {f : List D → Store → Res D} (pa : PlainAttrs T) (slot : Slot T name id) (hty : typeOf (.builtin id) = pure (.type "method_descriptor"))
    (hm : MtR X id (fun x xs H Q => rM G f (x :: xs) H Q)) (hchk : ∀ μ m H d v, StOk G μ m H → Rep G m H d v → chk μ d = true → tyV X.K T v H) (ho : PE X o (tE G W cf co)) (ha : PA X (e :: es) (tA G W cf cs))
    (hbase : attributeBase o name X.env (eval o X.env) = eval o X.env := by rfl)
    (h3 : ((((backTo cpos (starEach (e :: es) X.env)).all (!·.1)) && (backToKw cpos (keywordEach [] X.env)).all (·.1.isSome)) && decide (((e :: es).length + ([] : List Keyword).length + if ([] : List Keyword).isEmpty then 0 else 1) < 30)) = true := by rfl)
    (hline : (apos.endLine == cpos.line) = true := by rfl) (he : starEach (e :: es) X.env = (false, eval e X.env) :: starEach es X.env := by rfl) (hpl : (backTo cpos (starEach es X.env)).any (·.1) = false := by rfl) :
    PE X (.Call (.Attribute o name apos) (e :: es) [] cpos) (tE G W cf (.meth chk f co cs)) :=
  pe_of (pe_bm pa slot hty hm ho ha hbase h3 hline he hpl) fun σ H Q ⟨ρ, μ, m, S, h⟩ => by
    unfold ev at h
    refine tE_sub S h.bind (.refl _ _) fun d μ1 v H1 m1 q e1 s1 rv => ?_
    by_cases hc : chk μ1 d = true
    · rw [if_pos hc] at q
      refine ⟨hchk _ _ _ _ _ s1.st rv hc, tA_sub s1 q.bind e1 fun ds μ2 vs H2 m2 q e2 s2 rvs => ?_⟩
      obtain ⟨r, μ3, hr, q⟩ := out_noExc q
      exact ⟨d :: ds, μ2, m2, r, μ3, s2.st, .cons (Rep.ext s1.st.live e2 _ _ rv) rvs, hr, fun w H3 m3 e3 st3 rw' => q w H3 m3 ((e1.trans e2).trans e3) (s2.ext e3 st3) rw'⟩
    · rw [if_neg hc] at q; exact q.elim
theorem se_meth0 {o : Expr} {co : CE} {name : Str} {apos cpos : Pos} {T id : String} {chk : Store → D → Bool} {f : List D → Store → Res D} (pa : PlainAttrs T) (slot : Slot T name id) (hty : typeOf (.builtin id) = pure (.type "method_descriptor"))
    (hm : MtR X id (fun x xs H Q => rM G f (x :: xs) H Q)) (hchk : ∀ μ m H d v, StOk G μ m H → Rep G m H d v → chk μ d = true → tyV X.K T v H) (ho : PE X o (tE G W cf co))
    (hbase : attributeBase o name X.env (eval o X.env) = eval o X.env := by rfl) (hline : (apos.endLine == cpos.line) = true := by rfl) :
    PE X (.Call (.Attribute o name apos) [] [] cpos) (tE G W cf (.meth chk f co [])) :=
  pe_of (pe_bm0 pa slot hty hm ho hbase hline) fun σ H Q ⟨ρ, μ, m, S, h⟩ => by
    unfold ev at h
    refine tE_sub S h.bind (.refl _ _) fun d μ1 v H1 m1 q e1 s1 rv => ?_
    by_cases hc : chk μ1 d = true
    · rw [if_pos hc, evs_nil] at q
      simp only [bind_ok] at q
      obtain ⟨r, μ3, hr, q⟩ := out_noExc q
      exact ⟨hchk _ _ _ _ _ s1.st rv hc, [d], μ1, m1, r, μ3, s1.st, .cons rv .nil, hr, fun w H3 m3 e3 st3 rw' => q w H3 m3 (e1.trans e3) (s1.ext e3 st3) rw'⟩
    · rw [if_neg hc] at q; exact q.elim
def isStr (_ : Store) : D → Bool
  | .str _ => true
  | _ => false
def isLst (μ : Store) (d : D) : Bool := (asL μ d).isSome
theorem isStr_ok : ∀ μ m H d v, StOk G μ m H → Rep G m H d v → isStr μ d = true → tyV X.K "str" v H := fun μ m H d v st r h => by
  cases d with
  | str z => unfold Rep at r; subst r; rfl
  | _ => exact absurd h Bool.false_ne_true
theorem isLst_ok : ∀ μ m H d v, StOk G μ m H → Rep G m H d v → isLst μ d = true → tyV X.K "list" v H := fun μ m H d v st r h => by
  unfold isLst at h
  cases q : asL μ d with
  | none => rw [q] at h; exact absurd h Bool.false_ne_true
  | some ds =>
    obtain ⟨a, xs, rfl, h1, _⟩ := asL_ok st r q
    exact .inl ⟨rfl, xs, .inl h1⟩

/-! ### lists of the store are written -/
theorem st_put {n : Nat} {ds ds' : List D} {a : Addr} {xs ys : List V} (st : StOk G μ m H) (q : μ[n]? = some (.lst ds)) (q1 : m.l[n]? = some (some a)) (q3 : H a = some (.lst xs)) (nls : noLsts ds' = true) (rr : Reps G m H ds' ys) :
    Ext m H m (upd H a (.lst ys)) ∧ StOk G (μ.set n (.lst ds')) m (upd H a (.lst ys)) := by
  have hin : some a ∈ m.l := List.mem_of_getElem? q1
  have ex : Ext m H m (upd H a (.lst ys)) := ⟨Nat.le_refl _, fun _ _ => .inl rfl, fun c h1 h2 => absurd h1 h2, fun c o h1 h2 => by
    have ne : c ≠ a := fun z => h2 (by rw [z]; exact .inl hin)
    rw [upd_ne ne]; exact h1, rfl, fun c hc => by
    have ne : c ≠ a := fun z => st.apart a hin (by rw [← z]; exact hc)
    rw [upd_ne ne]⟩
  refine ⟨ex, ⟨by rw [List.length_set]; exact st.len, st.inj, st.apart, fun n' o es hn' hd' => ?_, fun n' hn' => ?_, fun c hc => ?_⟩⟩
  · by_cases e : n = n'
    · subst e
      rw [List.getElem?_set_self (List.getElem?_eq_some_iff.mp q).1] at hn'
      have e0 : MO.lst ds' = o := by simpa using hn'
      subst e0
      have e2 : ds' = es := Option.some.inj hd'
      subst e2
      exact ⟨nls, a, _, q1, upd_same, Reps.ext st.live ex _ _ rr⟩
    · rw [List.getElem?_set_ne e] at hn'
      obtain ⟨g0, c, zs, g1, g2, g3⟩ := st.obj n' o es hn' hd'
      have ne : c ≠ a := fun z => by subst z; exact e (st.inj _ _ _ q1 g1)
      exact ⟨g0, c, zs, g1, by rw [upd_ne ne]; exact g2, Reps.ext st.live ex _ _ g3⟩
  · by_cases e : n = n'
    · subst e
      rw [List.getElem?_set_self (List.getElem?_eq_some_iff.mp q).1] at hn'
      simp at hn'
    · rw [List.getElem?_set_ne e] at hn'
      exact st.dead n' hn'
  · by_cases ne : c = a
    · rw [ne]; exact ⟨.lst _, trivial, upd_same⟩
    · rw [upd_ne ne]; exact st.live c hc
theorem ref_ok {n : Nat} {ds : List D} {v : V} (st : StOk G μ m H) (r : Rep G m H (.ref n) v) (q : μ[n]? = some (.lst ds)) : ∃ a xs, v = .ref a ∧ noLsts ds = true ∧ m.l[n]? = some (some a) ∧ H a = some (.lst xs) ∧ Reps G m H ds xs := by
  obtain ⟨h0, a, xs, q1, q3, q4⟩ := st.lst n ds q
  unfold Rep at r
  obtain ⟨b, rfl, hb⟩ := r
  have eab : a = b := by
    rw [q1] at hb
    rcases hb with hb | hb
    · simpa using hb
    · simp at hb
  subst eab
  exact ⟨a, xs, rfl, h0, q1, q3, q4⟩
theorem noLsts_app {ds es : List D} (h1 : noLsts ds = true) (h2 : noLsts es = true) : noLsts (ds ++ es) = true := by
  induction ds with
  | nil => exact h2
  | cons d ds ih =>
    unfold noLsts at h1
    obtain ⟨g1, g2⟩ := Bool.and_eq_true_iff.mp h1
    show noLsts (d :: (ds ++ es)) = true
    unfold noLsts
    rw [g1, ih g2]; rfl
theorem noLsts_dropLast {ds : List D} (h : noLsts ds = true) : noLsts ds.dropLast = true := by
  induction ds with
  | nil => exact h
  | cons d ds ih =>
    unfold noLsts at h
    obtain ⟨g1, g2⟩ := Bool.and_eq_true_iff.mp h
    cases ds with
    | nil => rfl
    | cons e ds =>
      show noLsts (d :: (e :: ds).dropLast) = true
      unfold noLsts
      rw [g1, ih g2]; rfl
end
/-- xs.append(y) -/
def mAppend (ds : List D) (μ : Store) : Res D := match ds with
  | [.ref n, d] => match μ[n]? with
    | some (.lst ds) => if noLst d = true ∧ ds.length < cap then .ok .non (μ.set n (.lst (ds ++ [d]))) else .stuck
    | _ => .stuck
  | _ => .stuck
/-- xs.extend(ys) -/
def mExtend (ds : List D) (μ : Store) : Res D := match ds with
  | [.ref n, d] => match μ[n]?, asL μ d with
    | some (.lst ds), some es => if noLsts es = true ∧ ds.length + es.length ≤ cap then .ok .non (μ.set n (.lst (ds ++ es))) else .stuck
    | _, _ => .stuck
  | _ => .stuck
/-- xs.pop() -/
def mPop (ds : List D) (μ : Store) : Res D := match ds with
  | [.ref n] => match μ[n]? with
    | some (.lst ds) => match ds[ds.length - 1]? with
      | some d => .ok d (μ.set n (.lst ds.dropLast))
      | none => .stuck
    | _ => .stuck
  | _ => .stuck
section
variable {G : GC} {X : Cx} {μ : Store} {m : AM} {H : Hp}
theorem m_append : MtR X "list.append" (fun x xs H Q => rM G mAppend (x :: xs) H Q) := by
  intro pins s σ H x xs v us Q I rx rxs ⟨ds, μ, m, r, μ', st, rr, hf, k⟩
  unfold mAppend at hf
  split at hf
  · rename_i n d
    split at hf
    · rename_i es hq
      split at hf
      · rename_i hc
        cases hf
        obtain ⟨w, ws, e1, r1, r2⟩ := rr.uncons
        obtain ⟨rfl, rfl⟩ := List.cons.inj e1
        obtain ⟨y, ys, rfl, r3, r4⟩ := r2.uncons
        have := r4.isnil
        subst this
        obtain ⟨a, zs, rfl, h0, q1, q3, q4⟩ := ref_ok st r1 hq
        have put := st_put st hq q1 q3 (noLsts_app h0 (by unfold noLsts noLsts; rw [hc.1]; rfl)) (q4.append (.cons r3 .nil))
        refine mt_append pins s σ H _ _ v us Q I rx rxs ⟨a, zs, y, rfl, rfl, q3, ?_, k _ _ m put.1 put.2 (by unfold Rep; rfl)⟩
        have := q4.length
        exact Nat.lt_of_lt_of_le (by omega : zs.length < cap) (by decide)
      · cases hf
    · cases hf
  · cases hf
theorem m_extend : MtR X "list.extend" (fun x xs H Q => rM G mExtend (x :: xs) H Q) := by
  intro pins s σ H x xs v us Q I rx rxs ⟨ds, μ, m, r, μ', st, rr, hf, k⟩
  unfold mExtend at hf
  split at hf
  · rename_i n d
    split at hf
    · rename_i gs es hq hes
      split at hf
      · rename_i hc
        cases hf
        obtain ⟨w, ws, e1, r1, r2⟩ := rr.uncons
        obtain ⟨rfl, rfl⟩ := List.cons.inj e1
        obtain ⟨y, ys, rfl, r3, r4⟩ := r2.uncons
        have := r4.isnil
        subst this
        obtain ⟨a, zs, rfl, h0, q1, q3, q4⟩ := ref_ok st r1 hq
        obtain ⟨b, ys, rfl, g1, g2⟩ := asL_ok st r3 hes
        have put := st_put st hq q1 q3 (noLsts_app h0 hc.1) (q4.append g2)
        have l1 := q4.length
        have l2 := g2.length
        have hle : zs.length + ys.length ≤ sizeLine := cap_size (by omega)
        cases rx
        obtain ⟨u, rfl, ru⟩ := rxs.one
        cases ru
        obtain ⟨z, its, n1, r, hl, e⟩ := I.lstM q3
        obtain ⟨z2, its2, n2, r2', e2⟩ := g1.ok I.hok
        have hl2 := r2'.length
        have hsz : its.toArray.size + its2.toArray.size ≤ sizeLine := by rw [List.size_toArray, List.size_toArray]; omega
        have hlong : ¬ (!its.toArray.isEmpty && Builtin.List.listTooLong (its.toArray.size + its2.toArray.size)) = true := by
          rw [notLongL hsz, Bool.and_false]
          exact Bool.false_ne_true
        refine call_meets F.slot_list_extend ⟨_, e, rfl⟩ F.entry_list_extend (F.args_list_extend_2 _ _)
          (AutoSeq1.list_extend_list_list_0 a its.toArray n1 b its2.toArray n2 hlong (by rw [List.size_toArray]; omega) (by omega)) ⟨e, e2, ?_⟩
        refine ⟨.non, _, I.lset (its' := its ++ its2) q3 e (by simp) (r.append r2') ?_, rfl, k _ _ m put.1 put.2 (by unfold Rep; rfl)⟩
        rw [List.length_append]
        exact hle
      · cases hf
    · cases hf
  · cases hf
theorem m_pop : MtR X "list.pop" (fun x xs H Q => rM G mPop (x :: xs) H Q) := by
  intro pins s σ H x xs v us Q I rx rxs ⟨ds, μ, m, r, μ', st, rr, hf, k⟩
  unfold mPop at hf
  split at hf
  · rename_i n
    split at hf
    · rename_i es hq
      split at hf
      · rename_i d hd
        cases hf
        obtain ⟨w, ws, e1, r1, r2⟩ := rr.uncons
        obtain ⟨rfl, rfl⟩ := List.cons.inj e1
        have := r2.isnil
        subst this
        obtain ⟨a, zs, rfl, h0, q1, q3, q4⟩ := ref_ok st r1 hq
        obtain ⟨y, hy, ry⟩ := q4.get hd
        have hdl : Reps G m H es.dropLast zs.dropLast := by
          rw [List.dropLast_eq_take, List.dropLast_eq_take, ← q4.length]
          exact q4.take _
        have put := st_put st hq q1 q3 (noLsts_dropLast h0) hdl
        exact mt_pop pins s σ H _ _ v us Q I rx rxs ⟨a, zs, y, rfl, rfl, q3, by rw [← q4.length]; exact hy, k _ _ m put.1 put.2 (Rep.ext st.live put.1 _ _ ry)⟩
      · cases hf
    · cases hf
  · cases hf
end
end Ev

namespace Ev
open PySem PySem.Spec L2 Res

def strsOf : List D → Option (List (List Nat))
  | [] => some []
  | .str s :: ds => match strsOf ds with
    | some ss => some (s :: ss)
    | none => none
  | _ :: _ => none
def joinL (sep : List Nat) : List (List Nat) → List Nat
  | [] => []
  | [s] => s
  | s :: ss => s ++ sep ++ joinL sep ss
/-- sep.join(xs) -/
def mJoin (ds : List D) (μ : Store) : Res D := match ds with
  | [.str a, d] => match seqOf μ d with
    | some es => match strsOf es with
      | some ss => if (ss.map List.length).sum + ss.length * a.length ≤ cap then .ok (.str (joinL a ss)) μ else .stuck
      | none => .stuck
    | none => .stuck
  | _ => .stuck
/-- s.count(c) -/
def mCount (ds : List D) (μ : Store) : Res D := match ds with
  | [.str s, .str [c]] => .ok (.int (s.count c : Nat)) μ
  | _ => .stuck
/-- s.index(c) -/
def mIndex (ds : List D) (μ : Store) : Res D := match ds with
  | [.str s, .str [c]] => if c ∈ s then .ok (.int (s.idxOf c : Nat)) μ else .stuck
  | _ => .stuck
def intsOf : List D → Option (List Int)
  | [] => some []
  | .int s :: ds => match intsOf ds with
    | some ss => some (s :: ss)
    | none => none
  | _ :: _ => none
def blsOf : List D → Option (List Bool)
  | [] => some []
  | .bl s :: ds => match blsOf ds with
    | some ss => some (s :: ss)
    | none => none
  | _ :: _ => none
/-- xs.count(k), ints -/
def mLcount (ds : List D) (μ : Store) : Res D := match ds with
  | [d, .int k] => match asL μ d with
    | some es => match intsOf es with
      | some ns => .ok (.int (ns.count k : Nat)) μ
      | none => .stuck
    | none => .stuck
  | _ => .stuck
section
variable {G : GC} {X : Cx} {μ : Store} {m : AM} {H : Hp}
theorem strsOf_ok : ∀ {ds : List D} {vs : List V} {ss : List (List Nat)}, Reps G m H ds vs → strsOf ds = some ss → vs = (ss.map toS).map V.str
  | [], vs, ss, r, h => by unfold strsOf at h; cases h; exact r.isnil
  | d :: ds, vs, ss, r, h => by
    unfold strsOf at h
    split at h
    · rename_i e; cases e
    · rename_i z es e
      obtain ⟨rfl, rfl⟩ := List.cons.inj e
      obtain ⟨w, ws, rfl, r1, r2⟩ := r.uncons
      split at h
      · rename_i ss' hs
        cases h
        unfold Rep at r1
        rw [r1, strsOf_ok r2 hs]; rfl
      · cases h
    · cases h
theorem intsOf_ok : ∀ {ds : List D} {vs : List V} {ss : List Int}, Reps G m H ds vs → intsOf ds = some ss → vs = ss.map V.int
  | [], vs, ss, r, h => by unfold intsOf at h; cases h; exact r.isnil
  | d :: ds, vs, ss, r, h => by
    unfold intsOf at h
    split at h
    · rename_i e; cases e
    · rename_i z es e
      obtain ⟨rfl, rfl⟩ := List.cons.inj e
      obtain ⟨w, ws, rfl, r1, r2⟩ := r.uncons
      split at h
      · rename_i ss' hs
        cases h
        unfold Rep at r1
        rw [r1, intsOf_ok r2 hs]; rfl
      · cases h
    · cases h
theorem blsOf_ok : ∀ {ds : List D} {vs : List V} {ss : List Bool}, Reps G m H ds vs → blsOf ds = some ss → vs = ss.map V.bl
  | [], vs, ss, r, h => by unfold blsOf at h; cases h; exact r.isnil
  | d :: ds, vs, ss, r, h => by
    unfold blsOf at h
    split at h
    · rename_i e; cases e
    · rename_i z es e
      obtain ⟨rfl, rfl⟩ := List.cons.inj e
      obtain ⟨w, ws, rfl, r1, r2⟩ := r.uncons
      split at h
      · rename_i ss' hs
        cases h
        unfold Rep at r1
        rw [r1, blsOf_ok r2 hs]; rfl
      · cases h
    · cases h
theorem joinL_cons (a s : List Nat) : ∀ ss : List (List Nat), joinL a (s :: ss) = s ++ ss.flatMap fun p => a ++ p := by
  intro ss
  induction ss generalizing s with
  | nil => simp [joinL]
  | cons t ss ih => rw [joinL, ih]; simp; intro z; cases z
theorem join_fold (a : List Nat) : ∀ (ss : List (List Nat)) (s : List Nat), (ss.map toS).foldl (fun acc p => acc ++ (toS a).cps ++ p.cps) s.toArray = (s ++ ss.flatMap fun p => a ++ p).toArray := by
  intro ss
  induction ss with
  | nil => intro s; simp
  | cons t ss ih =>
    intro s
    rw [List.map_cons, List.foldl_cons]
    have e : s.toArray ++ (toS a).cps ++ (toS t).cps = (s ++ a ++ t).toArray := by simp [toS]
    rw [e, ih]
    simp
theorem join_ok (a : List Nat) : ∀ ss : List (List Nat), Txt.join (toS a) (ss.map toS) = toS (joinL a ss)
  | [] => rfl
  | s :: ss => by
    show (⟨((s :: ss).map toS |>.drop 1).foldl (fun acc p => acc ++ (toS a).cps ++ p.cps) ((((s :: ss).map toS)).headD Str.empty).cps⟩ : Str) = _
    rw [List.map_cons, List.drop_one, List.tail_cons, List.headD_cons]
    rw [joinL_cons]
    show (⟨(ss.map toS).foldl (fun acc p => acc ++ (toS a).cps ++ p.cps) s.toArray⟩ : Str) = _
    rw [join_fold]
theorem m_join (hK : X.K = G.K) : MtR X "str.join" (fun x xs H Q => rM G mJoin (x :: xs) H Q) := by
  intro pins s σ H x xs v us Q I rx rxs ⟨ds, μ, m, r, μ', st, rr, hf, k⟩
  unfold mJoin at hf
  split at hf
  · rename_i a d
    split at hf
    · rename_i es hes
      split at hf
      · rename_i ss hss
        split at hf
        · rename_i hc
          cases hf
          obtain ⟨w, ws, e1, r1, r2⟩ := rr.uncons
          obtain ⟨rfl, rfl⟩ := List.cons.inj e1
          obtain ⟨y, ys, rfl, r3, r4⟩ := r2.uncons
          have := r4.isnil
          subst this
          obtain ⟨p, zs, rfl, g1, g2⟩ := seqOf_ok st r3 hes
          have ez := strsOf_ok g2 hss
          subst ez
          unfold Rep at r1
          subst r1
          refine mt_join pins s σ H _ _ v us Q I rx rxs ⟨_, p, ss.map toS, rfl, rfl, by rw [hK]; exact g1, ?_, k _ H m (.refl _ _) st (by unfold Rep; rw [join_ok])⟩
          have e1 : (List.map (fun x => x.length) (ss.map toS)) = ss.map List.length := by
            rw [List.map_map]; congr 1
          rw [e1, List.length_map, toS_len]
          exact Nat.le_trans hc (by decide)
        · cases hf
      · cases hf
    · cases hf
  · cases hf

/-! ### one sign looked for -/
theorem sub_one (s : List Nat) (c i : Nat) (hi : i + 1 ≤ s.length) : Builtin.Str.subAt (toS s) ⟨#[c]⟩ i = decide (s[i]? = some c) := by
  unfold Builtin.Str.subAt
  show ((toS s).cps.extract i (i + 1) == #[c]) = _
  have e : (toS s).cps.extract i (i + 1) = #[s[i]'(by omega)] := by
    apply Array.ext
    · simp [toS]; try omega
    · intro j h1 h2
      have : j = 0 := by simp at h2; omega
      subst this
      simp [toS]
  rw [e, List.getElem?_eq_getElem (by omega : i < s.length)]
  rw [Bool.eq_iff_iff, beq_iff_eq, decide_eq_true_iff]
  simp
theorem occ_one (s : List Nat) (c lim : Nat) (hl : s.length < lim) : ∀ (n a : Nat) (arr : Array Nat) (free : Nat), free ≤ a → arr.size ≤ a → a + n = s.length + 1 →
    (forIn (List.range' a n) (arr, free) (StrLaws.occBody (toS s) ⟨#[c]⟩ (toS s).length lim)).run.fst.toList = arr.toList ++ (List.range' a n).filter fun i => decide (s[i]? = some c) := by
  intro n
  induction n with
  | zero => intro a arr free _ _ _; simp
  | succ n ih =>
    intro a arr free h1 h2 h3
    rw [List.range'_succ, List.forIn_cons, List.filter_cons]
    have hlen : (toS s).length = s.length := toS_len s
    have hl1 : ({ cps := #[c] } : Str).length = 1 := rfl
    by_cases ha : a + 1 ≤ s.length
    · have hs := sub_one s c a ha
      by_cases hq : s[a]? = some c
      · have hb : StrLaws.occBody (toS s) ⟨#[c]⟩ (toS s).length lim a (arr, free) = pure (ForInStep.yield (arr.push a, a + 1)) := by
          unfold StrLaws.occBody
          rw [if_pos ⟨⟨⟨by show arr.size < lim; omega, by show free ≤ a; exact h1⟩, by rw [hlen, hl1]; exact ha⟩, by rw [hs]; exact decide_eq_true hq⟩]
          rfl
        rw [hb]
        simp only [pure_bind]
        rw [ih (a + 1) (arr.push a) (a + 1) (Nat.le_refl _) (by simp; omega) (by omega), if_pos (decide_eq_true hq)]
        simp
      · have hb : StrLaws.occBody (toS s) ⟨#[c]⟩ (toS s).length lim a (arr, free) = pure (ForInStep.yield (arr, free)) := by
          unfold StrLaws.occBody
          rw [if_neg (fun z => hq (by have := z.2; rw [hs] at this; exact of_decide_eq_true this))]
        rw [hb]
        simp only [pure_bind]
        rw [ih (a + 1) arr free (by omega) (by omega) (by omega), if_neg (by simpa using hq)]
    · have hb : StrLaws.occBody (toS s) ⟨#[c]⟩ (toS s).length lim a (arr, free) = pure (ForInStep.yield (arr, free)) := by
        unfold StrLaws.occBody
        rw [if_neg (fun z => ha (by have := z.1.2; rw [hlen, hl1] at this; exact this))]
      rw [hb]
      simp only [pure_bind]
      have hn : s[a]? = none := List.getElem?_eq_none_iff.mpr (by omega)
      rw [ih (a + 1) arr free (by omega) (by omega) (by omega), if_neg (by rw [hn]; simp)]
theorem count_idx (c : Nat) : ∀ (s : List Nat) (b : Nat), ((List.range' b (s.length + 1)).filter fun i => decide (s[i - b]? = some c)).length = s.count c := by
  intro s
  induction s with
  | nil => intro b; simp [List.range'_succ]
  | cons d s ih =>
    intro b
    rw [List.length_cons, List.range'_succ, List.filter_cons]
    have e : ((List.range' (b + 1) (s.length + 1)).filter fun i => decide ((d :: s)[i - b]? = some c)) = (List.range' (b + 1) (s.length + 1)).filter fun i => decide (s[i - (b + 1)]? = some c) := by
      apply List.filter_congr
      intro i hi
      have h1 : b + 1 ≤ i := (List.mem_range'_1.mp hi).1
      have e1 : i - b = (i - (b + 1)) + 1 := by omega
      rw [e1, List.getElem?_cons_succ]
    rw [Nat.sub_self]
    simp only [List.getElem?_cons_zero]
    rw [e]
    by_cases hd : d = c
    · subst hd
      rw [if_pos (decide_eq_true rfl), List.length_cons, ih, List.count_cons_self]
    · rw [if_neg (by simpa using hd), ih, List.count_cons_of_ne (by simpa using hd)]
theorem count_ok (s : List Nat) (c : Nat) : Txt.count (toS s) ⟨#[c]⟩ = (s.count c : Nat) := by
  unfold Txt.count
  rw [StrLaws.occ_eq]
  have h := occ_one s c ((toS s).length + 1) (by rw [toS_len]; omega) (s.length + 1) 0 #[] 0 (Nat.le_refl _) (Nat.le_refl _) (by omega)
  rw [toS_len] at h ⊢
  rw [Nat.sub_zero, h]
  have := count_idx c s 0
  simp only [Nat.sub_zero] at this
  simp [this]
theorem m_count : MtR X "str.count" (fun x xs H Q => rM G mCount (x :: xs) H Q) := by
  intro pins s σ H x xs v us Q I rx rxs ⟨ds, μ, m, r, μ', st, rr, hf, k⟩
  unfold mCount at hf
  split at hf
  · cases hf
    obtain ⟨w, ws, e1, r1, r2⟩ := rr.uncons
    obtain ⟨rfl, rfl⟩ := List.cons.inj e1
    obtain ⟨y, ys, rfl, r3, r4⟩ := r2.uncons
    have := r4.isnil
    subst this
    unfold Rep at r1 r3
    subst r1 r3
    exact mt_count pins s σ H _ _ v us Q I rx rxs ⟨_, _, rfl, rfl, k _ H m (.refl _ _) st (by unfold Rep; exact congrArg V.int (count_ok _ _))⟩
  · cases hf
theorem idx_first (c : Nat) : ∀ (s : List Nat) (i : Nat), s[i]? = some c → (∀ k, k < i → s[k]? ≠ some c) → s.idxOf c = i := by
  intro s
  induction s with
  | nil => intro i h; simp at h
  | cons d s ih =>
    intro i h hn
    rw [List.idxOf_cons]
    by_cases hd : d = c
    · subst hd
      cases i with
      | zero => simp
      | succ i => exact absurd (by simp) (hn 0 (by omega))
    · cases i with
      | zero => simp at h; exact absurd h hd
      | succ i =>
        have := ih i (by simpa using h) fun k hk => by
          have := hn (k + 1) (by omega)
          simpa using this
        have hb : (d == c) = false := beq_eq_false_iff_ne.mpr hd
        rw [hb, this]; rfl
theorem index_ok (s : List Nat) (c : Nat) (h : c ∈ s) : ∃ r, Builtin.Str.occurrences (toS s) ⟨#[c]⟩ 0 (toS s).length 1 = s.idxOf c :: r := by
  have at_iff : ∀ i, StrLaws.At (toS s) ⟨#[c]⟩ (toS s).length i ↔ s[i]? = some c := fun i => by
    unfold StrLaws.At
    rw [toS_len]
    constructor
    · intro ⟨h1, h2⟩
      have h1 : i + 1 ≤ s.length := h1
      rw [sub_one s c i h1] at h2
      exact of_decide_eq_true h2
    · intro h
      have hi : i + 1 ≤ s.length := (List.getElem?_eq_some_iff.mp h).1
      exact ⟨hi, by rw [sub_one s c i hi]; exact decide_eq_true h⟩
  rcases StrLaws.occ_head (toS s) ⟨#[c]⟩ 1 (Nat.le_refl _) with ⟨_, hn⟩ | ⟨i, r, e, ha, hn⟩
  · obtain ⟨i, hi⟩ := List.mem_iff_getElem?.mp h
    exact absurd ((at_iff i).mpr hi) (hn i)
  · refine ⟨r, ?_⟩
    rw [e, idx_first c s i ((at_iff i).mp ha) fun k hk z => hn k hk ((at_iff k).mpr z)]
theorem m_index : MtR X "str.index" (fun x xs H Q => rM G mIndex (x :: xs) H Q) := by
  intro pins s σ H x xs v us Q I rx rxs ⟨ds, μ, m, r, μ', st, rr, hf, k⟩
  unfold mIndex at hf
  split at hf
  · split at hf
    · rename_i hc
      cases hf
      obtain ⟨w, ws, e1, r1, r2⟩ := rr.uncons
      obtain ⟨rfl, rfl⟩ := List.cons.inj e1
      obtain ⟨y, ys, rfl, r3, r4⟩ := r2.uncons
      have := r4.isnil
      subst this
      unfold Rep at r1 r3
      subst r1 r3
      obtain ⟨rest, e⟩ := index_ok _ _ hc
      exact mt_sindex pins s σ H _ _ v us Q I rx rxs ⟨_, _, _, rest, rfl, rfl, e, k _ H m (.refl _ _) st (by unfold Rep; rfl)⟩
    · cases hf
  · cases hf
theorem m_lcount (hK : X.K = G.K) : MtR X "list.count" (fun x xs H Q => rM G mLcount (x :: xs) H Q) := by
  intro pins s σ H x xs v us Q I rx rxs ⟨ds, μ, m, r, μ', st, rr, hf, k⟩
  unfold mLcount at hf
  split at hf
  · split at hf
    · rename_i es hes
      split at hf
      · rename_i ns hns
        cases hf
        obtain ⟨w, ws, e1, r1, r2⟩ := rr.uncons
        obtain ⟨rfl, rfl⟩ := List.cons.inj e1
        obtain ⟨y, ys, rfl, r3, r4⟩ := r2.uncons
        have := r4.isnil
        subst this
        obtain ⟨p, zs, rfl, g1, g2⟩ := asL_ok st r1 hes
        have ez := intsOf_ok g2 hns
        subst ez
        unfold Rep at r3
        subst r3
        exact mt_lcount pins s σ H _ _ v us Q I rx rxs ⟨p, ns, _, rfl, rfl, .inl g1, k _ H m (.refl _ _) st (by unfold Rep; rfl)⟩
      · cases hf
    · cases hf
  · cases hf
end
end Ev

namespace Ev
open PySem PySem.Spec L2 Res

/-! ## builtins -/
def lenD (μ : Store) : D → Option Nat
  | .str s => if s.length ≤ cap then some s.length else none
  | .tup ds => some ds.length
  | .scr ds => some ds.length
  | d => match asL μ d with
    | some ds => some ds.length
    | none => none
def fLen (μ : Store) : List D → Option D
  | [d] => match lenD μ d with
    | some n => some (.int (n : Nat))
    | none => none
  | _ => none
def fAbs (_ : Store) : List D → Option D
  | [.int i] => some (.int (if i < 0 then -i else i))
  | _ => none
def maxI : List Int → Option Int
  | [] => none
  | [i] => some i
  | i :: is => match maxI is with
    | some j => some (if i < j then j else i)
    | none => none
def minI : List Int → Option Int
  | [] => none
  | [i] => some i
  | i :: is => match minI is with
    | some j => some (if j < i then j else i)
    | none => none
def fMax (μ : Store) : List D → Option D
  | [.int i, .int j] => some (.int (if j > i then j else i))
  | [d] => match asL μ d with
    | some ds => match intsOf ds with
      | some ns => (maxI ns).map .int
      | none => none
    | none => none
  | _ => none
def fMin (μ : Store) : List D → Option D
  | [.int i, .int j] => some (.int (if j < i then j else i))
  | [d] => match asL μ d with
    | some ds => match intsOf ds with
      | some ns => (minI ns).map .int
      | none => none
    | none => none
  | _ => none
def fInt (_ : Store) : List D → Option D
  | [.int i] => some (.int i)
  | [.bl b] => some (.int (if b then 1 else 0))
  | _ => none
def fDivmod (_ : Store) : List D → Option D
  | [.int i, .int j] => if 0 < j ∧ j < 1073741824 then some (.tup [.int (i / j), .int (i % j)]) else if 0 < j ∧ j.natAbs.log2 < 9000 then some (.tup [.int (i / j), .int (i % j)]) else none
  | _ => none
def fSum (μ : Store) : List D → Option D
  | [d] => match asL μ d with
    | some ds => match intsOf ds with
      | some ns => some (.int ns.sum)
      | none => none
    | none => none
  | _ => none
def fAny (μ : Store) : List D → Option D
  | [d] => match asL μ d with
    | some ds => match blsOf ds with
      | some ns => some (.bl (ns.any id))
      | none => none
    | none => none
  | _ => none
def fAll (μ : Store) : List D → Option D
  | [d] => match asL μ d with
    | some ds => match blsOf ds with
      | some ns => some (.bl (ns.all id))
      | none => none
    | none => none
  | _ => none
def fList (μ : Store) : List D → Option D
  | [d] => match seqOf μ d with
    | some ds => some (.lst ds)
    | none => none
  | _ => none
def fTuple (μ : Store) : List D → Option D
  | [d] => match seqOf μ d with
    | some ds => some (.tup ds)
    | none => none
  | _ => none
def insI (i : Int) : List Int → List Int
  | [] => [i]
  | j :: js => if i ≤ j then i :: j :: js else j :: insI i js
def sortI : List Int → List Int
  | [] => []
  | i :: is => insI i (sortI is)
def fSorted (μ : Store) : List D → Option D
  | [d] => match asL μ d with
    | some ds => match intsOf ds with
      | some ns => some (.lst ((sortI ns).map .int))
      | none => none
    | none => none
  | _ => none
def tyN : D → Option String
  | .non => some "NoneType"
  | .bl _ => some "bool"
  | .int _ => some "int"
  | .str _ => some "str"
  | .tup _ => some "tuple"
  | .lst _ => some "list"
  | _ => none
def isiT (a b : String) : Option Bool := if ["NoneType", "bool", "int", "str", "tuple", "list"].contains a && ["bool", "int", "str", "tuple", "list"].contains b then some (a == b || (a == "bool" && b == "int")) else none
def fIsi (μ : Store) : List D → Option D
  | [d, .ty n] => match tyN (rd μ d) with
    | some a => (isiT a n).map .bl
    | none => none
  | _ => none
theorem maxI_mem : ∀ {ns : List Int} {k : Int}, maxI ns = some k → k ∈ ns ∧ ∀ y ∈ ns, y ≤ k
  | [], _, h => by cases h
  | [i], k, h => by
    simp [maxI] at h; subst h; simp
  | i :: j :: is, k, h => by
    rw [maxI] at h
    · cases q : maxI (j :: is) with
      | none => rw [q] at h; cases h
      | some l =>
        rw [q] at h
        obtain ⟨h1, h2⟩ := maxI_mem q
        have e : (if i < l then l else i) = k := Option.some.inj h
        by_cases hl : i < l
        · rw [if_pos hl] at e; subst e
          exact ⟨List.mem_cons_of_mem _ h1, fun y hy => by
            rcases List.mem_cons.mp hy with z | z
            · omega
            · exact h2 y z⟩
        · rw [if_neg hl] at e; subst e
          exact ⟨List.mem_cons_self, fun y hy => by
            rcases List.mem_cons.mp hy with z | z
            · omega
            · have := h2 y z; omega⟩
    · intro z; cases z
theorem minI_mem : ∀ {ns : List Int} {k : Int}, minI ns = some k → k ∈ ns ∧ ∀ y ∈ ns, k ≤ y
  | [], _, h => by cases h
  | [i], k, h => by
    simp [minI] at h; subst h; simp
  | i :: j :: is, k, h => by
    rw [minI] at h
    · cases q : minI (j :: is) with
      | none => rw [q] at h; cases h
      | some l =>
        rw [q] at h
        obtain ⟨h1, h2⟩ := minI_mem q
        have e : (if l < i then l else i) = k := Option.some.inj h
        by_cases hl : l < i
        · rw [if_pos hl] at e; subst e
          exact ⟨List.mem_cons_of_mem _ h1, fun y hy => by
            rcases List.mem_cons.mp hy with z | z
            · omega
            · exact h2 y z⟩
        · rw [if_neg hl] at e; subst e
          exact ⟨List.mem_cons_self, fun y hy => by
            rcases List.mem_cons.mp hy with z | z
            · omega
            · have := h2 y z; omega⟩
    · intro z; cases z
theorem insI_perm (i : Int) : ∀ js : List Int, (insI i js).Perm (i :: js)
  | [] => .refl _
  | j :: js => by
    unfold insI
    split
    · exact .refl _
    · exact ((insI_perm i js).cons j).trans (.swap i j js)
theorem sortI_perm : ∀ is : List Int, (sortI is).Perm is
  | [] => .refl _
  | i :: is => (insI_perm i _).trans ((sortI_perm is).cons i)
theorem insI_pair (i : Int) : ∀ js : List Int, js.Pairwise (· ≤ ·) → (insI i js).Pairwise (· ≤ ·)
  | [], _ => by unfold insI; simp
  | j :: js, h => by
    unfold insI
    obtain ⟨h1, h2⟩ := List.pairwise_cons.mp h
    split
    · rename_i hl
      refine List.pairwise_cons.mpr ⟨fun y hy => ?_, h⟩
      rcases List.mem_cons.mp hy with z | z
      · omega
      · have := h1 y z; omega
    · rename_i hl
      refine List.pairwise_cons.mpr ⟨fun y hy => ?_, insI_pair i js h2⟩
      rcases List.mem_cons.mp ((insI_perm i js).mem_iff.mp hy) with z | z
      · omega
      · exact h1 y z
theorem sortI_pair : ∀ is : List Int, (sortI is).Pairwise (· ≤ ·)
  | [] => by unfold sortI; simp
  | i :: is => insI_pair i _ (sortI_pair is)
theorem sortI_eq {as bs : List Int} (hp : as.Perm bs) (h1 : as.Pairwise (· ≤ ·)) (h2 : bs.Pairwise (· ≤ ·)) : as = bs :=
  List.Perm.eq_of_pairwise (fun a b _ _ h h' => Int.le_antisymm h h') h1 h2 hp

section
variable {G : GC} {X : Cx} {μ : Store} {m : AM} {H : Hp}
theorem b_len (hK : X.K = G.K) : CallR X (.builtin "len") (rN G fLen) := by
  intro pins s σ H xs us Q I rx ⟨ds, μ, m, r, st, rr, hf, k⟩
  unfold fLen at hf
  split at hf
  · rename_i d
    split at hf
    · rename_i n hn
      cases hf
      obtain ⟨v, rfl, rv⟩ := reps1 rr
      refine call_len pins s σ H _ us Q I rx ⟨v, n, rfl, ?_, k _ H (.refl _ _) st (by unfold Rep; rfl)⟩
      unfold lenD at hn
      split at hn
      · split at hn
        · rename_i hl
          cases hn
          unfold Rep at rv
          subst rv
          exact ⟨by rw [toS_len]; exact cap_size hl, (toS_len _).symm⟩
        · cases hn
      · cases hn
        unfold Rep at rv
        obtain ⟨a, xs, rfl, h1, q⟩ := rv
        exact .inr ⟨xs, by rw [hK]; exact h1, q.length⟩
      · cases hn
        obtain ⟨a, rfl, h1⟩ := scr_ok rv
        exact .inl ⟨_, by rw [hK]; exact h1, by rw [List.length_map]⟩
      · split at hn
        · rename_i es he
          cases hn
          obtain ⟨a, xs, rfl, h1, q⟩ := asL_ok st rv he
          exact .inl ⟨xs, .inl h1, q.length⟩
        · cases hn
    · cases hf
  · cases hf
theorem b_abs : CallR X (.builtin "abs") (rN G fAbs) := by
  intro pins s σ H xs us Q I rx ⟨ds, μ, m, r, st, rr, hf, k⟩
  unfold fAbs at hf
  split at hf
  · cases hf
    obtain ⟨v, rfl, rv⟩ := reps1 rr
    unfold Rep at rv
    subst rv
    exact call_abs pins s σ H _ us Q I rx ⟨_, rfl, k _ H (.refl _ _) st (by unfold Rep; rfl)⟩
  · cases hf
theorem b_max (hc : X.calm = true) : CallR X (.builtin "max") (rN G fMax) := by
  intro pins s σ H xs us Q I rx ⟨ds, μ, m, r, st, rr, hf, k⟩
  unfold fMax at hf
  split at hf
  · cases hf
    obtain ⟨v, w, rfl, rv, rw'⟩ := reps2 rr
    unfold Rep at rv rw'
    subst rv rw'
    exact call_max2 hc pins s σ H _ us Q I rx ⟨_, _, rfl, k _ H (.refl _ _) st (by unfold Rep; rfl)⟩
  · split at hf
    · rename_i es he
      split at hf
      · rename_i ns hn
        obtain ⟨v, rfl, rv⟩ := reps1 rr
        obtain ⟨a, zs, rfl, g1, g2⟩ := asL_ok st rv he
        have ez := intsOf_ok g2 hn
        subst ez
        cases hm : maxI ns with
        | none => rw [hm] at hf; cases hf
        | some mx =>
          rw [hm] at hf
          cases hf
          obtain ⟨q1, q2⟩ := maxI_mem hm
          refine cr_max hc pins s σ H _ us Q I rx ⟨a, ns, rfl, .inl g1, List.length_pos_of_mem q1, fun y hy hle => ?_⟩
          have : y = mx := Int.le_antisymm (q2 y hy) (hle mx q1)
          rw [this]
          exact k _ H (.refl _ _) st (by unfold Rep; rfl)
      · cases hf
    · cases hf
  · cases hf
theorem b_min (hc : X.calm = true) : CallR X (.builtin "min") (rN G fMin) := by
  intro pins s σ H xs us Q I rx ⟨ds, μ, m, r, st, rr, hf, k⟩
  unfold fMin at hf
  split at hf
  · cases hf
    obtain ⟨v, w, rfl, rv, rw'⟩ := reps2 rr
    unfold Rep at rv rw'
    subst rv rw'
    exact call_min2 hc pins s σ H _ us Q I rx ⟨_, _, rfl, k _ H (.refl _ _) st (by unfold Rep; rfl)⟩
  · split at hf
    · rename_i es he
      split at hf
      · rename_i ns hn
        obtain ⟨v, rfl, rv⟩ := reps1 rr
        obtain ⟨a, zs, rfl, g1, g2⟩ := asL_ok st rv he
        have ez := intsOf_ok g2 hn
        subst ez
        cases hm : minI ns with
        | none => rw [hm] at hf; cases hf
        | some mx =>
          rw [hm] at hf
          cases hf
          obtain ⟨q1, q2⟩ := minI_mem hm
          refine cr_min hc pins s σ H _ us Q I rx ⟨a, ns, rfl, .inl g1, List.length_pos_of_mem q1, fun y hy hle => ?_⟩
          have : y = mx := Int.le_antisymm (hle mx q1) (q2 y hy)
          rw [this]
          exact k _ H (.refl _ _) st (by unfold Rep; rfl)
      · cases hf
    · cases hf
  · cases hf
theorem b_int : CallR X (.type "int") (rN G fInt) := by
  intro pins s σ H xs us Q I rx ⟨ds, μ, m, r, st, rr, hf, k⟩
  unfold fInt at hf
  split at hf
  · cases hf
    obtain ⟨v, rfl, rv⟩ := reps1 rr
    unfold Rep at rv
    subst rv
    exact call_int1 pins s σ H _ us Q I rx (.inl ⟨_, rfl, k _ H (.refl _ _) st (by unfold Rep; rfl)⟩)
  · cases hf
    obtain ⟨v, rfl, rv⟩ := reps1 rr
    unfold Rep at rv
    subst rv
    exact call_int1 pins s σ H _ us Q I rx (.inr ⟨_, rfl, k _ H (.refl _ _) st (by unfold Rep; rfl)⟩)
  · cases hf
theorem b_divmod : CallR X (.builtin "divmod") (rN G fDivmod) := by
  intro pins s σ H xs us Q I rx ⟨ds, μ, m, r, st, rr, hf, k⟩
  unfold fDivmod at hf
  split at hf
  · split at hf
    · rename_i hc
      cases hf
      obtain ⟨v, w, rfl, rv, rw'⟩ := reps2 rr
      unfold Rep at rv rw'
      subst rv rw'
      exact call_divmod pins s σ H _ us Q I rx ⟨_, _, rfl, hc, fun p np => k _ _ (st_new st np).1 (st_new st np).2 (rep_newT st np (.cons (by unfold Rep; rfl) (.cons (by unfold Rep; rfl) .nil)))⟩
    · split at hf
      · rename_i hc
        cases hf
        obtain ⟨v, w, rfl, rv, rw'⟩ := reps2 rr
        unfold Rep at rv rw'
        subst rv rw'
        exact call_divmodW pins s σ H _ us Q I rx ⟨_, _, rfl, ⟨hc.1, PyProof.noPylong_of_log2 hc.2⟩, fun p np => k _ _ (st_new st np).1 (st_new st np).2 (rep_newT st np (.cons (by unfold Rep; rfl) (.cons (by unfold Rep; rfl) .nil)))⟩
      · cases hf
  · cases hf
theorem b_sum (hc : X.calm = true) : CallR X (.builtin "sum") (rN G fSum) := by
  intro pins s σ H xs us Q I rx ⟨ds, μ, m, r, st, rr, hf, k⟩
  unfold fSum at hf
  split at hf
  · split at hf
    · rename_i es he
      split at hf
      · rename_i ns hn
        cases hf
        obtain ⟨v, rfl, rv⟩ := reps1 rr
        obtain ⟨a, zs, rfl, g1, g2⟩ := asL_ok st rv he
        have ez := intsOf_ok g2 hn
        subst ez
        exact cr_sum hc pins s σ H _ us Q I rx ⟨a, ns, rfl, .inl g1, k _ H (.refl _ _) st (by unfold Rep; rfl)⟩
      · cases hf
    · cases hf
  · cases hf
theorem b_any (hc : X.calm = true) : CallR X (.builtin "any") (rN G fAny) := by
  intro pins s σ H xs us Q I rx ⟨ds, μ, m, r, st, rr, hf, k⟩
  unfold fAny at hf
  split at hf
  · split at hf
    · rename_i es he
      split at hf
      · rename_i ns hn
        cases hf
        obtain ⟨v, rfl, rv⟩ := reps1 rr
        obtain ⟨a, zs, rfl, g1, g2⟩ := asL_ok st rv he
        have ez := blsOf_ok g2 hn
        subst ez
        exact cr_any hc pins s σ H _ us Q I rx ⟨a, ns, rfl, .inl g1, k _ H (.refl _ _) st (by unfold Rep; rfl)⟩
      · cases hf
    · cases hf
  · cases hf
theorem b_all (hc : X.calm = true) : CallR X (.builtin "all") (rN G fAll) := by
  intro pins s σ H xs us Q I rx ⟨ds, μ, m, r, st, rr, hf, k⟩
  unfold fAll at hf
  split at hf
  · split at hf
    · rename_i es he
      split at hf
      · rename_i ns hn
        cases hf
        obtain ⟨v, rfl, rv⟩ := reps1 rr
        obtain ⟨a, zs, rfl, g1, g2⟩ := asL_ok st rv he
        have ez := blsOf_ok g2 hn
        subst ez
        exact cr_all hc pins s σ H _ us Q I rx ⟨a, ns, rfl, .inl g1, k _ H (.refl _ _) st (by unfold Rep; rfl)⟩
      · cases hf
    · cases hf
  · cases hf
theorem b_sorted : CallR X (.builtin "sorted") (rN G fSorted) := by
  intro pins s σ H xs us Q I rx ⟨ds, μ, m, r, st, rr, hf, k⟩
  unfold fSorted at hf
  split at hf
  · split at hf
    · rename_i es he
      split at hf
      · rename_i ns hn
        cases hf
        obtain ⟨v, rfl, rv⟩ := reps1 rr
        obtain ⟨a, zs, rfl, g1, g2⟩ := asL_ok st rv he
        have ez := intsOf_ok g2 hn
        subst ez
        refine cr_sortedI pins s σ H _ us Q I rx ⟨a, ns, rfl, .inl g1, fun ns' p h1 h2 np => ?_⟩
        have : ns' = sortI ns := sortI_eq (h1.trans (sortI_perm ns).symm) h2 (sortI_pair ns)
        subst this
        exact k _ _ (st_new st np).1 (st_new st np).2 (rep_new st np (reps_ints _))
      · cases hf
    · cases hf
  · cases hf
theorem b_list (hK : X.K = G.K) : CallR X (.type "list") (rN G fList) := by
  intro pins s σ H xs us Q I rx ⟨ds, μ, m, r, st, rr, hf, k⟩
  unfold fList at hf
  split at hf
  · split at hf
    · rename_i es he
      cases hf
      obtain ⟨v, rfl, rv⟩ := reps1 rr
      obtain ⟨a, zs, rfl, g1, g2⟩ := seqOf_ok st rv he
      exact call_list_of pins s σ H _ us Q I rx ⟨a, zs, rfl, by rw [hK]; exact g1, fun p np => k _ _ (st_new st np).1 (st_new st np).2 (rep_new st np g2)⟩
    · cases hf
  · cases hf
theorem b_tuple (hK : X.K = G.K) : CallR X (.type "tuple") (rN G fTuple) := by
  intro pins s σ H xs us Q I rx ⟨ds, μ, m, r, st, rr, hf, k⟩
  unfold fTuple at hf
  split at hf
  · split at hf
    · rename_i es he
      cases hf
      obtain ⟨v, rfl, rv⟩ := reps1 rr
      obtain ⟨a, zs, rfl, g1, g2⟩ := seqOf_ok st rv he
      rcases g1 with g1 | g1
      · exact call_tuple_of pins s σ H _ us Q I rx ⟨a, zs, rfl, .inl ⟨by rw [hK]; exact g1, fun p np => k _ _ (st_new st np).1 (st_new st np).2 (rep_newT st np g2)⟩⟩
      · exact call_tuple_of pins s σ H _ us Q I rx ⟨a, zs, rfl, .inr ⟨by rw [hK]; exact g1, k _ H (.refl _ _) st (by unfold Rep; exact ⟨a, zs, rfl, g1, g2⟩)⟩⟩
    · cases hf
  · cases hf
theorem isiT_kit {a b : String} {t : Bool} (h : isiT a b = some t) : kitB a b = some t := by
  unfold isiT at h
  split at h
  · rename_i hc
    obtain ⟨c1, c2⟩ := Bool.and_eq_true_iff.mp hc
    cases h
    have all : (["NoneType", "bool", "int", "str", "tuple", "list"].all fun a => ["bool", "int", "str", "tuple", "list"].all fun b => kitB a b == some (a == b || (a == "bool" && b == "int"))) = true := by decide +kernel
    have h1 := List.all_eq_true.mp all a (by simpa using c1)
    have h2 := List.all_eq_true.mp h1 b (by simpa using c2)
    exact eq_of_beq h2
  · cases h
theorem tyN_ok {d : D} {v : V} {a : String} (st : StOk G μ m H) (r : Rep G m H d v) (h : tyN (rd μ d) = some a) : TyX G.K H v (.type a) := by
  unfold rd at h
  cases q : asL μ d with
  | some ds =>
    rw [q] at h
    cases h
    obtain ⟨p, xs, rfl, g1, g2⟩ := asL_ok st r q
    rcases g1 with g1 | ⟨o, g1⟩
    · exact .base (.lst g1)
    · exact .base (.frz g1)
  | none =>
    rw [q] at h
    cases d with
    | non => cases h; unfold Rep at r; subst r; exact .base .non
    | bl b => cases h; unfold Rep at r; subst r; exact .base (.bl b)
    | int b => cases h; unfold Rep at r; subst r; exact .base (.int b)
    | str b => cases h; unfold Rep at r; subst r; exact .base (.str _)
    | tup ds =>
      cases h
      unfold Rep at r
      obtain ⟨p, xs, rfl, g1, g2⟩ := r
      rcases g1 with (g1 | ⟨o, g1⟩) | ⟨o, its, n, g1, g2, _⟩
      · exact .base (.tup g1)
      · exact .fTuple g1
      · exact .kTuple g1 g2
    | lst ds => simp [asL] at q
    | _ => cases h
theorem b_isi (hK : X.K = G.K) : CallR X (.builtin "isinstance") (rN G fIsi) := by
  intro pins s σ H xs us Q I rx ⟨ds, μ, m, r, st, rr, hf, k⟩
  unfold fIsi at hf
  split at hf
  · rename_i d n
    split at hf
    · rename_i a ha
      cases hi : isiT a n with
      | none => rw [hi] at hf; cases hf
      | some t =>
        rw [hi] at hf
        cases hf
        obtain ⟨v, w, rfl, rv, rw'⟩ := reps2 rr
        unfold Rep at rw'
        subst rw'
        exact call_isi pins s σ H _ us Q I rx ⟨v, _, _, _, t, rfl, .ty n, by rw [hK]; exact tyN_ok st rv ha, kit_ty (isiT_kit hi), k _ H (.refl _ _) st (by unfold Rep; rfl)⟩
    · cases hf
  · cases hf
end
end Ev

namespace Ev
open PySem PySem.Spec L2 Res PyProof.Rows
/-! ## sorted(text) -/
theorem obj_some {P : Program} {w : World} {H : Hp} {h : Heap} {a : Addr} {o : HO} (x : ObjOk P w H h a o) : ∃ u, h.get? a = some u := by
  cases o with
  | lst xs => obtain ⟨_, _, _, _, e⟩ := x; exact ⟨_, e⟩
  | tup xs => obtain ⟨_, _, _, o, e, _⟩ := x; exact ⟨_, e⟩
  | dK kvs => obtain ⟨_, _, _, _, o, _, _, e, _⟩ := x; exact ⟨_, e⟩
  | dT kvs => obtain ⟨_, _, _, _, o, _, _, e, _⟩ := x; exact ⟨_, e⟩
  | set S n => obtain ⟨o, _, _, _, e, _⟩ := x; exact ⟨_, e⟩
  | ins C dx fs => obtain ⟨_, _, _, e, _⟩ := x; exact ⟨_, e⟩
  | own y => obtain ⟨_, e⟩ := x; exact ⟨_, e⟩
  | xd fs => obtain ⟨_, ⟨_, _, _, e, _⟩, _⟩ := x; exact ⟨_, e⟩
  | rng lo hi => obtain ⟨_, _, _, e⟩ := x; exact ⟨_, e⟩
  | frz ob u => obtain ⟨e, _⟩ := x; exact ⟨_, e⟩
  | tbl ps => exact ⟨_, (show h.get? a = some _ from x)⟩
  | met f y => exact ⟨_, (show h.get? a = some _ from x)⟩
  | ext φ => obtain ⟨_, ⟨_, e⟩, _⟩ := x; exact ⟨_, e⟩
theorem hok_none {P : Program} {w : World} {H : Hp} {h : Heap} {a : Addr} (x : HOk P w H h) (e : h.get? a = none) : H a = none := by
  cases q : H a with
  | none => rfl
  | some u =>
    obtain ⟨o, z⟩ := obj_some (x a u q)
    rw [e] at z; cases z
theorem strs_of_items : ∀ {acc : List Value} {s : List Nat}, acc.length = s.length → (∀ (j : Nat) (v : Value), acc[j]? = some v → ∃ c u, s[j]? = some c ∧ v = .str ⟨#[c]⟩ u) → StrsAre acc (s.map fun c => toS [c])
  | [], [], _, _ => .nil
  | [], _ :: _, h, _ => by simp at h
  | _ :: _, [], h, _ => by simp at h
  | v :: acc, c :: s, h, hi => by
    obtain ⟨c', u, h1, rfl⟩ := hi 0 v rfl
    have e : c = c' := by simpa using h1
    subst e
    exact .cons _ u (strs_of_items (by simpa using h) fun j w hj => by
      obtain ⟨c', u', h2, h3⟩ := hi (j + 1) w (by simpa using hj)
      exact ⟨c', u', by simpa using h2, h3⟩)
theorem sorted_text {P : Program} {w : World} {A : Around} {E : Value → Shared → Prop} {s : Shared} {Q : Value → Shared → Prop} (hh : A.handled = none) (z : List Nat) (t : Tok) (h64 : z.length < 64)
    (hQ : ∀ s' p (out : Array Value) (c : Nat) (ss : List Str), (∀ b o, s.heap.get? b = some o → s'.heap.get? b = some o) → s'.gens = s.gens → s'.os = s.os → s.heap.get? p = none →
      s'.heap.get? p = some (seqObj "list" out c) → StrsAre out.toList ss → ss.Perm (z.map fun c => toS [c]) → sortedS ss = true → Q (.ref p) s') :
    wpAny (model P w) A (call (.builtin "sorted") [.str (toS z) t]) Q E s := by
  have hz : (toS z).cps.size = z.length := by simp [toS]
  refine Calls.call_function_entry kind_sorted plain_sorted entry_sorted (args_sorted1 _) ?_
  unfold Builtin.«sorted»
  refine wpAny_bind (m := checkCount "sorted" 1 1 _) (wpAny_pure ?_)
  refine wpAny_bind (wpAny_collect_str (A := A.in1) hh (toS z) t (fun s1 acc k1 g1 _ o1 ia => ?_) (by rw [hz, sizeLine_eq]; omega))
  have hS : StrsAre acc.toList (z.map fun c => toS [c]) := strs_of_items (by rw [Array.length_toList, ia.1, hz]) fun j v hj => by
    obtain ⟨c, u, h1, h2⟩ := ia.2 j v (by simpa using hj)
    exact ⟨c, u, by simpa [toS] using h1, h2⟩
  have hl : acc.toList.length = z.length := by rw [Array.length_toList, ia.1, hz]
  refine wpAny_bind (wpAny_newList ?_ (by rw [hl, sizeLine_eq]; omega))
  have hoL : (s1.heap.push (seqObj "list" acc.toList.toArray 0)).get? s1.heap.objs.size = some (seqObj "list" acc.toList.toArray 0) := Heap.get?_push_size _ rfl
  refine wpAny_bind (wpAny_holding (wpAny_call_entry slot_list_sort ⟨_, hoL, rfl⟩ entry_list_sort
    (list_sort_treeK strKind_oneLt hoL hS.keysOf (fun v₁ v₂ rest e => keyKind_strs (by rw [← e]; exact hS)) (by rw [hl]; exact h64) fun st' a1 a2 => ⟨_, rfl, ?_⟩) (args_list_sort _)))
  obtain ⟨ss, b1, b2, b3⟩ := sorted_out_str hS a1 a2
  obtain ⟨c, hc⟩ := sortedHeap_at (vs := acc.toList) (out := (arrOf st').map (·.2)) hoL
  have hle : s.heap.get? s1.heap.objs.size = none := by
    cases q : s.heap.get? s1.heap.objs.size with
    | none => rfl
    | some o => exact absurd (Heap.lt_size (k1 _ _ q)) (Nat.lt_irrefl _)
  refine wpAny_pure ⟨_, rfl, hQ _ s1.heap.objs.size _ c ss (fun b u e => ?_) g1 o1 hle hc b1 b2 b3⟩
  have q := k1 b u e
  have hlt := Heap.lt_size q
  show (sortedHeap (s1.heap.push (seqObj "list" acc.toList.toArray 0)) s1.heap.objs.size acc.toList _).get? b = some u
  rw [sortedHeap_old (Nat.ne_of_lt hlt) (by rw [size_push']; exact Nat.lt_succ_of_lt hlt)]
  exact Heap.get?_push_of_some _ q
/-! ### as the evaluator has it -/
def insN (i : Nat) : List Nat → List Nat
  | [] => [i]
  | j :: js => if i ≤ j then i :: j :: js else j :: insN i js
def sortN : List Nat → List Nat
  | [] => []
  | i :: is => insN i (sortN is)
def fSort (μ : Store) : List D → Option D
  | [.str s] => if s.length < 64 then some (.lst ((sortN s).map fun c => .str [c])) else none
  | ds => fSorted μ ds
theorem insN_perm (i : Nat) : ∀ js : List Nat, (insN i js).Perm (i :: js)
  | [] => .refl _
  | j :: js => by
    unfold insN
    split
    · exact .refl _
    · exact ((insN_perm i js).cons j).trans (.swap i j js)
theorem sortN_perm : ∀ is : List Nat, (sortN is).Perm is
  | [] => .refl _
  | i :: is => (insN_perm i _).trans ((sortN_perm is).cons i)
theorem insN_pair (i : Nat) : ∀ js : List Nat, js.Pairwise (· ≤ ·) → (insN i js).Pairwise (· ≤ ·)
  | [], _ => by unfold insN; simp
  | j :: js, h => by
    unfold insN
    obtain ⟨h1, h2⟩ := List.pairwise_cons.mp h
    split
    · rename_i hl
      refine List.pairwise_cons.mpr ⟨fun y hy => ?_, h⟩
      rcases List.mem_cons.mp hy with z | z
      · omega
      · have := h1 y z; omega
    · rename_i hl
      refine List.pairwise_cons.mpr ⟨fun y hy => ?_, insN_pair i js h2⟩
      rcases List.mem_cons.mp ((insN_perm i js).mem_iff.mp hy) with z | z
      · omega
      · exact h1 y z
theorem sortN_pair : ∀ is : List Nat, (sortN is).Pairwise (· ≤ ·)
  | [] => by unfold sortN; simp
  | i :: is => insN_pair i _ (sortN_pair is)
theorem rising_pair : ∀ (p : Nat) (cs : List Nat), risingS (toS [p]) (cs.map fun c => toS [c]) = true → (p :: cs).Pairwise (· ≤ ·)
  | p, [], _ => by simp
  | p, c :: cs, h => by
    rw [List.map_cons, risingS] at h
    obtain ⟨h1, h2⟩ := Bool.and_eq_true_iff.mp h
    have ih := rising_pair c cs h2
    have hpc : p ≤ c := by
      have e : ltCps [c] [p] = false := by simpa [toS] using h1
      have : ¬ c < p := fun z => by simp [ltCps, z] at e
      omega
    refine List.pairwise_cons.mpr ⟨fun y hy => ?_, ih⟩
    rcases List.mem_cons.mp hy with z | z
    · rw [z]; exact hpc
    · exact Nat.le_trans hpc ((List.pairwise_cons.mp ih).1 y z)
theorem one_signs : ∀ (ss : List Str) (z : List Nat), ss.Perm (z.map fun c => toS [c]) → ∃ cs : List Nat, ss = cs.map (fun c => toS [c]) ∧ cs.Perm z := fun ss z h => by
  have hm : ∀ x ∈ ss, ∃ c, x = toS [c] := fun x hx => by
    obtain ⟨c, _, e⟩ := List.mem_map.mp (h.mem_iff.mp hx)
    exact ⟨c, e.symm⟩
  have hs : ss = (ss.map fun x => x.cps.toList.headD 0).map (fun c => toS [c]) := by
    rw [List.map_map]
    conv => lhs; rw [← List.map_id ss]
    apply List.map_congr_left
    intro x hx
    obtain ⟨c, rfl⟩ := hm x hx
    simp [toS]
  refine ⟨ss.map fun x => x.cps.toList.headD 0, hs, ?_⟩
  have := h.map fun x : Str => x.cps.toList.headD 0
  rw [List.map_map] at this
  have e : (z.map ((fun x : Str => x.cps.toList.headD 0) ∘ fun c => toS [c])) = z := by
    conv => rhs; rw [← List.map_id z]
    apply List.map_congr_left
    intro c _
    simp [toS]
  rw [e] at this
  exact this
theorem sorted_signs {ss : List Str} {z : List Nat} (h : ss.Perm (z.map fun c => toS [c])) (hs : sortedS ss = true) : ss = (sortN z).map fun c => toS [c] := by
  obtain ⟨cs, rfl, hp⟩ := one_signs ss z h
  have hpw : cs.Pairwise (· ≤ ·) := by
    cases cs with
    | nil => simp
    | cons c cs => exact rising_pair c cs hs
  have : cs = sortN z := List.Perm.eq_of_pairwise (fun a b _ _ h h' => Nat.le_antisymm h h') hpw (sortN_pair z) (hp.trans (sortN_perm z).symm)
  rw [this]
section
variable {G : GC} {X : Cx} {μ : Store} {m : AM} {H : Hp}
theorem reps_signs : ∀ cs : List Nat, Reps G m H (cs.map fun c => D.str [c]) (cs.map fun c => V.str (toS [c]))
  | [] => .nil
  | c :: cs => .cons (by unfold Rep; rfl) (reps_signs cs)
theorem vals_signs : ∀ {ss : List Str} {vs : List Value}, StrsAre vs ss → Vals (ss.map V.str) vs
  | [], _, .nil => .nil
  | _ :: _, _, .cons y t r => .cons ⟨t, rfl⟩ (vals_signs r)
theorem b_sort (hc : X.calm = true) : CallR X (.builtin "sorted") (rN G fSort) := by
  intro pins s σ H xs us Q I rx ⟨ds, μ, m, r, st, rr, hf, k⟩
  unfold fSort at hf
  split at hf
  · rename_i z
    split at hf
    · rename_i h64
      cases hf
      obtain ⟨v, rfl, rv⟩ := reps1 rr
      unfold Rep at rv
      subst rv
      obtain ⟨u, rfl, ru⟩ := rx.one
      obtain ⟨t, rfl⟩ := ru
      refine sorted_text (I.ok.hd hc) z t h64 fun s' p out c ss k1 g1 o1 hp ho hS hpm hso => ?_
      have e := sorted_signs hpm hso
      subst e
      have np : H p = none := hok_none I.hok hp
      have rn := rep_new (p := p) st np (reps_signs (sortN z))
      have e2 : ((sortN z).map fun c => toS [c]).map V.str = (sortN z).map fun c => V.str (toS [c]) := by rw [List.map_map]; rfl
      have hvs := vals_signs hS
      rw [e2] at hvs
      have hlen : ((sortN z).map fun c => V.str (toS [c])).length ≤ sizeLine := by rw [List.length_map, (sortN_perm z).length_eq, sizeLine_eq]; omega
      have J : Inv X pins σ (upd H p (.lst ((sortN z).map fun c => V.str (toS [c])))) { s with heap := s'.heap, gens := s'.gens, drawn := s'.drawn, toks := s'.toks } :=
        I.call (ch := []) (Un.laidN k1 hp np) (I.hok.laidN k1 np ⟨hlen, out.toList, c, hvs, ho⟩) (by rw [g1]; exact I.bare) (fun _ z => nomatch z)
      have es : s' = { s with heap := s'.heap, gens := s'.gens, drawn := s'.drawn, toks := s'.toks } := by
        cases s'
        cases s
        cases o1
        rfl
      rw [es]
      exact ⟨.ref p, _, J, rfl, k _ _ (st_new st np).1 (st_new st np).2 rn⟩
    · cases hf
  · exact b_sorted pins s σ H xs us Q I rx ⟨ds, μ, m, r, st, rr, hf, k⟩
end
end Ev

namespace Ev
open PySem PySem.Spec L2 Res PyProof.Rows
/-! ## sum of a tuple -/
theorem sum_tupI {P : Program} {w : World} {A : Around} {E : Value → Shared → Prop} {s : Shared} {l : Addr} {its : List Value} {ns : List Int} {Q : Value → Shared → Prop} (hh : A.handled = none) (ht : s.heap.IsTuple l its.toArray) (hi : IntsAre its ns)
    (h : ∀ h' tk t', (∀ b o, s.heap.get? b = some o → h'.get? b = some o) → Q (.int ns.sum t') { s with heap := h', toks := tk }) : wpAny (model P w) A (call (.builtin "sum") [.ref l]) Q E s := by
  obtain ⟨xs, e⟩ := hi.allInts.items
  have hn : numsOf (intItems xs).toList = ns := by rw [← e]; exact hi.numsOf
  rw [nums_intItems] at hn
  rw [e] at ht
  have hlt : l < s.heap.objs.size := by
    obtain ⟨o, ho, _⟩ := ht
    exact Heap.lt_size ho
  have hlI : l ≠ s.heap.objs.size := Nat.ne_of_lt hlt
  refine call_sum_walkG (wpAny_pyIter_tuple ht ⟨_, _, _, _, _, _, numAt xs, rfl, Walks.tuple (A := A.in1) hh _ l hlI (intItems xs), ⟨?_, ?_⟩, ?_, (fun _ _ => intItems_at), fun h' tk t' hk => ?_⟩)
  · exact ⟨_, Heap.get?_push_size _ rfl, rfl, rfl⟩
  · exact ht.at fun o q => Heap.get?_push_of_some _ q
  · intro b hb
    simp at hb
    show b < (s.heap.push _).objs.size
    rw [size_push']
    rcases hb with hb | hb
    · rw [hb]; exact Nat.lt_succ_self _
    · rw [hb]; exact Nat.lt_succ_of_lt hlt
  · have := h h' tk t' fun b o q => hk b o (by simp; exact Nat.ne_of_lt (Heap.lt_size q)) (Heap.get?_push_of_some _ q)
    rw [preSum_eq, List.take_of_length_le (by simp [intItems]), hn]
    exact this
def fSumD (μ : Store) : List D → Option D
  | [.tup ds] => match intsOf ds with
    | some ns => some (.int ns.sum)
    | none => none
  | ds => fSum μ ds
section
variable {G : GC} {X : Cx} {μ : Store} {m : AM} {H : Hp}
theorem b_sumD (hK : X.K = G.K) (hc : X.calm = true) : CallR X (.builtin "sum") (rN G fSumD) := by
  intro pins s σ H xs us Q I rx ⟨ds, μ, m, r, st, rr, hf, k⟩
  unfold fSumD at hf
  split at hf
  · split at hf
    · rename_i ns hn
      cases hf
      obtain ⟨v, rfl, rv⟩ := reps1 rr
      unfold Rep at rv
      obtain ⟨a, zs, rfl, g1, g2⟩ := rv
      have ez := intsOf_ok g2 hn
      subst ez
      obtain ⟨its, rv, ht, hl⟩ := I.tuple (xs := ns.map V.int) (by rw [hK]; exact g1)
      rw [Vals.ref1 rx]
      have ht' : s.heap.IsTuple a its.toArray := by
        obtain ⟨o, e1, e2, e3⟩ := ht
        exact ⟨o, e1, e2, e3⟩
      exact sum_tupI (I.ok.hd hc) ht' rv.ints fun h' tk t' hk => ⟨.int ns.sum, H, I.kept hk, ⟨_, rfl⟩, k _ H (.refl _ _) st (by unfold Rep; rfl)⟩
    · cases hf
  · exact b_sum hc pins s σ H xs us Q I rx ⟨ds, μ, m, r, st, rr, hf, k⟩
end
end Ev

namespace Ev
open PySem PySem.Spec L2 Res
section
variable {G : GC} {E : XK} {cf : String → List D → Store → Res D} {X : Cx} {pos : Pos} {a b c : Expr} {ca cb cc : CE}
theorem out_name {i : Nat} {d : D} {ρ : Env} {μ : Store} {k : Env → Store → Prop} {ee : String → D → Store → Prop} (h : Out (asgT cf (.name i) d ρ μ) k ee) : i < ρ.length ∧ k (ρ.set i (some d)) μ := by
  unfold asgT at h
  by_cases hl : i < ρ.length
  · rw [if_pos hl] at h; exact ⟨hl, h⟩
  · rw [if_neg hl] at h; exact h.elim
/-- a, b, c = x, y, z -/
theorem ss_par3 {i j l : Nat} {x y z : Str} {px py pz pt : Pos} {kt k2 : Nat} {pt2 : Pos} (hc : X.calm = true) (hN : X.N.Nodup) (hi : X.N[i]? = some x) (hj : X.N[j]? = some y) (hl : X.N[l]? = some z) (hij : i ≠ j) (hil : i ≠ l) (hjl : j ≠ l)
    (hx : X.env.scope.names.lookup x = some .local) (hy : X.env.scope.names.lookup y = some .local) (hz : X.env.scope.names.lookup z = some .local) (ha : PA X [a, b, c] (tA G (WofE E) cf [ca, cb, cc]))
    (hw : swappedStores [.Tuple [.Name x px, .Name y py, .Name z pz] kt pt] (.Tuple [a, b, c] k2 pt2) X.env = pure (some [x, y, z]))
    (hs : swapsWithSole [.Tuple [.Name x px, .Name y py, .Name z pz] kt pt] (.Tuple [a, b, c] k2 pt2) pos.line X.env = pure false := by rfl) :
    PS X (.Assign [.Tuple [.Name x px, .Name y py, .Name z pz] kt pt] (.Tuple [a, b, c] k2 pt2) pos) (tS G E cf (.asg (.tup [.name i, .name j, .name l]) (.tup [ca, cb, cc]))) :=
  ps_of (ps_par3 hc hN hi hj hl hij hil hjl hx hy hz ha hw hs) fun Dn σ H ⟨ρ, μ, m, S, h⟩ => by
    unfold ex ev at h
    rw [Res.bind_assoc] at h
    refine tA_sub S h.bind (.refl _ _) fun ds μ1 vs H1 m1 q e1 s1 rv => ?_
    by_cases hl : ds.length ≤ cap
    · rw [if_pos hl] at q
      simp only [bind_ok] at q
      unfold asgT at q
      have q := Out.bind q
      cases q1 : asgTs cf [.name i, .name j, .name l] ds ρ μ1 with
      | stuck => rw [q1] at q; exact q.elim
      | exc x d μ => exact absurd q1 (asgTs_nox _ _ _ _ _ _ _)
      | ok ρ2 μ2 =>
        have hlen : ds.length = 3 := asgTs_len (cf := cf) (ts := [.name i, .name j, .name l]) (ds := ds) (ρ := ρ) (μ := μ1) (k := fun _ _ => True) (ee := fun _ _ _ => False) (by rw [q1]; exact trivial) (fun _ _ _ z => z)
        match ds, hlen with
        | [d1, d2, d3], _ =>
          obtain ⟨v1, v2, v3, rfl, r1, r2, r3⟩ := reps3 rv
          refine ⟨v1, v2, v3, rfl, ?_⟩
          unfold asgTs at q
          obtain ⟨hi', q⟩ := out_name (Out.bind q)
          unfold asgTs at q
          obtain ⟨hj', q⟩ := out_name (Out.bind q)
          unfold asgTs at q
          obtain ⟨hl', q⟩ := out_name (Out.bind q)
          unfold asgTs at q
          exact q _ H1 m1 e1 (((s1.set hi' r1).set hj' r2).set hl' r3)
    · rw [if_neg hl] at q; exact q.elim
end
end Ev

namespace Ev
open PySem PySem.Spec L2 Res
/-! ## tuples of the module -/
mutual
def KRep (K : PySem.W.Frag) : D → Value → Prop
  | .non, u => u = .none
  | .bl b, u => u = .bool b
  | .int i, u => ∃ t, u = .int i t
  | .str s, u => ∃ t, u = .str (toS s) t
  | .tup ds, u => ∃ (a : Addr) (o : Obj) (its : Array Value) (n : Nat), u = .ref a ∧ K.lookup a = some o ∧ o.cls = .type "tuple" ∧ o.data = .seq its n ∧ its.size ≤ sizeLine ∧ KReps K ds its.toList
  | _, _ => False
def KReps (K : PySem.W.Frag) : List D → List Value → Prop
  | [], us => us = []
  | d :: ds, us => ∃ u us', us = u :: us' ∧ KRep K d u ∧ KReps K ds us'
end
mutual
theorem KRep.rep {G : GC} : ∀ {d : D} {u : Value}, KRep G.K d u → ∃ v : V, RelV v u ∧ ∀ m H, Rep G m H d v
  | .non, u, h => by unfold KRep at h; subst h; exact ⟨.non, rfl, fun _ _ => by unfold Rep; rfl⟩
  | .bl b, u, h => by unfold KRep at h; subst h; exact ⟨.bl b, rfl, fun _ _ => by unfold Rep; rfl⟩
  | .int i, u, h => by unfold KRep at h; exact ⟨.int i, h, fun _ _ => by unfold Rep; rfl⟩
  | .str s, u, h => by unfold KRep at h; exact ⟨.str (toS s), h, fun _ _ => by unfold Rep; rfl⟩
  | .tup ds, u, h => by
    unfold KRep at h
    obtain ⟨a, o, its, n, rfl, hk, hc, hd, hs, hr⟩ := h
    obtain ⟨xs, r, q⟩ := KReps.reps hr
    exact ⟨.ref a, rfl, fun m H => by unfold Rep; exact ⟨a, xs, rfl, .inr ⟨o, its, n, hk, hc, hd, hs, r⟩, q m H⟩⟩
  | .lst _, u, h => by unfold KRep at h; exact h.elim
  | .ref _, u, h => by unfold KRep at h; exact h.elim
  | .gl _, u, h => by unfold KRep at h; exact h.elim
  | .ty _, u, h => by unfold KRep at h; exact h.elim
  | .scr _, u, h => by unfold KRep at h; exact h.elim
  | .dcv _ _, u, h => by unfold KRep at h; exact h.elim
  | .exv _ _ _, u, h => by unfold KRep at h; exact h.elim
theorem KReps.reps {G : GC} : ∀ {ds : List D} {us : List Value}, KReps G.K ds us → ∃ xs : List V, Vals xs us ∧ ∀ m H, Reps G m H ds xs
  | [], us, h => by unfold KReps at h; subst h; exact ⟨[], .nil, fun _ _ => by unfold Reps; rfl⟩
  | d :: ds, us, h => by
    unfold KReps at h
    obtain ⟨u, us', rfl, h1, h2⟩ := h
    obtain ⟨v, r1, q1⟩ := KRep.rep h1
    obtain ⟨vs, r2, q2⟩ := KReps.reps h2
    exact ⟨v :: vs, .cons r1 r2, fun m H => by unfold Reps; exact ⟨v, vs, rfl, q1 m H, q2 m H⟩⟩
end
section
variable {G : GC} {W : WX} {cf : String → List D → Store → Res D} {X : Cx}
theorem se_gtup {x : Str} {u : Value} {d : D} {pos : Pos} (hK : X.K = G.K) (hg : Gl X x) (hm : X.mg x = some u) (h : KRep X.K d u) (hd : (x == ("__debug__" : Str)) = false := by decide) : PE X (.Name x pos) (tE G W cf (.lit d)) := by
  rw [hK] at h
  obtain ⟨v, r, q⟩ := h.rep
  exact se_lit (pe_glob (v := v) hg hm r hd) fun m H => q m H
end
section
variable {K : PySem.W.Frag}
theorem krep_int {i : Int} {t : Tok} : KRep K (.int i) (.int i t) := by unfold KRep; exact ⟨t, rfl⟩
theorem krep_str {s : List Nat} {y : Str} {t : Tok} (h : y = toS s) : KRep K (.str s) (.str y t) := by unfold KRep; exact ⟨t, by rw [h]⟩
theorem krep_tup {ds : List D} {a : Addr} {oc : Value} {od : Option Addr} {its : Array Value} {n : Nat} {osl : Array (Option Value)} (l : K.lookup a = some ⟨oc, od, .seq its n, osl⟩) (hc : oc = .type "tuple") (hs : its.size ≤ sizeLine) (h : KReps K ds its.toList) : KRep K (.tup ds) (.ref a) := by
  unfold KRep; exact ⟨a, _, its, n, rfl, l, hc, rfl, hs, h⟩
theorem kc_mk {h : Heap} {mg : Str → Option Value} {x : Str} {u : Value} {d : D} (X : K.In h) (G : h.Ns mainGlobals mg) (a : PySem.W.nsIn K mainGlobals x = some (some u)) (r : KRep K d u) : mg x = some u ∧ KRep K d u := ⟨PySem.W.mg_of X G a, r⟩
theorem kreps_nil : KReps K [] [] := by unfold KReps; rfl
theorem kreps_cons {d : D} {ds : List D} {u : Value} {us : List Value} (h1 : KRep K d u) (h2 : KReps K ds us) : KReps K (d :: ds) (u :: us) := by unfold KReps; exact ⟨u, us, rfl, h1, h2⟩
end
end Ev

namespace Ev
open PySem PySem.Spec L2 Res
open Sem (wp)
/-! ## enumerate over zip -/
/-- a zip whose tuple is free, or out -/
abbrev ZR (h : Heap) (z TI TO : Addr) (f0 : Value) (b : Bool) : Prop :=
  h.get? z = some { cls := .type "zip", dict := none, data := .fields #[f0, .bool b, .bool false, .ref TI, .ref TO], slots := #[] }
def F0 (v : Value) : Prop := v = .none ∨ ∃ T : Nat, v = rawInt T
section
variable {prog : Program} {w : World} {A : Around} {E : Value → Shared → Prop} {s : Shared} {z TI TO i1 i2 : Addr} {fp1 fp2 : List Addr} {n1 n2 i : Nat} {P1 P2 : Nat → Value → Prop} {St1 St2 : Nat → Heap → Prop} {a1 a2 f0 : Value} {b : Bool}
theorem wpAny_alive {a : Addr} {Q : Option Obj → Shared → Prop} (h : Q (s.heap.get? a) s) : wpAny (model prog w) A (loadIfAlive a) Q E s := fun _ _ _ => h
theorem wpAny_tupleAny_zip {Q : Bool → Shared → Prop} (hz : ZR s.heap z TI TO f0 b) (hf : F0 f0) (h1 : Q true s)
    (h2 : ∀ h', ZR h' z TI TO f0 true → Heap.SameBut z s.heap h' → Q false { s with heap := h' }) : wpAny (model prog w) A (Builtin.SmallTypes.ownedTupleIsFree (.ref z)) Q E s := by
  unfold Builtin.SmallTypes.ownedTupleIsFree
  rcases hf with rfl | ⟨T, rfl⟩
  · refine wpAny_bind (wpAny_field hz rfl (x := .none) rfl ?_)
    exact wpAny_pure h1
  · refine wpAny_bind (wpAny_field hz rfl (x := rawInt T) rfl ?_)
    show wpAny _ _ (loadIfAlive ((T : Int).toNat) >>= _) _ _ _
    refine wpAny_bind (wpAny_alive ?_)
    cases hT : s.heap.get? (T : Int).toNat with
    | none =>
      simp only [Option.isNone_none, if_true]
      exact wpAny_pure h1
    | some oT =>
      simp only [Option.isNone_some, Bool.false_eq_true, if_false]
      refine wpAny_bind (wpAny_field hz rfl (x := .bool b) rfl ?_)
      cases b with
      | true =>
        rw [if_neg (show ¬ ((Value.bool true != Value.bool true) = true) from Bool.false_ne_true)]
        exact wpAny_pure (h2 s.heap hz (Heap.SameBut.refl _ _))
      | false =>
        rw [if_pos (show (Value.bool false != Value.bool true) = true from rfl)]
        exact wpAny_bind (wpAny_setField_rec hz (by simp) fun h₁ hz₁ hs₁ => wpAny_pure (h2 h₁ hz₁ hs₁))
theorem zipA_next_item {Q : Value → Shared → Prop} (S : ZipSep2 z TI TO i1 i2 fp1 fp2) (D1 : Draws prog w A i1 fp1 n1 P1 St1) (D2 : Draws prog w A i2 fp2 n2 P2 St2)
    (hz : ZR s.heap z TI TO f0 b) (hf : F0 f0) (hTI : IsTupOf2 s.heap TI (.ref i1) (.ref i2)) (hTO : IsTupOf2 s.heap TO a1 a2) (st1 : St1 i s.heap) (st2 : St2 i s.heap) (hlt1 : i < n1) (hlt2 : i < n2)
    (hQ : ∀ x1 x2 h' tk f0' b' c1 c2, P1 i x1 → P2 i x2 → ZR h' z TI TO f0' b' → F0 f0' → IsTupOf2 h' TO c1 c2 → St1 (i + 1) h' → St2 (i + 1) h' → IsTupOf2 h' s.heap.objs.size x1 x2 → h'.objs.size = s.heap.objs.size + 1 →
      (∀ c o, c ≠ z → c ≠ TO → c ≠ i1 → c ≠ i2 → s.heap.get? c = some o → h'.get? c = some o) → Q (.ref s.heap.objs.size) { s with heap := h', toks := tk }) :
    wpAny (model prog w) A (Builtin.«zip.__next__» ⟨[.ref z], []⟩) (fun fin s' => ∃ v, fin = .done (.ret v) ∧ Q v s') E s := by
  obtain ⟨hp, g, d, tk0, os⟩ := s
  show wpAny _ _ (field (.ref z) 2 >>= _) _ _ _
  refine wpAny_bind (wpAny_field hz rfl (x := .bool false) rfl ?_)
  show wpAny _ _ (field (.ref z) 3 >>= _) _ _ _
  refine wpAny_bind (wpAny_field hz rfl (x := .ref TI) rfl ?_)
  refine wpAny_bind (wpAny_seqItems hTI rfl ?_)
  show wpAny _ _ (Builtin.SmallTypes.ownedTupleIsFree (.ref z) >>= _) _ _ _
  refine wpAny_bind (wpAny_tupleAny_zip hz hf ?_ fun h₁ hz₁ hs₁ => ?_)
  · simp only [if_true]
    refine wpAny_bind (wpAny_rule ?_)
    refine wpAny_bind (wpAny_field hz rfl (x := .ref TO) rfl ?_)
    refine wpAny_bind (wpAny_setField_rec hz (by simp) fun g0 hz0 hs0 => ?_)
    replace hz0 : ZR g0 z TI TO .ellipsis b := hz0
    replace hs0 : Heap.SameBut z hp g0 := hs0
    refine wpAny_bind ?_
    simp only [List.zipIdx_cons, List.zipIdx_nil, List.forIn_cons, List.forIn_nil]
    refine wpAny_bind (wpAny_bind (wpAny_onRaise ?_))
    show wpAny _ _ (Builtin.SmallTypes.nextOf (.ref i1) >>= _) _ _ ⟨g0, g, d, tk0, os⟩
    refine wpAny_bind (D1.item i _ _ _ hlt1 (D1.over st1 hs0 S.zf1) fun x1 p1 tk1 hx1 sn1 hp1 => wpAny_pure ?_)
    replace hp1 : Heap.SameBut i1 g0 p1 := hp1
    have hU1 : IsTupOf2 p1 TO a1 a2 := hp1.extBut _ _ S.Ti1 (hs0.extBut _ _ S.TOz hTO)
    refine wpAny_bind (wpAny_seqItems (s := ⟨p1, g, d, tk1, os⟩) hU1 rfl ?_)
    refine wpAny_bind (updateSeq_IsTupOf2 (s := ⟨p1, g, d, tk1, os⟩) hU1 fun g1 hT1 hs1 => ?_)
    replace hT1 : IsTupOf2 g1 TO x1 a2 := hT1
    replace hs1 : Heap.SameBut TO p1 g1 := hs1
    refine wpAny_bind (wpAny_letGo (wpAny_pure ?_))
    refine wpAny_bind (wpAny_bind (wpAny_onRaise ?_))
    show wpAny _ _ (Builtin.SmallTypes.nextOf (.ref i2) >>= _) _ _ ⟨g1, g, d, tk1, os⟩
    refine wpAny_bind (D2.item i _ _ _ hlt2 (D2.over (D2.over (D2.over st2 hs0 S.zf2) hp1 S.sep1_2) hs1 S.Tf2) fun x2 p2 tk2 hx2 sn2 hp2 => wpAny_pure ?_)
    replace hp2 : Heap.SameBut i2 g1 p2 := hp2
    have hU2 : IsTupOf2 p2 TO x1 a2 := hp2.extBut _ _ S.Ti2 hT1
    refine wpAny_bind (wpAny_seqItems (s := ⟨p2, g, d, tk2, os⟩) hU2 rfl ?_)
    refine wpAny_bind (updateSeq_IsTupOf2 (s := ⟨p2, g, d, tk2, os⟩) hU2 fun g2 hT2 hs2 => ?_)
    replace hT2 : IsTupOf2 g2 TO x1 x2 := hT2
    replace hs2 : Heap.SameBut TO p2 g2 := hs2
    refine wpAny_bind (wpAny_letGo (wpAny_pure (wpAny_pure ?_)))
    refine wpAny_bind (wpAny_seqItems (s := ⟨g2, g, d, tk2, os⟩) hT2 rfl ?_)
    refine wpAny_bind (wpAny_newTuple ?_)
    have hsz : g2.objs.size = hp.objs.size := by rw [hs2.1, hp2.1, hs1.1, hp1.1, hs0.1]
    have hzz : ZR g2 z TI TO .ellipsis b := (hs2.extBut _ _ S.TOz.symm (hp2.extBut _ _ S.zi2 (hs1.extBut _ _ S.TOz.symm (hp1.extBut _ _ S.zi1 hz0))))
    have hkk : ∀ c o, c ≠ z → c ≠ TO → c ≠ i1 → c ≠ i2 → hp.get? c = some o → g2.get? c = some o := fun c o cz cT c1 c2 e =>
      (hs2.extBut _ _ cT (hp2.extBut _ _ c2 (hs1.extBut _ _ cT (hp1.extBut _ _ c1 (hs0.extBut _ _ cz e)))))
    have hj1 : St1 (i + 1) g2 := (D1.over (D1.over (D1.over sn1 hs1 S.Tf1) hp2 S.sep2_1) hs2 S.Tf1)
    have hj2 : St2 (i + 1) g2 := (D2.over sn2 hs2 S.Tf2)
    have hzlt : z < g2.objs.size := Heap.lt_size hzz
    show wpAny _ _ (Builtin.SmallTypes.ownedTupleHandOut (.ref z) (.ref g2.objs.size) >>= _) _ _ ⟨g2.push { cls := .type "tuple", data := .seq #[x1, x2] }, g, d, tk2, os⟩
    refine wpAny_bind ?_
    unfold Builtin.SmallTypes.ownedTupleHandOut
    have hz₆ : ZR (g2.push { cls := .type "tuple", data := .seq #[x1, x2] }) z TI TO .ellipsis b := Heap.get?_push_of_some _ hzz
    refine wpAny_bind (wpAny_setField_rec hz₆ (by simp) fun h₇ hz₇ hs₇ => ?_)
    replace hz₇ : ZR h₇ z TI TO (rawInt g2.objs.size) b := hz₇
    refine wpAny_setField_rec hz₇ (by simp) fun h₈ hz₈ hs₈ => ?_
    replace hz₈ : ZR h₈ z TI TO (rawInt g2.objs.size) false := hz₈
    replace hs₇ : Heap.SameBut z (g2.push { cls := .type "tuple", data := .seq #[x1, x2] }) h₇ := hs₇
    replace hs₈ : Heap.SameBut z h₇ h₈ := hs₈
    have up : ∀ c o, c ≠ z → g2.get? c = some o → h₈.get? c = some o := fun c o c1 e => hs₈.extBut _ _ c1 (hs₇.extBut _ _ c1 (Heap.get?_push_of_some _ e))
    have hT₈ : IsTupOf2 h₈ g2.objs.size x1 x2 := hs₈.extBut _ _ (Nat.ne_of_gt hzlt) (hs₇.extBut _ _ (Nat.ne_of_gt hzlt) (Heap.get?_push_size _ rfl))
    have hz8 : h₈.objs.size = g2.objs.size + 1 := by rw [hs₈.1, hs₇.1, Heap.size_push]
    rw [hsz] at hz₈ hT₈ hz8
    refine wpAny_pure ⟨_, rfl, ?_⟩
    show Q (.ref g2.objs.size) ⟨h₈, g, d, tk2, os⟩
    rw [hsz]
    exact hQ x1 x2 h₈ tk2 _ _ _ _ hx1 hx2 hz₈ (.inr ⟨_, rfl⟩) (up _ _ S.TOz hT2) (D1.frame _ _ _ hj1 fun b hb o e => up b o (fun q => S.zf1 (q ▸ hb)) e) (D2.frame _ _ _ hj2 fun b hb o e => up b o (fun q => S.zf2 (q ▸ hb)) e) hT₈ hz8 fun c o cz cT c1 c2 e => up c o cz (hkk c o cz cT c1 c2 e)
  · simp only [Bool.false_eq_true, if_false]
    replace hz₁ : ZR h₁ z TI TO f0 true := hz₁
    replace hs₁ : Heap.SameBut z hp h₁ := hs₁
    refine wpAny_bind ?_
    rw [← Array.forIn_toList]
    simp only [List.forIn_cons, List.forIn_nil]
    refine wpAny_bind (wpAny_bind (wpAny_holding ?_))
    show wpAny _ _ (Builtin.SmallTypes.nextOf (.ref i1) >>= _) _ _ ⟨h₁, g, d, tk0, os⟩
    refine wpAny_bind (D1.item i ⟨h₁, g, d, tk0, os⟩ _ _ hlt1 (D1.over st1 hs₁ S.zf1) fun x1 p1 tk1 hx1 sn1 hp1 => wpAny_pure ?_)
    replace hp1 : Heap.SameBut i1 h₁ p1 := hp1
    refine wpAny_pure ?_
    refine wpAny_bind (wpAny_bind (wpAny_holding ?_))
    show wpAny _ _ (Builtin.SmallTypes.nextOf (.ref i2) >>= _) _ _ ⟨p1, g, d, tk1, os⟩
    refine wpAny_bind (D2.item i ⟨p1, g, d, tk1, os⟩ _ _ hlt2 (D2.over (D2.over st2 hs₁ S.zf2) hp1 S.sep1_2) fun x2 p2 tk2 hx2 sn2 hp2 => wpAny_pure ?_)
    replace hp2 : Heap.SameBut i2 p1 p2 := hp2
    refine wpAny_pure (wpAny_pure ?_)
    show wpAny _ _ (newTuple [x1, x2] >>= _) _ _ _
    refine wpAny_bind (wpAny_newTuple ?_)
    have hsz : p2.objs.size = hp.objs.size := by rw [hp2.1, hp1.1, hs₁.1]
    have hzz : ZR p2 z TI TO f0 true := hp2.extBut _ _ S.zi2 (hp1.extBut _ _ S.zi1 hz₁)
    have hU : IsTupOf2 p2 TO a1 a2 := hp2.extBut _ _ S.Ti2 (hp1.extBut _ _ S.Ti1 (hs₁.extBut _ _ S.TOz hTO))
    have hkk : ∀ c o, c ≠ z → c ≠ i1 → c ≠ i2 → hp.get? c = some o → p2.get? c = some o := fun c o cz c1 c2 e => hp2.extBut _ _ c2 (hp1.extBut _ _ c1 (hs₁.extBut _ _ cz e))
    have hj1 : St1 (i + 1) p2 := D1.over sn1 hp2 S.sep2_1
    have hj2 : St2 (i + 1) p2 := sn2
    refine wpAny_pure ⟨_, rfl, ?_⟩
    show Q (.ref p2.objs.size) _
    have hpp : IsTupOf2 (p2.push { cls := .type "tuple", data := .seq #[x1, x2] }) p2.objs.size x1 x2 := Heap.get?_push_size _ rfl
    have hz4 : (p2.push { cls := .type "tuple", data := .seq #[x1, x2] }).objs.size = p2.objs.size + 1 := Heap.size_push ..
    rw [hsz] at hpp hz4 ⊢
    exact hQ x1 x2 _ tk2 _ _ _ _ hx1 hx2 (Heap.get?_push_of_some _ hzz) hf (Heap.get?_push_of_some _ hU) (D1.frame _ _ _ hj1 fun b hb o e => Heap.get?_push_of_some _ e) (D2.frame _ _ _ hj2 fun b hb o e => Heap.get?_push_of_some _ e) hpp hz4 fun c o cz cT c1 c2 e => Heap.get?_push_of_some _ (hkk c o cz c1 c2 e)
theorem zipA_next_end {Q : Fin → Shared → Prop} (S : ZipSep2 z TI TO i1 i2 fp1 fp2) (D1 : Draws prog w A i1 fp1 n1 P1 St1) (D2 : Draws prog w A i2 fp2 n2 P2 St2)
    (hz : ZR s.heap z TI TO f0 b) (hf : F0 f0) (hTI : IsTupOf2 s.heap TI (.ref i1) (.ref i2)) (hTO : IsTupOf2 s.heap TO a1 a2) (st1 : St1 i s.heap) (st2 : St2 i s.heap) (hle1 : i ≤ n1) (hle2 : i ≤ n2) (hend : i = n1 ∨ i = n2)
    (hE : ∀ h' tk e, (∀ c o, c ≠ z → c ≠ TO → c ≠ i1 → c ≠ i2 → s.heap.get? c = some o → h'.get? c = some o) → (∃ o, h'.get? e = some o ∧ o.cls = .type "StopIteration") → E (.ref e) { s with heap := h', toks := tk }) :
    wpAny (model prog w) A (Builtin.«zip.__next__» ⟨[.ref z], []⟩) Q E s := by
  obtain ⟨hp, g, d, tk0, os⟩ := s
  show wpAny _ _ (field (.ref z) 2 >>= _) _ _ _
  refine wpAny_bind (wpAny_field hz rfl (x := .bool false) rfl ?_)
  show wpAny _ _ (field (.ref z) 3 >>= _) _ _ _
  refine wpAny_bind (wpAny_field hz rfl (x := .ref TI) rfl ?_)
  refine wpAny_bind (wpAny_seqItems hTI rfl ?_)
  show wpAny _ _ (Builtin.SmallTypes.ownedTupleIsFree (.ref z) >>= _) _ _ _
  refine wpAny_bind (wpAny_tupleAny_zip hz hf ?_ fun h₁ hz₁ hs₁ => ?_)
  · simp only [if_true]
    refine wpAny_bind (wpAny_rule ?_)
    refine wpAny_bind (wpAny_field hz rfl (x := .ref TO) rfl ?_)
    refine wpAny_bind (wpAny_setField_rec hz (by simp) fun g0 hz0 hs0 => ?_)
    replace hz0 : ZR g0 z TI TO .ellipsis b := hz0
    replace hs0 : Heap.SameBut z hp g0 := hs0
    refine wpAny_bind ?_
    simp only [List.zipIdx_cons, List.zipIdx_nil, List.forIn_cons, List.forIn_nil]
    refine wpAny_bind (wpAny_bind (wpAny_onRaise ?_))
    show wpAny _ _ (Builtin.SmallTypes.nextOf (.ref i1) >>= _) _ _ ⟨g0, g, d, tk0, os⟩
    by_cases hlt1 : i < n1
    · refine wpAny_bind (D1.item i _ _ _ hlt1 (D1.over st1 hs0 S.zf1) fun x1 p1 tk1 hx1 sn1 hp1 => wpAny_pure ?_)
      replace hp1 : Heap.SameBut i1 g0 p1 := hp1
      have hU1 : IsTupOf2 p1 TO a1 a2 := hp1.extBut _ _ S.Ti1 (hs0.extBut _ _ S.TOz hTO)
      refine wpAny_bind (wpAny_seqItems (s := ⟨p1, g, d, tk1, os⟩) hU1 rfl ?_)
      refine wpAny_bind (updateSeq_IsTupOf2 (s := ⟨p1, g, d, tk1, os⟩) hU1 fun g1 hT1 hs1 => ?_)
      replace hT1 : IsTupOf2 g1 TO x1 a2 := hT1
      replace hs1 : Heap.SameBut TO p1 g1 := hs1
      refine wpAny_bind (wpAny_letGo (wpAny_pure ?_))
      have hi2 : i = n2 := by omega
      refine wpAny_bind (wpAny_bind (wpAny_onRaise ?_))
      show wpAny _ _ (Builtin.SmallTypes.nextOf (.ref i2) >>= _) _ _ ⟨g1, g, d, tk1, os⟩
      refine wpAny_bind (D2.done ⟨g1, g, d, tk1, os⟩ _ _ (by rw [← hi2]; exact (D2.over (D2.over (D2.over st2 hs0 S.zf2) hp1 S.sep1_2) hs1 S.Tf2)) fun q e hq he => ?_)
      replace hq : Heap.ExtBut i2 g1 q := hq
      obtain ⟨oe, hoe, hce⟩ := he
      replace hoe : q.get? e = some oe := hoe
      have hzq : ZR q z TI TO .ellipsis b := hq _ _ S.zi2 (hs1.extBut _ _ S.TOz.symm (hp1.extBut _ _ S.zi1 hz0))
      have hez : e ≠ z := fun x => by subst x; rw [hzq] at hoe; cases hoe; simp at hce
      refine wpAny_setField_rec (s := ⟨q, g, d, tk1, os⟩) hzq (by simp) fun q' _ hq' => ?_
      replace hq' : Heap.SameBut z q q' := hq'
      exact hE q' tk1 e (fun c o cz cT c1 c2 x => hq'.extBut _ _ cz (hq _ _ c2 (hs1.extBut _ _ cT (hp1.extBut _ _ c1 (hs0.extBut _ _ cz x))))) ⟨oe, hq'.extBut _ _ hez hoe, hce⟩
    · have hi1 : i = n1 := by omega
      refine wpAny_bind (D1.done ⟨g0, g, d, tk0, os⟩ _ _ (by rw [← hi1]; exact (D1.over st1 hs0 S.zf1)) fun q e hq he => ?_)
      replace hq : Heap.ExtBut i1 g0 q := hq
      obtain ⟨oe, hoe, hce⟩ := he
      replace hoe : q.get? e = some oe := hoe
      have hzq : ZR q z TI TO .ellipsis b := hq _ _ S.zi1 hz0
      have hez : e ≠ z := fun x => by subst x; rw [hzq] at hoe; cases hoe; simp at hce
      refine wpAny_setField_rec (s := ⟨q, g, d, tk0, os⟩) hzq (by simp) fun q' _ hq' => ?_
      replace hq' : Heap.SameBut z q q' := hq'
      exact hE q' tk0 e (fun c o cz cT c1 c2 x => hq'.extBut _ _ cz (hq _ _ c1 (hs0.extBut _ _ cz x))) ⟨oe, hq'.extBut _ _ hez hoe, hce⟩
  · simp only [Bool.false_eq_true, if_false]
    replace hz₁ : ZR h₁ z TI TO f0 true := hz₁
    replace hs₁ : Heap.SameBut z hp h₁ := hs₁
    refine wpAny_bind ?_
    rw [← Array.forIn_toList]
    simp only [List.forIn_cons, List.forIn_nil]
    refine wpAny_bind (wpAny_bind (wpAny_holding ?_))
    show wpAny _ _ (Builtin.SmallTypes.nextOf (.ref i1) >>= _) _ _ ⟨h₁, g, d, tk0, os⟩
    by_cases hlt1 : i < n1
    · refine wpAny_bind (D1.item i ⟨h₁, g, d, tk0, os⟩ _ _ hlt1 (D1.over st1 hs₁ S.zf1) fun x1 p1 tk1 hx1 sn1 hp1 => wpAny_pure ?_)
      replace hp1 : Heap.SameBut i1 h₁ p1 := hp1
      have hi2 : i = n2 := by omega
      refine wpAny_pure ?_
      refine wpAny_bind (wpAny_bind (wpAny_holding ?_))
      show wpAny _ _ (Builtin.SmallTypes.nextOf (.ref i2) >>= _) _ _ ⟨p1, g, d, tk1, os⟩
      refine wpAny_bind (D2.done ⟨p1, g, d, tk1, os⟩ _ _ (by rw [← hi2]; exact D2.over (D2.over st2 hs₁ S.zf2) hp1 S.sep1_2) fun q e hq he => ?_)
      replace hq : Heap.ExtBut i2 p1 q := hq
      exact hE q tk1 e (fun c o cz cT c1 c2 x => hq _ _ c2 (hp1.extBut _ _ c1 (hs₁.extBut _ _ cz x))) he
    · have hi1 : i = n1 := by omega
      refine wpAny_bind (D1.done ⟨h₁, g, d, tk0, os⟩ _ _ (by rw [← hi1]; exact (D1.over st1 hs₁ S.zf1)) fun q e hq he => ?_)
      replace hq : Heap.ExtBut i1 h₁ q := hq
      exact hE q tk0 e (fun c o cz cT c1 c2 x => hq _ _ c1 (hs₁.extBut _ _ cz x)) he
theorem nextOf_zipA_item {Q : Value → Shared → Prop} (S : ZipSep2 z TI TO i1 i2 fp1 fp2) (D1 : Draws prog w A.in1 i1 fp1 n1 P1 St1) (D2 : Draws prog w A.in1 i2 fp2 n2 P2 St2)
    (hz : ZR s.heap z TI TO f0 b) (hf : F0 f0) (hTI : IsTupOf2 s.heap TI (.ref i1) (.ref i2)) (hTO : IsTupOf2 s.heap TO a1 a2) (st1 : St1 i s.heap) (st2 : St2 i s.heap) (hlt1 : i < n1) (hlt2 : i < n2)
    (hQ : ∀ x1 x2 h' tk f0' b' c1 c2, P1 i x1 → P2 i x2 → ZR h' z TI TO f0' b' → F0 f0' → IsTupOf2 h' TO c1 c2 → St1 (i + 1) h' → St2 (i + 1) h' → IsTupOf2 h' s.heap.objs.size x1 x2 → h'.objs.size = s.heap.objs.size + 1 →
      (∀ c o, c ≠ z → c ≠ TO → c ≠ i1 → c ≠ i2 → s.heap.get? c = some o → h'.get? c = some o) → Q (.ref s.heap.objs.size) { s with heap := h', toks := tk }) :
    wpAny (model prog w) A (Builtin.SmallTypes.nextOf (.ref z)) Q E s := by
  have hT : s.TypeIs (.ref z) "zip" := ⟨_, hz, rfl⟩
  unfold Builtin.SmallTypes.nextOf
  exact wpAny_bind (wpAny_callSpecial?_slot (name := Str.ofString "__next__") hT F.slot_zip_next
    (wpAny_call_entry F.slot_zip_next hT F.entry_zip_next
      (zipA_next_item S D1 D2 hz hf hTI hTO st1 st2 hlt1 hlt2 fun x1 x2 h' tk f0' b' c1 c2 y1 y2 b1 b2 b3 d1 d2 b5 b6 b7 => wpAny_pure (hQ x1 x2 h' tk f0' b' c1 c2 y1 y2 b1 b2 b3 d1 d2 b5 b6 b7)) (F.args_zip_next_1 _)))
theorem nextOf_zipA_end {Q : Value → Shared → Prop} (S : ZipSep2 z TI TO i1 i2 fp1 fp2) (D1 : Draws prog w A.in1 i1 fp1 n1 P1 St1) (D2 : Draws prog w A.in1 i2 fp2 n2 P2 St2)
    (hz : ZR s.heap z TI TO f0 b) (hf : F0 f0) (hTI : IsTupOf2 s.heap TI (.ref i1) (.ref i2)) (hTO : IsTupOf2 s.heap TO a1 a2) (st1 : St1 i s.heap) (st2 : St2 i s.heap) (hle1 : i ≤ n1) (hle2 : i ≤ n2) (hend : i = n1 ∨ i = n2)
    (hE : ∀ h' tk e, (∀ c o, c ≠ z → c ≠ TO → c ≠ i1 → c ≠ i2 → s.heap.get? c = some o → h'.get? c = some o) → (∃ o, h'.get? e = some o ∧ o.cls = .type "StopIteration") → E (.ref e) { s with heap := h', toks := tk }) :
    wpAny (model prog w) A (Builtin.SmallTypes.nextOf (.ref z)) Q E s := by
  have hT : s.TypeIs (.ref z) "zip" := ⟨_, hz, rfl⟩
  unfold Builtin.SmallTypes.nextOf
  exact wpAny_bind (wpAny_callSpecial?_slot (name := Str.ofString "__next__") hT F.slot_zip_next
    (wpAny_call_entry F.slot_zip_next hT F.entry_zip_next
      (zipA_next_end S D1 D2 hz hf hTI hTO st1 st2 hle1 hle2 hend hE) (F.args_zip_next_1 _)))
/-- a turn of enumerate(zip(..)): two new tuples, the inner one first -/
theorem enumZip_item {e : Addr} {old : Value} {Q : Value → Shared → Prop} (S : ZipSep2 z TI TO i1 i2 fp1 fp2) (D1 : Draws prog w A.in1 i1 fp1 n1 P1 St1) (D2 : Draws prog w A.in1 i2 fp2 n2 P2 St2)
    (he : IsEnum s.heap e z ((i : Nat) : Int) old) (hez : e ≠ z) (heT : e ≠ TO) (he1 : e ≠ i1) (he2 : e ≠ i2) (hf1 : e ∉ fp1) (hf2 : e ∉ fp2) (heI : e ≠ TI)
    (hz : ZR s.heap z TI TO f0 b) (hf : F0 f0) (hTI : IsTupOf2 s.heap TI (.ref i1) (.ref i2)) (hTO : IsTupOf2 s.heap TO a1 a2) (st1 : St1 i s.heap) (st2 : St2 i s.heap) (hlt1 : i < n1) (hlt2 : i < n2)
    (hQ : ∀ x1 x2 h1 h' tk tk1 f0' b' c1 c2, P1 i x1 → P2 i x2 → IsTupOf2 h1 s.heap.objs.size x1 x2 → h1.objs.size = s.heap.objs.size + 1 → (∀ c o, c ≠ z → c ≠ TO → c ≠ i1 → c ≠ i2 → s.heap.get? c = some o → h1.get? c = some o) →
      IsEnumOut h' e z (((i : Nat) : Int) + 1) (.ref s.heap.objs.size) h1.objs.size → ZR h' z TI TO f0' b' → F0 f0' → IsTupOf2 h' TO c1 c2 → St1 (i + 1) h' → St2 (i + 1) h' →
      h'.get? h1.objs.size = some { cls := .type "tuple", data := .seq #[.int i tk, .ref s.heap.objs.size] } → (∀ c o, c ≠ e → h1.get? c = some o → h'.get? c = some o) → Q (.ref h1.objs.size) { s with heap := h', toks := tk1 }) :
    wpAny (model prog w) A (Builtin.«enumerate.__next__» ⟨[.ref e], []⟩) (fun fin s' => ∃ v, fin = .done (.ret v) ∧ Q v s') E s := by
  obtain ⟨hp, g, d, tk₀, os⟩ := s
  show wpAny _ _ (field (.ref e) 2 >>= _) _ _ _
  refine wpAny_bind (wpAny_field he rfl (x := .ref z) rfl ?_)
  refine wpAny_bind (nextOf_zipA_item (s := ⟨hp, g, d, tk₀, os⟩) S D1 D2 hz hf hTI hTO st1 st2 hlt1 hlt2 fun x1 x2 h₁ tk f0' b' c1 c2 hx1 hx2 z1 z2 z3 s1 s2 t1 hz1 hk1 => ?_)
  replace hz1 : h₁.objs.size = hp.objs.size + 1 := hz1
  replace hk1 : ∀ c o, c ≠ z → c ≠ TO → c ≠ i1 → c ≠ i2 → hp.get? c = some o → h₁.get? c = some o := hk1
  have he₁ : IsEnum h₁ e z ((i : Nat) : Int) old := hk1 _ _ hez heT he1 he2 he
  show wpAny _ _ (field (.ref e) 3 >>= _) _ _ ⟨h₁, g, d, tk, os⟩
  refine wpAny_bind (wpAny_field he₁ rfl (x := rawInt i) rfl ?_)
  show wpAny _ _ (field (.ref e) 4 >>= _) _ _ ⟨h₁, g, d, tk, os⟩
  refine wpAny_bind (wpAny_field he₁ rfl (x := .none) rfl ?_)
  show wpAny _ _ (mkInt ((i : Nat) : Int) >>= _) _ _ ⟨h₁, g, d, tk, os⟩
  refine wpAny_bind (wpAny_mkInt ?_)
  show wpAny _ _ (setField (.ref e) 3 (rawInt (((i : Nat) : Int) + 1)) >>= _) _ _ ⟨h₁, g, d, tk + 1, os⟩
  refine wpAny_bind (wpAny_setField_rec he₁ (by simp) fun h₂ he₂ hs₂ => ?_)
  replace hs₂ : Heap.SameBut e h₁ h₂ := hs₂
  replace he₂ : IsEnum h₂ e z (((i : Nat) : Int) + 1) old := he₂
  show wpAny _ _ (setField (.ref e) 4 .none >>= _) _ _ ⟨h₂, g, d, tk + 1, os⟩
  refine wpAny_bind (wpAny_setField_rec he₂ (by simp) fun h₃ he₃ hs₃ => ?_)
  replace hs₃ : Heap.SameBut e h₂ h₃ := hs₃
  replace he₃ : IsEnum h₃ e z (((i : Nat) : Int) + 1) old := he₃
  show wpAny _ _ (newTuple [.int i tk, .ref hp.objs.size] >>= _) _ _ ⟨h₃, g, d, tk + 1, os⟩
  refine wpAny_bind (wpAny_newTuple ?_)
  have he₄ : IsEnum (h₃.push { cls := .type "tuple", data := .seq #[.int i tk, .ref hp.objs.size] }) e z (((i : Nat) : Int) + 1) old := Heap.get?_push_of_some _ he₃
  generalize hh₄ : h₃.push { cls := .type "tuple", data := .seq #[.int i tk, .ref hp.objs.size] } = h₄ at he₄
  have hsz : h₃.objs.size = h₁.objs.size := by rw [hs₃.1, hs₂.1]
  have hel : e < h₁.objs.size := Heap.lt_size he₁
  have ht₄ : h₄.get? h₁.objs.size = some { cls := .type "tuple", data := .seq #[.int i tk, .ref hp.objs.size] } := by rw [← hh₄, ← hsz]; exact Heap.get?_push_size _ rfl
  have hk₄ : ∀ c o, c ≠ e → h₁.get? c = some o → h₄.get? c = some o := fun c o hce hc => by
    rw [← hh₄]; exact Heap.get?_push_of_some _ (hs₃.extBut c o hce (hs₂.extBut c o hce hc))
  have z4 : ZR h₄ z TI TO f0' b' := hk₄ _ _ hez.symm z1
  have o4 : IsTupOf2 h₄ TO c1 c2 := hk₄ _ _ heT.symm z3
  have j1 : St1 (i + 1) h₄ := D1.frame _ _ _ s1 fun c hc o y => hk₄ c o (fun q => hf1 (q ▸ hc)) y
  have j2 : St2 (i + 1) h₄ := D2.frame _ _ _ s2 fun c hc o y => hk₄ c o (fun q => hf2 (q ▸ hc)) y
  show wpAny _ _ (Builtin.SmallTypes.ownedTupleIsFree (.ref e) >>= _) _ _ ⟨h₄, g, d, tk + 1, os⟩
  rw [hsz]
  clear hh₄ he₃ hs₃ he₂ hs₂ hsz h₃ h₂
  refine wpAny_bind ?_
  unfold Builtin.SmallTypes.ownedTupleIsFree
  refine wpAny_bind (wpAny_field he₄ rfl (x := .none) rfl (wpAny_pure ?_))
  simp only [if_true]
  refine wpAny_bind (wpAny_rule ?_)
  refine wpAny_bind (wpAny_field he₄ rfl (x := old) rfl ?_)
  refine wpAny_bind (wpAny_setField_rec he₄ (by simp) fun h₅ he₅ hs₅ => ?_)
  replace hs₅ : Heap.SameBut e h₄ h₅ := hs₅
  replace he₅ : IsEnum h₅ e z (((i : Nat) : Int) + 1) (.ref hp.objs.size) := he₅
  show wpAny _ _ (Builtin.SmallTypes.ownedTupleHandOut (.ref e) (.ref h₁.objs.size) >>= _) _ _ ⟨h₅, g, d, tk + 1, os⟩
  refine wpAny_bind ?_
  unfold Builtin.SmallTypes.ownedTupleHandOut
  refine wpAny_bind (wpAny_setField_rec he₅ (by simp) fun h₆ he₆ hs₆ => ?_)
  replace hs₆ : Heap.SameBut e h₅ h₆ := hs₆
  replace he₆ : IsEnumOut h₆ e z (((i : Nat) : Int) + 1) (.ref hp.objs.size) h₁.objs.size := he₆
  refine wpAny_setField_rec he₆ (by simp) fun h₇ he₇ hs₇ => ?_
  replace hs₇ : Heap.SameBut e h₆ h₇ := hs₇
  replace he₇ : IsEnumOut h₇ e z (((i : Nat) : Int) + 1) (.ref hp.objs.size) h₁.objs.size := he₇
  have hk₇ : ∀ c o, c ≠ e → h₄.get? c = some o → h₇.get? c = some o := fun c o hc y => hs₇.extBut c o hc (hs₆.extBut c o hc (hs₅.extBut c o hc y))
  refine wpAny_bind (wpAny_letGo (wpAny_pure ⟨_, rfl, hQ x1 x2 h₁ h₇ tk _ f0' b' c1 c2 hx1 hx2 t1 hz1 hk1 he₇ (hk₇ _ _ hez.symm z4) z2 (hk₇ _ _ heT.symm o4) (D1.frame _ _ _ j1 fun c hc o y => hk₇ c o (fun q => hf1 (q ▸ hc)) y) (D2.frame _ _ _ j2 fun c hc o y => hk₇ c o (fun q => hf2 (q ▸ hc)) y) (hk₇ _ _ (Nat.ne_of_gt hel) ht₄) fun c o hc y => hk₇ c o hc (hk₄ c o hc y)⟩))
theorem pyNext_enumZip_item {e : Addr} {old : Value} {Q : Option Value → Shared → Prop} (S : ZipSep2 z TI TO i1 i2 fp1 fp2) (D1 : Draws prog w A.in1.in1 i1 fp1 n1 P1 St1) (D2 : Draws prog w A.in1.in1 i2 fp2 n2 P2 St2)
    (he : IsEnum s.heap e z ((i : Nat) : Int) old) (hez : e ≠ z) (heT : e ≠ TO) (he1 : e ≠ i1) (he2 : e ≠ i2) (hf1 : e ∉ fp1) (hf2 : e ∉ fp2) (heI : e ≠ TI)
    (hz : ZR s.heap z TI TO f0 b) (hf : F0 f0) (hTI : IsTupOf2 s.heap TI (.ref i1) (.ref i2)) (hTO : IsTupOf2 s.heap TO a1 a2) (st1 : St1 i s.heap) (st2 : St2 i s.heap) (hlt1 : i < n1) (hlt2 : i < n2)
    (hQ : ∀ x1 x2 h1 h' tk tk1 f0' b' c1 c2, P1 i x1 → P2 i x2 → IsTupOf2 h1 s.heap.objs.size x1 x2 → h1.objs.size = s.heap.objs.size + 1 → (∀ c o, c ≠ z → c ≠ TO → c ≠ i1 → c ≠ i2 → s.heap.get? c = some o → h1.get? c = some o) →
      IsEnumOut h' e z (((i : Nat) : Int) + 1) (.ref s.heap.objs.size) h1.objs.size → ZR h' z TI TO f0' b' → F0 f0' → IsTupOf2 h' TO c1 c2 → St1 (i + 1) h' → St2 (i + 1) h' →
      h'.get? h1.objs.size = some { cls := .type "tuple", data := .seq #[.int i tk, .ref s.heap.objs.size] } → (∀ c o, c ≠ e → h1.get? c = some o → h'.get? c = some o) → Q (some (.ref h1.objs.size)) { s with heap := h', toks := tk1 }) :
    wpAny (model prog w) A (pyNext (.ref e)) Q E s := by
  have hT : s.TypeIs (.ref e) "enumerate" := ⟨_, he, rfl⟩
  unfold pyNext
  exact wpAny_bind (wpAny_attempt (wpAny_callSpecial?_slot (name := Str.ofString "__next__") hT F.slot_enumerate_next
    (wpAny_call_entry F.slot_enumerate_next hT F.entry_enumerate_next
      (enumZip_item S D1 D2 he hez heT he1 he2 hf1 hf2 heI hz hf hTI hTO st1 st2 hlt1 hlt2 fun x1 x2 h1 h' tk tk1 f0' b' c1 c2 y1 y2 y3 y4 y5 y6 y7 y8 y9 y10 y11 y12 y13 => wpAny_pure (hQ x1 x2 h1 h' tk tk1 f0' b' c1 c2 y1 y2 y3 y4 y5 y6 y7 y8 y9 y10 y11 y12 y13)) (F.args_enumerate_next_1 _))))
theorem pyNext_enumZip_end {e : Addr} {k : Int} {old : Value} {Q : Option Value → Shared → Prop} (S : ZipSep2 z TI TO i1 i2 fp1 fp2) (D1 : Draws prog w A.in1.in1 i1 fp1 n1 P1 St1) (D2 : Draws prog w A.in1.in1 i2 fp2 n2 P2 St2)
    (he : IsEnum s.heap e z k old)
    (hz : ZR s.heap z TI TO f0 b) (hf : F0 f0) (hTI : IsTupOf2 s.heap TI (.ref i1) (.ref i2)) (hTO : IsTupOf2 s.heap TO a1 a2) (st1 : St1 i s.heap) (st2 : St2 i s.heap) (hle1 : i ≤ n1) (hle2 : i ≤ n2) (hend : i = n1 ∨ i = n2)
    (hQ : ∀ h' tk, (∀ c o, c ≠ z → c ≠ TO → c ≠ i1 → c ≠ i2 → s.heap.get? c = some o → h'.get? c = some o) → Q none { s with heap := h', toks := tk }) :
    wpAny (model prog w) A (pyNext (.ref e)) Q E s := by
  have hT : s.TypeIs (.ref e) "enumerate" := ⟨_, he, rfl⟩
  unfold pyNext
  refine wpAny_bind (wpAny_attempt (wpAny_callSpecial?_slot (name := Str.ofString "__next__") hT F.slot_enumerate_next
    (wpAny_call_entry F.slot_enumerate_next hT F.entry_enumerate_next ?_ (F.args_enumerate_next_1 _))))
  show wpAny _ _ (field (.ref e) 2 >>= _) _ _ _
  refine wpAny_bind (wpAny_field he rfl (x := .ref z) rfl ?_)
  refine wpAny_bind (nextOf_zipA_end S D1 D2 hz hf hTI hTO st1 st2 hle1 hle2 hend fun h' tk x hk hx => ?_)
  obtain ⟨o, ho, hc⟩ := hx
  refine wpAny_bind (wpAny_isInstance (T := "StopIteration") (b := true) ⟨o, ho, hc⟩ isSubtype_stop ?_)
  exact wpAny_pure (hQ _ _ hk)
end

/-! ### the turns -/
section
variable {X : Cx} {pins : List (Addr × Obj)} {σ : St} {H : Hp} {s : Shared}
theorem sub_draws2 (I : Inv X pins σ H s) (hc : X.calm = true) {k : SK} {x : V} {v : Value} {xs : List V} {it : Addr} {i : Nat} (rx : RelV x v) (a : SrcV X.K H k x xs) (b : SubI k v it i s.heap) (hn : H it = none) :
    ∃ (fp : List Addr) (P : Nat → Value → Prop) (St : Nat → Heap → Prop), Draws X.prog X.w X.A.in1.in1 it fp xs.length P St ∧ St i s.heap ∧ it ∈ fp ∧ (∀ c ∈ fp, c = it ∨ v = .ref c) ∧
      (∀ j u, P j u → ∃ y, xs[j]? = some y ∧ RelV y u) ∧ ∀ j h, St j h → SubI k v it j h := by
  have hh : X.A.in1.in1.handled = none := I.ok.hd hc
  cases k with
  | lst =>
    cases x <;> first | exact False.elim a | skip
    rename_i l
    cases rx
    obtain ⟨its, rv, p, hz⟩ := I.list a
    have hne : l ≠ it := fun z => by
      subst z
      obtain ⟨o, n, e1, e2, _, e3⟩ := p
      obtain ⟨o', q, _, d⟩ := b
      rw [e1] at q; cases q
      rw [d] at e3; cases e3
    refine ⟨[it, l], _, fun i h => h.IsListIter it l i ∧ h.IsList l its.toArray, by have := Draws.list (prog := X.prog) (w := X.w) hh it l hne its.toArray; rw [List.size_toArray, ← rv.length] at this; exact this, ⟨b, p.isList⟩, by simp, fun c hc => ?_, fun j u hu => ?_, fun j h st => st.1⟩
    · rcases List.mem_cons.mp hc with z | z
      · exact .inl z
      · have z' : c = l := by simpa using z
        subst z'
        exact .inr rfl
    · have hu' : its[j]? = some u := by simpa using hu
      have hl := (List.getElem?_eq_some_iff.mp hu').1
      rw [← rv.length] at hl
      obtain ⟨u', q1, q2⟩ := rv.get (List.getElem?_eq_getElem hl)
      rw [hu'] at q1; cases q1
      exact ⟨_, List.getElem?_eq_getElem hl, q2⟩
  | tup =>
    cases x <;> first | exact False.elim a | skip
    rename_i l
    cases rx
    obtain ⟨its, rv, p, hz⟩ := I.tuple a
    have hne : l ≠ it := fun z => by
      subst z
      obtain ⟨o, e1, e2, n, e3⟩ := p
      obtain ⟨o', q, _, d⟩ := b
      rw [e1] at q; cases q
      rw [d] at e3; cases e3
    refine ⟨[it, l], _, fun i h => h.IsTupleIter it l i ∧ h.IsTuple l its.toArray, by have := Draws.tuple (prog := X.prog) (w := X.w) hh it l hne its.toArray; rw [List.size_toArray, ← rv.length] at this; exact this, ⟨b, p⟩, by simp, fun c hc => ?_, fun j u hu => ?_, fun j h st => st.1⟩
    · rcases List.mem_cons.mp hc with z | z
      · exact .inl z
      · have z' : c = l := by simpa using z
        subst z'
        exact .inr rfl
    · have hu' : its[j]? = some u := by simpa using hu
      have hl := (List.getElem?_eq_some_iff.mp hu').1
      rw [← rv.length] at hl
      obtain ⟨u', q1, q2⟩ := rv.get (List.getElem?_eq_getElem hl)
      rw [hu'] at q1; cases q1
      exact ⟨_, List.getElem?_eq_getElem hl, q2⟩
  | str =>
    cases x <;> first | exact False.elim a | skip
    rename_i z
    obtain ⟨t, rfl⟩ := rx
    have a' : xs = z.cps.toList.map fun c => V.str ⟨#[c]⟩ := a
    subst a'
    refine ⟨[it], _, _, by rw [List.length_map, Array.length_toList]; exact Draws.text hh it z t, b, by simp, fun c hc => .inl (by simpa using hc), fun j u hu => ?_, fun j h st => st⟩
    obtain ⟨c, t', q1, rfl⟩ := hu
    exact ⟨V.str ⟨#[c]⟩, by rw [List.getElem?_map, Array.getElem?_toList, q1]; rfl, ⟨t', rfl⟩⟩
end
def ItezG (K : PySem.W.Frag) (k1 : SK) (x1 : V) (k2 : SK) (x2 : V) : It :=
  ⟨fun i H => ∃ xs ys, SrcV K H k1 x1 xs ∧ SrcV K H k2 x2 ys ∧ i < xs.length ∧ i < ys.length,
    fun i H v H' => ∃ T0 T x y, v = .ref T ∧ H T0 = none ∧ (upd H T0 (.tup [x, y])) T = none ∧ H' = upd (upd H T0 (.tup [x, y])) T (.tup [.int (i : Nat), .ref T0]) ∧ (∀ xs, SrcV K H k1 x1 xs → xs[i]? = some x) ∧ ∀ ys, SrcV K H k2 x2 ys → ys[i]? = some y,
    fun i H => ∃ xs ys, SrcV K H k1 x1 xs ∧ SrcV K H k2 x2 ys ∧ i ≤ xs.length ∧ i ≤ ys.length ∧ (i = xs.length ∨ i = ys.length)⟩
theorem turn_ezG {P : Program} {w : World} {K : PySem.W.Frag} {elts : List Expr} {kk : Nat} {tpos : Pos} {k1 k2 : SK} {x1 x2 : V} {v1 v2 : Value} {e z TI TO i1 i2 : Addr} (r1 : RelV x1 v1) (r2 : RelV x2 v2)
    (D1 : TI ≠ z) (D2 : TO ≠ z) (D3 : TI ≠ TO) (D4 : TI ≠ i1) (D5 : TI ≠ i2) (D6 : z ≠ i1) (D7 : z ≠ i2) (D8 : TO ≠ i1) (D9 : TO ≠ i2) (D10 : i1 ≠ i2)
    (C1 : e ≠ z) (C2 : e ≠ TO) (C3 : e ≠ i1) (C4 : e ≠ i2) (C5 : e ≠ TI)
    (A1 : ∀ l, v1 = .ref l → l ≠ z ∧ l ≠ TO ∧ l ≠ i2 ∧ l ≠ e) (A2 : ∀ l, v2 = .ref l → l ≠ z ∧ l ≠ TO ∧ l ≠ i1 ∧ l ≠ e) :
    Turn P w K (.Tuple elts kk tpos) (ItezG K k1 x1 k2 x2) [e, z, TI, TO, i1, i2] e
      (fun i h => (∃ old, IsEnum h e z ((i : Nat) : Int) old) ∧ (∃ f0 b, ZR h z TI TO f0 b ∧ F0 f0) ∧ IsTupOf2 h TI (.ref i1) (.ref i2) ∧ (∃ x y, IsTupOf2 h TO x y) ∧ SubI k1 v1 i1 i h ∧ SubI k2 v2 i2 i h) where
  mem := by simp
  obj := fun i h st c hc => by
    obtain ⟨⟨old, he⟩, ⟨f0, b, hz, hf⟩, hTI, ⟨x, y, hTO⟩, h1, h2⟩ := st
    have e' : c = e ∨ c = z ∨ c = TI ∨ c = TO ∨ c = i1 ∨ c = i2 := by simpa using hc
    rcases e' with q | q | q | q | q | q
    · rw [q]; exact ⟨_, he, fun v q => nomatch q⟩
    · rw [q]; exact ⟨_, hz, fun v q => nomatch q⟩
    · rw [q]; exact ⟨_, hTI, fun v q => nomatch q⟩
    · rw [q]; exact ⟨_, hTO, fun v q => nomatch q⟩
    · rw [q]; exact h1.obj
    · rw [q]; exact h2.obj
  keep := fun i h h' st k => by
    obtain ⟨⟨old, he⟩, ⟨f0, b, hz, hf⟩, hTI, ⟨x, y, hTO⟩, h1, h2⟩ := st
    exact ⟨⟨old, k e (by simp) _ he⟩, ⟨f0, b, k z (by simp) _ hz, hf⟩, k TI (by simp) _ hTI, ⟨x, y, k TO (by simp) _ hTO⟩, h1.at fun o q => k i1 (by simp) o q, h2.at fun o q => k i2 (by simp) o q⟩
  item := by
    intro X hP hw hK hc i pins s σ H E I hf st hg
    subst hP hw hK
    obtain ⟨⟨old, he⟩, ⟨f0, b, hz, hF⟩, hTI, ⟨x0, y0, hTO⟩, h1, h2⟩ := st
    obtain ⟨xs, ys, hqx, hqy, lx, ly⟩ := hg
    obtain ⟨fp1, P1, St1, d1, s1, m1, n1, p1, b1⟩ := sub_draws2 I hc r1 hqx h1 (hf i1 (by simp)).1
    obtain ⟨fp2, P2, St2, d2, s2, m2, n2, p2, b2⟩ := sub_draws2 I hc r2 hqy h2 (hf i2 (by simp)).1
    have hel : e < s.heap.objs.size := Heap.lt_size he
    have w1 : ∀ c, c ∈ fp1 → c = i1 ∨ v1 = .ref c := n1
    have w2 : ∀ c, c ∈ fp2 → c = i2 ∨ v2 = .ref c := n2
    have S : ZipSep2 z TI TO i1 i2 fp1 fp2 := {
      TIz := D1, TOz := D2, TITO := D3, TIi1 := D4, mem1 := m1, TIi2 := D5, mem2 := m2,
      zf1 := fun q => (w1 _ q).elim D6 fun r => (A1 _ r).1 rfl
      Tf1 := fun q => (w1 _ q).elim D8 fun r => (A1 _ r).2.1 rfl
      zf2 := fun q => (w2 _ q).elim D7 fun r => (A2 _ r).1 rfl
      Tf2 := fun q => (w2 _ q).elim D9 fun r => (A2 _ r).2.1 rfl
      sep1_2 := fun q => (w2 _ q).elim D10 fun r => (A2 _ r).2.2.1 rfl
      sep2_1 := fun q => (w1 _ q).elim D10.symm fun r => (A1 _ r).2.2.1 rfl }
    have ef1 : e ∉ fp1 := fun q => (w1 _ q).elim C3 fun r => (A1 _ r).2.2.2 rfl
    have ef2 : e ∉ fp2 := fun q => (w2 _ q).elim C4 fun r => (A2 _ r).2.2.2 rfl
    refine pyNext_enumZip_item S d1 d2 he C1 C2 C3 C4 ef1 ef2 C5 hz hF hTI hTO s1 s2 lx ly fun u1 u2 g1 h' tk tk1 f0' b' c1 c2 q1 q2 t0 hsz hk1 ho z' hF' TO' t1 t2 hT hk2 => ?_
    obtain ⟨y1, g1', ry1⟩ := p1 _ _ q1
    obtain ⟨y2, g2', ry2⟩ := p2 _ _ q2
    refine ⟨_, rfl, wpAny_letOwnedTupleGo_enum (s := { s with heap := h', toks := tk1 }) ho fun h'' he' sb => ?_⟩
    have new0 : ObjOk X.prog X.w (upd H s.heap.objs.size (.tup [y1, y2])) g1 s.heap.objs.size (.tup [y1, y2]) :=
      ⟨by show 2 ≤ sizeLine; decide, [u1, u2], .cons ry1 (.cons ry2 .nil), ⟨_, t0, rfl, _, rfl⟩⟩
    have I1 : Inv X pins σ (upd H s.heap.objs.size (.tup [y1, y2])) { s with heap := g1, toks := tk1 } :=
      I.turnedNew (t' := tk1) (ch := [e, z, TI, TO, i1, i2]) (fun c o hb q => hk1 c o (fun q' => hb (by simp [q'])) (fun q' => hb (by simp [q'])) (fun q' => hb (by simp [q'])) (fun q' => hb (by simp [q'])) q) hf (Nat.le_refl _) new0
    have hf1 : ∀ c ∈ [e, z, TI, TO, i1, i2], FpOk X pins (upd H s.heap.objs.size (.tup [y1, y2])) c := fun c hc => by
      obtain ⟨a0, a⟩ := hf c hc
      have hlt : c < s.heap.objs.size := by
        have e' : c = e ∨ c = z ∨ c = TI ∨ c = TO ∨ c = i1 ∨ c = i2 := by simpa using hc
        rcases e' with q | q | q | q | q | q
        · rw [q]; exact hel
        · rw [q]; exact Heap.lt_size hz
        · rw [q]; exact Heap.lt_size hTI
        · rw [q]; exact Heap.lt_size hTO
        · rw [q]; obtain ⟨_, e1, _⟩ := h1.obj; exact Heap.lt_size e1
        · rw [q]; obtain ⟨_, e1, _⟩ := h2.obj; exact Heap.lt_size e1
      exact ⟨by rw [upd_ne (Nat.ne_of_lt hlt)]; exact a0, a⟩
    have hel1 : e < g1.objs.size := by rw [hsz]; exact Nat.lt_succ_of_lt hel
    have hT2 : h''.get? g1.objs.size = some { cls := .type "tuple", data := .seq #[.int i tk, .ref s.heap.objs.size] } := (sb.2 _ (Nat.ne_of_gt hel1)).trans hT
    have new1 : ObjOk X.prog X.w (upd (upd H s.heap.objs.size (.tup [y1, y2])) g1.objs.size (.tup [.int (i : Nat), .ref s.heap.objs.size])) h'' g1.objs.size (.tup [.int (i : Nat), .ref s.heap.objs.size]) :=
      ⟨by show 2 ≤ sizeLine; decide, [.int i tk, .ref s.heap.objs.size], .cons ⟨_, rfl⟩ (.cons rfl .nil), ⟨_, hT2, rfl, _, rfl⟩⟩
    have I2 : Inv X pins σ (upd (upd H s.heap.objs.size (.tup [y1, y2])) g1.objs.size (.tup [.int (i : Nat), .ref s.heap.objs.size])) { s with heap := h'', toks := tk1 } :=
      I1.turnedNew (t' := tk1) (ch := [e, z, TI, TO, i1, i2]) (fun c o hb q => (sb.2 c (fun q' => hb (by simp [q']))).trans (hk2 c o (fun q' => hb (by simp [q'])) q)) hf1 (Nat.le_refl _) new1
    have fr1 : (upd H s.heap.objs.size (.tup [y1, y2])) g1.objs.size = none := I1.hok.fresh (Nat.le_refl g1.objs.size)
    refine ⟨.ref g1.objs.size, _, I2, rfl, ⟨s.heap.objs.size, g1.objs.size, y1, y2, rfl, I.hok.fresh (Nat.le_refl _), fr1, rfl, fun l hl => by rw [SrcV.inj I hl hqx]; exact g1', fun l hl => by rw [SrcV.inj I hl hqy]; exact g2'⟩, ⟨⟨.ref s.heap.objs.size, ?_⟩, ⟨f0', b', (sb.2 _ C1.symm).trans z', hF'⟩, ?_, ⟨c1, c2, (sb.2 _ C2.symm).trans TO'⟩, ?_, ?_⟩, fun c hcm => ?_⟩
    · have e1 : ((i + 1 : Nat) : Int) = (i : Int) + 1 := by omega
      rw [e1]; exact he'
    · exact (sb.2 _ C5.symm).trans (hk2 _ _ C5.symm (hk1 _ _ D1 D3 D4 D5 hTI))
    · exact (b1 _ _ t1).at fun o q => (sb.2 _ C3.symm).trans q
    · exact (b2 _ _ t2).at fun o q => (sb.2 _ C4.symm).trans q
    · obtain ⟨a0, _⟩ := hf1 c hcm
      have hlt : c < g1.objs.size := by
        have e' : c = e ∨ c = z ∨ c = TI ∨ c = TO ∨ c = i1 ∨ c = i2 := by simpa using hcm
        rw [hsz]
        apply Nat.lt_succ_of_lt
        rcases e' with q | q | q | q | q | q
        · rw [q]; exact hel
        · rw [q]; exact Heap.lt_size hz
        · rw [q]; exact Heap.lt_size hTI
        · rw [q]; exact Heap.lt_size hTO
        · rw [q]; obtain ⟨_, e1, _⟩ := h1.obj; exact Heap.lt_size e1
        · rw [q]; obtain ⟨_, e1, _⟩ := h2.obj; exact Heap.lt_size e1
      rw [upd_ne (Nat.ne_of_lt hlt)]
      exact a0
  done := by
    intro X hP hw hK hc i pins s σ H E I hf st hg
    subst hP hw hK
    obtain ⟨⟨old, he⟩, ⟨f0, b, hz, hF⟩, hTI, ⟨x0, y0, hTO⟩, h1, h2⟩ := st
    obtain ⟨xs, ys, hqx, hqy, lx, ly, hend⟩ := hg
    obtain ⟨fp1, P1, St1, d1, s1, m1, n1, p1, b1⟩ := sub_draws2 I hc r1 hqx h1 (hf i1 (by simp)).1
    obtain ⟨fp2, P2, St2, d2, s2, m2, n2, p2, b2⟩ := sub_draws2 I hc r2 hqy h2 (hf i2 (by simp)).1
    have w1 : ∀ c, c ∈ fp1 → c = i1 ∨ v1 = .ref c := n1
    have w2 : ∀ c, c ∈ fp2 → c = i2 ∨ v2 = .ref c := n2
    have S : ZipSep2 z TI TO i1 i2 fp1 fp2 := {
      TIz := D1, TOz := D2, TITO := D3, TIi1 := D4, mem1 := m1, TIi2 := D5, mem2 := m2,
      zf1 := fun q => (w1 _ q).elim D6 fun r => (A1 _ r).1 rfl
      Tf1 := fun q => (w1 _ q).elim D8 fun r => (A1 _ r).2.1 rfl
      zf2 := fun q => (w2 _ q).elim D7 fun r => (A2 _ r).1 rfl
      Tf2 := fun q => (w2 _ q).elim D9 fun r => (A2 _ r).2.1 rfl
      sep1_2 := fun q => (w2 _ q).elim D10 fun r => (A2 _ r).2.2.1 rfl
      sep2_1 := fun q => (w1 _ q).elim D10.symm fun r => (A1 _ r).2.2.1 rfl }
    exact pyNext_enumZip_end S d1 d2 he hz hF hTI hTO s1 s2 lx ly hend fun h' tk hk => ⟨rfl, I.turnedL (t' := tk) (ch := [e, z, TI, TO, i1, i2]) (fun c o hb q =>
      hk c o (fun q' => hb (by simp [q'])) (fun q' => hb (by simp [q'])) (fun q' => hb (by simp [q'])) (fun q' => hb (by simp [q'])) q) hf⟩
  self := fun A i s Q E st h => let ⟨⟨_, he⟩, _⟩ := st; wpAny_pyIter_enum he h
set_option maxHeartbeats 1000000 in
theorem meets_enum1Z {z TI TO : Addr} :
    Meets (Builtin.«enumerate.__new__» ⟨[.type "enumerate", .ref z], []⟩) (fun _ R s => IsZip s.heap z TI TO .none ∧
      R (.ok (.ret (.ref s.heap.objs.size))) { s with heap := s.heap.push { cls := .type "enumerate", data := .fields #[.none, .bool false, .ref z, rawInt 0, .none, .none] } }) :=
  .of_wp fun prog w A R s h => by
    obtain ⟨hp, g, d, tk, os⟩ := s; obtain ⟨h1, h⟩ := h
    have hsub := sub_enumerate
    have q1 : ∀ {A' : Around} {E : Value → Shared → Prop} {Q : Value → Shared → Prop}, Q (.ref z) ⟨hp, g, d, tk, os⟩ → wpAny (model prog w) A' (pyIter (.ref z)) Q E ⟨hp, g, d, tk, os⟩ :=
      fun q => wpAny_pyIter_zip h1 q
    wp_walk using q1
    refine wpAny_stack_any fun st => wpAny_pure ?_
    split
    · rename_i c _ _ _ _ _
      cases (c == Value.type "enumerate")
      · wp_walk using q1
        exact ⟨_, rfl, h⟩
      · wp_walk using q1
        exact ⟨_, rfl, h⟩
    · wp_walk using q1
      exact ⟨_, rfl, h⟩
theorem call_enumZ {prog : Program} {w : World} {A : Around} {E : Value → Shared → Prop} {s : Shared} {z TI TO : Addr} {Q : Value → Shared → Prop} (h1 : IsZip s.heap z TI TO .none)
    (h : ∀ h', IsEnum h' s.heap.objs.size z 0 .none → h'.objs.size = s.heap.objs.size + 1 → (∀ b o, s.heap.get? b = some o → h'.get? b = some o) → Q (.ref s.heap.objs.size) { s with heap := h' }) :
    wpAny (model prog w) A (call (.type "enumerate") [.ref z]) Q E s := by
  refine callType_new F.called_enumerate (by decide) (F.typeCall_enumerate_1 _) (F.newCall_enumerate_1 _) (fun obj => F.args_object_init_2 obj _) F.entry_enumerate_new
    meets_enum1Z ⟨h1, ?_⟩
  have he : IsEnum (s.heap.push { cls := .type "enumerate", data := .fields #[.none, .bool false, .ref z, rawInt 0, .none, .none] }) s.heap.objs.size z 0 .none :=
    Heap.get?_push_size s.heap (o := { cls := .type "enumerate", data := .fields #[.none, .bool false, .ref z, rawInt 0, .none, .none] }) rfl
  exact ⟨⟨_, he, rfl⟩, h _ he (Heap.size_push ..) fun b o x => Heap.get?_push_of_some _ x⟩
def fEnumZip : Itf := fun _ ds => match ds with
  | [a, b] => match items1 a, items1 b with
    | some xs, some ys => some (enumD 0 ((xs.zip ys).map fun p => .tup [p.1, p.2]))
    | _, _ => none
  | _ => none
section
variable {G : GC} {W : WX} {cf : String → List D → Store → Res D} {X : Cx} {elts : List Expr} {kk : Nat} {tpos p p2 q pos : Pos} {a b : Expr} {ca cb : CE}
theorem serves_ez {m : AM} {H : Hp} {v1 v2 : V} {xs ys : List D} {k1 k2 : SK} {vs ws : List V} (L : ∀ a, m.has a → ∃ o, MutO o ∧ H a = some o)
    (p1 : Reps G m H xs vs) (p2 : Reps G m H ys ws) (q1 : ∀ H' m', Mon m H m' H' → SrcV G.K H' k1 v1 vs) (q2 : ∀ H' m', Mon m H m' H' → SrcV G.K H' k2 v2 ws) :
    Serves G (ItezG G.K k1 v1 k2 v2) m H (enumD 0 ((xs.zip ys).map fun p => .tup [p.1, p.2])) := by
  refine ⟨fun i d H2 m2 e2 hd => ?_, fun H2 m2 e2 => ?_⟩
  · obtain ⟨y, hy, rfl⟩ := enumD_get hd
    rw [List.getElem?_map] at hy
    cases z : (xs.zip ys)[i]? with
    | none => rw [z] at hy; cases hy
    | some p =>
      rw [z] at hy
      cases hy
      obtain ⟨z1, z2⟩ := List.getElem?_zip_eq_some.mp z
      obtain ⟨w1, g1, r1⟩ := p1.get z1
      obtain ⟨w2, g2, r2⟩ := p2.get z2
      refine ⟨⟨vs, ws, q1 _ _ e2, q2 _ _ e2, (List.getElem?_eq_some_iff.mp g1).1, (List.getElem?_eq_some_iff.mp g2).1⟩, fun x H' ⟨T0, T, y1, y2, ex, nT0, nT, eH, f1, f2⟩ => ?_⟩
      subst ex eH
      have e3 : w1 = y1 := Option.some.inj (g1.symm.trans (f1 _ (q1 _ _ e2)))
      have e4 : w2 = y2 := Option.some.inj (g2.symm.trans (f2 _ (q2 _ _ e2)))
      subst e3 e4
      have mon : Mon m H m2 (upd (upd H2 T0 (.tup [w1, w2])) T (.tup [.int (i : Nat), .ref T0])) := (e2.trans (.new nT0)).trans (.new nT)
      refine ⟨fun a o q => by
        have q1 : (upd H2 T0 (.tup [w1, w2])) a = some o := by rw [upd_ne (ne_of_none q nT0)]; exact q
        rw [upd_ne (ne_of_none q1 nT)]; exact q1, ?_⟩
      have hT0 : (upd (upd H2 T0 (.tup [w1, w2])) T (.tup [.int (i : Nat), .ref T0])) T0 = some (.tup [w1, w2]) := by
        have q1 : (upd H2 T0 (.tup [w1, w2])) T0 = some (.tup [w1, w2]) := upd_same
        rw [upd_ne (ne_of_none q1 nT)]; exact q1
      unfold Rep
      refine ⟨T, [.int (i : Nat), .ref T0], rfl, .inl (.inl upd_same), .cons (by unfold Rep; rw [Nat.zero_add]) (.cons ?_ .nil)⟩
      unfold Rep
      exact ⟨T0, [w1, w2], rfl, .inl (.inl hT0), .cons (Rep.mon L mon _ _ r1) (.cons (Rep.mon L mon _ _ r2) .nil)⟩
  · have l1 := p1.length
    have l2 := p2.length
    refine ⟨vs, ws, q1 _ _ e2, q2 _ _ e2, ?_⟩
    rw [enumD_length, List.length_map, List.length_zip]
    omega
theorem si_enumzip (hK : X.K = G.K) (hg : Gl X "enumerate") (hm : X.mg "enumerate" = none) (hg2 : Gl X "zip") (hm2 : X.mg "zip" = none) (ha : PE X a (tE G W cf ca)) (hb : PE X b (tE G W cf cb))
    (hsE : starEach [.Call (.Name "zip" p2) [a, b] [] q] X.env = (false, eval (.Call (.Name "zip" p2) [a, b] [] q) X.env) :: starEach [] X.env := by rfl)
    (hs : starEach [a, b] X.env = (false, eval a X.env) :: starEach [b] X.env := by rfl) (hs2 : starEach [b] X.env = (false, eval b X.env) :: starEach [] X.env := by rfl) (hpl : (backTo q (starEach [b] X.env)).any (·.1) = false := by rfl) :
    PI X (.Tuple elts kk tpos) (.Call (.Name "enumerate" p) [.Call (.Name "zip" p2) [a, b] [] q] [] pos) (tI G W cf fEnumZip [ca, cb]) := by
  refine ⟨fun pins s σ H R I h => ?_⟩
  have hA := sa_cons (hs := hs) ha (sa_cons (hs := hs2) hb (sa_nil (G := G) (W := W) (cf := cf)))
  obtain ⟨ρ, μ, m, S, h⟩ := h
  refine PyProof.Rows.Call_ (ld_blt I hg hm PyProof.Rows.boot_enumerate (PyProof.Rows.callWith_type1 (PyProof.Rows.args_cons ?_ hsE) hsE rfl))
  refine PyProof.Rows.Call_ (ld_blt I hg2 hm2 PyProof.Rows.boot_zip (PyProof.Rows.callWith_type1 (thn (hA.run q pins s σ H (fun vs H1 => ∃ ds μ1 m1 items, Reps G m1 H1 ds vs ∧ fEnumZip μ1 ds = some items ∧ StOk G μ1 m1 H1 ∧ ∀ J, Serves G J m1 H1 items → R J H1) I
    (tA_sub S h.bind (.refl _ _) fun ds μ1 vs H1 m1 q e1 s1 rv => ?_)) fun us s1 ⟨vs, H1, I1, r1, ds, μ1, m1, items, rv, hf, st, q⟩ => ?_) hs hpl))
  · obtain ⟨items, hf, q⟩ := out_lift q
    exact ⟨ds, μ1, m1, items, rv, hf, s1.st, fun J sv => q J H1 m1 e1 s1 sv⟩
  · unfold fEnumZip at hf
    split at hf
    · rename_i d1 d2
      obtain ⟨w1, w2, rfl, g1, g2⟩ := reps2 rv
      cases h1 : items1 d1 with
      | none => rw [h1] at hf; cases hf
      | some xs =>
        cases h2 : items1 d2 with
        | none => rw [h1, h2] at hf; cases hf
        | some ys =>
          rw [h1, h2] at hf
          cases hf
          obtain ⟨k1, vs, a1, b1, c1, f1⟩ := src_of h1 g1
          obtain ⟨k2, ws, a2, b2, c2, f2⟩ := src_of h2 g2
          obtain ⟨u1, u2, rfl, ru1, ru2⟩ := vals2 r1
          rw [← hK] at a1 a2
          obtain ⟨S1, B1, z1⟩ := begins_src I1 ru1 a1
          obtain ⟨S2, B2, z2⟩ := begins_src I1 ru2 a2
          have lt1 := src_lt I1 ru1 a1
          have lt2 := src_lt I1 ru2 a2
          refine zip_begins2 B1 B2 z1 z2 fun h' hz hTI hTO o1 o2 hsz hk => PyProof.Rows.args_nil ?_
          refine call_enumZ (s := { s1 with heap := h' }) hz fun h'' he hsz2 hk2 => wpAny_pyIter_enum he ?_
          replace hsz2 : h''.objs.size = h'.objs.size + 1 := hsz2
          replace hk2 : ∀ b o, h'.get? b = some o → h''.get? b = some o := hk2
          have I2 : Inv X pins σ H1 { s1 with heap := h'' } := I1.kept (t' := s1.toks) fun b o x => hk2 _ _ (hk b o x)
          rw [hK] at a1 a2
          have ne : ∀ {i j : Nat}, i ≠ j → s1.heap.objs.size + i ≠ s1.heap.objs.size + j := fun {i j} q z => q (by omega)
          have ne0 : ∀ {j : Nat}, 0 ≠ j → s1.heap.objs.size ≠ s1.heap.objs.size + j := fun {j} q z => q (by have z' : (s1.heap.objs.size : Nat) = s1.heap.objs.size + j := z; omega)
          have es : ∀ c, c ≤ s1.heap.objs.size + 4 → h'.objs.size ≠ c := fun c hc z => by
            have : (h'.objs.size : Nat) = c := z
            have : (c : Nat) ≤ s1.heap.objs.size + 4 := hc
            omega
          refine ⟨h'.objs.size, [h'.objs.size, s1.heap.objs.size + 4, s1.heap.objs.size + 2, s1.heap.objs.size + 3, s1.heap.objs.size, s1.heap.objs.size + 1], _, ItezG X.K k1 w1 k2 w2, H1, rfl, I2,
            turn_ezG ru1 ru2 (ne (by decide)) (ne (by decide)) (ne (by decide)) (ne0 (by decide)).symm (ne (by decide)) (ne0 (by decide)).symm (ne (by decide)) (ne0 (by decide)).symm (ne (by decide)) (ne0 (by decide))
              (es _ (Nat.le_refl _)) (es _ (by omega)) (es _ (by omega)) (es _ (by omega)) (es _ (by omega)) ?_ ?_,
            ⟨⟨.none, he⟩, ⟨.none, false, hk2 _ _ hz, .inl rfl⟩, hk2 _ _ hTI, ⟨_, _, hk2 _ _ hTO⟩, sub_beg (X := X) ru1 (by rw [hK]; exact a1) (hk2 _ _ o1), sub_beg (X := X) ru2 (by rw [hK]; exact a2) (hk2 _ _ o2)⟩, fun c hcm => ?_, ?_⟩
          · intro l e
            have q1 : (l : Nat) < s1.heap.objs.size := lt1 l e
            refine ⟨?_, ?_, ?_, ?_⟩ <;> first | exact Nat.ne_of_lt q1 | exact Nat.ne_of_lt (Nat.lt_of_lt_of_le q1 (Nat.le_add_right _ _)) | exact (es l (Nat.le_trans (Nat.le_of_lt q1) (Nat.le_add_right _ _))).symm
          · intro l e
            have q1 : (l : Nat) < s1.heap.objs.size := lt2 l e
            refine ⟨?_, ?_, ?_, ?_⟩ <;> first | exact Nat.ne_of_lt q1 | exact Nat.ne_of_lt (Nat.lt_of_lt_of_le q1 (Nat.le_add_right _ _)) | exact (es l (Nat.le_trans (Nat.le_of_lt q1) (Nat.le_add_right _ _))).symm
          · have e' : c = h'.objs.size ∨ c = s1.heap.objs.size + 4 ∨ c = s1.heap.objs.size + 2 ∨ c = s1.heap.objs.size + 3 ∨ c = s1.heap.objs.size ∨ c = s1.heap.objs.size + 1 := by simpa using hcm
            have hle : s1.heap.objs.size ≤ c := by
              rcases e' with z | z | z | z | z | z <;> rw [z] <;> first | exact Nat.le_refl _ | exact Nat.le_add_right _ _ | (rw [hsz]; exact Nat.le_add_right _ _)
            exact I1.fpOk hle (I1.hok.fresh hle)
          · rw [hK]
            exact q _ (serves_ez st.live b1 b2 (fun H' m' e => f1 H' m' st.live e) (fun H' m' e => f2 H' m' st.live e))
    · cases hf
end
end Ev

namespace Ev
open PySem PySem.Spec L2 Res PyProof.Rows
/-! ## min of texts -/
def minF (x : List Nat) : List (List Nat) → List Nat
  | [] => x
  | y :: ys => minF (if y < x then y else x) ys
def valT (ss : List (List Nat)) (i : Nat) : List Nat := ss.getD i []
theorem argBest_minF (ss : List (List Nat)) : ∀ (k : Nat), k < ss.length → valT ss (argBest (fun i j => decide (valT ss i < valT ss j)) k) = minF (valT ss 0) ((ss.drop 1).take k)
  | 0, _ => by simp [argBest, minF]
  | k + 1, h => by
    have snoc : ∀ (l : List (List Nat)) (x y : List Nat), minF x (l ++ [y]) = if y < minF x l then y else minF x l := by
      intro l
      induction l with
      | nil => intro x y; rfl
      | cons z l ih => intro x y; rw [List.cons_append, minF, minF, ih]
    have ih := argBest_minF ss k (by omega)
    have e : (ss.drop 1).take (k + 1) = (ss.drop 1).take k ++ [valT ss (k + 1)] := by
      rw [List.take_add_one]
      congr 1
      rw [List.getElem?_drop, Nat.add_comm 1 k]
      simp [valT, List.getD, h]
    rw [e, snoc, ← ih]
    simp only [argBest]
    by_cases hc : valT ss (k + 1) < valT ss (argBest (fun i j => decide (valT ss i < valT ss j)) k)
    · rw [if_pos (decide_eq_true hc), if_pos hc]
    · rw [if_neg (by rw [decide_eq_true_iff]; exact hc), if_neg hc]
theorem min_texts {P : Program} {w : World} {A : Around} {E : Value → Shared → Prop} {s : Shared} {l : Addr} {its : List Value} {x : List Nat} {xs : List (List Nat)} {Q : Value → Shared → Prop} (hh : A.handled = none) (hl : s.heap.IsList l its.toArray)
    (hi : Vals (((x :: xs).map toS).map V.str) its) (h : ∀ h' tk t', (∀ b o, s.heap.get? b = some o → h'.get? b = some o) → Q (.str (toS (minF x xs)) t') { s with heap := h', toks := tk }) : wpAny (model P w) A (call (.builtin "min") [.ref l]) Q E s := by
  have hlt : l < s.heap.objs.size := by obtain ⟨_, e, _⟩ := hl; exact Heap.lt_size e
  have hlI : l ≠ s.heap.objs.size := Nat.ne_of_lt hlt
  have at' : ∀ (i : Nat) (v : Value), its.toArray[i]? = some v → ∃ t, v = .str (toS (valT (x :: xs) i)) t := fun i v hv => by
    have hv' : its[i]? = some v := by simpa using hv
    have hlen := hi.length
    have hi' := (List.getElem?_eq_some_iff.mp hv').1
    rw [← hlen, List.length_map, List.length_map] at hi'
    have e1 : (((x :: xs).map toS).map V.str)[i]? = some (.str (toS (valT (x :: xs) i))) := by
      rw [List.getElem?_map, List.getElem?_map, List.getElem?_eq_getElem hi']
      show some (V.str (toS ((x :: xs)[i]))) = some (V.str (toS ((x :: xs).getD i [])))
      rw [List.getD_eq_getElem?_getD, List.getElem?_eq_getElem hi']
      rfl
    obtain ⟨u, q1, q2⟩ := hi.get e1
    rw [hv'] at q1
    cases q1
    exact q2
  refine call_min_walk (wpAny_pyIter_list hl ⟨_, _, _, _, _, _, (fun i j => decide (valT (x :: xs) i < valT (x :: xs) j)), rfl, Walks.list (A := A.in1) hh _ l hlI its.toArray, ⟨⟨_, Heap.get?_push_size _ rfl, rfl, rfl⟩, hl.push _⟩, fun b hb => ?_, ?_, fun i j vi vj s Q E pi pj q => ?_, fun v h' tk hP hk => ?_⟩)
  · show b < (s.heap.push _).objs.size
    rw [Heap.size_push]
    rcases List.mem_cons.mp hb with rfl | hb
    · exact Nat.lt_succ_self _
    · rcases List.mem_cons.mp hb with rfl | hb
      · exact Nat.lt_succ_of_lt hlt
      · cases hb
  · have hlen := hi.length
    rw [List.size_toArray, ← hlen]
    simp
  · obtain ⟨t, rfl⟩ := at' i vi pi
    obtain ⟨u, rfl⟩ := at' j vj pj
    exact (show wpAny _ _ (richCompare .Lt (.str _ t) (.str _ u)) Q E s from PyProof.Rows.lt_str (by simpa using q))
  · have hlen := hi.length
    have hb := argBest_minF (x :: xs) xs.length (by simp)
    have e0 : its.toArray.size - 1 = xs.length := by rw [List.size_toArray, ← hlen]; simp
    rw [e0] at hP
    obtain ⟨t, rfl⟩ := at' _ v hP
    rw [hb]
    have := h h' tk t fun b o q => hk b o (by simp; exact Nat.ne_of_lt (Heap.lt_size q)) (Heap.get?_push_of_some _ q)
    simpa [valT] using this
def fMinD (μ : Store) (ds : List D) : Option D := match ds with
  | [d] => match asL μ d with
    | some es => match strsOf es with
      | some (x :: xs) => some (.str (minF x xs))
      | _ => fMin μ [d]
    | none => fMin μ [d]
  | ds => fMin μ ds
section
variable {G : GC} {X : Cx} {μ : Store} {m : AM} {H : Hp}
theorem b_minD (hK : X.K = G.K) (hc : X.calm = true) : CallR X (.builtin "min") (rN G fMinD) := by
  intro pins s σ H xs us Q I rx ⟨ds, μ, m, r, st, rr, hf, k⟩
  have old : fMin μ ds = some r → wpAny (model X.prog X.w) X.A (call (.builtin "min") us) (EP X pins σ Q) X.xe s := fun h => b_min hc pins s σ H xs us Q I rx ⟨ds, μ, m, r, st, rr, h, k⟩
  unfold fMinD at hf
  split at hf
  · rename_i d
    split at hf
    · rename_i es he
      split at hf
      · rename_i x xs hs
        cases hf
        obtain ⟨v, rfl, rv⟩ := reps1 rr
        obtain ⟨a, zs, rfl, g1, g2⟩ := asL_ok st rv he
        have ez := strsOf_ok g2 hs
        subst ez
        obtain ⟨its, rl, hl, hz⟩ := I.list (.inl g1)
        rw [Vals.ref1 rx]
        exact min_texts (I.ok.hd hc) hl.isList rl fun h' tk t' hk => ⟨.str _, H, I.kept hk, ⟨_, rfl⟩, k _ H (.refl _ _) st (by unfold Rep; rfl)⟩
      · exact old hf
    · exact old hf
  · exact old hf
end
end Ev

namespace Ev
open PySem PySem.Spec L2 Res
/-! ## dicts of the store: keys are ints and texts -/
def kvsV (kvs : List (DK × D)) (vs : List V) : List (Key × V) := (kvs.map fun kv => toKey kv.1).zip vs
theorem toKey_inj {a b : DK} : toKey a = toKey b ↔ a = b := by
  constructor
  · intro h
    cases a <;> cases b <;> simp [toKey, toS] at h ⊢ <;> exact h
  · rintro rfl; rfl
section
variable {G : GC} {m : AM} {H : Hp} {μ : Store}
theorem keyD_ok {d : D} {y : V} {k : DK} (r : Rep G m H d y) (h : keyD d = some k) : y = kV (toKey k) := by
  unfold keyD at h
  split at h
  · cases h; unfold Rep at r; exact r
  · cases h; unfold Rep at r; exact r
  · cases h
theorem get_rel (k : DK) : ∀ {kvs : List (DK × D)} {vs : List V}, Reps G m H (kvs.map (·.2)) vs →
    (valD kvs k = none → valV (kvsV kvs vs) (toKey k) = none) ∧ ∀ d, valD kvs k = some d → ∃ v, valV (kvsV kvs vs) (toKey k) = some v ∧ Rep G m H d v
  | [], vs, r => ⟨fun _ => rfl, fun d h => by simp [valD] at h⟩
  | p :: kvs, vs, r => by
    rw [List.map_cons] at r
    obtain ⟨w, ws, rfl, r1, r2⟩ := r.uncons
    have ih := get_rel k r2
    have e : kvsV (p :: kvs) (w :: ws) = (toKey p.1, w) :: kvsV kvs ws := rfl
    rw [e]
    by_cases h : p.1 = k
    · have h' : toKey p.1 = toKey k := by rw [h]
      rw [valV_pos (p := (toKey p.1, w)) h']
      have hv : valD (p :: kvs) k = some p.2 := by simp [valD, List.find?_cons, h]
      rw [hv]
      exact ⟨fun z => (by cases z), fun d z => ⟨w, rfl, by cases z; exact r1⟩⟩
    · have h' : ¬ toKey p.1 = toKey k := fun z => h (toKey_inj.mp z)
      rw [valV_neg (p := (toKey p.1, w)) h']
      have hv : valD (p :: kvs) k = valD kvs k := by simp [valD, List.find?_cons, h]
      rw [hv]
      exact ih
theorem any_rel (k : DK) : ∀ {kvs : List (DK × D)} {vs : List V}, kvs.length = vs.length → ((kvsV kvs vs).any fun kv => decide (kv.1 = toKey k)) = kvs.any fun kv => decide (kv.1 = k)
  | [], vs, _ => rfl
  | p :: kvs, [], h => by simp at h
  | p :: kvs, w :: ws, h => by
    have ih := any_rel k (kvs := kvs) (vs := ws) (by simpa using h)
    show (decide (toKey p.1 = toKey k) || (kvsV kvs ws).any fun kv => decide (kv.1 = toKey k)) = (decide (p.1 = k) || kvs.any fun kv => decide (kv.1 = k))
    rw [ih]
    congr 1
    rw [decide_eq_decide]
    exact toKey_inj
theorem map_rel (k : DK) {d : D} {v : V} (rd : Rep G m H d v) : ∀ {kvs : List (DK × D)} {vs : List V}, Reps G m H (kvs.map (·.2)) vs →
    ∃ vs', (kvsV kvs vs).map (fun kv => if kv.1 = toKey k then (kv.1, v) else kv) = kvsV (kvs.map fun kv => if kv.1 = k then (kv.1, d) else kv) vs' ∧ Reps G m H ((kvs.map fun kv => if kv.1 = k then (kv.1, d) else kv).map (·.2)) vs'
  | [], vs, r => ⟨[], rfl, .nil⟩
  | p :: kvs, vs, r => by
    rw [List.map_cons] at r
    obtain ⟨w, ws, rfl, r1, r2⟩ := r.uncons
    obtain ⟨vs', e, q⟩ := map_rel k rd r2
    have e0 : kvsV (p :: kvs) (w :: ws) = (toKey p.1, w) :: kvsV kvs ws := rfl
    rw [e0, List.map_cons, e, List.map_cons]
    by_cases h : p.1 = k
    · rw [if_pos h, if_pos (show toKey p.1 = toKey k by rw [h])]
      exact ⟨v :: vs', rfl, .cons rd q⟩
    · rw [if_neg h, if_neg (show ¬ toKey p.1 = toKey k from fun z => h (toKey_inj.mp z))]
      exact ⟨w :: vs', rfl, .cons r1 q⟩
theorem kvsV_app {kvs : List (DK × D)} {vs : List V} (h : kvs.length = vs.length) (k : DK) (d : D) (v : V) : kvsV kvs vs ++ [(toKey k, v)] = kvsV (kvs ++ [(k, d)]) (vs ++ [v]) := by
  unfold kvsV
  rw [List.map_append, List.zip_append (by simpa using h)]
  rfl
theorem put_rel (k : DK) {d : D} {v : V} (rd : Rep G m H d v) {kvs : List (DK × D)} {vs : List V} (r : Reps G m H (kvs.map (·.2)) vs) :
    ∃ vs', putK (kvsV kvs vs) (toKey k) v = kvsV (putD kvs k d) vs' ∧ Reps G m H ((putD kvs k d).map (·.2)) vs' := by
  have hl : kvs.length = vs.length := by have := r.length; simpa using this
  unfold putK putD
  rw [any_rel k hl]
  by_cases h : (kvs.any fun kv => decide (kv.1 = k)) = true
  · rw [if_pos h, if_pos h]
    exact map_rel k rd r
  · rw [if_neg h, if_neg h]
    refine ⟨vs ++ [v], kvsV_app hl k d v, ?_⟩
    rw [List.map_append]
    exact r.append (.cons rd .nil)
theorem putD_flat {kvs : List (DK × D)} {k : DK} {d : D} (h : noLsts (kvs.map (·.2)) = true) (hd : noLst d = true) : noLsts ((putD kvs k d).map (·.2)) = true := by
  unfold putD
  split
  · rename_i hc
    clear hc
    induction kvs with
    | nil => exact h
    | cons p kvs ih =>
      rw [List.map_cons] at h
      unfold noLsts at h
      obtain ⟨h1, h2⟩ := Bool.and_eq_true_iff.mp h
      rw [List.map_cons, List.map_cons]
      unfold noLsts
      rw [ih h2]
      split
      · rw [hd]; rfl
      · rw [h1]; rfl
  · rw [List.map_append]
    exact noLsts_app h (by rw [List.map_cons, List.map_nil]; unfold noLsts; rw [hd]; unfold noLsts; rfl)
theorem putD_len (kvs : List (DK × D)) (k : DK) (d : D) : (putD kvs k d).length ≤ kvs.length + 1 := by
  unfold putD
  split
  · rw [List.length_map]; omega
  · rw [List.length_append]; exact Nat.le_refl _
theorem dctOf_ok {n : Nat} {kvs : List (DK × D)} {d : D} {v : V} (st : StOk G μ m H) (r : Rep G m H d v) (h : dctOf μ d = some (n, kvs)) :
    d = .ref n ∧ μ[n]? = some (.dct kvs) ∧ ∃ a vs, v = .ref a ∧ noLsts (kvs.map (·.2)) = true ∧ m.l[n]? = some (some a) ∧ H a = some (.dK (kvsV kvs vs)) ∧ Reps G m H (kvs.map (·.2)) vs := by
  unfold dctOf at h
  split at h
  · rename_i n'
    split at h
    · rename_i kvs' q
      cases h
      obtain ⟨h0, a, xs, q1, q3, q4⟩ := st.obj n _ _ q rfl
      unfold Rep at r
      obtain ⟨b, rfl, hb⟩ := r
      have eab : a = b := by
        rw [q1] at hb
        rcases hb with hb | hb
        · simpa using hb
        · simp at hb
      subst eab
      exact ⟨rfl, q, a, xs, rfl, h0, q1, q3, q4⟩
    · cases h
  · cases h
/-- an object of the store is written -/
theorem st_putO {n : Nat} {o o' : MO} {ds ds' : List D} {a : Addr} {xs ys : List V} (st : StOk G μ m H) (q : μ[n]? = some o) (q1 : m.l[n]? = some (some a)) (ho : moD o' = some ds') (nls : noLsts ds' = true) (rr : Reps G m H ds' ys) :
    Ext m H m (upd H a (moH o' ys)) ∧ StOk G (μ.set n o') m (upd H a (moH o' ys)) := by
  have hin : some a ∈ m.l := List.mem_of_getElem? q1
  have ex : Ext m H m (upd H a (moH o' ys)) := ⟨Nat.le_refl _, fun _ _ => .inl rfl, fun c h1 h2 => absurd h1 h2, fun c o h1 h2 => by
    have ne : c ≠ a := fun z => h2 (by rw [z]; exact .inl hin)
    rw [upd_ne ne]; exact h1, rfl, fun c hc => by
    have ne : c ≠ a := fun z => st.apart a hin (by rw [← z]; exact hc)
    rw [upd_ne ne]⟩
  refine ⟨ex, ⟨by rw [List.length_set]; exact st.len, st.inj, st.apart, fun n' u es hn' hd' => ?_, fun n' hn' => ?_, fun c hc => ?_⟩⟩
  · by_cases e : n = n'
    · subst e
      rw [List.getElem?_set_self (List.getElem?_eq_some_iff.mp q).1] at hn'
      have e0 : o' = u := by simpa using hn'
      subst e0
      have e2 : ds' = es := Option.some.inj (ho.symm.trans hd')
      subst e2
      exact ⟨nls, a, ys, q1, upd_same, Reps.ext st.live ex _ _ rr⟩
    · rw [List.getElem?_set_ne e] at hn'
      obtain ⟨g0, c, zs, g1, g2, g3⟩ := st.obj n' u es hn' hd'
      have ne : c ≠ a := fun z => by subst z; exact e (st.inj _ _ _ q1 g1)
      exact ⟨g0, c, zs, g1, by rw [upd_ne ne]; exact g2, Reps.ext st.live ex _ _ g3⟩
  · by_cases e : n = n'
    · subst e
      rw [List.getElem?_set_self (List.getElem?_eq_some_iff.mp q).1] at hn'
      have e0 : o' = .dead := by simpa using hn'
      subst e0
      cases ho
    · rw [List.getElem?_set_ne e] at hn'
      exact st.dead n' hn'
  · by_cases ne : c = a
    · rw [ne]; exact ⟨_, moH_mut o' ys, upd_same⟩
    · rw [upd_ne ne]; exact st.live c hc
/-- a new object of the store -/
theorem st_newO {p : Addr} {o : MO} {ds : List D} {xs : List V} (st : StOk G μ m H) (np : H p = none) (ho : moD o = some ds) (nls : noLsts ds = true) (rr : Reps G m H ds xs) :
    Ext m H ⟨m.l ++ [some p], m.x⟩ (upd H p (moH o xs)) ∧ Rep G ⟨m.l ++ [some p], m.x⟩ (upd H p (moH o xs)) (.ref μ.length) (.ref p) ∧ StOk G (μ ++ [o]) ⟨m.l ++ [some p], m.x⟩ (upd H p (moH o xs)) := by
  have nm : ¬ m.has p := fresh_nm st np
  have hlen := st.len
  have old : ∀ {i : Nat} {o : Option Addr}, m.l[i]? = some o → (m.l ++ [some p])[i]? = some o := fun {i o} q => by
    rw [List.getElem?_append_left (List.getElem?_eq_some_iff.mp q).1]; exact q
  have cases' : ∀ {i : Nat} {o : Option Addr}, (m.l ++ [some p])[i]? = some o → m.l[i]? = some o ∨ (i = m.l.length ∧ o = some p) := fun {i o} q => by
    by_cases hi : i < m.l.length
    · rw [List.getElem?_append_left hi] at q; exact .inl q
    · rw [List.getElem?_append_right (by omega)] at q
      have hz : i - m.l.length = 0 := by
        have := (List.getElem?_eq_some_iff.mp q).1
        simp at this; omega
      rw [hz] at q
      exact .inr ⟨by omega, by simpa using q.symm⟩
  have memm : ∀ {a : Addr}, some a ∈ m.l ++ [some p] → some a ∈ m.l ∨ a = p := fun {a} z => by
    rcases List.mem_append.mp z with q | q
    · exact .inl q
    · exact .inr (by simpa using q)
  have e1 : Ext m H m (upd H p (moH o xs)) := .new st.live np
  have ex : Ext m H ⟨m.l ++ [some p], m.x⟩ (upd H p (moH o xs)) := ⟨by simp, fun i hi => .inl (by rw [List.getElem?_append_left hi]), fun a ha hna => by
    rcases ha with ha | ha
    · rcases memm ha with q | q
      · exact absurd (.inl q) hna
      · rw [q]; exact np
    · exact absurd (.inr ha) hna, e1.keep, rfl, e1.keepx⟩
  refine ⟨ex, ?_, ⟨by simp [hlen], fun i j a h1 h2 => ?_, fun a h1 h2 => ?_, fun n u es h1 hd => ?_, fun n h1 => ?_, fun a ha => ?_⟩⟩
  · unfold Rep
    exact ⟨p, rfl, .inl (by show (m.l ++ [some p])[μ.length]? = _; rw [← hlen, List.getElem?_append_right (Nat.le_refl _)]; simp)⟩
  · rcases cases' h1 with q1 | ⟨q1, q1'⟩ <;> rcases cases' h2 with q2 | ⟨q2, q2'⟩
    · exact st.inj i j a q1 q2
    · cases q2'; exact absurd (.inl (List.mem_of_getElem? q1)) nm
    · cases q1'; exact absurd (.inl (List.mem_of_getElem? q2)) nm
    · omega
  · rcases memm h1 with q | q
    · exact st.apart a q h2
    · rw [q] at h2; exact nm (.inr h2)
  · by_cases hi : n < μ.length
    · rw [List.getElem?_append_left hi] at h1
      obtain ⟨h0, a, ys, q1, q2, q3⟩ := st.obj n u es h1 hd
      exact ⟨h0, a, ys, old q1, by rw [upd_ne (ne_of_none q2 np)]; exact q2, Reps.ext st.live ex _ _ q3⟩
    · rw [List.getElem?_append_right (by omega)] at h1
      have hz : n - μ.length = 0 := by
        have := (List.getElem?_eq_some_iff.mp h1).1
        simp at this; omega
      rw [hz] at h1
      have e0 : o = u := by simpa using h1
      subst e0
      have e2 : ds = es := Option.some.inj (ho.symm.trans hd)
      subst e2
      exact ⟨nls, p, xs, by show (m.l ++ [some p])[n]? = _; rw [List.getElem?_append_right (by omega)]; simp [show n - m.l.length = 0 by omega], upd_same, Reps.ext st.live ex _ _ rr⟩
  · by_cases hi : n < μ.length
    · rw [List.getElem?_append_left hi] at h1
      exact old (st.dead n h1)
    · rw [List.getElem?_append_right (by omega)] at h1
      have hz : n - μ.length = 0 := by
        have := (List.getElem?_eq_some_iff.mp h1).1
        simp at this; omega
      rw [hz] at h1
      have e0 : o = .dead := by simpa using h1
      subst e0
      cases ho
  · rcases ha with ha | ha
    · rcases memm ha with q | q
      · obtain ⟨o', mu, z⟩ := st.live a (.inl q)
        exact ⟨o', mu, by rw [upd_ne (ne_of_none z np)]; exact z⟩
      · rw [q]; exact ⟨_, moH_mut o xs, upd_same⟩
    · obtain ⟨o', mu, z⟩ := st.live a (.inr ha)
      exact ⟨o', mu, by rw [upd_ne (ne_of_none z np)]; exact z⟩
end
def fDnew (_ : List D) (μ : Store) : Res D := .ok (.ref μ.length) (μ ++ [.dct []])
/-- a dict is read: of the store, or by value -/
def dctR (μ : Store) : D → Option (List (DK × D))
  | .ref n => match μ[n]? with
    | some (.dct kvs) => some kvs
    | _ => none
  | .dcv ks vs => some (ks.zip vs)
  | _ => none
def fDget (μ : Store) (d k : D) : Option D := match dctR μ d, keyD k with
  | some kvs, some k => valD kvs k
  | _, _ => none
def isDct (μ : Store) (d : D) : Bool := (dctR μ d).isSome
def mDget (ds : List D) (μ : Store) : Res D := match ds with
  | [d, k, x] => match dctR μ d, keyD k with
    | some kvs, some k => .ok ((valD kvs k).getD x) μ
    | _, _ => .stuck
  | _ => .stuck
def fDin (μ : Store) (k d : D) : Option D := match dctR μ d, keyD k with
  | some kvs, some k => some (.bl (valD kvs k).isSome)
  | _, _ => none
def fDnin (μ : Store) (k d : D) : Option D := match dctR μ d, keyD k with
  | some kvs, some k => some (.bl (!(valD kvs k).isSome))
  | _, _ => none
def fDlen (μ : Store) : List D → Option D
  | [d] => match dctR μ d with
    | some kvs => some (.int kvs.length)
    | none => none
  | _ => none
section
variable {G : GC} {m : AM} {H : Hp} {μ : Store}
theorem kvsV_zip {ks : List DK} {ds : List D} {xs : List V} (h : ks.length = ds.length) : kvsV (ks.zip ds) xs = (ks.map toKey).zip xs := by
  unfold kvsV
  congr 1
  have : (ks.zip ds).map (fun kv => toKey kv.1) = ((ks.zip ds).map Prod.fst).map toKey := by rw [List.map_map]; rfl
  rw [this, List.map_fst_zip (Nat.le_of_eq h)]
theorem dctR_ok {kvs : List (DK × D)} {d : D} {v : V} (st : StOk G μ m H) (r : Rep G m H d v) (h : dctR μ d = some kvs) :
    ∃ a vs, v = .ref a ∧ Rd H a (.dK (kvsV kvs vs)) ∧ Reps G m H (kvs.map (·.2)) vs := by
  unfold dctR at h
  split at h
  · rename_i n
    have hd : dctOf μ (.ref n) = some (n, kvs) := by
      unfold dctOf
      split at h
      · rename_i kvs' q
        cases h
        simp only [q]
      · cases h
    obtain ⟨_, _, a, vs, e, _, _, qH, rr⟩ := dctOf_ok st r hd
    exact ⟨a, vs, e, .inl qH, rr⟩
  · rename_i ks ds
    cases h
    unfold Rep at r
    obtain ⟨a, xs, od, e1, n, hs, hl, rr⟩ := r
    refine ⟨a, xs, e1, .inr ⟨od, by rw [kvsV_zip hl]; exact hs⟩, ?_⟩
    have : (ks.zip ds).map (fun kv => kv.2) = ds := List.map_snd_zip (Nat.le_of_eq hl.symm)
    rw [this]; exact rr
  · cases h
theorem kvsV_len {kvs : List (DK × D)} {vs : List V} (r : Reps G m H (kvs.map (·.2)) vs) : (kvsV kvs vs).length = kvs.length := by
  have := r.length
  rw [List.length_map] at this
  unfold kvsV
  rw [List.length_zip, List.length_map, ← this]; omega
end
section
variable {G : GC} {W : WX} {cf : String → List D → Store → Res D} {X : Cx} {pos apos cpos : Pos} {a b o i e f : Expr} {ca cb co ci ce cx : CE}
theorem se_dnew : PE X (.Dict [] [] pos) (tE G W cf (.opM fDnew [])) :=
  pe_of pe_dnewK fun σ H Q ⟨ρ, μ, m, S, h⟩ p np => by
    unfold ev evs at h
    obtain ⟨ex, r, st⟩ := st_newO (o := .dct []) (ds := []) (xs := []) S.st np rfl (by unfold noLsts; rfl) .nil
    exact h (.ref p) _ _ ex (S.ext ex st) r
theorem sa_key (hu : X.A.units + 64 < cLine) (ho : PE X o (tE G W0 cf co)) (hi : PE X i (tE G W0 cf ci))
    (ha : ∀ v, assign (.Subscript o i pos) X.env v = (do
      let ov ← holding [v] (eval o X.env)
      let iv ← holding [v, ov] (eval i X.env)
      standAt pos
      holding [v, ov, iv] (setItem ov iv v)
      release [v, ov, iv] []) := by intro _; rfl) : PG X (.Subscript o i pos) (tAT G cf (.key co ci)) :=
  pg_of (pg_sub ho hi (set_dict (by omega)) ha) fun v σ H Q ⟨ρ, μ, m, d, S, r, h⟩ => by
    unfold asgT at h
    obtain ⟨x, μ1, q1, h⟩ := out_noExc h.bind
    refine ⟨ρ, μ, m, S, ?_⟩
    rw [q1]
    intro w H1 m1 e1 s1 rw1
    obtain ⟨y, μ2, q2, h⟩ := out_noExc h.bind
    refine ⟨ρ, μ1, m1, s1, ?_⟩
    rw [q2]
    intro w2 H2 m2 e2 s2 rw2
    cases q3 : putIx x y d μ2 with
    | none => rw [q3] at h; exact h.elim
    | some μ3 =>
      rw [q3] at h
      unfold putIx at q3
      split at q3
      · rename_i n kvs k hd hk
        split at q3
        · rename_i hc
          cases q3
          obtain ⟨hnl, hlt⟩ := hc
          obtain ⟨_, hq, a, vs, ea, nls, ql, qH, rr⟩ := dctOf_ok s2.st (Rep.ext s1.st.live e2 _ _ rw1) hd
          have ek := keyD_ok rw2 hk
          have rd2 := Rep.ext S.st.live (e1.trans e2) _ _ r
          subst ek
          obtain ⟨vs', ep, rp⟩ := put_rel k rd2 rr
          obtain ⟨ex, st3⟩ := st_putO (o' := .dct (putD kvs k d)) (ds := kvs.map (·.2)) (xs := vs) s2.st hq ql rfl (putD_flat nls hnl) rp
          have hll : (kvsV kvs vs).length < sizeLine := by
            have h1 : (kvsV kvs vs).length ≤ kvs.length := by unfold kvsV; rw [List.length_zip, List.length_map]; exact Nat.min_le_left _ _
            have : cap < sizeLine := by decide
            omega
          refine ⟨a, _, ea, DPut.k qH hll, ?_⟩
          rw [ep]
          exact h σ _ m2 ((e1.trans e2).trans ex) (s2.ext ex st3)
        · cases q3
      · cases q3
theorem dget_rel {μ : Store} {m : AM} {H : Hp} {d k : D} {x y : V} {kvs : List (DK × D)} {kk : DK} (st : StOk G μ m H) (rd : Rep G m H d x) (rk : Rep G m H k y) (hd : dctR μ d = some kvs) (hk : keyD k = some kk) :
    ∃ a ov, x = .ref a ∧ DGet H a y ov ∧ (valD kvs kk = none → ov = none) ∧ ∀ r, valD kvs kk = some r → ∃ v, ov = some v ∧ Rep G m H r v := by
  obtain ⟨a, vs, rfl, qH, rr⟩ := dctR_ok st rd hd
  have ek := keyD_ok rk hk
  subst ek
  obtain ⟨g1, g2⟩ := get_rel kk rr
  exact ⟨a, _, rfl, .inl ⟨_, _, qH, rfl, rfl⟩, g1, g2⟩
theorem se_dget (hu : X.A.units + 64 < cLine) (ho : PE X o (tE G W cf co)) (hi : PE X i (tE G W cf ci)) (hs : NoSl i := by intro _ _; rfl) : PE X (.Subscript o i pos) (tE G W cf (.op2 fDget co ci)) :=
  pe_of (pe_dget (by omega) ho hi hs) fun σ H Q ⟨ρ, μ, m, S, h⟩ => by
    unfold ev at h
    refine tE_sub S h.bind (.refl _ _) fun d μ1 v H1 m1 q e1 s1 rv => ?_
    refine tE_sub s1 q.bind e1 fun d2 μ2 v2 H2 m2 q e2 s2 rv2 => ?_
    obtain ⟨r, hf, q⟩ := out_lift q
    unfold fDget at hf
    split at hf
    · rename_i kvs k hd hk
      obtain ⟨a, ov, ea, g, g1, g2⟩ := dget_rel s2.st (Rep.ext s1.st.live e2 _ _ rv) rv2 hd hk
      obtain ⟨w, rfl, rw'⟩ := g2 r hf
      exact ⟨a, w, ea, g, q w H2 m2 (e1.trans e2) s2 rw'⟩
    · cases hf
theorem se_dget2 (hu : X.A.units + 64 < cLine) (ho : PE X o (tE G W cf co)) (he : PE X e (tE G W cf ce)) (hf : PE X f (tE G W cf cx)) (mm : M2 X o "get" apos e f cpos) :
    PE X (.Call (.Attribute o "get" apos) [e, f] [] cpos) (tE G W cf (.meth isDct mDget co [ce, cx])) :=
  pe_of (pe_dget2 (by omega) ho he hf mm) fun σ H Q ⟨ρ, μ, m, S, h⟩ => by
    unfold ev at h
    refine tE_sub S h.bind (.refl _ _) fun d μ1 v H1 m1 q e1 s1 rv => ?_
    by_cases hc : isDct μ1 d = true
    · rw [if_pos hc] at q
      unfold isDct at hc
      cases hd : dctR μ1 d with
      | none => rw [hd] at hc; cases hc
      | some kvs =>
        obtain ⟨a, vs, rfl, qH, rr⟩ := dctR_ok s1.st rv hd
        refine ⟨a, rfl, .inl ⟨_, qH⟩, ?_⟩
        unfold evs evs evs at q
        rw [Res.bind_assoc] at q
        refine tE_sub s1 q.bind e1 fun d2 μ2 v2 H2 m2 q e2 s2 rv2 => ?_
        rw [Res.bind_assoc, Res.bind_assoc] at q
        refine tE_sub s2 q.bind (e1.trans e2) fun d3 μ3 v3 H3 m3 q e3 s3 rv3 => ?_
        simp only [bind_ok] at q
        obtain ⟨r, μ4, hr, q⟩ := out_noExc q
        unfold mDget at hr
        simp only at hr
        split at hr
        · rename_i kvs' k hd' hk
          cases hr
          obtain ⟨a', ov, ea, g, g1, g2⟩ := dget_rel s3.st (Rep.ext s1.st.live (e2.trans e3) _ _ rv) (Rep.ext s2.st.live e3 _ _ rv2) hd' hk
          cases ea
          refine ⟨ov, g, ?_⟩
          cases hv : valD kvs' k with
          | none =>
            rw [g1 hv]
            rw [hv] at q
            exact q v3 H3 m3 ((e1.trans e2).trans e3) s3 rv3
          | some r =>
            obtain ⟨w, ew, rw'⟩ := g2 r hv
            rw [ew]
            rw [hv] at q
            exact q w H3 m3 ((e1.trans e2).trans e3) s3 rw'
        · cases hr
    · rw [if_neg hc] at q; exact q.elim
theorem tDin_of {neg : Bool} {ff : Store → D → D → Option D} (hff : ∀ μ k d r, ff μ k d = some r → ∃ kvs kk, dctR μ d = some kvs ∧ keyD k = some kk ∧ r = .bl (if neg then !(valD kvs kk).isSome else (valD kvs kk).isSome)) {σ : St} {H : Hp} {Q : VK}
    (h0 : tE G W cf (.op2 ff ca cb) σ H Q) : tE G W cf ca σ H fun y H1 => tE G W cf cb σ H1 fun x H2 => ∃ a o, x = .ref a ∧ DGet H2 a y o ∧ Q (.bl (if neg then !o.isSome else o.isSome)) H2 := by
  obtain ⟨ρ, μ, m, S, h⟩ := h0
  unfold ev at h
  refine tE_sub S h.bind (.refl _ _) fun d μ1 v H1 m1 q e1 s1 rv => ?_
  refine tE_sub s1 q.bind e1 fun d2 μ2 v2 H2 m2 q e2 s2 rv2 => ?_
  obtain ⟨r, hf, q⟩ := out_lift q
  obtain ⟨kvs, kk, hd, hk, rfl⟩ := hff _ _ _ _ hf
  obtain ⟨a, ov, ea, g, g1, g2⟩ := dget_rel s2.st rv2 (Rep.ext s1.st.live e2 _ _ rv) hd hk
  refine ⟨a, ov, ea, g, ?_⟩
  have eo : ov.isSome = (valD kvs kk).isSome := by
    cases hv : valD kvs kk with
    | none => rw [g1 hv]; rfl
    | some r => obtain ⟨w, ew, _⟩ := g2 r hv; rw [ew]; rfl
  rw [eo]
  exact q _ H2 m2 (e1.trans e2) s2 (by unfold Rep; rfl)
theorem fDin_sh : ∀ (μ : Store) (k d r : D), fDin μ k d = some r → ∃ kvs kk, dctR μ d = some kvs ∧ keyD k = some kk ∧ r = .bl (if false then !(valD kvs kk).isSome else (valD kvs kk).isSome) := fun μ k d r h => by
  unfold fDin at h
  split at h
  · rename_i kvs kk h1 h2
    cases h
    exact ⟨kvs, kk, h1, h2, rfl⟩
  · cases h
theorem fDnin_sh : ∀ (μ : Store) (k d r : D), fDnin μ k d = some r → ∃ kvs kk, dctR μ d = some kvs ∧ keyD k = some kk ∧ r = .bl (if true then !(valD kvs kk).isSome else (valD kvs kk).isSome) := fun μ k d r h => by
  unfold fDnin at h
  split at h
  · rename_i kvs kk h1 h2
    cases h
    exact ⟨kvs, kk, h1, h2, rfl⟩
  · cases h
theorem se_din (hu : X.A.units + 64 < cLine) (ha : PE X a (tE G W cf ca)) (hb : PE X b (tE G W cf cb)) (h1 : behindInMarks .In b = false) : PE X (.Compare a [.In] [b] pos) (tE G W cf (.op2 fDin ca cb)) :=
  pe_of (pe_cmp (pc_din (by omega) ha hb) h1) fun σ H Q h => tDin_of (neg := false) fDin_sh h
theorem se_dnin (hu : X.A.units + 64 < cLine) (ha : PE X a (tE G W cf ca)) (hb : PE X b (tE G W cf cb)) (h1 : behindInMarks .NotIn b = false) : PE X (.Compare a [.NotIn] [b] pos) (tE G W cf (.op2 fDnin ca cb)) :=
  pe_of (pe_cmp (pc_dnotin (by omega) ha hb) h1) fun σ H Q h => tDin_of (neg := true) fDnin_sh h
theorem b_dlen : CallR X (.builtin "len") (rN G fDlen) := by
  intro pins s σ H xs us Q I rx ⟨ds, μ, m, r, st, rr, hf, k⟩
  unfold fDlen at hf
  split at hf
  · rename_i d
    split at hf
    · rename_i kvs hd
      cases hf
      obtain ⟨v, rfl, rv⟩ := reps1 rr
      obtain ⟨a, vs, rfl, qH, rr⟩ := dctR_ok st rv hd
      obtain ⟨u, rfl, ru⟩ := vals1 rx
      cases ru
      refine d_len I qH fun t s' I' => ⟨.int kvs.length, H, I', ⟨t, by rw [kvsV_len rr]⟩, ?_⟩
      exact k _ H (.refl _ _) st (by unfold Rep; rfl)
    · cases hf
  · cases hf
/-! displays: the dict stands first, then the pairs, then it is filled -/
def kvD : List D → Option (List (DK × D))
  | [] => some []
  | [_] => none
  | k :: v :: r => match keyD k, kvD r with
    | some k, some q => some ((k, v) :: q)
    | _, _ => none
def mergeD (kvs more : List (DK × D)) : List (DK × D) := more.foldl (fun acc kv => putD acc kv.1 kv.2) kvs
def mDisp (ds : List D) (μ : Store) : Res D := match ds with
  | .ref n :: ds => match μ[n]?, kvD ds with
    | some (.dct []), some kvs => if kvs.length ≤ 15 ∧ noLsts (kvs.map (·.2)) = true then .ok (.ref n) (μ.set n (.dct (mergeD [] kvs))) else .stuck
    | _, _ => .stuck
  | _ => .stuck
def fl2 : List (V × V) → List V
  | [] => []
  | p :: r => p.1 :: p.2 :: fl2 r
inductive PDs (G : GC) (W : WX) (cf : String → List D → Store → Res D) (X : Cx) (pos : Pos) : List (Option Expr) → List Expr → List CE → Prop
  | nil : PDs G W cf X pos [] [] []
  | cons {k v : Expr} {ks : List (Option Expr)} {vs : List Expr} {ck cv : CE} {cs : List CE} : PE X k (tE G W cf ck) → PE X v (tE G W cf cv) → PDs G W cf X pos ks vs cs → PDs G W cf X pos (some k :: ks) (v :: vs) (ck :: cv :: cs)
theorem kvD_rel {m : AM} {H : Hp} : ∀ {ps : List (V × V)} {ds : List D} {kvs : List (DK × D)}, Reps G m H ds (fl2 ps) → kvD ds = some kvs →
    ∃ vs, ps = (kvsV kvs vs).map (fun kv => (kV kv.1, kv.2)) ∧ (kvsV kvs vs).length = kvs.length ∧ Reps G m H (kvs.map (·.2)) vs
  | [], ds, kvs, r, h => by
    unfold fl2 at r; cases ds with
    | nil => unfold kvD at h; cases h; exact ⟨[], rfl, rfl, .nil⟩
    | cons d ds => obtain ⟨_, _, e, _⟩ := r.uncons; cases e
  | p :: ps, ds, kvs, r, h => by
    unfold fl2 at r
    match ds, r, h with
    | [], r, h => exact absurd r.length (by simp)
    | [d], r, h => unfold kvD at h; cases h
    | d :: d2 :: ds, r, h =>
      obtain ⟨w, ws, e1, r1, r2⟩ := r.uncons
      cases e1
      obtain ⟨w, ws, e1, r3, r4⟩ := r2.uncons
      cases e1
      unfold kvD at h
      split at h
      · rename_i k q hk hq
        cases h
        obtain ⟨vs, e1, e2, e3⟩ := kvD_rel r4 hq
        have ek := keyD_ok r1 hk
        refine ⟨p.2 :: vs, ?_, ?_, .cons r3 e3⟩
        · show _ = (kV (toKey k), p.2) :: (kvsV q vs).map _
          rw [← e1, ← ek]
        · show (kvsV q vs).length + 1 = q.length + 1
          rw [e2]
      · cases h
theorem mergeD_flat : ∀ {more kvs : List (DK × D)}, noLsts (kvs.map (·.2)) = true → noLsts (more.map (·.2)) = true → noLsts ((mergeD kvs more).map (·.2)) = true
  | [], kvs, h, _ => h
  | p :: r, kvs, h, q => by
    rw [List.map_cons] at q
    unfold noLsts at q
    obtain ⟨q1, q2⟩ := Bool.and_eq_true_iff.mp q
    exact mergeD_flat (kvs := putD kvs p.1 p.2) (putD_flat h q1) q2
theorem merge_rel {m : AM} {H : Hp} : ∀ {more kvs : List (DK × D)} {ws vs : List V}, Reps G m H (more.map (·.2)) ws → Reps G m H (kvs.map (·.2)) vs →
    ∃ vs', mergeK (kvsV kvs vs) (kvsV more ws) = kvsV (mergeD kvs more) vs' ∧ Reps G m H ((mergeD kvs more).map (·.2)) vs'
  | [], kvs, ws, vs, _, r => ⟨vs, rfl, r⟩
  | p :: more, kvs, ws, vs, q, r => by
    rw [List.map_cons] at q
    obtain ⟨w, ws, rfl, q1, q2⟩ := q.uncons
    obtain ⟨vs', e, r'⟩ := put_rel p.1 q1 r
    have e0 : mergeK (kvsV kvs vs) (kvsV (p :: more) (w :: ws)) = mergeK (putK (kvsV kvs vs) (toKey p.1) w) (kvsV more ws) := rfl
    rw [e0, e]
    exact merge_rel q2 r'
def tPs (G : GC) (W : WX) (cf : String → List D → Store → Res D) (cs : List CE) (σ : St) (H : Hp) (Q : List (V × V) → Hp → Prop) : Prop := ∃ ρ μ m, SR G ρ μ m σ H ∧ Out (evs cf cs ρ μ) (fun ds μ' => ∀ ps H' m', Ext m H m' H' → SR G ρ μ' m' σ H' → Reps G m' H' ds (fl2 ps) → Q ps H') (ExK G W m H σ)
theorem pds_run {keys : List (Option Expr)} {vals : List Expr} {cs : List CE} (h : PDs G W cf X pos keys vals cs) : ∃ trs, PPs X pos keys vals trs ∧ ∀ σ H Q, tPs G W cf cs σ H Q → tPairs trs σ H Q := by
  induction h with
  | nil => exact ⟨[], pps_nil, fun σ H Q ⟨ρ, μ, m, S, h⟩ => by
      unfold evs at h
      exact h [] H m (.refl _ _) S .nil⟩
  | @cons k v ks vs ck cv cs hk hv _ ih =>
    obtain ⟨trs, pr, ht⟩ := ih
    refine ⟨(tE G W cf ck, tE G W cf cv) :: trs, pps_cons hk hv pr, fun σ H Q ⟨ρ, μ, m, S, h⟩ => ?_⟩
    unfold tPairs
    unfold evs at h
    refine tE_sub S h.bind (.refl _ _) fun d μ1 v H1 m1 q e1 s1 rv => ?_
    unfold evs at q
    rw [Res.bind_assoc] at q
    refine tE_sub s1 q.bind e1 fun d2 μ2 v2 H2 m2 q e2 s2 rv2 => ?_
    rw [Res.bind_assoc] at q
    simp only [bind_ok] at q
    refine ht σ H2 _ ⟨ρ, μ2, m2, s2, q.bind.mono (fun ds μ3 q ps H3 m3 e3 s3 rps => ?_) fun _ _ _ z => z.step (e1.trans e2)⟩
    exact q ((v, v2) :: ps) H3 m3 ((e1.trans e2).trans e3) s3 (.cons (Rep.ext s1.st.live (e2.trans e3) _ _ rv) (.cons (Rep.ext s2.st.live e3 _ _ rv2) rps))
theorem se_disp {keys : List (Option Expr)} {vals : List Expr} {cs : List CE} (h : PDs G W cf X pos keys vals cs) (hall : keys.all (·.isSome) = true) (hl : keys.length = vals.length) (h0 : keys ≠ []) (h15 : keys.length ≤ 15) :
    PE X (.Dict keys vals pos) (tE G W cf (.meth isDct mDisp (.opM fDnew []) cs)) := by
  obtain ⟨trs, pr, ht⟩ := pds_run h
  refine pe_of (pe_disp pr hall hl h0 h15) fun σ H Q ⟨ρ, μ, m, S, h⟩ p np => ?_
  unfold ev at h
  unfold ev at h
  rw [evs_nil] at h
  simp only [bind_ok] at h
  have e0 : fDnew [] μ = .ok (.ref μ.length) (μ ++ [.dct []]) := rfl
  rw [e0, show noExc (Res.ok (D.ref μ.length) (μ ++ [MO.dct []])) = .ok (D.ref μ.length) (μ ++ [MO.dct []]) from rfl, bind_ok] at h
  obtain ⟨ex, r, st⟩ := st_newO (o := .dct []) (ds := []) (xs := []) S.st np rfl (by unfold noLsts; rfl) .nil
  have hc : isDct (μ ++ [.dct []]) (.ref μ.length) = true := by
    unfold isDct dctR; simp
  simp only [if_pos hc] at h
  refine ht σ _ _ ⟨ρ, _, _, S.ext ex st, h.bind.mono (fun ds μ2 q ps H2 m2 e2 s2 rps => ?_) fun _ _ _ z => z.step ex⟩
  obtain ⟨y, μ3, hr, q⟩ := out_noExc q
  unfold mDisp at hr
  simp only at hr
  split at hr
  · rename_i kvs hn hk
    split at hr
    · rename_i hc2
      cases hr
      obtain ⟨c15, cfl⟩ := hc2
      have rr0 := Rep.ext st.live e2 _ _ r
      have hdd : dctOf μ2 (.ref μ.length) = some (μ.length, []) := by unfold dctOf; simp only; rw [hn]
      obtain ⟨_, hq, a, vs0, ea, nls, ql, qH, rr⟩ := dctOf_ok s2.st rr0 hdd
      cases ea
      obtain ⟨vs, ep, el, rv⟩ := kvD_rel rps hk
      have ev0 : kvsV [] vs0 = [] := rfl
      rw [ev0] at qH
      obtain ⟨vs', em, rm⟩ := merge_rel (kvs := []) (vs := []) rv .nil
      obtain ⟨ex3, st3⟩ := st_putO (o' := .dct (mergeD [] kvs)) (ds := []) (xs := []) s2.st hq ql rfl (mergeD_flat (kvs := []) (by rw [List.map_nil]; unfold noLsts; rfl) cfl) rm
      refine ⟨qH, kvsV kvs vs, ep, by rw [el]; exact c15, ?_⟩
      have e5 : mergeK [] (kvsV kvs vs) = kvsV (mergeD [] kvs) vs' := em
      rw [e5]
      exact q _ _ m2 ((ex.trans e2).trans ex3) (s2.ext ex3 st3) (Rep.ext s2.st.live ex3 _ _ rr0)
    · cases hr
  · cases hr
/-! a dict that is not changed any more -/
theorem ss_gh {E : XK} {st : Stmt} {cs : CS} (i : Nat) (h : PS X st (tS G E cf cs)) : PS X st (tS G E cf (.gh i cs)) := by
  refine ⟨fun pins s σ H Dn I hw => ?_⟩
  obtain ⟨ρ, μ, m, S, hw⟩ := hw
  unfold ex at hw
  cases hg : ghE i ρ μ with
  | none => rw [hg] at hw; exact hw.elim
  | some p =>
    obtain ⟨ρ1, μ1⟩ := p
    rw [hg] at hw
    unfold ghE at hg
    split at hg
    · rename_i n hρ
      split at hg
      · rename_i kvs hμ
        cases hg
        have st' := S.st
        obtain ⟨h0, a, xs, q1, q2, q3⟩ := st'.obj n _ _ hμ rfl
        obtain ⟨v, hv, rv⟩ := S.env i _ hρ
        have ev' : v = .ref a := by
          unfold Rep at rv
          obtain ⟨b, e2, q4⟩ := rv
          rw [q1] at q4
          rcases q4 with q4 | q4
          · rw [e2]; simp at q4; rw [q4]
          · simp at q4
        subst ev'
        have hn : n < m.l.length := (List.getElem?_eq_some_iff.mp q1).1
        obtain ⟨od, I1⟩ := I.lock q2 True.intro
        have mem : ∀ c : Addr, some c ∈ m.l.set n none → some c ∈ m.l := fun c z => by
          rcases List.mem_or_eq_of_mem_set z with z | z
          · exact z
          · cases z
        have memh : ∀ c : Addr, (⟨m.l.set n none, m.x⟩ : AM).has c → m.has c := fun c z => z.elim (fun z => .inl (mem c z)) .inr
        have na : ¬ (⟨m.l.set n none, m.x⟩ : AM).has a := fun z => by
          rcases z with z | z
          · obtain ⟨j, hj⟩ := List.mem_iff_getElem?.mp z
            by_cases hjn : n = j
            · subst hjn; rw [List.getElem?_set_self hn] at hj; simp at hj
            · rw [List.getElem?_set_ne hjn] at hj
              exact hjn (st'.inj _ _ _ q1 hj)
          · exact st'.apart a (List.mem_of_getElem? q1) z
        have ha : m.has a := .inl (List.mem_of_getElem? q1)
        have ex : Ext m H ⟨m.l.set n none, m.x⟩ (upd H a (.frz od (moH (.dct kvs) xs))) := ⟨by simp, fun i hi => by
            by_cases hjn : n = i
            · subst hjn; exact .inr (by rw [List.getElem?_set_self hn])
            · exact .inl (by rw [List.getElem?_set_ne hjn]), fun c hc hnc => absurd (memh c hc) hnc, fun c o z nc => by
              have ne : c ≠ a := fun e => nc (by rw [e]; exact ha)
              rw [upd_ne ne]; exact z, rfl, fun c hc => by
              have ne : c ≠ a := fun e => st'.apart a (List.mem_of_getElem? q1) (by rw [← e]; exact hc)
              rw [upd_ne ne]⟩
        have nes : ∀ {k : Nat} {b : Addr}, n ≠ k → m.l[k]? = some (some b) → b ≠ a := fun {k b} hjn g1 e => by subst e; exact hjn (st'.inj _ _ _ q1 g1)
        have S1 : SR G ρ (μ.set n .dead) ⟨m.l.set n none, m.x⟩ σ (upd H a (.frz od (moH (.dct kvs) xs))) := S.ext ex ⟨by simp [st'.len], fun i j c h1 h2 => by
            have z : ∀ {i : Nat}, (m.l.set n none)[i]? = some (some c) → m.l[i]? = some (some c) := fun {i} z => by
              by_cases hjn : n = i
              · subst hjn; rw [List.getElem?_set_self hn] at z; simp at z
              · rw [List.getElem?_set_ne hjn] at z; exact z
            exact st'.inj i j c (z h1) (z h2), fun c h1 h2 => st'.apart c (mem c h1) h2, fun k o es hk hkd => by
            by_cases hjn : n = k
            · subst hjn
              rw [List.getElem?_set_self (by rw [← st'.len]; exact hn)] at hk
              have e0 : MO.dead = o := by simpa using hk
              subst e0
              cases hkd
            · rw [List.getElem?_set_ne hjn] at hk
              obtain ⟨g0, b, ys, g1, g2, g3⟩ := st'.obj k o es hk hkd
              exact ⟨g0, b, ys, by show (m.l.set n none)[k]? = _; rw [List.getElem?_set_ne hjn]; exact g1, by rw [upd_ne (nes hjn g1)]; exact g2, Reps.ext st'.live ex _ _ g3⟩, fun k hk => by
            by_cases hjn : n = k
            · subst hjn; show (m.l.set n none)[n]? = _; rw [List.getElem?_set_self hn]
            · rw [List.getElem?_set_ne hjn] at hk
              show (m.l.set n none)[k]? = _
              rw [List.getElem?_set_ne hjn]
              exact st'.dead k hk, fun c hc => by
            have ne : c ≠ a := fun e => na (by rw [← e]; exact hc)
            obtain ⟨o, mu, z⟩ := st'.live c (memh c hc)
            exact ⟨o, mu, by rw [upd_ne ne]; exact z⟩⟩
        have R1 : Rep G ⟨m.l.set n none, m.x⟩ (upd H a (.frz od (moH (.dct kvs) xs))) (.dcv (kvs.map (·.1)) (kvs.map (·.2))) (.ref a) := by
          unfold Rep
          refine ⟨a, xs, od, rfl, na, ?_, by rw [List.length_map, List.length_map], Reps.ext st'.live ex _ _ q3⟩
          rw [upd_same, List.map_map]
          rfl
        have hi : i < ρ.length := (List.getElem?_eq_some_iff.mp hρ).1
        have S2 := S1.set hi R1
        have es : σ.set i (some (V.ref a)) = σ := by
          have hiσ : i < σ.length := by rw [← S.len]; exact hi
          have := (List.getElem?_eq_some_iff.mp hv).2
          rw [← this, List.set_getElem_self]
        rw [es] at S2
        exact h.run pins s σ _ Dn I1 ⟨_, _, _, S2, Out.mono hw (fun fl μ2 k => FlK.step k ex) fun _ _ _ z => ExS.step z ex⟩
      · cases hg
    · cases hg
end
/-! ## walks over a dict that is not changed any more -/
def keyDD : DK → D
  | .inl i => .int i
  | .inr s => .str s
def fKeys : Itf := fun _ ds => match ds with
  | [.dcv ks _] => some (ks.map keyDD)
  | _ => none
def fVals : Itf := fun _ ds => match ds with
  | [.dcv ks vs] => if ks.length = vs.length then some vs else none
  | _ => none
def fItems : Itf := fun _ ds => match ds with
  | [.dcv ks vs] => some ((ks.zip vs).map fun p => .tup [keyDD p.1, p.2])
  | _ => none
theorem keyDD_rep {G : GC} {m : AM} {H : Hp} (k : DK) : Rep G m H (keyDD k) (kV (toKey k)) := by
  cases k <;> (unfold keyDD Rep; rfl)
section
variable {G : GC} {W : WX} {cf : String → List D → Store → Res D} {X : Cx} {tg e : Expr} {ce : CE} {apos cpos : Pos}
theorem zip_at {ks : List DK} {xs : List V} {i : Nat} {k : Key} {v : V} (h : ((ks.map toKey).zip xs)[i]? = some (k, v)) : ∃ k', ks[i]? = some k' ∧ k = toKey k' ∧ xs[i]? = some v := by
  obtain ⟨z1, z2⟩ := List.getElem?_zip_eq_some.mp h
  rw [List.getElem?_map] at z1
  cases hk : ks[i]? with
  | none => rw [hk] at z1; cases z1
  | some k' => rw [hk] at z1; cases z1; exact ⟨k', rfl, rfl, z2⟩
theorem si_keys (he : PE X e (tE G W cf ce)) : PI X tg e (tI G W cf fKeys [ce]) :=
  pi_of (pi_keys he) fun σ H R ⟨ρ, μ, m, S, h⟩ => by
    refine tE_sub S (evs_one h.bind) (.refl _ _) fun d μ1 v H1 m1 q e1 s1 rv => ?_
    obtain ⟨items, hf, q⟩ := out_lift q
    cases d with
    | dcv ks vs =>
      cases hf
      unfold Rep at rv
      obtain ⟨a, xs, od, rfl, nm, hs, hl, rr⟩ := rv
      have hx := rr.length
      refine ⟨a, od, rfl, .inl ⟨_, hs, q _ H1 m1 e1 s1 ⟨fun i d H2 m2 e2 hd => ?_, fun H2 m2 e2 => ⟨(e2.keep _ _ hs nm).1, by simp; omega⟩⟩⟩⟩
      rw [List.getElem?_map] at hd
      cases hk : ks[i]? with
      | none => rw [hk] at hd; cases hd
      | some k' =>
        rw [hk] at hd
        cases hd
        have hi : i < ks.length := (List.getElem?_eq_some_iff.mp hk).1
        refine ⟨⟨(e2.keep _ _ hs nm).1, by simp; omega⟩, fun x H' ⟨e3, k, v, hkv, hx'⟩ => ?_⟩
        obtain ⟨k2, g1, rfl, _⟩ := zip_at hkv
        rw [hk] at g1
        cases g1
        subst hx' e3
        exact ⟨fun _ _ z => z, keyDD_rep _⟩
    | _ => cases hf
theorem si_vals (he : PE X e (tE G W cf ce)) (hbase : attributeBase e "values" X.env (eval e X.env) = eval e X.env := by rfl) (hline : (apos.endLine == cpos.line) = true := by rfl) :
    PI X tg (.Call (.Attribute e "values" apos) [] [] cpos) (tI G W cf fVals [ce]) :=
  pi_of (pi_values he hbase hline) fun σ H R ⟨ρ, μ, m, S, h⟩ => by
    refine tE_sub S (evs_one h.bind) (.refl _ _) fun d μ1 v H1 m1 q e1 s1 rv => ?_
    obtain ⟨items, hf, q'⟩ := out_lift q
    cases d with
    | dcv ks vs =>
      simp only [fVals] at hf
      split at hf
      · cases hf
        unfold Rep at rv
        obtain ⟨a, xs, od, rfl, nm, hs, hl, rr⟩ := rv
        have hx := rr.length
        refine ⟨a, od, _, rfl, hs, q' _ H1 m1 e1 s1 ⟨fun i d H2 m2 e2 hd => ?_, fun H2 m2 e2 => ⟨(e2.keep _ _ hs nm).1, by rw [List.length_zip, List.length_map]; omega⟩⟩⟩
        obtain ⟨w, g1, g2⟩ := rr.get hd
        have hi : i < items.length := (List.getElem?_eq_some_iff.mp hd).1
        refine ⟨⟨(e2.keep _ _ hs nm).1, by rw [List.length_zip, List.length_map]; omega⟩, fun x H' ⟨e3, k, hkv⟩ => ?_⟩
        obtain ⟨k2, _, _, g3⟩ := zip_at hkv
        rw [g1] at g3
        cases g3
        subst e3
        exact ⟨fun _ _ z => z, Rep.mon s1.st.live e2 _ _ g2⟩
      · cases hf
    | _ => cases hf
theorem si_items {elts : List Expr} {kk : Nat} {tpos : Pos} (he : PE X e (tE G W cf ce)) (hbase : attributeBase e "items" X.env (eval e X.env) = eval e X.env := by rfl) (hline : (apos.endLine == cpos.line) = true := by rfl) :
    PI X (.Tuple elts kk tpos) (.Call (.Attribute e "items" apos) [] [] cpos) (tI G W cf fItems [ce]) :=
  pi_of (pi_items he hbase hline) fun σ H R ⟨ρ, μ, m, S, h⟩ => by
    refine tE_sub S (evs_one h.bind) (.refl _ _) fun d μ1 v H1 m1 q e1 s1 rv => ?_
    obtain ⟨items, hf, q⟩ := out_lift q
    cases d with
    | dcv ks vs =>
      cases hf
      unfold Rep at rv
      obtain ⟨a, xs, od, rfl, nm, hs, hl, rr⟩ := rv
      have hx := rr.length
      refine ⟨a, od, _, rfl, hs, q _ H1 m1 e1 s1 ⟨fun i d H2 m2 e2 hd => ?_, fun H2 m2 e2 => ⟨(e2.keep _ _ hs nm).1, by simp; omega⟩⟩⟩
      rw [List.getElem?_map] at hd
      cases z : (ks.zip vs)[i]? with
      | none => rw [z] at hd; cases hd
      | some p =>
        rw [z] at hd
        cases hd
        obtain ⟨z1, z2⟩ := List.getElem?_zip_eq_some.mp z
        obtain ⟨w, g1, g2⟩ := rr.get z2
        have hi : i < ks.length := (List.getElem?_eq_some_iff.mp z1).1
        refine ⟨⟨(e2.keep _ _ hs nm).1, by simp; omega⟩, fun x H' ⟨T, k, v, hkv, hx', nT, eH⟩ => ?_⟩
        obtain ⟨k2, g3, rfl, g4⟩ := zip_at hkv
        rw [g1] at g4
        rw [z1] at g3
        cases g3
        cases g4
        subst hx' eH
        refine ⟨fun a o q => by rw [upd_ne (ne_of_none q nT)]; exact q, ?_⟩
        unfold Rep
        exact ⟨T, _, rfl, .inl (.inl upd_same), .cons (keyDD_rep _) (.cons (Rep.mon s1.st.live (e2.trans (.new nT)) _ _ g2) .nil)⟩
    | _ => cases hf
end
end Ev

namespace Ev
open PySem PySem.Spec L2 Res
/-! ## sorted of pairs of ints -/
def lePr (p q : Int × Int) : Bool := decide (p.1 < q.1) || (decide (p.1 = q.1) && decide (p.2 ≤ q.2))
def insP (p : Int × Int) : List (Int × Int) → List (Int × Int)
  | [] => [p]
  | q :: r => if lePr p q = true then p :: q :: r else q :: insP p r
def sortP : List (Int × Int) → List (Int × Int)
  | [] => []
  | p :: r => insP p (sortP r)
def pairD (p : Int × Int) : D := .tup [.int p.1, .int p.2]
def prOf : D → Option (Int × Int)
  | .tup [.int i, .int j] => some (i, j)
  | _ => none
def prsOf : List D → Option (List (Int × Int))
  | [] => some []
  | d :: ds => match prOf d, prsOf ds with
    | some p, some r => some (p :: r)
    | _, _ => none
def fSortP (μ : Store) : List D → Option D
  | [d] => match asL μ d with
    | some ds => match prsOf ds with
      | some ps => some (.lst ((sortP ps).map pairD))
      | none => none
    | none => none
  | _ => none
theorem lePr_iff {p q : Int × Int} : lePr p q = true ↔ p.1 < q.1 ∨ (p.1 = q.1 ∧ p.2 ≤ q.2) := by
  unfold lePr
  simp [Bool.or_eq_true, Bool.and_eq_true]
theorem insP_perm (p : Int × Int) : ∀ js : List (Int × Int), (insP p js).Perm (p :: js)
  | [] => .refl _
  | q :: js => by
    unfold insP
    split
    · exact .refl _
    · exact ((insP_perm p js).cons q).trans (.swap p q js)
theorem sortP_perm : ∀ is : List (Int × Int), (sortP is).Perm is
  | [] => .refl _
  | p :: is => (insP_perm p _).trans ((sortP_perm is).cons p)
theorem insP_pair (p : Int × Int) : ∀ js : List (Int × Int), js.Pairwise (fun a b => lePr a b = true) → (insP p js).Pairwise (fun a b => lePr a b = true)
  | [], _ => by unfold insP; simp
  | q :: js, h => by
    unfold insP
    obtain ⟨h1, h2⟩ := List.pairwise_cons.mp h
    split
    · rename_i hl
      refine List.pairwise_cons.mpr ⟨fun y hy => ?_, h⟩
      rcases List.mem_cons.mp hy with z | z
      · rw [z]; exact hl
      · have a := lePr_iff.mp (h1 y z)
        have b := lePr_iff.mp hl
        exact lePr_iff.mpr (by omega)
    · rename_i hl
      refine List.pairwise_cons.mpr ⟨fun y hy => ?_, insP_pair p js h2⟩
      rcases List.mem_cons.mp ((insP_perm p js).mem_iff.mp hy) with z | z
      · rw [z]
        have : ¬ (p.1 < q.1 ∨ (p.1 = q.1 ∧ p.2 ≤ q.2)) := fun z => hl (lePr_iff.mpr z)
        exact lePr_iff.mpr (by omega)
      · exact h1 y z
theorem sortP_pair : ∀ is : List (Int × Int), (sortP is).Pairwise (fun a b => lePr a b = true)
  | [] => by unfold sortP; simp
  | p :: is => insP_pair p _ (sortP_pair is)
theorem sortP_eq {as bs : List (Int × Int)} (hp : as.Perm bs) (h1 : as.Pairwise (fun a b => lePr a b = true)) (h2 : bs.Pairwise (fun a b => lePr a b = true)) : as = bs :=
  List.Perm.eq_of_pairwise (fun a b _ _ h h' => by
    have x := lePr_iff.mp h
    have y := lePr_iff.mp h'
    exact Prod.ext (by omega) (by omega)) h1 h2 hp
section
variable {G : GC} {X : Cx} {μ : Store} {m : AM} {H : Hp}
theorem prOf_rep {K : PySem.W.Frag} (hK : G.K = K) {d : D} {v : V} {p : Int × Int} (r : Rep G m H d v) (h : prOf d = some p) : d = pairD p ∧ ∃ t, v = .ref t ∧ SqT K H t [.int p.1, .int p.2] := by
  unfold prOf at h
  split at h
  · rename_i i j
    cases h
    refine ⟨rfl, ?_⟩
    unfold Rep at r
    obtain ⟨a, xs, e1, hs, rr⟩ := r
    obtain ⟨x, ys, rfl, r1, r2⟩ := rr.uncons
    obtain ⟨y, zs, rfl, r3, r4⟩ := r2.uncons
    have hz : zs = [] := by unfold Reps at r4; exact r4
    unfold Rep at r1 r3
    subst r1 r3 hz
    subst hK
    exact ⟨a, e1, hs⟩
  · cases h
theorem prsOf_rep {K : PySem.W.Frag} (hK : G.K = K) : ∀ {ds : List D} {vs : List V} {ps : List (Int × Int)}, Reps G m H ds vs → prsOf ds = some ps → ds = ps.map pairD ∧ ∀ x ∈ vs, ∃ p ∈ ps, ∃ t, x = V.ref t ∧ SqT K H t [.int p.1, .int p.2]
  | [], vs, ps, r, h => by
    unfold prsOf at h
    cases h
    have : vs = [] := by unfold Reps at r; exact r
    subst this
    exact ⟨rfl, fun x hx => by simp at hx⟩
  | d :: ds, vs, ps, r, h => by
    obtain ⟨w, ws, rfl, r1, r2⟩ := r.uncons
    unfold prsOf at h
    split at h
    · rename_i p q hp hq
      cases h
      obtain ⟨e1, t, e2, e3⟩ := prOf_rep hK r1 hp
      obtain ⟨e4, e5⟩ := prsOf_rep hK r2 hq
      refine ⟨by rw [e1, e4]; rfl, fun x hx => ?_⟩
      rcases List.mem_cons.mp hx with z | z
      · subst z; exact ⟨p, List.mem_cons_self, t, e2, e3⟩
      · obtain ⟨p', hp', z⟩ := e5 x z
        exact ⟨p', List.mem_cons_of_mem _ hp', z⟩
    · cases h
open Classical in
noncomputable def pk (K : PySem.W.Frag) (H : Hp) (x : V) : Int × Int := if h : ∃ p : Int × Int, ∃ t, x = V.ref t ∧ SqT K H t [.int p.1, .int p.2] then h.choose else (0, 0)
theorem pk_spec {K : PySem.W.Frag} {x : V} (h : ∃ p : Int × Int, ∃ t, x = V.ref t ∧ SqT K H t [.int p.1, .int p.2]) : ∃ t, x = V.ref t ∧ SqT K H t [.int (pk K H x).1, .int (pk K H x).2] := by
  unfold pk
  rw [dif_pos h]
  exact h.choose_spec
theorem pk_eq {pins : List (Addr × Obj)} {σ : St} {s : Shared} (I : Inv X pins σ H s) {x : V} {p : Int × Int} {t : Addr} (e : x = V.ref t) (h : SqT X.K H t [.int p.1, .int p.2]) : pk X.K H x = p := by
  obtain ⟨t', e', h'⟩ := pk_spec (K := X.K) (H := H) (x := x) ⟨p, t, e, h⟩
  subst e
  cases e'
  have := I.tuple_inj h h'
  injection this with a b
  injection b with b c
  injection a with a
  injection b with b
  exact Prod.ext a.symm b.symm
theorem pk_map {pins : List (Addr × Obj)} {σ : St} {s : Shared} (hK : G.K = X.K) (I : Inv X pins σ H s) : ∀ {ds : List D} {vs : List V} {ps : List (Int × Int)}, Reps G m H ds vs → prsOf ds = some ps → vs.map (pk X.K H) = ps
  | [], vs, ps, r, h => by
    unfold prsOf at h
    cases h
    have : vs = [] := by unfold Reps at r; exact r
    subst this
    rfl
  | d :: ds, vs, ps, r, h => by
    obtain ⟨w, ws, rfl, r1, r2⟩ := r.uncons
    unfold prsOf at h
    split at h
    · rename_i p q hp hq
      cases h
      obtain ⟨_, t, e2, e3⟩ := prOf_rep hK r1 hp
      rw [List.map_cons, pk_eq I e2 e3, pk_map hK I r2 hq]
    · cases h
theorem reps_pk (hK : G.K = X.K) : ∀ {ys : List V}, (∀ y ∈ ys, ∃ t, y = V.ref t ∧ SqT X.K H t [.int (pk X.K H y).1, .int (pk X.K H y).2]) → Reps G m H ((ys.map (pk X.K H)).map pairD) ys
  | [], _ => .nil
  | y :: ys, h => by
    obtain ⟨t, e, hs⟩ := h y List.mem_cons_self
    rw [List.map_cons, List.map_cons]
    refine .cons ?_ (reps_pk hK fun z hz => h z (List.mem_cons_of_mem _ hz))
    unfold pairD Rep
    refine ⟨t, [.int (pk X.K H y).1, .int (pk X.K H y).2], e, by rw [hK]; exact hs, .cons (by unfold Rep; rfl) (.cons (by unfold Rep; rfl) .nil)⟩
theorem b_sortP (hK : X.K = G.K) : CallR X (.builtin "sorted") (rN G fSortP) := by
  intro pins s σ H xs us Q I rx ⟨ds, μ, m, r, st, rr, hf, k⟩
  unfold fSortP at hf
  split at hf
  · split at hf
    · rename_i es he
      split at hf
      · rename_i ps hps
        cases hf
        obtain ⟨v, rfl, rv⟩ := reps1 rr
        obtain ⟨a, zs, rfl, g1, g2⟩ := asL_ok st rv he
        have km := pk_map hK.symm I g2 hps
        obtain ⟨_, hz⟩ := prsOf_rep hK.symm g2 hps
        have hk : ∀ x ∈ zs, ∃ t, x = V.ref t ∧ SqT X.K H t [.int (pk X.K H x).1, .int (pk X.K H x).2] := fun x hx => by
          obtain ⟨p, _, t, e, h⟩ := hz x hx
          exact pk_spec ⟨p, t, e, h⟩
        obtain ⟨its, rv', hl, hsz⟩ := I.list (.inl g1)
        obtain ⟨u, rfl, ru⟩ := vals1 rx
        obtain rfl : u = Value.ref a := ru
        obtain ⟨e1, e2⟩ := refs_back rv' fun x mm => by
          obtain ⟨t, e, _⟩ := hk x mm
          exact ⟨t, e⟩
        refine SrtO.sorted_pairsO (k := fun u => pk X.K H (backV u)) hl.isList (by rw [← rv'.length]; exact hsz) (fun v hv => ?_) fun h' d out h1 h2 kp hd hn => ?_
        · obtain ⟨t, rfl⟩ := e2 v hv
          have hm : V.ref t ∈ zs := by rw [e1]; exact List.mem_map.mpr ⟨_, hv, rfl⟩
          obtain ⟨t', e, ht⟩ := hk _ hm
          cases e
          obtain ⟨its2, r2, pl, _⟩ := I.tuple ht
          obtain ⟨o, ho, hc, n, hd⟩ := pl
          obtain ⟨u1, u2, rfl, ri, rj⟩ := vals2 r2
          obtain ⟨t1, rfl⟩ := ri
          obtain ⟨t2, rfl⟩ := rj
          exact ⟨t, o, t1, t2, n, rfl, ho, hc, hd⟩
        · have h3 : ∀ u ∈ out, ∃ a, u = Value.ref a := fun u hu => e2 u (h2.perm.mem_iff.mp hu)
          obtain ⟨n, hn⟩ := hn
          have hpm : (out.map backV).Perm zs := by rw [e1]; exact h2.perm.map _
          have np := I.hok.fresh hd
          have so : (out.map backV).map (pk X.K H) = sortP ps := by
            refine sortP_eq ?_ ?_ (sortP_pair ps)
            · exact ((hpm.map (pk X.K H)).trans (by rw [km])).trans (sortP_perm ps).symm
            · rw [List.map_map, List.pairwise_map]
              refine h1.imp fun {x y} q => ?_
              have q := SrtO.lexB_no.mp q
              refine lePr_iff.mpr ?_
              show (pk X.K H (backV x)).1 < (pk X.K H (backV y)).1 ∨ ((pk X.K H (backV x)).1 = (pk X.K H (backV y)).1 ∧ (pk X.K H (backV x)).2 ≤ (pk X.K H (backV y)).2)
              omega
          have rp : Reps G m H ((sortP ps).map pairD) (out.map backV) := by
            rw [← so]
            exact reps_pk hK.symm fun y hy => hk y (hpm.mem_iff.mp hy)
          refine ⟨.ref d, upd H d (.lst (out.map backV)), I.laid (t' := s.toks) kp hd ⟨?_, out, n, vals_back h3, hn⟩, rfl, k _ _ (st_new st np).1 (st_new st np).2 (rep_new st np rp)⟩
          rw [hpm.length_eq]
          exact hsz
      · cases hf
    · cases hf
  · cases hf
end
end Ev

namespace Ev
open PySem PySem.Spec L2 Res
/-! ## gcd, comb, <<; a call with no argument -/
def fGcd (_ : Store) (ds : List D) : Option D := match ds with
  | [.int a, .int b] => some (.int ((Nat.gcd a.natAbs b.natAbs : Nat) : Int))
  | _ => none
def fComb (_ : Store) (ds : List D) : Option D := match ds with
  | [.int a, .int b] => if 0 ≤ a ∧ 0 ≤ b ∧ a < 2 ^ 64 ∧ b ≤ 9000 then some (.int (PySem.W.mcComb a b)) else none
  | _ => none
def fShl (_ : Store) : D → D → Option D
  | .int i, .int j => if 0 ≤ j ∧ j ≤ 1000000 ∧ i.natAbs < 2 ^ 64 then some (.int (i * 2 ^ j.toNat)) else none
  | _, _ => none
section
variable {G : GC} {X : Cx} {W : WX} {cf : String → List D → Store → Res D}
theorem b_gcd : CallR X (.builtin "math.gcd") (rN G fGcd) := by
  intro pins s σ H xs us Q I rx ⟨ds, μ, m, r, st, rr, hf, k⟩
  unfold fGcd at hf
  split at hf
  · cases hf
    obtain ⟨v, vs, e1, r1, r2⟩ := rr.uncons
    obtain ⟨w, ws, e2, r3, r4⟩ := r2.uncons
    have := r4.isnil
    subst e1 e2 this
    unfold Rep at r1 r3
    subst r1 r3
    exact cr_gcd pins s σ H _ us Q I rx ⟨_, _, rfl, k _ H (.refl _ _) st (by unfold Rep; rfl)⟩
  · cases hf
theorem b_comb : CallR X (.builtin "math.comb") (rN G fComb) := by
  intro pins s σ H xs us Q I rx ⟨ds, μ, m, r, st, rr, hf, k⟩
  unfold fComb at hf
  split at hf
  · split at hf
    · rename_i hc
      cases hf
      obtain ⟨v, vs, e1, r1, r2⟩ := rr.uncons
      obtain ⟨w, ws, e2, r3, r4⟩ := r2.uncons
      have := r4.isnil
      subst e1 e2 this
      unfold Rep at r1 r3
      subst r1 r3
      obtain ⟨t, u, rfl⟩ := Vals.int2 rx
      exact PySem.call_function_meets PySem.W.MGF.kind_comb PySem.W.MGF.plain_comb PySem.W.MGF.entry_comb (PySem.W.MGF.args_comb _ _) (PySem.W.mc_gives_comb t u hc.1 hc.2.1 hc.2.2.1 (.inl hc.2.2.2)).meets ⟨.int _, H, I.tok _, ⟨_, rfl⟩, k _ H (.refl _ _) st (by unfold Rep; rfl)⟩
    · cases hf
  · cases hf
theorem o_shl : OpR X (binaryOp .LShift) (r2 G fShl) := by
  intro pins s σ H x y v u Q I rx ry ⟨d, e, μ, m, r, st, rd, re, hf, k⟩
  unfold fShl at hf
  split at hf
  · split at hf
    · rename_i hl
      cases hf
      unfold Rep at rd re
      subst rd re
      exact op_shl pins s σ H _ _ v u Q I rx ry ⟨_, _, rfl, rfl, hl, k _ H (.refl _ _) st (by unfold Rep; rfl)⟩
    · cases hf
  · cases hf
/-- f(e, ..), f a name of the module for a built-in function -/
theorem se_bfun {f : Store → List D → Option D} {x : Str} {p pos : Pos} {e : Expr} {es : List Expr} {cs : List CE} {id : String} (hc : CallR X (.builtin id) (rN G f)) (hg : Gl X x) (hm : X.mg x = some (.builtin id)) (ha : PA X (e :: es) (tA G W cf cs)) (hdb : (x == ("__debug__" : Str)) = false := by decide)
    (he : starEach (e :: es) X.env = (false, eval e X.env) :: starEach es X.env := by rfl) (hpl : (backTo pos (starEach es X.env)).any (·.1) = false := by rfl) : PE X (.Call (.Name x p) (e :: es) [] pos) (tE G W cf (.opN f cs)) :=
  pe_of (pe_callBfun hc hg hm ha hdb he hpl) fun σ H Q ⟨ρ, μ, m, S, h⟩ => by
    unfold ev at h
    refine tA_sub S h.bind (.refl _ _) fun ds μ1 vs H1 m1 q e1 s1 rv => ?_
    obtain ⟨r, hr, q⟩ := out_lift q
    exact ⟨ds, μ1, m1, r, s1.st, rv, hr, fun w H2 e2 st2 rw' => q w H2 m1 (e1.trans e2) (s1.ext e2 st2) rw'⟩
/-- a def of the module is called with nothing -/
theorem se_call0 {k : Nat} {f : Addr} {fd : FuncData} {x : Str} {y : String} {p pos : Pos} (F : FnOk X.prog X.w X.K X.mg X.base (L2.CX X.prog X.w) k f fd [] (spF G 0 (cf y))) (hr : Room k X.A) (hg : Gl X x) (hm : X.mg x = some (.ref f)) (hk : PySem.W.keepIn X.K (.ref f) = true) (hb : Binds X.K fd [] []) (tk : Takes X W)
    (hdb : (x == ("__debug__" : Str)) = false := by decide) : PE X (.Call (.Name x p) [] [] pos) (tE G W cf (.call y id [])) := by
  refine ⟨fun pins s σ H Q I ⟨ρ, μ, m, S, h⟩ => ?_⟩
  unfold ev at h
  rw [evs_nil] at h
  simp only [bind_ok, id_eq] at h
  refine wpAny_Call_Name_kw (ld_glob I hg hm ?_ hdb)
  refine PySem.W.callWith_K0 I.kIn hk (run_fnSK (args := ⟨[], []⟩) (us := []) F hr tk (hb s [] I.kIn rfl) I .nil (σ := σ) (vs := []) ⟨rfl, [], μ, m, S.st, .nil, Out.mono h (fun d μ3 z v H3 m3 e3 st3 r3 => z v H3 m3 e3 (S.ext e3 st3) r3) fun x d μ3 z => ?_⟩)
  exact fun cls dd H' m' e' st' ea => z cls dd H' m' e' st' ea
/-! ### list(text) -/
def fListD (μ : Store) (ds : List D) : Option D := match ds with
  | [.str s] => if s.length ≤ cap then some (.lst (s.map fun c => .str [c])) else none
  | ds => fList μ ds
theorem vals_at : ∀ (s : List Nat) (vs : List Value), vs.length = s.length → (∀ (j : Nat) (v : Value), vs[j]? = some v → ∃ c u, s[j]? = some c ∧ v = .str ⟨#[c]⟩ u) → Vals (s.map fun c => V.str (toS [c])) vs
  | [], [], _, _ => .nil
  | [], _ :: _, h, _ => by simp at h
  | _ :: _, [], h, _ => by simp at h
  | c :: s, v :: vs, h, k => by
    obtain ⟨c', u, h1, h2⟩ := k 0 v rfl
    cases h1
    subst h2
    exact .cons ⟨u, rfl⟩ (vals_at s vs (by simpa using h) fun j w hw => k (j + 1) w (by simpa using hw))
theorem b_listD (hK : X.K = G.K) (hc : X.calm = true) : CallR X (.type "list") (rN G fListD) := by
  intro pins s σ H xs us Q I rx ⟨ds, μ, m, r, st, rr, hf, k⟩
  unfold fListD at hf
  split at hf
  · rename_i z
    split at hf
    · rename_i hz
      cases hf
      obtain ⟨v, rfl, rv⟩ := reps1 rr
      unfold Rep at rv
      subst rv
      obtain ⟨u, rfl, ru⟩ := rx.one
      obtain ⟨t, rfl⟩ := ru
      have hn : (toS z).cps.size ≤ sizeLine := by
        show z.toArray.size ≤ sizeLine
        rw [List.size_toArray]
        have : cap ≤ sizeLine := by decide
        omega
      refine PySem.call_list_str (I.ok.hd hc) (toS z) t (hn := hn) fun h' tk acc' c' kp e hi => ?_
      have hv : Vals (z.map fun c => V.str (toS [c])) acc'.toList := vals_at z acc'.toList (by
        have := hi.1
        rw [Array.length_toList, this]; show z.toArray.size = _; simp) fun j v hv => by
        obtain ⟨c, u, h1, h2⟩ := hi.2 j v (by simpa using hv)
        exact ⟨c, u, by
          have h1 : z.toArray[j]? = some c := h1
          simpa using h1, h2⟩
      have hl : (z.map fun c => V.str (toS [c])).length ≤ sizeLine := by
        rw [List.length_map]
        have : cap ≤ sizeLine := by decide
        omega
      have np : H s.heap.objs.size = none := I.hok.fresh (Nat.le_refl _)
      exact ⟨.ref s.heap.objs.size, _, I.laid (t' := tk) kp (Nat.le_refl _) (show ObjOk X.prog X.w _ h' _ (.lst (z.map fun c => V.str (toS [c]))) from ⟨hl, acc'.toList, c', hv, by simpa using e⟩), rfl, k _ _ (st_new st np).1 (st_new st np).2 (rep_new st np (reps_signs z))⟩
    · cases hf
  · exact b_list hK pins s σ H xs us Q I rx ⟨ds, μ, m, r, st, rr, hf, k⟩
/-! ### str(int) -/
def strI (i : Int) : List Nat := ((toString i : String) : Str).cps.toList
def fStr (_ : Store) (ds : List D) : Option D := match ds with
  | [.int i] => if i.natAbs.log2 < 1920 then some (.str (strI i)) else none
  | [.str s] => some (.str s)
  | _ => none
theorem b_str : CallR X (.type "str") (rN G fStr) := by
  intro pins s σ H xs us Q I rx ⟨ds, μ, m, r, st, rr, hf, k⟩
  unfold fStr at hf
  split at hf
  · split at hf
    · rename_i hl
      cases hf
      obtain ⟨v, rfl, rv⟩ := reps1 rr
      unfold Rep at rv
      subst rv
      exact call_str_int pins s σ H _ us Q I rx ⟨_, rfl, hl, k _ H (.refl _ _) st (by unfold Rep strI; simp [toS])⟩
    · cases hf
  · cases hf
    obtain ⟨v, rfl, rv⟩ := reps1 rr
    unfold Rep at rv
    subst rv
    exact SkE.call_str_str pins s σ H _ us Q I rx ⟨_, rfl, k _ H (.refl _ _) st (by unfold Rep; rfl)⟩
  · cases hf
/-! ### find, lower -/
def mFind (ds : List D) (μ : Store) : Res D := match ds with
  | [.str a, .str b] => .ok (.int (Txt.find (toS a) (toS b))) μ
  | [.str a, .str b, .int i] => .ok (.int (Txt.find3 (toS a) (toS b) i)) μ
  | _ => .stuck
def mLower (ds : List D) (μ : Store) : Res D := match ds with
  | [.str a] => if a.length ≤ 1000000 then .ok (.str (Txt.lower (toS a)).cps.toList) μ else .stuck
  | _ => .stuck
theorem m_find : MtR X "str.find" (fun x xs H Q => rM G mFind (x :: xs) H Q) := by
  intro pins s σ H x xs u us Q I rx rxs ⟨ds, μ, m, r, μ', st, rr, hf, k⟩
  unfold mFind at hf
  split at hf
  · cases hf
    obtain ⟨v, vs, e1, r1, r2⟩ := rr.uncons
    obtain ⟨w, ws, e2, r3, r4⟩ := r2.uncons
    have := r4.isnil
    subst e2 this
    cases e1
    unfold Rep at r1 r3
    subst r1 r3
    exact mt_find pins s σ H _ _ u us Q I rx rxs ⟨_, _, rfl, rfl, k _ H m (.refl _ _) st (by unfold Rep; rfl)⟩
  · cases hf
    obtain ⟨v, vs, e1, r1, r2⟩ := rr.uncons
    obtain ⟨w, ws, e2, r3, r4⟩ := r2.uncons
    obtain ⟨w2, ws2, e3, r5, r6⟩ := r4.uncons
    have := r6.isnil
    subst e2 e3 this
    cases e1
    unfold Rep at r1 r3 r5
    subst r1 r3 r5
    exact mt_find3 pins s σ H _ _ u us Q I rx rxs ⟨_, _, _, rfl, rfl, k _ H m (.refl _ _) st (by unfold Rep; rfl)⟩
  · cases hf
theorem m_lower : MtR X "str.lower" (fun x xs H Q => rM G mLower (x :: xs) H Q) := by
  intro pins s σ H x xs u us Q I rx rxs ⟨ds, μ, m, r, μ', st, rr, hf, k⟩
  unfold mLower at hf
  split at hf
  · split at hf
    · rename_i hl
      cases hf
      obtain ⟨v, vs, e1, r1, r2⟩ := rr.uncons
      have := r2.isnil
      cases e1
      subst this
      unfold Rep at r1
      subst r1
      exact mt_lower pins s σ H _ _ u us Q I rx rxs ⟨_, rfl, rfl, by
        rename_i a
        have : (toS a).length = a.length := by simp [toS, Str.length]
        omega, k _ H m (.refl _ _) st (by unfold Rep; simp [toS])⟩
    · cases hf
  · cases hf
/-! ### list.count of texts, bools -/
theorem countP_eqU {x : V} : ∀ {xs : List V} {us : List Value}, Vals xs us → xs.all flatV = true → us.countP (eqU x) = xs.countP fun y => eqV y x
  | _, _, .nil, _ => rfl
  | y :: xs, u :: us, .cons r t, f => by
    rw [List.all_cons, Bool.and_eq_true] at f
    rw [List.countP_cons, List.countP_cons, eqU_of r f.1, countP_eqU t f.2]
theorem countP_toV {d : D} (h1 : flatD d = true) : ∀ {ds : List D}, ds.all flatD = true → (ds.map toV).countP (fun y => eqV y (toV d)) = ds.countP fun y => eqD y d
  | [], _ => rfl
  | e :: ds, h => by
    rw [List.all_cons] at h
    obtain ⟨h2, h3⟩ := Bool.and_eq_true_iff.mp h
    rw [List.map_cons, List.countP_cons, List.countP_cons, countP_toV h1 h3, eqV_toV h2 h1]
theorem flats_toV : ∀ {ds : List D}, ds.all flatD = true → (ds.map toV).all flatV = true
  | [], _ => rfl
  | e :: ds, h => by
    rw [List.all_cons] at h
    obtain ⟨h2, h3⟩ := Bool.and_eq_true_iff.mp h
    rw [List.map_cons, List.all_cons, flat_toV h2, flats_toV h3]; rfl
def mLcountF (ds : List D) (μ : Store) : Res D := match ds with
  | [d, k] => match asL μ d with
    | some es => if (flatD k && es.all flatD) = true then .ok (.int ((es.countP fun y => eqD y k : Nat) : Int)) μ else .stuck
    | none => .stuck
  | _ => .stuck
theorem m_lcountF (hK : X.K = G.K) : MtR X "list.count" (fun x xs H Q => rM G mLcountF (x :: xs) H Q) := by
  intro pins s σ H x xs v us Q I rx rxs ⟨ds, μ, m, r, μ', st, rr, hf, k⟩
  unfold mLcountF at hf
  split at hf
  · split at hf
    · rename_i es hes
      split at hf
      · rename_i hfl
        obtain ⟨f1, f2⟩ := Bool.and_eq_true_iff.mp hfl
        cases hf
        obtain ⟨w, ws, e1, r1, r2⟩ := rr.uncons
        obtain ⟨rfl, rfl⟩ := List.cons.inj e1
        obtain ⟨y, ys, rfl, r3, r4⟩ := r2.uncons
        have := r4.isnil
        subst this
        obtain ⟨p, zs, rfl, g1, g2⟩ := asL_ok st r1 hes
        have ez := flats_rep f2 g2
        have ek := flat_rep f1 r3
        subst ez ek
        cases rx
        obtain ⟨u, rfl, ru⟩ := rxs.one
        obtain ⟨its, rv, ⟨⟨cls, dd, data, sl⟩, n, ho, hc, hdn, hd⟩, hlen⟩ := I.list (.inl g1)
        simp only at hc hd
        subst hc hd
        refine call_meets PySem.F.slot_list_count ⟨_, ho, rfl⟩ PySem.F.entry_list_count (PySem.F.args_list_count_2 _ _)
          (SeqAt.list_countAt p its.toArray n dd sl u (eqU (toV _))) ⟨ho, fun y hy => mem_eqAt ru (flat_toV f1) rv (flats_toV f2) y (by simpa using hy), ?_⟩
        have ec : its.toArray.toList.countP (eqU (toV _)) = _ := (countP_eqU rv (flats_toV f2)).trans (countP_toV f1 f2)
        refine ⟨.int _, H, I.tok _, ⟨s.toks, ?_⟩, k _ H m (.refl _ _) st (by unfold Rep; rfl)⟩
        show Value.int _ s.toks = Value.int _ s.toks
        rw [ec]
      · cases hf
    · cases hf
  · cases hf
end
end Ev

namespace Ev
open PySem PySem.Spec L2 Res
/-! ## split by a sign -/
def splitC (c : Nat) : List Nat → List (List Nat)
  | [] => [[]]
  | a :: s => if a = c then [] :: splitC c s else match splitC c s with
    | [] => [[a]]
    | p :: ps => (a :: p) :: ps
def joinC (c : Nat) : List (List Nat) → List Nat
  | [] => []
  | [p] => p
  | p :: q :: r => p ++ c :: joinC c (q :: r)
theorem splitC_one (c : Nat) : ∀ p : List Nat, c ∉ p → splitC c p = [p]
  | [], _ => rfl
  | a :: p, h => by
    have h1 : a ≠ c := fun e => h (by rw [e]; exact List.mem_cons_self)
    have h2 := splitC_one c p fun z => h (List.mem_cons_of_mem _ z)
    rw [splitC, if_neg h1, h2]
theorem splitC_app (c : Nat) (s : List Nat) : ∀ p : List Nat, c ∉ p → splitC c (p ++ c :: s) = p :: splitC c s
  | [], _ => by rw [List.nil_append, splitC, if_pos rfl]
  | a :: p, h => by
    have h1 : a ≠ c := fun e => h (by rw [e]; exact List.mem_cons_self)
    have h2 := splitC_app c s p fun z => h (List.mem_cons_of_mem _ z)
    rw [List.cons_append, splitC, if_neg h1, h2]
theorem splitC_join (c : Nat) : ∀ ps : List (List Nat), ps ≠ [] → (∀ p ∈ ps, c ∉ p) → splitC c (joinC c ps) = ps
  | [], h, _ => absurd rfl h
  | [p], _, k => splitC_one c p (k p List.mem_cons_self)
  | p :: q :: r, _, k => by
    rw [joinC, splitC_app c _ p (k p List.mem_cons_self), splitC_join c (q :: r) (by simp) fun z hz => k z (List.mem_cons_of_mem _ hz)]
theorem join_toS (c : Nat) : ∀ ps : List (List Nat), Str.join (toS [c]) (ps.map toS) = toS (joinC c ps)
  | [] => rfl
  | [p] => rfl
  | p :: q :: r => by
    have ih := join_toS c (q :: r)
    simp only [List.map_cons] at ih ⊢
    show toS p ++ toS [c] ++ Str.join (toS [c]) (toS q :: r.map toS) = _
    rw [ih, toS_app, toS_app, joinC]
    simp
theorem split_ne (x y : Str) : Txt.split x y ≠ [] := by
  unfold Txt.split
  split
  · simp
  · split
    · simp
    · unfold Builtin.Str.partsBetween
      generalize Builtin.Str.occurrences x y 0 x.length (x.length + 1) = cuts
      cases cuts <;> simp
theorem split_eq (c : Nat) (s : List Nat) : Txt.split (toS s) (toS [c]) = (splitC c s).map toS := by
  have e : Txt.split (toS s) (toS [c]) = ((Txt.split (toS s) (toS [c])).map fun p => p.cps.toList).map toS := by
    rw [List.map_map]
    conv => lhs; rw [← List.map_id (Txt.split (toS s) (toS [c]))]
    refine List.map_congr_left fun p _ => ?_
    apply Str.ext'
    simp [toS]
  have j := StrLaws.join_split (toS s) (toS [c])
  have f := StrLaws.split_free (toS s) c
  have f : ∀ p ∈ Txt.split (toS s) (toS [c]), c ∉ p.cps.toList := f
  have ne := split_ne (toS s) (toS [c])
  generalize Txt.split (toS s) (toS [c]) = ps at *
  rw [e, join_toS] at j
  have j' : joinC c (ps.map fun p => p.cps.toList) = s := by
    have := congrArg (fun x : Str => x.cps.toList) j
    simpa [toS] using this
  have u := splitC_join c (ps.map fun p => p.cps.toList) (by simpa using ne) (fun p hp => by
    obtain ⟨q, hq, rfl⟩ := List.mem_map.mp hp
    exact f q hq)
  rw [j'] at u
  rw [u]; exact e
def mSplit (ds : List D) (μ : Store) : Res D := match ds with
  | [.str s, .str [c]] => if s.length ≤ cap then .ok (.lst ((splitC c s).map .str)) μ else .stuck
  | _ => .stuck
theorem reps_strs {G : GC} {m : AM} {H : Hp} : ∀ ss : List (List Nat), Reps G m H (ss.map D.str) ((ss.map toS).map V.str)
  | [] => .nil
  | s :: ss => .cons (by unfold Rep; rfl) (reps_strs ss)
section
variable {G : GC} {X : Cx} {W : WX} {cf : String → List D → Store → Res D}
theorem m_split : MtR X "str.split" (fun x xs H Q => rM G mSplit (x :: xs) H Q) := by
  intro pins s σ H x xs u us Q I rx rxs ⟨ds, μ, m, r, μ', st, rr, hf, k⟩
  unfold mSplit at hf
  split at hf
  · split at hf
    · rename_i hl
      cases hf
      obtain ⟨v, vs, e1, r1, r2⟩ := rr.uncons
      obtain ⟨w, ws, e2, r3, r4⟩ := r2.uncons
      have := r4.isnil
      subst e2 this
      cases e1
      unfold Rep at r1 r3
      subst r1 r3
      refine mt_split pins s σ H _ _ u us Q I rx rxs ⟨_, _, rfl, rfl, rfl, ?_, fun p np => ?_⟩
      · rename_i z c
        have : cap + 2 ≤ sizeLine := by decide
        have e : (toS z).length = z.length := by simp [toS, Str.length]
        omega
      · rw [split_eq]
        exact k _ _ m (st_new st np).1 (st_new st np).2 (rep_new st np (reps_strs _))
    · cases hf
  · cases hf
/-! ## list(range(..)), tuple(range(..)) -/
def rgD (a b : Int) : List D := (List.range (b - a).toNat).map fun i => .int (a + (i : Nat))
def rgB (a b : Int) : Bool := decide (0 ≤ a) && (decide (b ≤ 1000000) && (decide (a ≤ 1000000) && decide (0 ≤ b)))
def fTupRg1 (_ : Store) (d : D) : Option D := match d with
  | .int b => if rgB 0 b then some (.tup (rgD 0 b)) else none
  | _ => none
def fLstRg1 (_ : Store) (d : D) : Option D := match d with
  | .int b => if rgB 0 b then some (.lst (rgD 0 b)) else none
  | _ => none
def fTupRg2 (_ : Store) (d e : D) : Option D := match d, e with
  | .int a, .int b => if rgB a b then some (.tup (rgD a b)) else none
  | _, _ => none
def fLstRg2 (_ : Store) (d e : D) : Option D := match d, e with
  | .int a, .int b => if rgB a b then some (.lst (rgD a b)) else none
  | _, _ => none
theorem rgB_ok {a b : Int} (h : rgB a b = true) : RgOk a b := by
  unfold rgB at h
  simp only [Bool.and_eq_true, decide_eq_true_eq] at h
  exact .of_le h.1 (by omega) (by omega) h.2.2.2
theorem rg_rep {m : AM} {H : Hp} (a b : Int) : Reps G m H (rgD a b) (rgV a b) := by
  have e1 : rgD a b = ((List.range (b - a).toNat).map fun i : Nat => a + (i : Nat)).map D.int := by unfold rgD; rw [List.map_map]; rfl
  have e2 : rgV a b = ((List.range (b - a).toNat).map fun i : Nat => a + (i : Nat)).map V.int := by unfold rgV; rw [List.map_map]; rfl
  rw [e1, e2]
  exact reps_ints _
variable {a b : Expr} {ca cb : CE} {p q pos p2 : Pos}
theorem se_tupRg1 (hc : X.calm = true) (hg : Gl X "tuple") (hm : X.mg "tuple" = none) (hg2 : Gl X "range") (hm2 : X.mg "range" = none) (ha : PE X a (tE G W cf ca)) (na : starEach [a] X.env = (false, eval a X.env) :: starEach [] X.env := by rfl)
    (na2 : starEach [.Call (.Name "range" p2) [a] [] q] X.env = (false, eval (.Call (.Name "range" p2) [a] [] q) X.env) :: starEach [] X.env := by rfl) :
    PE X (.Call (.Name "tuple" p) [.Call (.Name "range" p2) [a] [] q] [] pos) (tE G W cf (.op1 fTupRg1 ca)) :=
  pe_of (pe_tupRg hc hg hm (prg_1 hg2 hm2 ha na) na2) fun σ H Q ⟨ρ, μ, m, S, h⟩ => by
    unfold ev at h
    refine tE_sub S h.bind (.refl _ _) fun d μ1 v H1 m1 k e1 s1 rv => ?_
    obtain ⟨r, hr, k⟩ := out_lift k
    unfold fTupRg1 at hr
    split at hr
    · split at hr
      · rename_i hb
        cases hr
        unfold Rep at rv
        subst rv
        exact ⟨_, rfl, rgB_ok hb, fun q np => k _ _ m1 (e1.trans (st_new s1.st np).1) (s1.ext (st_new s1.st np).1 (st_new s1.st np).2) (rep_newT s1.st np (rg_rep _ _))⟩
      · cases hr
    · cases hr
theorem se_lstRg1 (hc : X.calm = true) (hg : Gl X "list") (hm : X.mg "list" = none) (hg2 : Gl X "range") (hm2 : X.mg "range" = none) (ha : PE X a (tE G W cf ca)) (na : starEach [a] X.env = (false, eval a X.env) :: starEach [] X.env := by rfl)
    (na2 : starEach [.Call (.Name "range" p2) [a] [] q] X.env = (false, eval (.Call (.Name "range" p2) [a] [] q) X.env) :: starEach [] X.env := by rfl) :
    PE X (.Call (.Name "list" p) [.Call (.Name "range" p2) [a] [] q] [] pos) (tE G W cf (.op1 fLstRg1 ca)) :=
  pe_of (pe_listRg hc hg hm (prg_1 hg2 hm2 ha na) na2) fun σ H Q ⟨ρ, μ, m, S, h⟩ => by
    unfold ev at h
    refine tE_sub S h.bind (.refl _ _) fun d μ1 v H1 m1 k e1 s1 rv => ?_
    obtain ⟨r, hr, k⟩ := out_lift k
    unfold fLstRg1 at hr
    split at hr
    · split at hr
      · rename_i hb
        cases hr
        unfold Rep at rv
        subst rv
        exact ⟨_, rfl, rgB_ok hb, fun q np => k _ _ m1 (e1.trans (st_new s1.st np).1) (s1.ext (st_new s1.st np).1 (st_new s1.st np).2) (rep_new s1.st np (rg_rep _ _))⟩
      · cases hr
    · cases hr
theorem se_tupRg2 (hc : X.calm = true) (hg : Gl X "tuple") (hm : X.mg "tuple" = none) (hg2 : Gl X "range") (hm2 : X.mg "range" = none) (ha : PE X a (tE G W cf ca)) (hb : PE X b (tE G W cf cb)) (na : starEach [a, b] X.env = (false, eval a X.env) :: starEach [b] X.env := by rfl) (nb : starEach [b] X.env = (false, eval b X.env) :: starEach [] X.env := by rfl) (hp : (backTo q (starEach [b] X.env)).any (·.1) = false := by rfl)
    (na2 : starEach [.Call (.Name "range" p2) [a, b] [] q] X.env = (false, eval (.Call (.Name "range" p2) [a, b] [] q) X.env) :: starEach [] X.env := by rfl) :
    PE X (.Call (.Name "tuple" p) [.Call (.Name "range" p2) [a, b] [] q] [] pos) (tE G W cf (.op2 fTupRg2 ca cb)) :=
  pe_of (pe_tupRg hc hg hm (prg_2 hg2 hm2 ha hb na nb hp) na2) fun σ H Q ⟨ρ, μ, m, S, h⟩ => by
    unfold ev at h
    refine tE_sub S h.bind (.refl _ _) fun d μ1 v H1 m1 k e1 s1 rv => ?_
    refine tE_sub s1 k.bind e1 fun d2 μ2 v2 H2 m2 k e2 s2 rv2 => ?_
    obtain ⟨r, hr, k⟩ := out_lift k
    unfold fTupRg2 at hr
    split at hr
    · split at hr
      · rename_i hb
        cases hr
        unfold Rep at rv rv2
        subst rv rv2
        exact ⟨_, _, rfl, rfl, rgB_ok hb, fun q np => k _ _ m2 (e1.trans (e2.trans (st_new s2.st np).1)) (s2.ext (st_new s2.st np).1 (st_new s2.st np).2) (rep_newT s2.st np (rg_rep _ _))⟩
      · cases hr
    · cases hr
theorem se_lstRg2 (hc : X.calm = true) (hg : Gl X "list") (hm : X.mg "list" = none) (hg2 : Gl X "range") (hm2 : X.mg "range" = none) (ha : PE X a (tE G W cf ca)) (hb : PE X b (tE G W cf cb)) (na : starEach [a, b] X.env = (false, eval a X.env) :: starEach [b] X.env := by rfl) (nb : starEach [b] X.env = (false, eval b X.env) :: starEach [] X.env := by rfl) (hp : (backTo q (starEach [b] X.env)).any (·.1) = false := by rfl)
    (na2 : starEach [.Call (.Name "range" p2) [a, b] [] q] X.env = (false, eval (.Call (.Name "range" p2) [a, b] [] q) X.env) :: starEach [] X.env := by rfl) :
    PE X (.Call (.Name "list" p) [.Call (.Name "range" p2) [a, b] [] q] [] pos) (tE G W cf (.op2 fLstRg2 ca cb)) :=
  pe_of (pe_listRg hc hg hm (prg_2 hg2 hm2 ha hb na nb hp) na2) fun σ H Q ⟨ρ, μ, m, S, h⟩ => by
    unfold ev at h
    refine tE_sub S h.bind (.refl _ _) fun d μ1 v H1 m1 k e1 s1 rv => ?_
    refine tE_sub s1 k.bind e1 fun d2 μ2 v2 H2 m2 k e2 s2 rv2 => ?_
    obtain ⟨r, hr, k⟩ := out_lift k
    unfold fLstRg2 at hr
    split at hr
    · split at hr
      · rename_i hb
        cases hr
        unfold Rep at rv rv2
        subst rv rv2
        exact ⟨_, _, rfl, rfl, rgB_ok hb, fun q np => k _ _ m2 (e1.trans (e2.trans (st_new s2.st np).1)) (s2.ext (st_new s2.st np).1 (st_new s2.st np).2) (rep_new s2.st np (rg_rep _ _))⟩
      · cases hr
    · cases hr
/-! ## [..] * n -/
def fLrep (_ : Store) : D → D → Option D
  | .lst ds, .int k => if -1000000 ≤ k ∧ k ≤ 1000 ∧ ds.length ≤ 1000 then some (.lst (List.replicate k.toNat ds).flatten) else none
  | _, _ => none
theorem reps_flat {m : AM} {H : Hp} {ds : List D} {vs : List V} (r : Reps G m H ds vs) : ∀ n : Nat, Reps G m H (List.replicate n ds).flatten (List.replicate n vs).flatten
  | 0 => .nil
  | n + 1 => by
    rw [List.replicate_succ, List.replicate_succ, List.flatten_cons, List.flatten_cons]
    exact Reps.append r (reps_flat r n)
theorem se_lrep {es : List Expr} {cs : List CE} {lpos : Pos} (ha : PA X es (tA G W cf cs)) (hb : PE X b (tE G W cf cb)) : PE X (.BinOp (.List es lpos) .Mult b pos) (tE G W cf (.op2 fLrep (.lst false cs) cb)) :=
  pe_of (pe_op op_rep (pe_lst ha) hb) fun σ H Q ⟨ρ, μ, m, S, h⟩ => by
    unfold ev at h
    conv at h => arg 1; arg 1; unfold ev
    rw [Res.bind_assoc] at h
    refine tA_sub S h.bind (.refl _ _) fun ds μ1 vs H1 m1 q e1 s1 rv => ?_
    have hl : ds.length ≤ cap := by
      unfold mkL at q
      by_cases hl : ds.length ≤ cap
      · exact hl
      · rw [if_neg hl] at q; exact q.elim
    have q : Out ((ev cf cb ρ μ1).bind fun y μ2 => lift (fLrep μ2 (.lst ds) y) μ2) (fun d μ' => ∀ v H' m', Ext m H m' H' → SR G ρ μ' m' σ H' → Rep G m' H' d v → Q v H') (ExK G W m H σ) := by
      unfold mkL at q
      rw [if_pos hl] at q
      exact q
    refine ⟨Nat.le_trans (by rw [← rv.length]; exact hl) (by decide : cap ≤ sizeLine), fun p np => ?_⟩
    have e2 : Ext m1 H1 m1 (upd H1 p (.lst vs)) := .new s1.st.live np
    have nm := fresh_nm s1.st np
    have s2 := s1.ext e2 (s1.st.new np)
    have rv2 := Reps.ext s1.st.live e2 _ _ rv
    refine tE_sub s2 q.bind (e1.trans e2) fun d2 μ2 v2 H3 m3 q e3 s3 rw2 => ?_
    obtain ⟨r, hr, q⟩ := out_lift q
    unfold fLrep at hr
    split at hr
    · rename_i ds' k hq
      cases hq
      split at hr
      · rename_i hk
        cases hr
        unfold Rep at rw2
        subst rw2
        have rv3 := Reps.ext s2.st.live e3 _ _ rv2
        have hp : H3 p = some (.lst vs) := e3.keep p _ upd_same nm
        refine ⟨p, _, vs, rfl, rfl, hp, by omega, by omega, ?_, fun q0 nq => ?_⟩
        · have h1 : vs.length ≤ 1000 := by rw [← rv.length]; exact hk.2.2
          have h2 := Nat.mul_le_mul h1 (show (Int.toNat _) ≤ 1000 from Int.toNat_le.mpr hk.2.1)
          exact Nat.le_trans h2 (by decide)
        · exact q _ _ m3 ((e1.trans e2).trans (e3.trans (st_new s3.st nq).1)) (s3.ext (st_new s3.st nq).1 (st_new s3.st nq).2) (rep_new s3.st nq (reps_flat rv3 _))
      · cases hr
    · rename_i hq
      cases hr
end
end Ev

namespace Ev
open PySem PySem.Spec L2 Res
/-! ## what bears no caught error stands over either reading -/
section
variable {G1 G2 : GC} {m : AM} {H : Hp}
mutual
theorem Rep.tr (hK : G1.K = G2.K) (hF : G1.FA = G2.FA) : ∀ (d : D) (v : V), (G1.XA = none ∨ noX d = true) → Rep G1 m H d v → Rep G2 m H d v
  | .non, _, _, h => by unfold Rep at h ⊢; exact h
  | .bl _, _, _, h => by unfold Rep at h ⊢; exact h
  | .int _, _, _, h => by unfold Rep at h ⊢; exact h
  | .str _, _, _, h => by unfold Rep at h ⊢; exact h
  | .tup ds, v, n, h => by
    unfold Rep at h ⊢
    obtain ⟨a, xs, e1, hs, r⟩ := h
    exact ⟨a, xs, e1, by rw [← hK]; exact hs, Reps.tr hK hF ds xs (n.imp id fun n => by unfold noX at n; exact n) r⟩
  | .lst ds, v, n, h => by
    unfold Rep at h ⊢
    obtain ⟨a, xs, e1, nm, hs, r⟩ := h
    exact ⟨a, xs, e1, nm, hs, Reps.tr hK hF ds xs (n.imp id fun n => by unfold noX at n; exact n) r⟩
  | .ref n, _, _, h => by unfold Rep at h ⊢; exact h
  | .gl _, _, _, h => by unfold Rep at h ⊢; rw [← hF]; exact h
  | .ty _, _, _, h => by unfold Rep at h ⊢; exact h
  | .dcv ks ds, v, n, h => by
    unfold Rep at h ⊢
    obtain ⟨a, xs, od, e1, nm, hs, hl, r⟩ := h
    exact ⟨a, xs, od, e1, nm, hs, hl, Reps.tr hK hF ds xs (n.imp id fun n => by unfold noX at n; exact n) r⟩
  | .exv x f d, v, n, h => by
    rcases n with n | n
    · unfold Rep at h
      obtain ⟨a, dd, C, fs, w, e1, hx, _⟩ := h
      rw [n] at hx; cases hx
    · unfold noX at n; cases n
  | .scr ns, v, _, h => by unfold Rep at h ⊢; rw [← hK]; exact h
theorem Reps.tr (hK : G1.K = G2.K) (hF : G1.FA = G2.FA) : ∀ (ds : List D) (vs : List V), (G1.XA = none ∨ noXs ds = true) → Reps G1 m H ds vs → Reps G2 m H ds vs
  | [], _, _, h => by unfold Reps at h ⊢; exact h
  | d :: ds, vs, n, h => by
    unfold Reps at h ⊢
    obtain ⟨w, ws, e1, r1, r2⟩ := h
    refine ⟨w, ws, e1, Rep.tr hK hF d w (n.imp id fun n => ?_) r1, Reps.tr hK hF ds ws (n.imp id fun n => ?_) r2⟩
    · unfold noXs at n; exact (Bool.and_eq_true_iff.mp n).1
    · unfold noXs at n; exact (Bool.and_eq_true_iff.mp n).2
end
mutual
theorem noX_of : ∀ d : D, noLst d = true → noX d = true
  | .non, _ => rfl
  | .bl _, _ => rfl
  | .int _, _ => rfl
  | .str _, _ => rfl
  | .gl _, _ => rfl
  | .ty _, _ => rfl
  | .scr _, _ => rfl
  | .ref _, _ => rfl
  | .tup ds, h => by unfold noLst at h; unfold noX; exact noXs_of ds h
  | .lst ds, h => by unfold noLst at h; cases h
  | .dcv _ _, h => by unfold noLst at h; cases h
  | .exv _ _ _, h => by unfold noLst at h; cases h
theorem noXs_of : ∀ ds : List D, noLsts ds = true → noXs ds = true
  | [], _ => rfl
  | d :: ds, h => by
    unfold noLsts at h
    obtain ⟨h1, h2⟩ := Bool.and_eq_true_iff.mp h
    unfold noXs
    rw [noX_of d h1, noXs_of ds h2]; rfl
end
theorem StOk.tr {μ : Store} (hK : G1.K = G2.K) (hF : G1.FA = G2.FA) (S : StOk G1 μ m H) : StOk G2 μ m H :=
  ⟨S.len, S.inj, S.apart, fun n o ds h hd => by
    obtain ⟨h0, a, xs, q1, q2, q3⟩ := S.obj n o ds h hd
    exact ⟨h0, a, xs, q1, q2, Reps.tr hK hF ds xs (.inr (noXs_of ds h0)) q3⟩, S.dead, S.live⟩
theorem SR.tr {ρ : Env} {μ : Store} {σ : St} (hK : G1.K = G2.K) (hF : G1.FA = G2.FA) (hX : G1.XA = none) (S : SR G1 ρ μ m σ H) : SR G2 ρ μ m σ H :=
  ⟨S.len, fun i d h => by
    obtain ⟨v, h1, h2⟩ := S.env i d h
    exact ⟨v, h1, Rep.tr hK hF d v (.inl hX) h2⟩, S.st.tr hK hF⟩
end
theorem noXE_get : ∀ {ρ : Env} {i : Nat} {d : D}, noXE ρ = true → ρ[i]? = some (some d) → noX d = true
  | [], _, _, _, h => by simp at h
  | some e :: ρ, 0, d, h, hd => by
    unfold noXE at h
    have : e = d := by simpa using hd
    rw [← this]; exact (Bool.and_eq_true_iff.mp h).1
  | none :: ρ, 0, d, _, hd => by simp at hd
  | some e :: ρ, i + 1, d, h, hd => by
    unfold noXE at h
    exact noXE_get (i := i) (Bool.and_eq_true_iff.mp h).2 (by simpa using hd)
  | none :: ρ, i + 1, d, h, hd => by
    unfold noXE at h
    exact noXE_get (i := i) h (by simpa using hd)
theorem SR.trX {G1 G2 : GC} {m : AM} {H : Hp} {ρ : Env} {μ : Store} {σ : St} (hK : G1.K = G2.K) (hF : G1.FA = G2.FA) (hX : noXE ρ = true) (S : SR G1 ρ μ m σ H) : SR G2 ρ μ m σ H :=
  ⟨S.len, fun i d h => by
    obtain ⟨v, h1, h2⟩ := S.env i d h
    exact ⟨v, h1, Rep.tr hK hF d v (.inr (noXE_get hX h)) h2⟩, S.st.tr hK hF⟩
theorem SR.unset {G : GC} {m : AM} {H : Hp} {ρ : Env} {μ : Store} {σ : St} (S : SR G ρ μ m σ H) (i : Nat) : SR G (ρ.set i none) μ m (σ.set i none) H :=
  ⟨by rw [List.length_set, List.length_set]; exact S.len, fun j d h => by
    by_cases hj : i = j
    · subst hj
      by_cases hi : i < ρ.length
      · rw [List.getElem?_set_self hi] at h; cases h
      · rw [List.getElem?_eq_none (by rw [List.length_set]; omega)] at h; cases h
    · rw [List.getElem?_set_ne hj] at h
      obtain ⟨v, h1, h2⟩ := S.env j d h
      exact ⟨v, by rw [List.getElem?_set_ne hj]; exact h1, h2⟩, S.st⟩
/-! ## raise -/
/-- an own __init__(self, x): self.f = x -/
def spIni (K : PySem.W.Frag) (f : Str) : Sp := fun vs H Q _ => ∃ (a : Addr) (y : V) (C : Addr), vs = [.ref a, y] ∧ OexC K C ∧ PySem.W.findIn K (.ref C) f = some none ∧ H a = some (exo a C none) ∧
  ∀ dx, H dx = none → dx ≠ a → Q .non (upd (upd H dx (exd dx [(f, y)])) a (exo a C (some dx)))
theorem ini_ok {P : Program} {w : World} {K : PySem.W.Frag} {mg : Str → Option Value} {base : Heap} {qual : Str} {st : Stmt} {fI : Addr} {fd : FuncData} {gv f : Str} {k : Nat} {p1 p2 p3 p4 : Pos} (F : Fun K "__init__" qual st fI fd) (S : FnScope ["self", gv] ["self", gv] (defScope st))
    (v1 : Vis (defScope st) "self") (v2 : Vis (defScope st) gv) (hb : defBody st = [.Assign [.Attribute (.Name "self" p1) f p2] (.Name gv p3) p4]) (hsw : ∀ env, swapsWith (.Name gv p3) (some (.Attribute (.Name "self" p1) f p2)) p4.line env = pure false)
    (d2 : (gv == ("__debug__" : Str)) = false := by decide) (c2 : (gv == ("__classdict__" : Str)) = false := by decide) : FnOk P w K mg base (L2.CX P w) (k + 1) fI fd ["self", gv] (spIni K f) := by
  refine F.okX S (fun vs H Q E ⟨a, y, C, e, _⟩ => by rw [e]; rfl) (fun cdv A outer s H vs Q E hr ⟨a, y, C, e, T, no, ha, q⟩ => ⟨_, by rw [hb]; exact pss_cons (ps_ost (pe_var (i := 0) rfl v1) (pe_var (i := 1) rfl v2 d2 c2) (hsw _)) pss_nil, ?_⟩)
  subst e
  exact ⟨y, rfl, .ref a, rfl, a, C, rfl, T, no, .inl ⟨ha, fun dx n ne => q dx n ne⟩⟩
/-- what a class of errors must say to be raised -/
structure RsC (K : PySem.W.Frag) (mg : Str → Option Value) (x : Str) (C fI : Addr) (fd : FuncData) (gv : Str) : Prop where
  T : OexC K C
  iC : PySem.W.findIn K (.ref C) "__init__" = some (some (.ref fI))
  tI : PySem.W.typeIn K (.ref fI) = some (.type "function")
  b : Binds K fd ["self", gv] []
  g : mg x = some (.ref C)
  no : PySem.W.findIn K (.ref C) gv = some none
section
variable {G : GC} {E : XK} {W : WX} {cf : String → List D → Store → Res D} {X : Cx} {e : Expr} {ce : CE} {x gv : Str} {C fI : Addr} {fd : FuncData} {k : Nat} {p pos pos' : Pos} {xs fs : String}
theorem ss_rse (hc : X.calm = true) (tk : Takes X (WofE E)) (R : RsC X.K X.mg x C fI fd gv) (F1 : FnOk X.prog X.w X.K X.mg X.base (L2.CX X.prog X.w) k fI fd ["self", gv] (spIni X.K gv)) (hr : Room (k + 1) X.A) (hg : Gl X x)
    (hF : G.FA xs = some C) (hf : Str.ofString fs = gv) (ha : PA X [e] (tA G (WofE E) cf [ce])) (hdb : (x == ("__debug__" : Str)) = false := by decide) (he : starEach [e] X.env = (false, eval e X.env) :: starEach [] X.env := by rfl) (hpl : (backTo pos (starEach [] X.env)).any (·.1) = false := by rfl) :
    PS X (.Raise (some (.Call (.Name x p) [e] [] pos)) none pos') (tS G E cf (.rse xs fs ce)) :=
  ps_of (ps_raise hc tk (pmk_oex (ds := []) (dvs := []) R.T R.iC R.tI F1 hr R.b .nil (passes_call tk fun _ _ _ _ h => h.elim) hg R.g ha hdb he hpl)) fun Dn σ H ⟨ρ, μ, m, S, h⟩ => by
    unfold ex at h
    have h2 : Out (evs cf [ce] ρ μ) (fun ds μ1 => ∃ d, ds = [d] ∧ ExS G E m H xs (.exv xs fs d) μ1) (ExK G (WofE E) m H σ) := by
      unfold evs
      unfold evs
      cases q : ev cf ce ρ μ with
      | stuck => rw [q] at h; exact h.elim
      | exc y d μ1 => rw [q] at h; exact h
      | ok d μ1 => rw [q] at h; exact ⟨d, rfl, h⟩
    refine tA_sub S h2 (.refl _ _) fun ds μ1 vs H1 m1 q e1 s1 rv => ?_
    obtain ⟨d, rfl, q⟩ := q
    obtain ⟨v, vs', rfl, r1, r2⟩ := rv.uncons
    have := r2.isnil
    subst this
    refine ⟨by simp, fun a na => ⟨a, v, C, rfl, R.T, R.no, upd_same, fun dx nd ne => ⟨rfl, dx, [(gv, v)], upd_same, ?_, ?_, ?_⟩⟩⟩
    · rw [upd_ne ne, upd_same]
    · rw [upd_ne ne] at nd; exact nd
    · have nd' : H1 dx = none := by rw [upd_ne ne] at nd; exact nd
      have eH : upd (del (upd (upd (upd H1 a (exo a C none)) dx (exd dx [(gv, v)])) a (exo a C (some dx))) a) dx (.xd [(gv, v)]) = upd H1 dx (.xd [(gv, v)]) := by
        funext b
        by_cases hb : b = dx
        · rw [hb, upd_same, upd_same]
        · rw [upd_ne hb, upd_ne hb]
          by_cases hba : b = a
          · rw [hba, del_same, na]
          · rw [del_ne hba, upd_ne hba, upd_ne hb, upd_ne hba]
      rw [eH]
      have ex := Ext.new (o := .xd [(gv, v)]) s1.st.live nd'
      refine q (.ref C) (some dx) _ m1 (e1.trans ex) (s1.st.new nd') ⟨C, dx, fs, d, [(gv, v)], v, rfl, hF, rfl, rfl, upd_same, ?_, Rep.ext s1.st.live ex _ _ r1⟩
      rw [hf]
      simp [List.lookup]
/-! ## try: one statement; except a class, as a name: .. -/
/-- what the classes of errors that may fly must say -/
structure XL (K : PySem.W.Frag) (FA : String → Option Addr) (L : List String) (B : Addr) : Prop where
  cl : ∀ x C, x ∈ L → FA x = some C → (PySem.W.clsIn K C).isSome = true
  xf : ∀ x C, x ∈ L → FA x = some C → XfC K C
  ca : ∀ x C, x ∈ L → FA x = some C → PySem.W.findIn K (.ref C) "__class__" = some (some (.builtin "object.__class__"))
  hn : PySem.W.specialIn K (.builtin "object.__class__") "__get__" = some (some (.builtin "getset_descriptor.__get__"))
  ht : PySem.W.takesIn K (.builtin "object.__class__") = some true
  mr : ∀ x C, x ∈ L → FA x = some C → PySem.W.mroIn K C (.type "object") = some true
  no : ∀ x C n, x ∈ L → FA x = some C → n ∈ ["given", "index"] → PySem.W.findIn K (.ref C) (Str.ofString n) = some none
  em : ∀ x C, x ∈ L → FA x = some C → PySem.W.exmOne K (.ref C) (.ref B) = some true
  kt : ∀ x y C D, x ∈ L → y ∈ L → FA x = some C → FA y = some D → PySem.W.kitOne K (.ref C) (.ref D) = some (x == y)
abbrev E0 : XK := fun _ _ _ => False
abbrev GC.hold (G : GC) (a dd C : Addr) : GC := { G with XA := some (a, dd, C) }
end
section
variable {G : GC} {E : XK} {cf : String → List D → Store → Res D} {X : Cx} {e : Expr} {ce : CE} {B : Addr} {n x : Str} {np rp pos pos' : Pos} {i : Nat} {p : String → Bool} {hd : List CS} {suite : List Stmt} {b₀ : Stmt} {L : List String}
/-- what the handler is asked -/
def tHold (G : GC) (cf : String → List D → Store → Res D) (hd : List CS) : Addr → Value → Option Addr → TS := fun a cls d D σ H => ∃ dd C, cls = .ref C ∧ d = some dd ∧ tSs (G.hold a dd C) E0 cf hd D σ H
theorem exc_to {Dn : Ends} {ρ : Env} {μ μ1 : Store} {m : AM} {σ : St} {H : Hp} {x : String} {d : D} (hK : X.K = G.K) (hX : G.XA = none) (XX : XL X.K G.FA L B) (hp : ∀ y, p y = true → y ∈ L) (S : SR G ρ μ m σ H)
    (h : Out (if p x = true then (if i < ρ.length then (noExc (exs cf hd (ρ.set i (some d)) μ1)).bind fun fl μ2 => match fl with
        | .rt r => if noX r = true then Res.ok (Fl.rt r) μ2 else .stuck
        | .nx ρ2 => if noXE (ρ2.set i none) = true then Res.ok (Fl.nx (ρ2.set i none)) μ2 else .stuck
        | .ct ρ2 => if noXE (ρ2.set i none) = true then Res.ok (Fl.ct (ρ2.set i none)) μ2 else .stuck
        | .bk ρ2 => if noXE (ρ2.set i none) = true then Res.ok (Fl.bk (ρ2.set i none)) μ2 else .stuck else .stuck) else .stuck) (FlK G Dn m H) (ExS G E m H)) : ExK G (wAs X.K (.ref B) i (tHold G cf hd) (WofE E) Dn) m H σ x d μ1 := by
  by_cases hpx : p x = true
  · rw [if_pos hpx] at h
    by_cases hi : i < ρ.length
    · rw [if_pos hi] at h
      intro cls dd H' m' e' st' ea
      obtain ⟨C, a', f, d0, fs, w, rfl, hF, rfl, rfl, hH, hl, rd⟩ := ea
      refine ⟨true, XX.em x C (hp x hpx) hF, fun _ a na => ⟨a', C, rfl, rfl, ?_⟩, fun z => by cases z⟩
      have S1 : SR G ρ μ1 m' σ H' := S.ext e' st'
      have S2 : SR (G.hold a a' C) ρ μ1 m' σ H' := SR.tr (G1 := G) (G2 := G.hold a a' C) rfl rfl hX S1
      have R : Rep (G.hold a a' C) m' H' (.exv x f d0) (.ref a) := by
        unfold Rep
        exact ⟨a, a', C, fs, w, rfl, rfl, hF, hH, hl, Rep.tr (G1 := G) (G2 := G.hold a a' C) rfl rfl d0 w (.inl hX) rd⟩
      refine ⟨_, μ1, m', S2.set hi R, ?_⟩
      cases q : exs cf hd (ρ.set i (some (.exv x f d0))) μ1 with
      | stuck => rw [q] at h; exact h.elim
      | exc y d μ2 => rw [q] at h; exact h.elim
      | ok fl μ2 =>
        rw [q] at h
        simp only [noExc_ok, bind_ok] at h
        cases fl with
        | nx ρ2 =>
          dsimp only at h
          by_cases hr : noXE (ρ2.set i none) = true
          · rw [if_pos hr] at h
            intro σ'' H'' m'' e'' s''
            exact h _ H'' m'' (e'.trans e'') ((s''.unset i).trX (G1 := G.hold a a' C) (G2 := G) rfl rfl hr)
          · rw [if_neg hr] at h; exact h.elim
        | bk ρ2 =>
          dsimp only at h
          by_cases hr : noXE (ρ2.set i none) = true
          · rw [if_pos hr] at h
            intro σ'' H'' m'' e'' s''
            exact h _ H'' m'' (e'.trans e'') ((s''.unset i).trX (G1 := G.hold a a' C) (G2 := G) rfl rfl hr)
          · rw [if_neg hr] at h; exact h.elim
        | ct ρ2 =>
          dsimp only at h
          by_cases hr : noXE (ρ2.set i none) = true
          · rw [if_pos hr] at h
            intro σ'' H'' m'' e'' s''
            exact h _ H'' m'' (e'.trans e'') ((s''.unset i).trX (G1 := G.hold a a' C) (G2 := G) rfl rfl hr)
          · rw [if_neg hr] at h; exact h.elim
        | rt r =>
          dsimp only at h
          by_cases hr : noX r = true
          · rw [if_pos hr] at h
            intro v H'' m'' e'' st'' rr
            exact h v H'' m'' (e'.trans e'') (StOk.tr (G1 := G.hold a a' C) (G2 := G) rfl rfl st'') (Rep.tr (G1 := G.hold a a' C) (G2 := G) rfl rfl r v (.inr hr) rr)
          · rw [if_neg hr] at h; exact h.elim
    · rw [if_neg hi] at h; exact h.elim
  · rw [if_neg hpx] at h; exact h.elim
/-- the handler, at any error -/
theorem hold_ok (hsu : ∀ (a dd C : Addr) (oe : Obj) (pn : List (Addr × Obj)), Zc (.ref C) (some dd) oe → (∃ vs, oe.data = .fields vs) → PSs (X.suite a ((a, oe) :: pn)) (b₀ :: suite) (tSs (G.hold a dd C) E0 cf hd)) :
    ∀ (a : Addr) (oe : Obj) (cls : Value) (d : Option Addr) (pn : List (Addr × Obj)), Zc cls d oe → (∃ vs, oe.data = .fields vs) → PSs (X.suite a ((a, oe) :: pn)) (b₀ :: suite) (tHold G cf hd a cls d) := fun a oe cls d pn hz hf =>
  ⟨fun pins s σ H Dn I ⟨dd, C, e1, e2, q⟩ => by
    subst e1 e2
    exact (hsu a dd C oe pn hz hf).run pins s σ H Dn I q⟩
section
variable (hs : X.stack = X.env :: X.outer) (hf : X.env.frame = some X.env.locals) (hN : X.N.Nodup) (hi : X.N[i]? = some n) (hln : X.env.kindOf n = some .local) (hc : Names X x (.ref B)) (tk : Takes X (WofE E)) (hK : X.K = G.K) (hX : G.XA = none) (XX : XL X.K G.FA L B) (hp : ∀ y, p y = true → y ∈ L)
  (hsu : ∀ (a dd C : Addr) (oe : Obj) (pn : List (Addr × Obj)), Zc (.ref C) (some dd) oe → (∃ vs, oe.data = .fields vs) → PSs (X.suite a ((a, oe) :: pn)) (b₀ :: suite) (tSs (G.hold a dd C) E0 cf hd))
include hs hf hN hi hln hc tk hK hX XX hp hsu
theorem ss_tryR (hb : ∀ (W : WX) (pn : List (Addr × Obj)) (xe : Value → Shared → Prop), Takes (X.tr pn xe) W → PE (X.tr pn xe) e (tE G W cf ce)) :
    PS X (.Try [.Return (some e) rp] [.ExceptHandler (some (.Name x np)) (some n) (b₀ :: suite) pos'] [] [] pos) (tS G E cf (.tr .ret ce p i hd)) :=
  ps_of (ps_try_as hs hf hN hi hln hc tk (fun W pn xe t _ => pss_cons (ps_ret (hb W pn xe t)) pss_nil) (hold_ok hsu)) fun Dn σ H ⟨ρ, μ, m, S, h⟩ => by
    unfold ex at h
    refine ⟨ρ, μ, m, S, ?_⟩
    cases q : ev cf ce ρ μ with
    | stuck => rw [q] at h; exact h.elim
    | ok d μ1 =>
      rw [q] at h
      exact fun v H' m' e' s r => h v H' m' e' s.st r
    | exc y d μ1 =>
      rw [q] at h
      exact exc_to hK hX XX hp S h
theorem ss_tryE (hb : ∀ (W : WX) (pn : List (Addr × Obj)) (xe : Value → Shared → Prop), Takes (X.tr pn xe) W → PE (X.tr pn xe) e (tE G W cf ce)) (hsw : swapsWith e none rp.line X.env = pure false := by rfl) :
    PS X (.Try [.Expr e rp] [.ExceptHandler (some (.Name x np)) (some n) (b₀ :: suite) pos'] [] [] pos) (tS G E cf (.tr .expr ce p i hd)) :=
  ps_of (ps_try_as hs hf hN hi hln hc tk (fun W pn xe t _ => pss_cons (ps_expr (hb W pn xe t) hsw) pss_nil) (hold_ok hsu)) fun Dn σ H ⟨ρ, μ, m, S, h⟩ => by
    unfold ex at h
    refine ⟨ρ, μ, m, S, ?_⟩
    cases q : ev cf ce ρ μ with
    | stuck => rw [q] at h; exact h.elim
    | ok d μ1 =>
      rw [q] at h
      exact fun v H' m' e' s r => h σ H' m' e' s
    | exc y d μ1 =>
      rw [q] at h
      exact exc_to hK hX XX hp S h
theorem ss_tryA {tg : Expr} {te : AT} (hb : ∀ (W : WX) (pn : List (Addr × Obj)) (xe : Value → Shared → Prop), Takes (X.tr pn xe) W → PE (X.tr pn xe) e (tE G W cf ce)) (hg : ∀ (pn : List (Addr × Obj)) (xe : Value → Shared → Prop), PG (X.tr pn xe) tg (tAT G cf te))
    (hsw : swapsWithSole [tg] e rp.line X.env = pure false := by rfl) (hw : swappedStores [tg] e X.env = pure none := by rfl) (h1 : (assignEach [tg] X.env).map (·.2) = [assign tg X.env] := by rfl) :
    PS X (.Try [.Assign [tg] e rp] [.ExceptHandler (some (.Name x np)) (some n) (b₀ :: suite) pos'] [] [] pos) (tS G E cf (.tr (.asg te) ce p i hd)) :=
  ps_of (ps_try_as hs hf hN hi hln hc tk (fun W pn xe t _ => pss_cons (ps_asg (hb W pn xe t) (hg pn xe) hsw hw h1) pss_nil) (hold_ok hsu)) fun Dn σ H ⟨ρ, μ, m, S, h⟩ => by
    unfold ex at h
    refine ⟨ρ, μ, m, S, ?_⟩
    cases q : ev cf ce ρ μ with
    | stuck => rw [q] at h; exact h.elim
    | ok d μ1 =>
      rw [q] at h
      dsimp only at h
      intro v H1 m1 e1 s1 rv
      refine ⟨ρ, μ1, m1, d, s1, rv, ?_⟩
      have hn : ∀ x d' μ', asgT cf te d ρ μ1 ≠ .exc x d' μ' := asgT_nox te d ρ μ1
      cases q1 : asgT cf te d ρ μ1 with
      | stuck => rw [q1] at h; exact h.elim
      | exc x d' μ' => exact (hn _ _ _ q1).elim
      | ok ρ2 μ2 =>
        rw [q1] at h
        exact fun σ' H' m' e2 s2 => h σ' H' m' (e1.trans e2) s2
    | exc y d μ1 =>
      rw [q] at h
      exact exc_to hK hX XX hp S h
end
end
/-! ## within the handler: its class, its field -/
def fIsX (L : List String) (_ : Store) : List D → Option D
  | [.exv x _ _, .gl y] => if L.contains x && L.contains y then some (.bl (x == y)) else none
  | _ => none
def fFld (L : List String) (n : String) (_ : Store) : D → Option D
  | .exv x f d => if L.contains x && (f == n && ["given", "index"].contains n) then some d else none
  | _ => none
section
variable {G : GC} {W : WX} {cf : String → List D → Store → Res D} {X : Cx} {L : List String} {a dd B C : Addr} {oe : Obj} {pn : List (Addr × Obj)} {n nm : Str} {i : Nat} {q pos : Pos} {ns : String}
theorem b_isx (hK : X.K = G.K) (XX : XL X.K G.FA L B) (hz : Zc (.ref C) (some dd) oe) (hf : ∃ vs, oe.data = .fields vs) : CallR (X.suite a ((a, oe) :: pn)) (.builtin "isinstance") (rN (G.hold a dd C) (fIsX L)) := by
  intro pins s σ H xs us Q I rx ⟨ds, μ, m, r, st, rr, hff, k⟩
  unfold fIsX at hff
  split at hff
  · rename_i x f d y
    split at hff
    · rename_i hxy
      cases hff
      obtain ⟨hx, hy⟩ := Bool.and_eq_true_iff.mp hxy
      have hx := List.contains_iff_mem.mp hx
      have hy := List.contains_iff_mem.mp hy
      obtain ⟨v, w, rfl, rv, rw'⟩ := reps2 rr
      unfold Rep at rv rw'
      obtain ⟨a1, dd1, C1, fs, w0, rfl, hXA, hFx, hH, hl, rd⟩ := rv
      obtain ⟨b, rfl, hFy⟩ := rw'
      cases hXA
      cases rx with
      | cons r1 rx =>
        cases rx with
        | cons r2 rx =>
          cases rx
          cases r1
          cases r2
          obtain ⟨hget, _⟩ := I.pin (a, oe) (List.mem_append.mpr (.inl List.mem_cons_self))
          obtain ⟨vs, hv⟩ := hf
          have hx' : ObjOk X.prog X.w H s.heap dd (.xd fs) := I.hok dd _ hH
          obtain ⟨mA, hns, hr⟩ := hx'
          obtain ⟨od, ho, hlk⟩ := lookIn_ns hns
          have J : PySem.W.InstAt s.heap a oe C (some od) := ⟨hget, hz.1, by unfold PySem.W.notCls; rw [hv] <;> rfl, by rw [hz.2]; exact ho⟩
          have T := XX.xf x C hx hFx
          exact PySem.W.kia_one (PySem.W.kitx_exc (XX.cl x C hx hFx) T.ga T.gg T.exC (XX.ca x C hx hFx) XX.hn XX.ht (XX.mr x C hx hFx)) I.kIn J (XX.kt x y C b hx hy hFx hFy) (fun z => nomatch z) fun tk => ⟨.bl (x == y), H, I.kept (t' := tk) fun _ _ z => z, rfl, k _ H (.refl _ _) st (by unfold Rep; rfl)⟩
    · cases hff
  · cases hff
theorem se_xf (hK : X.K = G.K) (XX : XL X.K G.FA L B) (hz : Zc (.ref C) (some dd) oe) (hf : ∃ vs, oe.data = .fields vs) (hn : Str.ofString ns = n) (hN : X.N[i]? = some nm := by rfl) (hv : Vis X.env.scope nm := by first | exact Or.inl rfl | exact Or.inr (Or.inl rfl) | exact Or.inr (Or.inr rfl))
    (hd : (nm == ("__debug__" : Str)) = false := by decide) (hcd : (nm == ("__classdict__" : Str)) = false := by decide) (hb : attributeBase (.Name nm q) n X.env (eval (.Name nm q) X.env) = eval (.Name nm q) X.env := by rfl) :
    PE (X.suite a ((a, oe) :: pn)) (.Attribute (.Name nm q) n pos) (tE (G.hold a dd C) W cf (.op1 (fFld L ns) (.var i))) :=
  ⟨fun pins s σ H Q I ⟨ρ, μ, m, S, h⟩ => by
    unfold ev at h
    unfold ev at h
    cases hq : ρ[i]? with
    | none => rw [hq] at h; exact h.elim
    | some o =>
      cases o with
      | none => rw [hq] at h; exact h.elim
      | some d =>
        rw [hq] at h
        simp only [bind_ok] at h
        obtain ⟨r, hr, h3⟩ := out_lift h
        unfold fFld at hr
        split at hr
        · rename_i x f d0
          split at hr
          · rename_i hc
            cases hr
            obtain ⟨hx, hc⟩ := Bool.and_eq_true_iff.mp hc
            obtain ⟨hfn, hgi⟩ := Bool.and_eq_true_iff.mp hc
            have hx := List.contains_iff_mem.mp hx
            have hgi := List.contains_iff_mem.mp hgi
            have hfn := beq_iff_eq.mp hfn
            subst hfn
            obtain ⟨v, h1, h2⟩ := S.env i _ hq
            unfold Rep at h2
            obtain ⟨a1, dd1, C1, fs, w0, rfl, hXA, hFx, hH, hl, rd⟩ := h2
            cases hXA
            refine (pe_xf (te := tVar i) (XX.xf x C hx hFx) (by rw [← hn]; exact XX.no x C f hx hFx hgi) hz hf (pe_var hN hv hd hcd) hb).run pins s σ H Q I ⟨.ref a, h1, rfl, rfl, dd, fs, w0, rfl, hH, by rw [← hn]; exact hl, h3 w0 H m (.refl _ _) S rd⟩
          · cases hr
        · cases hr⟩
end
/-! ## what the written part says of a class of errors -/
structure XF (K : PySem.W.Frag) (C B : Addr) : Prop where
  xf : XfC K C
  ca : PySem.W.findIn K (.ref C) "__class__" = some (some (.builtin "object.__class__"))
  mr : PySem.W.mroIn K C (.type "object") = some true
  n1 : PySem.W.findIn K (.ref C) "given" = some none
  n2 : PySem.W.findIn K (.ref C) "index" = some none
  s4 : PySem.W.subIn K (.ref C) (.ref B) = some true
structure CW (K : PySem.W.Frag) (x qual : Str) (st : Stmt) (gv : Str) (C fI B : Addr) (fd : FuncData) : Prop where
  a : PySem.W.nsIn K mainGlobals x = some (some (.ref C))
  T : OexC K C
  iC : PySem.W.findIn K (.ref C) "__init__" = some (some (.ref fI))
  tI : PySem.W.typeIn K (.ref fI) = some (.type "function")
  F : Fun K "__init__" qual st fI fd
  b : Binds K fd ["self", gv] []
  no : PySem.W.findIn K (.ref C) gv = some none
  X : XF K C B
theorem oex_mk {K : PySem.W.Frag} {C : Addr} {nm q : Str} {N : Addr} {bs bm : List Value} {sn : List Str} {sub : List Value} {ab : Bool} {col : Option Bool} {dd : Option Addr} {k0 k1 k2 k3 k5 : Option Value}
    (l : K.lookup C = some (excClassObj nm q C N bs bm true sn sub ab col dd k0 k1 k2 k3 k5 "ValueError.__new__")) (r : PySem.HandSPX.refsVE bm = true) (sa : PySem.W.findIn K (.ref C) "__setattr__" = some (some (.builtin "object.__setattr__")))
    (ex : PySem.W.subIn K (.ref C) (.type "BaseException") = some true) (ty : PySem.W.typeIn K (.ref C) = some (.type "type")) (kp : PySem.W.keepIn K (.ref C) = true) : OexC K C :=
  ⟨⟨nm, q, N, bs, bm, sn, sub, ab, col, dd, k0, k1, k2, k3, k5, l, r⟩, sa, ex, ty, kp⟩
theorem cw_mk {K : PySem.W.Frag} {x qual : Str} {st : Stmt} {gv : Str} {C fI B : Addr} {oc : Value} {od an : Option Addr} {osl : Array (Option Value)} {kV doc pm cdv ct : Value} (a : PySem.W.nsIn K mainGlobals x = some (some (.ref C))) (T : OexC K C)
    (iC : PySem.W.findIn K (.ref C) "__init__" = some (some (.ref fI))) (tI : PySem.W.typeIn K (.ref fI) = some (.type "function")) (l : K.lookup fI = some ⟨oc, od, .func (PySem.W.fnOf "__init__" qual (defArgs st) (defBody st) (defScope st) .none kV doc pm an cdv ct), osl⟩)
    (c : PySem.W.codeIn K cdv qual = true) (k : PySem.W.keepIn K (.ref fI) = true)
    (hb : ∀ (kV doc pm : Value) (an : Option Addr) (cdv ct : Value) (us : List Value), us.length = ([("self" : Str), gv] : List Str).length → bindArgs (PySem.W.fnOf "__init__" qual (defArgs st) (defBody st) (defScope st) .none kV doc pm an cdv ct) ⟨us, []⟩ = pure (([("self" : Str), gv] : List Str).zip us))
    (no : PySem.W.findIn K (.ref C) gv = some none) (X : XF K C B) : CW K x qual st gv C fI B (PySem.W.fnOf "__init__" qual (defArgs st) (defBody st) (defScope st) .none kV doc pm an cdv ct) :=
  ⟨a, T, iC, tI, fun_mk l c k, (fun_mk (st := st) l c k).binds hb, no, X⟩
theorem CW.rs {K : PySem.W.Frag} {mg : Str → Option Value} {h : Heap} {x qual : Str} {st : Stmt} {gv : Str} {C fI B : Addr} {fd : FuncData} (w : CW K x qual st gv C fI B fd) (X : K.In h) (G : h.Ns mainGlobals mg) : RsC K mg x C fI fd gv :=
  ⟨w.T, w.iC, w.tI, w.b, PySem.W.mg_of X G w.a, w.no⟩
/-- where a name of the module stands -/
def glob (K : PySem.W.Frag) (x : String) : Option Addr := match PySem.W.nsIn K mainGlobals (Str.ofString x) with
  | some (some (.ref a)) => some a
  | _ => none
theorem glob_of {K : PySem.W.Frag} {x : String} {xs : Str} {C : Addr} (a : PySem.W.nsIn K mainGlobals xs = some (some (.ref C))) (h : Str.ofString x = xs) : glob K x = some C := by
  unfold glob
  rw [h, a]
/-- what is said of the base of all, and of classes by twos -/
structure BW (K : PySem.W.Frag) (B : Addr) : Prop where
  a : PySem.W.nsIn K mainGlobals "BallError" = some (some (.ref B))
  e1 : PySem.W.subIn K (.ref B) (.type "BaseException") = some true
  e2 : PySem.W.hasDictIn K B = true
  e3 : PySem.W.typeIn K (.ref B) = some (.type "type")
  hn : PySem.W.specialIn K (.builtin "object.__class__") "__get__" = some (some (.builtin "getset_descriptor.__get__"))
  ht : PySem.W.takesIn K (.builtin "object.__class__") = some true
theorem xl_mk {K : PySem.W.Frag} {FA : String → Option Addr} {L : List String} {B : Addr} (b : BW K B) (hX : ∀ x C, x ∈ L → FA x = some C → XF K C B)
    (kt : ∀ x y C D, x ∈ L → y ∈ L → FA x = some C → FA y = some D → PySem.W.kitOne K (.ref C) (.ref D) = some (x == y)) : XL K FA L B :=
  ⟨fun x C h1 h2 => by
    obtain ⟨cd, hc, _⟩ := PySem.W.any_some (hX x C h1 h2).xf.hdC
    rw [hc]; rfl, fun x C h1 h2 => (hX x C h1 h2).xf, fun x C h1 h2 => (hX x C h1 h2).ca, b.hn, b.ht, fun x C h1 h2 => (hX x C h1 h2).mr, fun x C n h1 h2 hn => by
    simp only [List.mem_cons, List.not_mem_nil, or_false] at hn
    rcases hn with rfl | rfl
    · exact (hX x C h1 h2).n1
    · exact (hX x C h1 h2).n2, fun x C h1 h2 => PySem.W.exm_ref b.e1 b.e2 b.e3 (hX x C h1 h2).s4, kt⟩
theorem kit_self {K : PySem.W.Frag} {t : Value} : PySem.W.kitOne K t t = some true := if_pos (beq_self_eq_true _)
abbrev BWk {K : PySem.W.Frag} {h : Heap} (_ : K.In h) (B : Addr) : Prop := BW K B
abbrev CWk {K : PySem.W.Frag} {h : Heap} (_ : K.In h) (x qual : Str) (st : Stmt) (gv : Str) (C fI B : Addr) (fd : FuncData) : Prop := CW K x qual st gv C fI B fd
abbrev KTk {K : PySem.W.Frag} {h : Heap} (_ : K.In h) (C D : Addr) : Prop := PySem.W.kitOne K (.ref C) (.ref D) = some false
end Ev

namespace Ev
open PySem PySem.Spec L2 Res
section
variable {G : GC} {X : Cx} {μ : Store} {m : AM} {H : Hp}
/-! ## tuple(text) -/
def fTupleD (μ : Store) (ds : List D) : Option D := match ds with
  | [.str s] => if s.length ≤ cap then some (.tup (s.map fun c => .str [c])) else none
  | ds => fTuple μ ds
theorem b_tupleD (hK : X.K = G.K) (hc : X.calm = true) : CallR X (.type "tuple") (rN G fTupleD) := by
  intro pins s σ H xs us Q I rx ⟨ds, μ, m, r, st, rr, hf, k⟩
  unfold fTupleD at hf
  split at hf
  · rename_i z
    split at hf
    · rename_i hz
      cases hf
      obtain ⟨v, rfl, rv⟩ := reps1 rr
      unfold Rep at rv
      subst rv
      obtain ⟨u, rfl, ru⟩ := rx.one
      obtain ⟨t, rfl⟩ := ru
      have hn : (toS z).cps.size ≤ sizeLine := by
        show z.toArray.size ≤ sizeLine
        rw [List.size_toArray]
        have : cap ≤ sizeLine := by decide
        omega
      refine PySem.call_tuple_str (I.ok.hd hc) (toS z) t (hsz := hn) fun h' tk acc kp hi => ?_
      have hv : Vals (z.map fun c => V.str (toS [c])) acc.toList := vals_at z acc.toList (by
        have := hi.1
        rw [Array.length_toList, this]; show z.toArray.size = _; simp) fun j v hv => by
        obtain ⟨c, u, h1, h2⟩ := hi.2 j v (by simpa using hv)
        exact ⟨c, u, by
          have h1 : z.toArray[j]? = some c := h1
          simpa using h1, h2⟩
      have hl : (z.map fun c => V.str (toS [c])).length ≤ sizeLine := by
        rw [List.length_map]
        have : cap ≤ sizeLine := by decide
        omega
      have I1 : Inv X pins σ H { s with heap := h', toks := tk } := I.kept kp
      have np : H h'.objs.size = none := I1.hok.fresh (Nat.le_refl _)
      have I2 : Inv X pins σ (upd H h'.objs.size (.tup (z.map fun c => V.str (toS [c])))) { s with heap := h'.push { cls := .type "tuple", data := .seq acc }, toks := tk } :=
        I1.laid (t' := tk) (fun b o e => Heap.get?_push_of_some _ e) (Nat.le_refl _) (show ObjOk X.prog X.w _ _ _ (.tup _) from ⟨hl, acc.toList, hv, ⟨_, Heap.get?_push_size _ rfl, rfl, 0, by simp⟩⟩)
      exact ⟨.ref h'.objs.size, _, I2, rfl, k _ _ (st_new st np).1 (st_new st np).2 (rep_newT st np (reps_signs z))⟩
    · cases hf
  · exact b_tuple hK pins s σ H xs us Q I rx ⟨ds, μ, m, r, st, rr, hf, k⟩
/-! ## tuple * int -/
def fTrep (_ : Store) : D → D → Option D
  | .tup ds, .int k => if (2 ≤ k ∧ k ≤ 1000) ∧ ds ≠ [] ∧ ds.length ≤ 1000 then some (.tup (List.replicate k.toNat ds).flatten) else none
  | _, _ => none
theorem o_trep (hK : X.K = G.K) : OpR X (binaryOp .Mult) (r2 G fTrep) := by
  intro pins s σ H x y v u Q I rx ry ⟨d, e, μ, m, r, st, rd, re, hf, k⟩
  unfold fTrep at hf
  split at hf
  · split at hf
    · rename_i hl
      obtain ⟨⟨h1, h2⟩, h3, h4⟩ := hl
      cases hf
      unfold Rep at rd re
      subst re
      obtain ⟨a, xs, rfl, hs, rr⟩ := rd
      refine op_repT pins s σ H _ _ v u Q I rx ry ⟨_, _, xs, rfl, rfl, hK ▸ hs, ?_, h1, h2, rr.length ▸ h4, fun p np => ?_⟩
      · intro e
        subst e
        exact h3 (List.eq_nil_of_length_eq_zero rr.length)
      · exact k _ _ (st_new st np).1 (st_new st np).2 (rep_newT st np (reps_flat rr _))
    · cases hf
  · cases hf
/-! ## isinstance, dicts too -/
def tyD (μ : Store) (d : D) : Option String := if (dctR μ d).isSome then some "dict" else tyN (rd μ d)
def isiD (a b : String) : Option Bool := if ["NoneType", "bool", "int", "str", "tuple", "list", "dict"].contains a && ["bool", "int", "str", "tuple", "list", "dict"].contains b then some (a == b || (a == "bool" && b == "int")) else none
def fIsiD (μ : Store) : List D → Option D
  | [d, .ty n] => match tyD μ d with
    | some a => (isiD a n).map .bl
    | none => none
  | _ => none
theorem isiD_kit {a b : String} {t : Bool} (h : isiD a b = some t) : kitB a b = some t := by
  unfold isiD at h
  split at h
  · rename_i hc
    obtain ⟨c1, c2⟩ := Bool.and_eq_true_iff.mp hc
    cases h
    have all : (["NoneType", "bool", "int", "str", "tuple", "list", "dict"].all fun a => ["bool", "int", "str", "tuple", "list", "dict"].all fun b => kitB a b == some (a == b || (a == "bool" && b == "int"))) = true := by decide +kernel
    have h1 := List.all_eq_true.mp all a (by simpa using c1)
    have h2 := List.all_eq_true.mp h1 b (by simpa using c2)
    exact eq_of_beq h2
  · cases h
theorem tyD_ok {d : D} {v : V} {a : String} (st : StOk G μ m H) (r : Rep G m H d v) (h : tyD μ d = some a) : TyX G.K H v (.type a) := by
  unfold tyD at h
  cases hd : dctR μ d with
  | none =>
    rw [hd] at h
    exact tyN_ok st r h
  | some kvs =>
    rw [hd] at h
    cases h
    obtain ⟨p, vs, rfl, g1, g2⟩ := dctR_ok st r hd
    rcases g1 with g1 | ⟨o, g1⟩
    · exact .base (.dK g1)
    · exact .fDict g1
theorem b_isiD (hK : X.K = G.K) : CallR X (.builtin "isinstance") (rN G fIsiD) := by
  intro pins s σ H xs us Q I rx ⟨ds, μ, m, r, st, rr, hf, k⟩
  unfold fIsiD at hf
  split at hf
  · rename_i d n
    split at hf
    · rename_i a ha
      cases hi : isiD a n with
      | none => rw [hi] at hf; cases hf
      | some t =>
        rw [hi] at hf
        cases hf
        obtain ⟨v, w, rfl, rv, rw'⟩ := reps2 rr
        unfold Rep at rw'
        subst rw'
        exact call_isi pins s σ H _ us Q I rx ⟨v, _, _, _, t, rfl, .ty n, by rw [hK]; exact tyD_ok st rv ha, kit_ty (isiD_kit hi), k _ H (.refl _ _) st (by unfold Rep; rfl)⟩
    · cases hf
  · cases hf
/-! ## one dict and itself -/
def flatDs (kvs : List (DK × D)) : Bool := kvs.all fun kv => match kv.2 with
  | .int _ => true
  | _ => false
def fEqX (μ : Store) (d e : D) : Option D := match d, e with
  | .ref n, .ref k => match μ[n]? with
    | some (.dct kvs) => if n = k ∧ (kvs.map (·.1)).Nodup ∧ flatDs kvs = true then some (.bl true) else none
    | _ => fEq μ d e
  | d, e => fEq μ d e
theorem flat_kvs {kvs : List (DK × D)} {vs : List V} (h : flatDs kvs = true) (r : Reps G m H (kvs.map (·.2)) vs) : ∀ p ∈ kvsV kvs vs, flatB p.2 = true := by
  induction kvs generalizing vs with
  | nil => intro p hp; simp [kvsV] at hp
  | cons kv kvs ih =>
    rw [List.map_cons] at r
    obtain ⟨w, ws, rfl, r1, r2⟩ := r.uncons
    unfold flatDs at h
    rw [List.all_cons] at h
    obtain ⟨h1, h2⟩ := Bool.and_eq_true_iff.mp h
    intro p hp
    have hp : p ∈ (toKey kv.1, w) :: kvsV kvs ws := hp
    rcases List.mem_cons.mp hp with rfl | q
    · split at h1
      · rename_i i hi
        rw [hi] at r1
        unfold Rep at r1
        subst r1; rfl
      · cases h1
    · exact ih h2 r2 p q
theorem nodup_kvs {kvs : List (DK × D)} {vs : List V} (h : (kvs.map (·.1)).Nodup) (hl : kvs.length = vs.length) : ((kvsV kvs vs).map (·.1)).Nodup := by
  have e : (kvsV kvs vs).map (·.1) = (kvs.map (·.1)).map toKey := by
    unfold kvsV
    rw [List.map_fst_zip (by rw [List.length_map]; exact Nat.le_of_eq hl), List.map_map]; rfl
  rw [e]
  exact List.Pairwise.map _ (fun a b ne z => ne (toKey_inj.mp z)) h
theorem o_eqX (hK : X.K = G.K) (hu : X.A.units + 64 < cLine) : OpR X (compareOp .Eq) (r2 G fEqX) := by
  intro pins s σ H x y v u Q I rx ry ⟨d, e, μ, m, r, st, rd', re, hf, k⟩
  unfold fEqX at hf
  split at hf
  · rename_i n n2
    split at hf
    · rename_i kvs hn
      split at hf
      · rename_i hc
        obtain ⟨rfl, nd, fl⟩ := hc
        cases hf
        obtain ⟨h0, a, xs, q1, q2, q3⟩ := st.obj n (.dct kvs) _ hn rfl
        unfold Rep at rd' re
        obtain ⟨b, rfl, hb⟩ := rd'
        obtain ⟨c, rfl, hc⟩ := re
        have e1 : a = b := by rw [q1] at hb; rcases hb with hb | hb <;> simpa using hb
        have e2 : a = c := by rw [q1] at hc; rcases hc with hc | hc <;> simpa using hc
        subst e1 e2
        have hl := q3.length
        rw [List.length_map] at hl
        refine op_eq_dict (by omega) pins s σ H _ _ v u Q I rx ry ⟨a, a, kvsV kvs xs, rfl, rfl, q2, q2, nodup_kvs nd hl, flat_kvs fl q3, k _ H (.refl _ _) st (by unfold Rep; rfl)⟩
      · cases hf
    · exact o_eq hK hu pins s σ H x y v u Q I rx ry ⟨_, _, μ, m, r, st, rd', re, hf, k⟩
  · exact o_eq hK hu pins s σ H x y v u Q I rx ry ⟨_, _, μ, m, r, st, rd', re, hf, k⟩
theorem bl_fEqX : ∀ μ x y r, fEqX μ x y = some r → ∃ t, r = .bl t := fun μ x y r h => by
  unfold fEqX at h
  split at h
  · split at h
    · split at h <;> first | (cases h; exact ⟨_, rfl⟩) | cases h
    · unfold fEq at h; split at h <;> first | (cases h; exact ⟨_, rfl⟩) | cases h
  · unfold fEq at h; split at h <;> first | (cases h; exact ⟨_, rfl⟩) | cases h
end
end Ev

namespace Ev
open PySem PySem.Spec PyProof.Rows
/-! ## tuple[::-1] -/
section
variable {prog : Program} {w : World} {A : Around} {E : Value → Shared → Prop} {s : Shared}
theorem sliceApplied_rev {sl : Addr} {vs : Value} {n : Nat} {Q : Int × Int × Nat → Shared → Prop} (hs : s.heap.IsSliceOf sl .none .none vs) (ps : IsPart vs (some (-1))) (h : Q ((n : Int) - 1, -1, n) s) :
    wpAny (model prog w) A (Builtin.Slice.sliceApplied (.ref sl) (pure (n : Int))) Q E s := by
  obtain ⟨os, hos, hcs, hds⟩ := id hs
  unfold Builtin.Slice.sliceApplied Builtin.Slice.sliceFields
  refine wpAny_bind (wpAny_bind (wpAny_field hos hds (x := .none) rfl (wpAny_bind (wpAny_field hos hds (x := .none) rfl (wpAny_bind (wpAny_field hos hds (x := vs) rfl (wpAny_pure ?_)))))))
  refine wpAny_bind (HT.slicePart_ ps ?_)
  show wpAny _ _ (if ((-1 : Int) == 0) = true then _ else _) _ _ s
  rw [if_neg (by decide)]
  refine wpAny_bind (slicePart_none (wpAny_bind (slicePart_none (wpAny_bind (wpAny_pure ?_)))))
  show wpAny _ _ (pure ((n : Int) - 1, (-1 : Int), Builtin.Slice.slicePlaces ((n : Int) - 1) (-1) (-1))) _ _ s
  have e : Builtin.Slice.slicePlaces ((n : Int) - 1) (-1) (-1) = n := by
    unfold Builtin.Slice.slicePlaces
    rw [if_neg (by decide)]
    by_cases hn : (n : Int) - 1 > -1
    · rw [if_pos hn, show (-(-1) : Int) = 1 by decide, Int.ediv_one]; omega
    · rw [if_neg hn]; omega
  rw [e]
  exact wpAny_pure h
theorem filterMap_same {α β : Type} {f g : α → Option β} : ∀ (l : List α), (∀ x ∈ l, f x = g x) → l.filterMap f = l.filterMap g
  | [], _ => rfl
  | a :: l, h => by
    have ih := filterMap_same l fun x hx => h x (List.mem_cons_of_mem _ hx)
    rw [List.filterMap_cons, List.filterMap_cons, h a List.mem_cons_self, ih]
theorem pick_rev (xs : Array Value) : ((List.range xs.size).filterMap fun (k : Nat) => xs[((xs.size : Int) - 1 + (k : Int) * (-1)).toNat]?).toArray = xs.toList.reverse.toArray := by
  have h1 : (List.range xs.size).filterMap (fun (k : Nat) => xs[((xs.size : Int) - 1 + (k : Int) * (-1)).toNat]?) = ((List.range xs.size).map fun k => xs.size - 1 - k).filterMap (xs[·]?) := by
    rw [List.filterMap_map]
    refine filterMap_same _ fun k hk => ?_
    have hk := List.mem_range.mp hk
    show xs[((xs.size : Int) - 1 + (k : Int) * (-1)).toNat]? = xs[xs.size - 1 - k]?
    congr 1
    omega
  rw [h1, PySem.W.krv_range, List.filterMap_reverse, PySem.W.krv_all]
theorem getItem_tuple_rev {t sl : Addr} {items : Array Value} {vs : Value} {Q : Value → Shared → Prop} (ht : IsTup s.heap t items) (hs : s.heap.IsSliceOf sl .none .none vs) (ps : IsPart vs (some (-1)))
    (h : Q (.ref s.heap.objs.size) { s with heap := s.heap.push { cls := .type "tuple", data := .seq items.toList.reverse.toArray } })
    (hsz : items.size ≤ sizeLine) : wpAny (model prog w) A (getItem (.ref t) (.ref sl)) Q E s := by
  have htake : sizeOk (.seq items.toList.reverse.toArray) := by
    show items.toList.reverse.toArray.size ≤ sizeLine
    rw [List.size_toArray, List.length_reverse, Array.length_toList]
    exact hsz
  obtain ⟨os, hos, hcs, hds⟩ := id hs
  have hTs : s.TypeIs (.ref sl) "slice" := ⟨os, hos, hcs⟩
  unfold getItem
  try with_reducible refine wpAny_holding ?_
  first | refine wpAny_bind (wpAny_pure ?_) | skip
  refine wpAny_bind (wpAny_sequenceKey ht.typeIs (by decide) ?_)
  refine wpAny_bind (wpAny_callSpecial?_slot (name := Str.ofString "__getitem__") ht.typeIs PyProof.Rows.slot_tuple_getitem
    (wpAny_call_entry PyProof.Rows.slot_tuple_getitem ht.typeIs entry_tuple_getitem ?_ (args_tuple_getitem _ _)))
  show wpAny _ _ (Builtin.Tuple.tupleItemsOf (.ref t) >>= _) _ _ s
  refine wpAny_bind (tupleItemsOf_ ht ?_)
  refine wpAny_bind (wpAny_typeOf hTs ?_)
  rw [if_pos (by decide)]
  refine wpAny_bind (sliceApplied_rev hs ps ?_)
  have hno : ¬ (((items.size : Int) - 1 == 0 && (-1 : Int) == 1 && items.size == items.size) = true) := by
    rw [show ((-1 : Int) == 1) = false from rfl, Bool.and_false, Bool.false_and]
    decide
  show wpAny _ _ (if ((items.size : Int) - 1 == 0 && (-1 : Int) == 1 && items.size == items.size) = true then _ else _) _ _ s
  rw [if_neg hno, pick_rev]
  first
    | exact wpAny_bind (m := Builtin.Tuple.tupleExact _) (wpAny_newObj_type (wpAny_pure ⟨_, rfl, wpAny_pure h⟩) htake)
    | exact wpAny_bind (m := Builtin.Tuple.tupleExact _) (wpAny_newObj_type (wpAny_bind (wpAny_pure (wpAny_pure ⟨_, rfl, wpAny_pure h⟩))) htake)
    | exact wpAny_bind (wpAny_bind (m := Builtin.Tuple.tupleExact _) (wpAny_newObj_type (wpAny_pure (wpAny_pure ⟨_, rfl, wpAny_pure h⟩)) htake))
    | exact wpAny_bind (wpAny_bind (m := Builtin.Tuple.tupleExact _) (wpAny_newObj_type (wpAny_pure ⟨_, rfl, wpAny_pure h⟩) htake))
end
open L2 Res
def fRevD (μ : Store) (d : D) : Option D := match d with
  | .tup ds => some (.tup ds.reverse)
  | d => fRev μ d
section
variable {G : GC} {W : WX} {cf : String → List D → Store → Res D} {X : Cx} {μ : Store} {m : AM} {H : Hp}
variable {e : Expr} {ce : CE}
theorem se_revD {k : Nat} {p1 p2 p3 pos : Pos} (hK : X.K = G.K) (he : PE X e (tE G W cf ce)) :
    PE X (.Subscript e (.Slice none none (some (.UnaryOp .USub (.Constant (.int 1) k p1) p2)) p3) pos) (tE G W cf (.op1 fRevD ce)) := by
  refine ⟨fun pins s σ H Q I ⟨ρ, μ, m, S, h⟩ => ?_⟩
  unfold ev at h
  have hE : tE G W cf ce σ H fun v H1 => ∃ d μ1 m1 r, SR G ρ μ1 m1 σ H1 ∧ Rep G m1 H1 d v ∧ fRevD μ1 d = some r ∧ ∀ w H2, Ext m1 H1 m1 H2 → StOk G μ1 m1 H2 → Rep G m1 H2 r w → Q w H2 := by
    refine tE_sub S h.bind (.refl _ _) fun d μ1 v H1 m1 q e1 s1 rv => ?_
    obtain ⟨r, hr, q⟩ := out_lift q
    exact ⟨d, μ1, m1, r, s1, rv, hr, fun w H2 e2 st2 rw' => q w H2 m1 (e1.trans e2) (s1.ext e2 st2) rw'⟩
  refine PyProof.Rows.Subscript_ (thn (he.run pins s σ H _ I hE) fun v s1 ⟨x, H1, I1, r1, d, μ1, m1, r, S1, rv, hf, q⟩ => ?_)
  have hst : PO X (some (.UnaryOp .USub (.Constant (.int 1) k p1) p2)) (tPart (tUn (rU fun i => .int (-i)) (tC (.int 1)))) := po_some (pe_un un_neg pe_int)
  refine wpAny_Slice (thn (po_none.run pins s1 σ H1 (fun o H2 => o = none ∧ H2 = H1) I1 ⟨rfl, rfl⟩) fun vl s2 ⟨l, H2, I2, pl, el, e2⟩ => ?_)
  subst el e2
  refine thn (po_none.run pins s2 σ H2 (fun o H3 => o = none ∧ H3 = H2) I2 ⟨rfl, rfl⟩) fun vu s3 ⟨u, H3, I3, pu, eu, e3⟩ => ?_
  subst eu e3
  refine thn (hst.run pins s3 σ H3 (fun o H4 => o = some (-1) ∧ H4 = H3) I3 ⟨1, rfl, -1, rfl, rfl, rfl⟩) fun vs s4 ⟨o, H4, I4, ps, eo, e4⟩ => ?_
  subst eo e4
  have I5 : Inv X pins σ H4 { s4 with heap := s4.heap.push { cls := .type "slice", data := .fields #[vl, vu, vs] } } := I4.kept (t' := s4.toks) fun b ob q => Heap.get?_push_of_some _ q
  unfold fRevD fRev at hf
  split at hf
  · rename_i ds
    cases hf
    unfold Rep at rv
    obtain ⟨a, xs, rfl, h1, rr⟩ := rv
    cases r1
    obtain ⟨its, r, ht, hz⟩ := I5.tuple (hK ▸ h1)
    cases pl
    cases pu
    refine PyProof.Rows.tail_any (ops := [.ref a, .ref s4.heap.objs.size]) ht.typeIs PyProof.Rows.slot_tuple_getitem.lookup ?_ (by with_unfolding_all rfl)
    refine getItem_tuple_rev ht (Heap.IsSliceOf.new _ .none .none vs) ps ?_ (by rw [List.size_toArray]; have := r.length; omega)
    have np := I5.hok.fresh (Nat.le_refl _)
    refine ⟨.ref _, _, I5.laid (t' := s4.toks) (o := .tup xs.reverse) (fun b ob q => Heap.get?_push_of_some _ q) (Nat.le_refl _) ?_, rfl, ?_⟩
    · exact ⟨by rw [List.length_reverse]; exact hz, _, r.reverse, IsTup.new _ _⟩
    · exact q _ _ (st_new S1.st np).1 (st_new S1.st np).2 (rep_newT S1.st np rr.reverse)
  · split at hf
    · rename_i z _
      split at hf
      · rename_i hl
        cases hf
        unfold Rep at rv
        subst rv
        obtain ⟨t, rfl⟩ := r1
        cases pl
        cases pu
        cases ps with
        | int _ u =>
        refine PyProof.Rows.tail_any (ops := [.str (toS z) t, .ref s4.heap.objs.size]) (typeIs_str _ _ _) F.slot_str_getitem.lookup ?_ (by with_unfolding_all rfl)
        refine wpAny_getItem_str_slice (l := none) (u := none) (st := some (-1, u)) (Heap.IsSliceOf.new _ .none .none (.int (-1) u)) (by rfl) ?_
        unfold sliceMade
        rw [if_neg (by
          have : ((((some ((-1 : Int), u)).map (·.1)).getD 1 == 1)) = false := rfl
          rw [this]; simp)]
        rw [rev_text, toS_list]
        exact ⟨by show (toS z.reverse).length ≤ _; rw [toS_len, List.length_reverse]; exact cap_size hl, .str (toS z.reverse), _, I5.tok _, ⟨_, rfl⟩, q _ H4 (.refl _ _) S1.st (by unfold Rep; rfl)⟩
      · cases hf
    · split at hf
      · rename_i ds hd
        cases hf
        obtain ⟨a, xs, rfl, h1, rr⟩ := asL_ok S1.st rv hd
        cases r1
        obtain ⟨its, r, ht, hz⟩ := I5.list (.inl h1)
        refine PyProof.Rows.tail_any (ops := [.ref a, .ref s4.heap.objs.size]) ht.isList.typeIs (PySem.slot_list_getitem.lookup) ?_ (by with_unfolding_all rfl)
        refine wpAny_getItem_list_slice ht.isList (Heap.IsSliceOf.new _ vl vu vs) pl pu ps (by decide) ?_ (by rw [List.size_toArray]; have := r.length; omega)
        rw [PySem.W.krv_pick]
        have np := I5.hok.fresh (Nat.le_refl _)
        refine ⟨.ref _, _, I5.laid (t' := s4.toks) (o := .lst xs.reverse) (fun b ob q => Heap.get?_push_of_some _ q) (Nat.le_refl _) ?_, rfl, ?_⟩
        · exact ⟨by rw [List.length_reverse]; exact hz, _, 0, r.reverse, Heap.get?_push_size _ rfl⟩
        · exact q _ _ (st_new S1.st np).1 (st_new S1.st np).2 (rep_new S1.st np rr.reverse)
      · cases hf
end
end Ev

namespace Ev
open PySem PySem.Spec L2 Res

/-! ## what the top has written -/
theorem bt_len : bootBuiltins "len" = some (.builtin "len") := by decide +kernel
theorem bt_abs : bootBuiltins "abs" = some (.builtin "abs") := by decide +kernel
theorem bt_max : bootBuiltins "max" = some (.builtin "max") := by decide +kernel
theorem bt_min : bootBuiltins "min" = some (.builtin "min") := by decide +kernel
theorem bt_sum : bootBuiltins "sum" = some (.builtin "sum") := by decide +kernel
theorem bt_any : bootBuiltins "any" = some (.builtin "any") := by decide +kernel
theorem bt_all : bootBuiltins "all" = some (.builtin "all") := by decide +kernel
theorem bt_sorted : bootBuiltins "sorted" = some (.builtin "sorted") := by decide +kernel
theorem bt_divmod : bootBuiltins "divmod" = some (.builtin "divmod") := by decide +kernel
theorem bt_isinstance : bootBuiltins "isinstance" = some (.builtin "isinstance") := by decide +kernel
theorem bt_int : bootBuiltins "int" = some (.type "int") := by decide +kernel
theorem bt_bool : bootBuiltins "bool" = some (.type "bool") := by decide +kernel
theorem bt_str : bootBuiltins "str" = some (.type "str") := by decide +kernel
theorem bt_list : bootBuiltins "list" = some (.type "list") := by decide +kernel
theorem bt_dict : bootBuiltins "dict" = some (.type "dict") := by decide +kernel
theorem bt_tuple : bootBuiltins "tuple" = some (.type "tuple") := by decide +kernel

section
variable {P : Program} {w : World} {K : PySem.W.Frag} {mg : Str → Option Value} {base : Heap}
/-- a def of the module -/
structure Df (K : PySem.W.Frag) (mg : Str → Option Value) (x : Str) (st : Stmt) (ps : List Str) (f : Addr) (fd : FuncData) : Prop where
  F : Fun K x x st f fd
  g : mg x = some (.ref f)
  k : PySem.W.keepIn K (.ref f) = true
  b : Binds K fd ps []
  e : ∃ (kV doc pm : Value) (an : Option Addr) (cdv ct : Value), fd = PySem.W.fnOf x x (defArgs st) (defBody st) (defScope st) .none kV doc pm an cdv ct
theorem df_mk {h : Heap} {x : Str} {st : Stmt} {ps : List Str} {f : Addr} {oc : Value} {od an : Option Addr} {osl : Array (Option Value)} {kV doc pm cdv ct : Value} (X : K.In h) (G : h.Ns mainGlobals mg)
    (a : PySem.W.nsIn K mainGlobals x = some (some (.ref f))) (l : K.lookup f = some ⟨oc, od, .func (PySem.W.fnOf x x (defArgs st) (defBody st) (defScope st) .none kV doc pm an cdv ct), osl⟩)
    (c : PySem.W.codeIn K cdv x = true) (k : PySem.W.keepIn K (.ref f) = true)
    (hb : ∀ (kV doc pm : Value) (an : Option Addr) (cdv ct : Value) (us : List Value), us.length = ps.length → bindArgs (PySem.W.fnOf x x (defArgs st) (defBody st) (defScope st) .none kV doc pm an cdv ct) ⟨us, []⟩ = pure (ps.zip us)) :
    Df K mg x st ps f (PySem.W.fnOf x x (defArgs st) (defBody st) (defScope st) .none kV doc pm an cdv ct) :=
  ⟨fun_mk l c k, PySem.W.mg_of X G a, k, (fun_mk (st := st) l c k).binds hb, _, _, _, _, _, _, rfl⟩
/-- a call with keywords: how its arguments come to stand -/
theorem Df.kw {x : Str} {st : Stmt} {ps : List Str} {f : Addr} {fd : FuncData} (D : Df K mg x st ps f fd) {n : Nat} {ks : List Str} {pl : List Nat} {m : Nat}
    (h : ∀ (kV doc pm : Value) (an : Option Addr) (cdv ct : Value) (us ws : List Value), us.length = n → ws.length = m → bindArgs (PySem.W.fnOf x x (defArgs st) (defBody st) (defScope st) .none kV doc pm an cdv ct) ⟨us, ks.zip ws⟩ = pure (ps.zip (permL pl (us ++ ws)))) :
    ∀ (s : Shared) (us ws : List Value), us.length = n → ws.length = m → BindsTo s fd ⟨us, ks.zip ws⟩ (ps.zip (permL pl (us ++ ws))) := fun s us ws h1 h2 => by
  obtain ⟨kV, doc, pm, an, cdv, ct, rfl⟩ := D.e
  exact .of_eq (h kV doc pm an cdv ct us ws h1 h2)
theorem Df.kw0 {x : Str} {st : Stmt} {ps : List Str} {f : Addr} {fd : FuncData} (D : Df K mg x st ps f fd) {ks : List Str} {pl : List Nat} {m : Nat}
    (h : ∀ (kV doc pm : Value) (an : Option Addr) (cdv ct : Value) (ws : List Value), ws.length = m → bindArgs (PySem.W.fnOf x x (defArgs st) (defBody st) (defScope st) .none kV doc pm an cdv ct) ⟨[], ks.zip ws⟩ = pure (ps.zip (permL pl ws))) :
    ∀ (s : Shared) (ws : List Value), ws.length = m → BindsTo s fd ⟨[], ks.zip ws⟩ (ps.zip (permL pl ws)) := fun s ws h2 => by
  obtain ⟨kV, doc, pm, an, cdv, ct, rfl⟩ := D.e
  exact .of_eq (h kV doc pm an cdv ct ws h2)

/-! ## the law's own head -/
def spLaw (K : PySem.W.Frag) : Sp := fun vs H Q _ => ∃ (a : Addr) (ns : List Int), vs = [.ref a] ∧ SqL K H a (ns.map V.int) ∧ ns.length ≤ 63 ∧ ∀ H', Q (.bl true) H'
theorem law_fn {G : GC} {k : Nat} {fa : Addr} {fd : FuncData} {x : Str} {call : List D → Store → Res D} (F : FnOk P w K mg base (L2.CX P w) k fa fd [x] (spF G 1 call)) (hG : G.K = K) (h : ∀ ns : List Int, ns.length ≤ 63 → ∃ μ, call [.scr ns] [] = .ok (.bl true) μ) :
    FnOk P w K mg base (L2.CX P w) k fa fd [x] (spLaw K) :=
  F.imp fun vs H Q E ⟨a, ns, e, hS, hl, q⟩ => by
    subst e
    obtain ⟨μ, hc⟩ := h ns hl
    refine ⟨rfl, [.scr ns], [], ⟨[], []⟩, ⟨rfl, fun i j a h => by simp at h, fun a h => by simp at h, fun n o ds h hd => by simp at h, fun n h => by simp at h, fun a h => by rcases h with h | h <;> simp at h⟩, .cons ?_ .nil, ?_⟩
    · unfold Rep
      refine ⟨a, rfl, ?_⟩
      rcases hS with hS | hS
      · exact .inl ⟨fun h => by rcases h with h | h <;> simp at h, hS⟩
      · exact .inr fun H' => .inr (by rw [hG]; exact hS)
    · rw [hc]
      intro v H' m' e' st' r
      unfold Rep at r
      rw [r]
      exact q H'
theorem walk_law {l : PySem.W.OpenLaw} {k : Nat} {q : Program} {loose : List Str} {XP : (Str → Option Value) → Heap → Prop} {YP : World → Heap → Prop} {d : DefRec} {K : Params → PySem.W.Frag} {x : Str} (hn : l.most = some 63) (hdf : d.params.defaults = []) (hr : Room k callerA)
    (hY : ∀ (w : World) (h : Heap), YP w h → (K w.params).In h)
    (F : ∀ (w : World) (mg : Str → Option Value) (fa : Addr) (h : Heap), (K w.params).In h → h.Ns mainGlobals mg → mg d.name = some (.ref fa) →
      ∃ fd : FuncData, (∀ (s : Shared) (u : Value), BindsTo s fd ⟨[u], []⟩ [(x, u)]) ∧ ∀ base : Heap, (K w.params).In base → base.Ns mainGlobals mg → FnOk l.prog w (K w.params) mg base (L2.CX l.prog w) k fa fd [x] (spLaw (K w.params))) :
    PySem.W.WalkO q loose XP YP l.row.toRowW d [] (fun f vs => PySem.call f vs) :=
  L2.walk_of (n := 63) (k := k) (x := x) (CX := fun w => L2.CX l.prog w) (sp := fun w => spLaw (K w.params)) hn (by decide) hdf hr hY F (fun _ _ a ns hl _ hS => ⟨a, ns, rfl, hS, hl, fun _ => rfl⟩) fun _ _ _ _ _ ⟨_, _, _, _, _, _, _, _, _, _, _, _, z⟩ => z
/-- the def's own binding of its one argument -/
theorem Df.one {x p : Str} {st : Stmt} {f : Addr} {fd : FuncData} (D : Df K mg x st [p] f fd)
    (h : ∀ (kV doc pm : Value) (an : Option Addr) (cdv ct u : Value), bindArgs (PySem.W.fnOf x x (defArgs st) (defBody st) (defScope st) .none kV doc pm an cdv ct) ⟨[u], []⟩ = pure [(p, u)]) : ∀ (s : Shared) (u : Value), BindsTo s fd ⟨[u], []⟩ [(p, u)] := fun s u => by
  obtain ⟨kV, doc, pm, an, cdv, ct, rfl⟩ := D.e
  exact .of_eq (h kV doc pm an cdv ct u)
end
/-! ## comparisons give bools -/
theorem bl_fEq : ∀ μ x y r, fEq μ x y = some r → ∃ t, r = .bl t := fun μ x y r h => by unfold fEq at h; split at h <;> first | (cases h; exact ⟨_, rfl⟩) | cases h
theorem bl_fNe : ∀ μ x y r, fNe μ x y = some r → ∃ t, r = .bl t := fun μ x y r h => by unfold fNe at h; split at h <;> first | (cases h; exact ⟨_, rfl⟩) | cases h
theorem bl_fLt : ∀ μ x y r, fLt μ x y = some r → ∃ t, r = .bl t := fun μ x y r h => by unfold fLt at h; split at h <;> first | (cases h; exact ⟨_, rfl⟩) | cases h
theorem bl_fLe : ∀ μ x y r, fLe μ x y = some r → ∃ t, r = .bl t := fun μ x y r h => by unfold fLe at h; split at h <;> first | (cases h; exact ⟨_, rfl⟩) | cases h
theorem bl_fGt : ∀ μ x y r, fGt μ x y = some r → ∃ t, r = .bl t := fun μ x y r h => by unfold fGt at h; split at h <;> first | (cases h; exact ⟨_, rfl⟩) | cases h
theorem bl_fGe : ∀ μ x y r, fGe μ x y = some r → ∃ t, r = .bl t := fun μ x y r h => by unfold fGe at h; split at h <;> first | (cases h; exact ⟨_, rfl⟩) | cases h
theorem bl_fIs : ∀ μ x y r, fIs μ x y = some r → ∃ t, r = .bl t := fun μ x y r h => by unfold fIs at h; split at h <;> first | (cases h; exact ⟨_, rfl⟩) | cases h
theorem bl_notB {o : Option D} {r : D} (h : notB o = some r) : ∃ t, r = .bl t := by unfold notB at h; split at h <;> first | (cases h; exact ⟨_, rfl⟩) | cases h
theorem bl_fIsNot : ∀ μ x y r, fIsNot μ x y = some r → ∃ t, r = .bl t := fun μ x y r h => bl_notB h
theorem bl_fIn : ∀ μ x y r, fIn μ x y = some r → ∃ t, r = .bl t := fun μ x y r h => by
  unfold fIn at h
  split at h
  · cases h; exact ⟨_, rfl⟩
  · cases h
  · split at h
    · split at h <;> first | (cases h; exact ⟨_, rfl⟩) | cases h
    · cases h
theorem bl_fNotIn : ∀ μ x y r, fNotIn μ x y = some r → ∃ t, r = .bl t := fun μ x y r h => bl_notB h
end Ev

/-! ## text.replace(a[b], ''): the new text's token is a fresh one -/
namespace Ev
open PySem PySem.Spec L2 Res PyProof.Rows
/-- behind the run a token is out -/
def PEt (X : Cx) (e : Expr) (t : TE) : Prop := ∀ (pins : List (Addr × Obj)) (s : Shared) (σ : L2.St) (H : Hp) (Q : VK), Inv X pins σ H s → t σ H Q →
  wpAny (model X.prog X.w) X.A (eval e X.env) (fun u s' => 1 ≤ s'.toks ∧ EP X pins σ Q u s') X.xe s
/-- a text with a token of its own, made before -/
def PEf (X : Cx) (e : Expr) (t : TE) : Prop := ∀ (pins : List (Addr × Obj)) (s : Shared) (σ : L2.St) (H : Hp) (Q : VK), Inv X pins σ H s → t σ H Q →
  wpAny (model X.prog X.w) X.A (eval e X.env) (fun u s' => (∃ c tk, u = .str ⟨#[c]⟩ tk ∧ tk ≠ 0 ∧ tk < s'.toks) ∧ EP X pins σ Q u s') X.xe s
section
variable {G : GC} {W : WX} {cf : String → List D → Store → Res D} {X : Cx} {a b e o : Expr} {ca cb ce co : CE} {ta tb te to : TE} {pos apos : Pos}
theorem PEt.int {i : Int} {j : Nat} {p : Pos} : PEt X (.Constant (.int i) j p) (tE G W cf (.lit (.int i))) := by
  intro pins s σ H Q I h
  refine wpAny_mono (wpAny_toks_of (n := 0) (Nat.zero_le _) (wpAny_mono (wpAny_Constant_int (Q := fun u s' => 1 ≤ s'.toks ∧ u = .int i s.toks ∧ s' = { s with toks := s.toks + 1 }) ⟨by show 1 ≤ s.toks + 1; omega, rfl, rfl⟩) (fun u s' ⟨h1, h2, h3⟩ => ?_) fun _ _ z => z)) (fun u s' z => z.2) fun _ _ z => z.2
  refine ⟨h1, ?_⟩
  obtain ⟨ρ, μ, m, S, h⟩ := h
  unfold ev at h
  subst h2 h3
  exact ⟨.int i, H, I.tok _, ⟨_, rfl⟩, h _ H m (.refl _ _) S (by unfold Rep; rfl)⟩
theorem PEt.un {op : UnaryOp} {f : Store → D → Option D} (ho : UnR X (unaryOp op) (r1 G f)) (ha : PEt X a (tE G W cf ca)) : PEt X (.UnaryOp op a pos) (tE G W cf (.op1 f ca)) := by
  intro pins s σ H Q I h
  refine UnaryOp_ (thn (ha pins s σ H (fun v H' => (r1 G f) v H' Q) I ?_) fun v s1 ⟨h1, x, H1, I1, r1, q1⟩ => ?_)
  · obtain ⟨ρ, μ, m, S, h⟩ := h
    unfold ev at h
    refine tE_sub S h.bind (.refl _ _) fun d μ1 v H1 m1 q e1 s1 rv => ?_
    obtain ⟨r, hr, q⟩ := out_lift q
    exact ⟨d, μ1, m1, r, s1.st, rv, hr, fun w H2 e2 st2 rw' => q w H2 m1 (e1.trans e2) (s1.ext e2 st2) rw'⟩
  · exact wpAny_mono (wpAny_toks_of h1 (ho pins s1 σ H1 x v Q I1 r1 q1)) (fun u s' z => z) fun _ _ z => z.2
/-- a sign of a text -/
def fIxS (μ : Store) (d e : D) : Option D := match d, e with
  | .str s, .int i => if s.length ≤ cap then ((ixOf s.length i).bind fun j => s[j]?).map fun c => .str [c] else none
  | _, _ => none
theorem PEf.ix (ha : PE X a (tE G W cf ca)) (hb : PEt X b (tE G W cf cb)) (hs : PlainIx b) : PEf X (.Subscript a b pos) (tE G W cf (.op2 fIxS ca cb)) := by
  intro pins s σ H Q I h
  obtain ⟨ρ, μ, m, S, h⟩ := h
  have h' := tE_two S h
  refine Subscript_ (thn (ha.run pins s σ H _ I h') fun v s1 ⟨x, H1, I1, r1, q1⟩ => ?_)
  refine thn (hb pins s1 σ H1 _ I1 q1) fun u s2 ⟨ht, y, H2, I2, ry, q2⟩ => ?_
  obtain ⟨d, e, μ, m, r, st, rd', re, hf, k⟩ := q2
  unfold fIxS at hf
  split at hf
  · rename_i z i
    split at hf
    · rename_i hl
      unfold Rep at rd' re
      subst rd' re
      cases q : ixOf z.length i with
      | none => rw [q] at hf; cases hf
      | some j =>
        rw [q] at hf
        cases q2 : z[j]? with
        | none => simp [q2] at hf
        | some c =>
          simp [q2] at hf
          subst hf
          obtain ⟨t, rfl⟩ := r1
          obtain ⟨t', rfl⟩ := ry
          have he : atI (toS z).cps.toList i = some c := by
            unfold atI
            rw [toS_list]
            show (ixOf z.length i).bind _ = _
            rw [q]; exact q2
          obtain ⟨j, h1, h2, h3, h4, h5⟩ := L2.atI_get he
          have hl' : (toS z).cps.toList.length = (toS z).length := by simp [Str.length]
          rw [hl'] at h1 h4 h5
          have hz : (toS z).length ≤ sizeLine := by rw [toS_len]; exact cap_size hl
          have hn := line63
          exact tail_any (typeIs_str s2 (toS z) t) slot_str_getitem.lookup (getItem_str (c := c) (by
            have e1 : decide (i < -(2 ^ 63 : Int)) = false := decide_eq_false (by omega)
            have e2 : decide (i ≥ 2 ^ 63) = false := decide_eq_false (by omega)
            rw [e1, e2, Bool.or_false]) (by rw [h1]; simpa using h2) ⟨⟨c, s2.toks, rfl, Nat.one_le_iff_ne_zero.mp ht, Nat.lt_succ_self _⟩, .str ⟨#[c]⟩, H2, I2.tok _, ⟨_, rfl⟩, k _ H2 (.refl _ _) st (by unfold Rep; rfl)⟩) (hs _ _)
    · cases hf
  · cases hf
/-- x without a sign -/
def mStrk (ds : List D) (μ : Store) : Res D := match ds with
  | [.str x, .str [c]] => if x.length ≤ cap then .ok (.str (x.filter fun y => y != c)) μ else .stuck
  | _ => .stuck
theorem strk_eq (x : List Nat) (c : Nat) : Txt.replace (toS x) ⟨#[c]⟩ ⟨#[]⟩ = toS (x.filter fun y => y != c) := by
  have h := replace_strikes (toS x) c
  rw [toS_list] at h
  have : ∀ z : Str, z.cps.toList = (x.filter fun y => y != c) → z = toS (x.filter fun y => y != c) := by
    intro z hz
    cases z with
    | mk a =>
      show Str.mk a = Str.mk _
      congr 1
      rw [← hz]
  exact this _ h
theorem strk_ok {ds : List D} {μ μ' : Store} {r : D} (h : mStrk ds μ = .ok r μ') : ∃ x c, ds = [.str x, .str [c]] ∧ x.length ≤ cap ∧ r = .str (x.filter fun y => y != c) ∧ μ' = μ := by
  unfold mStrk at h
  split at h
  · rename_i x c
    split at h
    · rename_i hl
      cases h
      exact ⟨x, c, rfl, hl, rfl, rfl⟩
    · cases h
  · cases h
theorem se_strk {j : Nat} {cp : Pos} (ho : PE X o (tE G W cf co)) (he : PEf X e (tE G W cf ce))
    (hst : starEach [e, .Constant (.str "") j cp] X.env = [(false, eval e X.env), (false, eval (.Constant (.str "") j cp) X.env)] := by rfl)
    (hbase : attributeBase o "replace" X.env (eval o X.env) = eval o X.env := by rfl) (hline : (apos.endLine == pos.line) = true := by rfl) :
    PE X (.Call (.Attribute o "replace" apos) [e, .Constant (.str "") j cp] [] pos) (tE G W cf (.meth isStr mStrk co [ce])) := by
  refine ⟨fun pins s σ H Q I ⟨ρ, μ, m, S, h⟩ => ?_⟩
  unfold ev at h
  have h1 : tE G W cf co σ H fun v H1 => (∃ z, v = .str z) ∧ tE G W cf ce σ H1 fun w H2 => ∃ x c, v = .str (toS x) ∧ w = .str ⟨#[c]⟩ ∧ x.length ≤ cap ∧ Q (.str (toS (x.filter fun y => y != c))) H2 := by
    refine tE_sub S h.bind (.refl _ _) fun d μ1 v H1 m1 q e1 s1 rv => ?_
    by_cases hc : isStr μ1 d = true
    · rw [if_pos hc] at q
      have hz : ∃ z, d = .str z := by cases d <;> first | exact ⟨_, rfl⟩ | cases hc
      obtain ⟨z, rfl⟩ := hz
      refine ⟨?_, ?_⟩
      · unfold Rep at rv; exact ⟨_, rv⟩
      rw [evs_cons, Res.bind_assoc] at q
      refine tE_sub s1 q.bind e1 fun d2 μ2 v2 H2 m2 q e2 s2 rv2 => ?_
      simp only [evs_nil, bind_ok] at q
      obtain ⟨r, μ3, hr, q9⟩ := out_noExc q
      obtain ⟨x, c, e4, hl, e5, e6⟩ := strk_ok hr
      cases e4
      subst e5 e6
      unfold Rep at rv rv2
      exact ⟨_, c, rv, rv2, hl, q9 _ H2 m2 (e1.trans e2) s2 (by unfold Rep; rfl)⟩
    · rw [if_neg hc] at q; exact q.elim
  refine PySem.Call_method2 hbase hst hline (thn (ho.run pins s σ H _ I h1) fun v s1 zz => ?_)
  obtain ⟨x, H1, I1, r1, ⟨z, ez⟩, q1⟩ := zz
  subst ez
  obtain ⟨tx, rfl⟩ := r1
  refine ⟨"str", _, PySem.F.plainAttrs_str, PySem.F.slot_str_replace, PySem.F.type_str_replace, typeIs_str _ _ _, (fun _ e => nomatch e), Calls.callWith_builtin rfl (Calls.evalArgs_plain (Calls.spliced_cons ?_))⟩
  refine thn (he pins s1 σ H1 _ I1 q1) fun u s2 z => ?_
  obtain ⟨⟨c', tk, e1, h0, h1⟩, w, H2, I2, r2, x, c, e2, e3, hl, q2⟩ := z
  subst e1 e3
  obtain ⟨tk', e4⟩ := r2
  cases e4
  cases e2
  refine Calls.spliced_cons (Calls.Constant_str (Calls.spliced_nil ?_))
  refine PySem.SC.replace h0 (Nat.ne_of_gt (Nat.lt_of_le_of_lt (Nat.zero_le _) h1)) (Nat.ne_of_lt h1) rfl ?_ fun t' k => ?_
  · rw [toS_len]; show x.length + (x.length + 1) * 0 ≤ 16777216
    have : cap = 1000000 := rfl
    omega
  · rw [show (Str.ofString "") = (⟨#[]⟩ : Str) from rfl, strk_eq]
    exact ⟨.str (toS _), H2, I2.tok k, ⟨t', rfl⟩, q2⟩
/-! ### def f(letter): return L.replace(letter, '') -/
def StrkRun (P : Program) (w : World) (K : PySem.W.Frag) (mg : Str → Option Value) (base : Heap) (CX : CXT) (k : Nat) (f : Addr) (L : List Nat) : Prop :=
  ∀ (A : Around) (outer : List PySem.Env) (s : Shared) (H : Hp) (c : Nat) (t : Tok) (Q : VK) (E : XK), Room k A → Env0 P w K mg base A outer s H → t ≠ 0 → t < s.toks →
    Q (.str (toS (L.filter fun y => y != c))) H → codeAny (model P w) A (.call (.ref f) ⟨[.str ⟨#[c]⟩ t], []⟩) (CR CX outer P w H s Q E) s
theorem strk_run {CX : CXT} {P : Program} {w : World} {K : PySem.W.Frag} {mg : Str → Option Value} {base : Heap} {k : Nat} {f : Addr} {name qual : Str} {params : Arguments} {scope : Scope} {dV kV doc pm cdv ct oc : Value} {an od : Option Addr}
    {osl : Array (Option Value)} {N : List Str} {p1 p2 p3 apos cpos rpos : Pos} {a0 g : Str} {body : List Stmt} {L : List Nat} {j : Nat} {tL : Tok} (hbd : body = [.Return (some (.Call (.Attribute (.Name g p1) "replace" apos) [.Name a0 p2, .Constant (.str "") j p3] [] cpos)) rpos])
    (lk : K.lookup f = some ⟨oc, od, .func (PySem.W.fnOf name qual params body scope dV kV doc pm an cdv ct), osl⟩) (hcd : PySem.W.codeIn K cdv qual = true) (S : FnScope N [a0] scope)
    (hb : ∀ us : List Value, us.length = 1 → bindArgs (PySem.W.fnOf name qual params body scope dV kV doc pm an cdv ct) ⟨us, []⟩ = pure ([a0].zip us))
    (h0 : scope.names.lookup a0 = some .local) (hg : scope.names.lookup g = some .globalImplicit) (hm : mg g = some (.str (toS L) tL)) (hL : L.length ≤ cap)
    (d0 : (a0 == ("__debug__" : Str)) = false) (dg : (g == ("__debug__" : Str)) = false) (hline : (apos.endLine == cpos.line) = true) : StrkRun P w K mg base CX (k + 1) f L := by
  intro A outer s H c t Q E hr e0 ht htk q
  subst hbd
  have KX : K.In s.heap := e0.mod.kin.keeps fun b o e => (e0.bs b o e).1
  have lim : s.heap.NoLimit := e0.mod.nolimit.keeps fun b o e => (e0.bs b o e).1
  have hkind : ∀ v ∈ [a0].zip [Value.str ⟨#[c]⟩ t], scope.names.lookup v.1 = some .local ∨ (scope.names.lookup v.1 = some .cell ∧ ((cellsFrom (s.heap.objs.size + 1) scope.names []).lookup v.1).isSome = true) := fun ⟨n, v⟩ hy => by
    rcases S.par n (List.of_mem_zip hy).1 with q | q
    · exact .inl q
    · exact .inr ⟨q, PySem.W.cellsFrom_some _ _ _ (.inl q)⟩
  refine codeAny_call_function hr.depth (KX _ _ lk) rfl S.co S.gen rfl (PySem.W.codeRec_of KX hcd) (BindsTo.of_eq (hb [.str ⟨#[c]⟩ t] rfl) _ _ _ _ ?_)
  refine wpAny_mono (wpAny_toks_of (n := t + 1) htk (wpAny_newFunctionEnv_cells S.kind hkind (Q := fun env s1 => env = newEnv scope s.heap.objs.size _ (cellsFrom (s.heap.objs.size + 1) scope.names []) _ _ _ none _ ∧ InCallC s env.locals (bindL env.kindOf ([a0].zip [Value.str ⟨#[c]⟩ t]) fun _ => none) env.cells (bindC env.kindOf ([a0].zip [Value.str ⟨#[c]⟩ t]) fun _ => none) s1) fun env he s1 xx => ⟨he, xx⟩)) (fun env s1 z => ?_) fun _ _ z => z.2
  obtain ⟨hk, he, xx⟩ := z
  subst he
  refine ⟨lim.keeps xx.toInCall.keep, codeAny_func ?_⟩
  have rv : Vals [V.str ⟨#[c]⟩] [Value.str ⟨#[c]⟩ t] := .cons ⟨t, rfl⟩ .nil
  have I : Inv (cxOf CX P w K mg base N qual scope f cdv A outer s H E) [] (start N [.str ⟨#[c]⟩]) H s1 := inv_start S hr.hd e0 rfl rv xx
  have hn := xx.toInCall.ns
  have nd : [a0].Nodup := by
    have e : [a0] = N.take 1 := S.pre.symm
    rw [e]
    exact S.nd.sublist (List.take_sublist _ _)
  have m0 := bindL_get (kindOf := (envOfC qual scope s.heap.objs.size f cdv).kindOf) (x := a0) (v := Value.str ⟨#[c]⟩ t) (P := [a0]) (vs := [.str ⟨#[c]⟩ t]) (i := 0) (m := fun _ => none) nd rfl rfl h0
  have fin : ∀ {σ' : L2.St} {H' : Hp} {v : V} {r : Value} {s' : Shared}, Inv (cxOf CX P w K mg base N qual scope f cdv A outer s H E) [] σ' H' s' → RelV v r → Q v H' → L2.CE outer P w H s Q r s' :=
    fun {σ' H' v r s'} J rv q => ⟨v, H', J.os, J.bare, J.base, J.hok, rv, q⟩
  refine wpAny_execs_cons (wpAny_Return_some (PySem.Call_method2 rfl rfl hline (ld_glob I hg hm ?_ dg)))
  refine ⟨"str", _, F.plainAttrs_str, F.slot_str_replace, F.type_str_replace, typeIs_str _ _ _, (fun _ e => nomatch e), Calls.callWith_builtin rfl (Calls.evalArgs_plain (Calls.spliced_cons ?_))⟩
  refine wpAny_Name (wpAny_loadName_local S.kind h0 hn m0 ?_) d0
  refine Calls.spliced_cons (Calls.Constant_str (Calls.spliced_nil ?_))
  refine PySem.SC.replace ht (Nat.ne_of_gt (Nat.lt_of_lt_of_le (Nat.succ_pos _) hk)) (Nat.ne_of_lt (Nat.lt_of_succ_le hk)) rfl ?_ fun t' k => ?_
  · rw [toS_len]; show L.length + (L.length + 1) * 0 ≤ 16777216
    have : cap = 1000000 := rfl
    omega
  · rw [show (Str.ofString "") = (⟨#[]⟩ : Str) from rfl, strk_eq]
    exact fin (v := V.str (toS _)) (I.tok k) ⟨t', rfl⟩ q
theorem strk_fn {P : Program} {w : World} {K : PySem.W.Frag} {mg : Str → Option Value} {base : Heap} {k : Nat} {x qual : Str} {st : Stmt} {f : Addr} {fd : FuncData} {N : List Str} {p1 p2 p3 apos cpos rpos : Pos} {a0 g : Str} {L : List Nat} {j : Nat} {tL : Tok} (F : Fun K x qual st f fd) (S : FnScope N [a0] (defScope st))
    (hbd : defBody st = [.Return (some (.Call (.Attribute (.Name g p1) "replace" apos) [.Name a0 p2, .Constant (.str "") j p3] [] cpos)) rpos])
    (hb : ∀ (kV doc pm : Value) (an : Option Addr) (cdv ct : Value) (us : List Value), us.length = 1 → bindArgs (PySem.W.fnOf x qual (defArgs st) (defBody st) (defScope st) .none kV doc pm an cdv ct) ⟨us, []⟩ = pure ([a0].zip us))
    (h0 : (defScope st).names.lookup a0 = some .local) (hg : (defScope st).names.lookup g = some .globalImplicit) (hm : mg g = some (.str (toS L) tL)) (hL : L.length ≤ cap)
    (d0 : (a0 == ("__debug__" : Str)) = false) (dg : (g == ("__debug__" : Str)) = false) (hline : (apos.endLine == cpos.line) = true) : StrkRun P w K mg base (L2.CX P w) (k + 1) f L := by
  obtain ⟨oc, od, kV, doc, pm, an, cdv, ct, osl, rfl, lk, hcd⟩ := F.ex
  exact strk_run hbd lk hcd S (fun us h => hb kV doc pm an cdv ct us h) h0 hg hm hL d0 dg hline
/-- f(a[b]) -/
def fOth (L : List Nat) (_ : Store) (d : D) : Option D := match d with
  | .str [c] => some (.str (L.filter fun y => y != c))
  | _ => none
theorem se_oth {k : Nat} {f : Addr} {fx : Str} {pf : Pos} {L : List Nat} (R : StrkRun X.prog X.w X.K X.mg X.base (L2.CX X.prog X.w) k f L) (hr : Room k X.A) (hg : Gl X fx) (hm : X.mg fx = some (.ref f)) (hk : PySem.W.keepIn X.K (.ref f) = true)
    (he : PEf X e (tE G W cf ce)) (hdb : (fx == ("__debug__" : Str)) = false := by decide) (hs : starEach [e] X.env = (false, eval e X.env) :: starEach [] X.env := by rfl) :
    PE X (.Call (.Name fx pf) [e] [] pos) (tE G W cf (.op1 (fOth L) ce)) := by
  refine ⟨fun pins s σ H Q I ⟨ρ, μ, m, S, h⟩ => ?_⟩
  unfold ev at h
  have h1 : tE G W cf ce σ H fun w H2 => ∃ c, w = .str ⟨#[c]⟩ ∧ Q (.str (toS (L.filter fun y => y != c))) H2 := by
    refine tE_sub S h.bind (.refl _ _) fun d μ1 v H1 m1 q e1 s1 rv => ?_
    obtain ⟨r, hr, q⟩ := out_lift q
    unfold fOth at hr
    split at hr
    · cases hr
      unfold Rep at rv
      exact ⟨_, rv, q _ H1 m1 e1 s1 (by unfold Rep; rfl)⟩
    · cases hr
  refine wpAny_Call_Name_kw (ld_glob I hg hm ?_ hdb)
  refine PySem.W.callWith_K (h₀ := X.base) I.ok.mod.kin hk ?_ hs rfl
  rw [hs]
  show wpAny _ _ (spliced ((false, eval e X.env) :: backTo pos (starEach [] X.env))) _ _ s
  refine Calls.spliced_cons (thn (he pins s σ H _ I h1) fun u s2 zz => ?_)
  obtain ⟨⟨c', tk, e1, h0, h1⟩, w, H2, I2, r2, c, e3, q⟩ := zz
  subst e1 e3
  obtain ⟨tk', e4⟩ := r2
  cases e4
  refine Calls.spliced_nil ?_
  refine ⟨I2.kIn, wpAny_call (codeAny_mono (R X.A X.stack s2 H2 c' tk Q (fun _ _ _ => False) hr I2.env0 h0 h1 q) fun r s' hq => ?_)⟩
  cases r with
  | error e =>
    obtain ⟨_, _, _, _, _, _, _, _, _, _, _, _, hE⟩ := hq
    exact hE.elim
  | ok fl =>
    cases fl with
    | ret u => exact I2.after hq
    | next => exact False.elim hq
    | brk => exact False.elim hq
    | cont => exact False.elim hq
end
end Ev

/-! ## xs.index(x), flat items -/
namespace Ev
open PySem PySem.Spec L2 Res
def mLindex (ds : List D) (μ : Store) : Res D := match ds with
  | [d, k] => match asL μ d with
    | some es => if (flatD k && es.all flatD) = true then (match es.findIdx? fun y => eqD y k with
      | some j => .ok (.int (j : Nat)) μ
      | none => .stuck) else .stuck
    | none => .stuck
  | _ => .stuck
section
variable {G : GC} {X : Cx}
theorem m_lindex (hK : X.K = G.K) : MtR X "list.index" (fun x xs H Q => rM G mLindex (x :: xs) H Q) := by
  intro pins s σ H x xs v us Q I rx rxs ⟨ds, μ, m, r, μ', st, rr, hf, k⟩
  unfold mLindex at hf
  split at hf
  · split at hf
    · rename_i es hes
      split at hf
      · rename_i hfl
        obtain ⟨f1, f2⟩ := Bool.and_eq_true_iff.mp hfl
        split at hf
        · rename_i j hj
          cases hf
          obtain ⟨w, ws, e1, r1, r2⟩ := rr.uncons
          obtain ⟨rfl, rfl⟩ := List.cons.inj e1
          obtain ⟨y, ys, rfl, r3, r4⟩ := r2.uncons
          have := r4.isnil
          subst this
          obtain ⟨p, zs, rfl, g1, g2⟩ := asL_ok st r1 hes
          have ez := flats_rep f2 g2
          have ek := flat_rep f1 r3
          subst ez ek
          rw [List.findIdx?_eq_some_iff_getElem] at hj
          obtain ⟨hlt, h1, h2⟩ := hj
          have fe : ∀ i (h : i < es.length), flatD (es[i]) = true := fun i h => List.all_eq_true.mp f2 _ (List.getElem_mem h)
          refine mt_index pins s σ H _ _ v us Q I rx rxs ⟨p, _, _, j, toV (es[j]), rfl, rfl, .inl g1, flat_toV f1, flats_toV f2, by rw [List.getElem?_map, List.getElem?_eq_getElem hlt]; rfl, ?_, ?_, k _ H m (.refl _ _) st (by unfold Rep; rfl)⟩
          · rw [eqV_toV (fe j hlt) f1]; exact h1
          · intro i z hi hz
            have hil : i < es.length := by omega
            rw [List.getElem?_map, List.getElem?_eq_getElem hil] at hz
            have ez : toV (es[i]) = z := by simpa using hz
            rw [← ez, eqV_toV (fe i hil) f1]
            have := h2 i hi
            simpa using this
        · cases hf
      · cases hf
    · cases hf
  · cases hf
end
end Ev

/-! ## len(set(xs)), xs a list of many texts -/
namespace Ev
open PySem PySem.Spec L2 Res PyProof.Rows
section
variable {T : Type} [DecidableEq T]
def once1 (z : List T) (x : T) : List T := if x ∈ z then z else z ++ [x]
/-- the ones met, each once -/
def once (l : List T) : List T := l.foldl once1 []
theorem once_snoc (l : List T) (x : T) : once (l ++ [x]) = once1 (once l) x := by
  unfold once
  rw [List.foldl_append, List.foldl_cons, List.foldl_nil]
theorem mem_once1 {x y : T} {z : List T} : x ∈ once1 z y ↔ x ∈ z ∨ x = y := by
  unfold once1
  by_cases hy : y ∈ z
  · rw [if_pos hy]
    exact ⟨Or.inl, fun h => h.elim id fun e => e ▸ hy⟩
  · rw [if_neg hy, List.mem_append, List.mem_singleton]
theorem mem_onceG {x : T} : ∀ {l z : List T}, x ∈ l.foldl once1 z ↔ x ∈ z ∨ x ∈ l
  | [], z => by simp
  | y :: l, z => by rw [List.foldl_cons, mem_onceG, mem_once1, List.mem_cons, or_assoc]
theorem mem_once {x : T} {l : List T} : x ∈ once l ↔ x ∈ l := by
  unfold once
  rw [mem_onceG]
  simp
theorem len_once1 (z : List T) (x : T) : (once1 z x).length = if x ∈ z then z.length else z.length + 1 := by
  unfold once1
  split <;> simp
theorem once_le (l : List T) : (once l).length ≤ l.length := by
  have g : ∀ (l z : List T), (l.foldl once1 z).length ≤ z.length + l.length := by
    intro l
    induction l with
    | nil => intro z; simp
    | cons y l ih =>
      intro z
      have h1 := ih (once1 z y)
      have h2 := len_once1 z y
      rw [List.foldl_cons, List.length_cons]
      split at h2 <;> omega
  have := g l []
  unfold once
  simpa using this
theorem once_nodup {l : List T} (h : l.Nodup) : once l = l := by
  have g : ∀ (l z : List T), (z ++ l).Nodup → l.foldl once1 z = z ++ l := by
    intro l
    induction l with
    | nil => intro z _; simp
    | cons y l ih =>
      intro z hz
      have hy : y ∉ z := fun q => by
        have := (List.nodup_append.mp hz).2.2 y q y List.mem_cons_self
        exact this rfl
      rw [List.foldl_cons, show once1 z y = z ++ [y] from if_neg hy, ih (z ++ [y]) (by simpa using hz)]
      simp
  exact g l [] (by simpa using h)
end
theorem once_map {T U : Type} [DecidableEq T] [DecidableEq U] (f : T → U) (hf : ∀ a b, f a = f b → a = b) (l : List T) : once (l.map f) = (once l).map f := by
  have g : ∀ (l z : List T), (l.map f).foldl once1 (z.map f) = (l.foldl once1 z).map f := by
    intro l
    induction l with
    | nil => intro z; rfl
    | cons y l ih =>
      intro z
      have e : once1 (z.map f) (f y) = (once1 z y).map f := by
        unfold once1
        by_cases hy : y ∈ z
        · rw [if_pos hy, if_pos (List.mem_map_of_mem hy)]
        · have : f y ∉ z.map f := fun q => by
            obtain ⟨a, h1, h2⟩ := List.mem_map.mp q
            exact hy (hf _ _ h2 ▸ h1)
          rw [if_neg hy, if_neg this, List.map_append]
          rfl
      rw [List.map_cons, List.foldl_cons, List.foldl_cons, e, ih]
  exact g l []

/-! ### the run of set(xs) -/
/-- a set that has nothing yet -/
abbrev bare (led : Bool) : Obj := { cls := .type "set", dict := none, data := .set #[] 0 (.fresh 0 0 led) }
/-- at a stands a set of just these texts -/
def TxSet (pr : Program) (w : World) (h : Heap) (a : Addr) (l : List Str) : Prop := h.SetOf (strKind pr w) a (fun z => decide (z ∈ l)) (once l).length
theorem TxSet.at {pr : Program} {w : World} {h h' : Heap} {a : Addr} {l : List Str} (x : TxSet pr w h a l) (k : ∀ o, h.get? a = some o → h'.get? a = some o) : TxSet pr w h' a l := by
  obtain ⟨o, es, ep, t, ho, r⟩ := x
  exact ⟨o, es, ep, t, k o ho, r⟩
theorem TxSet.nil {pr : Program} {w : World} {h : Heap} {a : Addr} {led : Bool} (ho : h.get? a = some (bare led)) : TxSet pr w h a [] :=
  SetOf_congr ((setObjOf_fresh (knd := strKind pr w) led).setOf ho (by unfold scanBound; omega)) (fun _ => by simp) rfl
theorem tx_at : ∀ {us : List Value} {xs : List Str}, StrsAre us xs → ∀ (i : Nat) (v : Value), us[i]? = some v → ∃ x t, xs[i]? = some x ∧ v = .str x t
  | _, _, .nil, _, _, q => by cases q
  | _, _, .cons x t _, 0, _, q => ⟨x, t, rfl, (Option.some.inj q).symm⟩
  | _, _, .cons _ _ r, i + 1, v, q => tx_at r i v q
section
variable {pr : Program} {w : World} {A : Around} {s : Shared}
/-- one text more -/
theorem TxSet.add {E : Value → Shared → Prop} {a : Addr} {l : List Str} {x : Str} {t : Tok} {Q : Bool → Shared → Prop} (hS : TxSet pr w s.heap a l) (room : l.length + 1 < scanBound)
    (h : ∀ h' b, Heap.SameBut a s.heap h' → TxSet pr w h' a (l ++ [x]) → Q b { s with heap := h' }) : wpAny (model pr w) A (setAddHashed a (.str x t) ((strKind pr w).hash x)) Q E s := by
  have hr : (once l).length + 1 < scanBound := Nat.lt_of_le_of_lt (Nat.succ_le_succ (once_le l)) room
  refine wpAny_setAddHashed_of (strKind_is pr w x t) rfl hS hr fun h' sb h2 => h h' _ sb (SetOf_congr h2 (fun z => ?_) ?_)
  · rw [Bool.eq_iff_iff]
    simp
  · rw [once_snoc, len_once1]
    by_cases q : x ∈ l
    · rw [if_pos (mem_once.mpr q), if_pos (decide_eq_true q)]
    · rw [if_neg (fun z => q (mem_once.mp z)), if_neg (by simpa using q)]
/-- the loop of set.update, from the i-th text on -/
theorem eachTx {R : Result → Shared → Prop} {I a : Addr} {fp wr : List Addr} {G : Array GenState → Array GenState → Prop} {n : Nat} {Pv : Nat → Value → Prop} {St : Nat → Shared → Prop} {xs : List Str} {s0 : Shared}
    (W : WalksS pr w A.in1 I fp wr G n Pv St) (ha : a ∉ fp) (hn : xs.length = n) (room : n + 1 < scanBound) (tx : ∀ i v, Pv i v → ∃ x t, xs[i]? = some x ∧ v = .str x t)
    (fin : ∀ s', Moved (a :: wr) G s0 s' → TxSet pr w s'.heap a xs → R (.ok (.ret .none)) s') (m : Nat) :
    ∀ (i : Nat) (s : Shared), i + m = n → St i s → Moved (a :: wr) G s0 s → TxSet pr w s.heap a (xs.take i) → codeAny (model pr w) A (.builtin "set.update.loop" ⟨[.ref a, .ref I], []⟩) R s := by
  have haw : a ∉ wr := fun z => ha (W.sub _ z)
  have wid : ∀ {s s' : Shared}, Moved wr G s s' → Moved (a :: wr) G s s' := fun z => z.mono fun _ y => .tail _ y
  induction m with
  | zero =>
    intro i s e st mv hS
    obtain rfl : i = n := e
    apply codeAny_builtin F.entry_set_update_loop
    rw [Around.under_plainId F.plain_set_update_loop]
    refine wpAny_bind (m := pyNext (.ref I)) (W.done s _ _ st fun s1 h1 => wpAny_pure (fin s1 (mv.trans W.gtrans (wid h1)) ?_))
    rw [List.take_of_length_le (Nat.le_of_eq hn)] at hS
    exact hS.at fun o q => h1.heap a o haw q
  | succ m ih =>
    intro i s e st mv hS
    have hi : i < n := by omega
    apply codeAny_builtin F.entry_set_update_loop
    rw [Around.under_plainId F.plain_set_update_loop]
    refine wpAny_bind (m := pyNext (.ref I)) (W.item i s _ _ hi st fun v s1 hv st1 h1 => ?_)
    obtain ⟨x, t, hx, rfl⟩ := tx i v hv
    have hS1 : TxSet pr w s1.heap a (xs.take i) := hS.at fun o q => h1.heap a o haw q
    have hl : (xs.take i).length + 1 < scanBound := by rw [List.length_take]; omega
    refine wpAny_bind (m := holding [Value.str x t] (setAdd a (.str x t))) (wpAny_holding ?_)
    unfold setAdd
    refine wpAny_holding (wpAny_bind (KeyKind.pyHash (strKind pr w) (strKind_is pr w x t) ?_))
    refine TxSet.add (s := { s1 with toks := s1.toks + 1 }) hS1 hl fun h2 _ sb hS2 => wpAny_pure ⟨plainId_quiet F.plain_set_update_loop _, ?_⟩
    refine ih (i + 1) _ (by omega) (W.frame _ s1 _ _ st1 (Nat.le_succ _) fun b hb o q => (sb.2 b fun z => ha (z ▸ hb)).trans q) ?_ ?_
    · exact mv.trans W.gtrans ((wid h1).then_heap (Nat.le_succ _) fun b o hb q => (sb.2 b fun z => hb (z ▸ .head _)).trans q)
    · rw [List.take_add_one, hx]
      exact hS2
/-- set(xs), xs a list of texts -/
theorem callSetTx {E : Value → Shared → Prop} {l : Addr} {its : Array Value} {xs : List Str} {Q : Value → Shared → Prop} (hh : A.handled = none) (hl : s.heap.IsList l its) (ht : StrsAre its.toList xs) (room : xs.length + 1 < scanBound)
    (h : ∀ (h' : Heap) (tk : Nat), TxSet pr w h' s.heap.objs.size xs → (∀ b o, s.heap.get? b = some o → h'.get? b = some o) → Q (.ref s.heap.objs.size) { s with heap := h', toks := tk }) :
    wpAny (model pr w) A (call (.type "set") [.ref l]) Q E s := by
  have hn : xs.length = its.size := by rw [← StrsAre.len_eq ht, Array.length_toList]
  obtain ⟨mc, mt, mro⟩ := PySem.F.called_set.mro
  have k1 := PySem.F.called_set.made
  have k2 := PySem.F.called_set.sub
  apply wpAny_call
  apply codeAny_of_tree
  refine wpAny_pure ⟨Code.quiet_builtin _ (by decide +kernel), ?_⟩
  apply codeAny_builtin PySem.F.entry_type_call
  rw [Around.under_plain (weight_type_call_type "set" [.ref l] []) rfl]
  have k3 := PySem.F.called_set.notType
  have k4 := PySem.F.called_set.canCreate
  have k5 := PySem.F.typeCall_set_1 (.ref l)
  repeat (any_goals (first | assumption | wp_step))

  refine codeAny_mono (code_set_new_1 (.ref l) (E := E) (Q₁ := fun z s₁ => ∃ (h0 : Heap) (led : Bool), z = .ref s.heap.objs.size ∧ s₁ = { s with heap := h0 } ∧ h0.get? s.heap.objs.size = some (bare led) ∧ h0.objs.size = s.heap.objs.size + 1 ∧ ∀ b o, s.heap.get? b = some o → h0.get? b = some o)
    fun led => ⟨_, led, rfl, rfl, Heap.get?_push_size _ rfl, Heap.size_push .., fun b o q => Heap.get?_push_of_some _ q⟩) fun r s₁ hr => ?_
  rcases r with e | fl
  · exact hr
  cases fl with
  | ret z =>
    obtain ⟨h0, led, rfl, rfl, g1, g2, g3⟩ := hr
    have hT : Shared.TypeIs { s with heap := h0 } (.ref s.heap.objs.size) "set" := ⟨_, g1, rfl⟩
    have k6 := PySem.F.called_set.init.lookup
    have k7 := PySem.F.called_set.init.bind (.ref s.heap.objs.size)
    repeat (any_goals (first | assumption | wp_step))

    refine codeAny_mono (codeAny_call_builtin (R := wants (fun z s₂ => z = .none ∧ ∃ h' tk, s₂ = { s with heap := h', toks := tk } ∧ TxSet pr w h' s.heap.objs.size xs ∧ ∀ b o, s.heap.get? b = some o → h'.get? b = some o) E)
      PySem.F.called_set.init.plain PySem.F.entry_set_init (check_set_init_1 hT ?_)) fun z s₂ hz => ?_
    · obtain ⟨⟨lc, ld, lv, ls⟩, hol, q1, q2, q3⟩ := hl
      simp only at q1 q3
      subst q1 q3
      have hol' := g3 l _ hol
      have k8 := PySem.F.sub_list_set
      have k9 := PySem.F.sub_list_frozenset
      have ne : (Value.type "list" == Value.type "dict") = false := by decide
      have hl0 : h0.IsList l its := ⟨_, hol', rfl, q2, rfl⟩
      unfold Builtin.«set.__init__» noKeywords Builtin.Frozenset.updateFrom
      generalize hPI : pyIter = PI
      wp_walk
      subst hPI

      refine wpAny_pyIter_list hl0 ?_
      have lt : l < s.heap.objs.size := Heap.lt_size hol
      have q4 : l ≠ h0.objs.size := Nat.ne_of_lt (by rw [g2]; exact Nat.lt_succ_of_lt lt)
      refine wpAny_bind (wpAny_runValue (eachTx (xs := xs) (s0 := _) (Walks.list (by simp [hh]) _ l q4 its).toS (a := s.heap.objs.size) ?_ hn (hn ▸ room) ?_ ?_ its.size 0 _ (Nat.zero_add _) ⟨⟨_, Heap.get?_push_size _ rfl, rfl, rfl⟩, hl0.push _⟩ (Moved.refl (fun _ => rfl)) ?_))
      · intro z
        rcases List.mem_cons.mp z with z | z
        · rw [g2] at z
          exact Nat.ne_of_lt (Nat.lt_succ_self _) z
        · rw [List.mem_singleton.mp z] at lt
          exact Nat.lt_irrefl _ lt
      · intro i v q
        exact tx_at ht i v (by rw [Array.getElem?_toList]; exact q)
      · rintro ⟨h', g', d', t', o'⟩ hm hS'
        cases hm.gens
        cases hm.drawn
        cases hm.os
        refine wpAny_pure (show wpAny _ _ (ret Value.none) _ _ _ from wpAny_pure ⟨rfl, h', t', rfl, hS', fun b o q => hm.heap b o (fun z => ?_) (Heap.get?_push_of_some _ (g3 b o q))⟩)
        have lb := Heap.lt_size q
        rcases List.mem_cons.mp z with z | z
        · exact Nat.ne_of_lt lb z
        · rw [List.mem_singleton.mp z, g2] at lb
          exact Nat.not_succ_lt_self lb
      · exact TxSet.nil (led := led) (Heap.get?_push_of_some _ g1)
    · rcases z with e | f2
      · exact hz
      cases f2 with
      | ret z =>
        obtain ⟨rfl, h', tk, rfl, a1, a2⟩ := hz
        repeat (any_goals (first | assumption | wp_step))
        exact h _ _ a1 a2
      | _ => exact hz.elim
  | _ => exact hr.elim
end
/-! ### how many texts, each once -/
def txD : D → Option (List Nat)
  | .str z => some z
  | _ => none
def fOnce (μ : Store) (d : D) : Option D := match asL μ d with
  | some ds => match ds.mapM txD with
    | some zs => if zs.length + 1 < 4096 then some (.int ((once zs).length : Nat)) else none
    | none => none
  | none => none
theorem txs_rep {G : GC} {m : AM} {H : Hp} : ∀ {ds : List D} {vs : List V} {zs : List (List Nat)}, ds.mapM txD = some zs → Reps G m H ds vs → vs = (zs.map toS).map V.str
  | [], vs, zs, h, r => by
    rw [r.isnil]
    cases h
    rfl
  | d :: ds, vs, zs, h, r => by
    obtain ⟨w, ws, rfl, r1, r2⟩ := r.uncons
    rw [List.mapM_cons] at h
    cases d with
    | str z =>
      cases q : ds.mapM txD with
      | none => rw [q] at h; cases h
      | some ys =>
        rw [q] at h
        cases h
        have e := txs_rep q r2
        subst e
        unfold Rep at r1
        rw [r1]
        rfl
    | _ => cases h
theorem toS_inj1 (a b : List Nat) (h : toS a = toS b) : a = b := by
  have := congrArg (fun z : Str => z.cps.toList) h
  simpa [toS_list] using this
section
variable {G : GC} {W : WX} {cf : String → List D → Store → Res D} {X : Cx} {a : Expr} {ca : CE} {p p2 q pos : Pos}
theorem se_once (hg : Gl X "len") (hm : X.mg "len" = none) (hg2 : Gl X "set") (hm2 : X.mg "set" = none) (ha : PE X a (tE G W cf ca)) (hc : X.calm = true := by rfl)
    (na : starEach [a] X.env = (false, eval a X.env) :: starEach [] X.env := by rfl) : PE X (.Call (.Name "len" p) [.Call (.Name "set" p2) [a] [] q] [] pos) (tE G W cf (.op1 fOnce ca)) := by
  refine ⟨fun pins s σ H Q I ⟨ρ, μ, m, S, h⟩ => ?_⟩
  unfold ev at h
  have h1 : tE G W cf ca σ H fun v H1 => ∃ l zs, v = .ref l ∧ Rd H1 l (.lst ((zs.map toS).map V.str)) ∧ zs.length + 1 < 4096 ∧ Q (.int ((once zs).length : Nat)) H1 := by
    refine tE_sub S h.bind (.refl _ _) fun d μ1 v H1 m1 q e1 s1 rv => ?_
    obtain ⟨r, hr, q⟩ := out_lift q
    unfold fOnce at hr
    split at hr
    · rename_i ds hds
      split at hr
      · rename_i zs hzs
        split at hr
        · rename_i hl
          cases hr
          obtain ⟨l, vs, rfl, g1, g2⟩ := asL_ok s1.st rv hds
          rw [txs_rep hzs g2] at g1
          exact ⟨l, zs, rfl, g1, hl, q _ H1 m1 e1 s1 (by unfold Rep; rfl)⟩
        · cases hr
      · cases hr
    · cases hr
  refine Call_ (ld_blt I hg hm boot_len (callWith_builtin1 (args_cons ?_ rfl) rfl rfl))
  refine Call_ (ld_blt I hg2 hm2 boot_set (callWith_type1 (args_cons (thn (ha.run pins s σ H _ I h1) fun v s1 z => ?_) na) na rfl))
  obtain ⟨x, H1, I1, r1, l, zs, rfl, g1, hl, q1⟩ := z
  cases r1
  obtain ⟨its, rv, pl, _⟩ := I1.list (.inl g1)
  have room : (zs.map toS).length + 1 < scanBound := by rw [List.length_map]; exact hl
  refine args_nil (callSetTx (I1.ok.hd hc) pl.isList (by simpa using strsAre_of rv) room fun h' tk hS hk => args_nil ?_)
  obtain ⟨o, es, ep, t, ho, hx, hd, _, _, _, hf, hn⟩ := hS
  rw [once_map toS toS_inj1, List.length_map] at hn
  have few := once_le zs
  have I2 : Inv X pins σ H1 { s1 with heap := h', toks := tk } := I1.kept fun b o e => hk b o e
  exact call_len_set ho hx hd hf (by omega) ⟨.int ((once zs).length : Nat), H1, I2.tok _, ⟨_, by rw [hn]⟩, q1⟩
end
end Ev

/-! ## xs[::2], xs[1::2] -/
namespace Ev
open PySem PySem.Spec PyProof.Rows
/-- each second one, from the first on -/
def alt {α : Type} : List α → List α
  | [] => []
  | [x] => [x]
  | x :: _ :: r => x :: alt r
theorem alt_le {α : Type} : ∀ l : List α, (alt l).length ≤ l.length
  | [] => Nat.le_refl _
  | [_] => Nat.le_refl _
  | x :: y :: r => by
    have := alt_le r
    simp only [alt, List.length_cons]
    omega
theorem alt_map {α β : Type} (f : α → β) : ∀ l : List α, alt (l.map f) = (alt l).map f
  | [] => rfl
  | [_] => rfl
  | x :: y :: r => by simp only [List.map_cons, alt, alt_map f r]
theorem alt_pick {α : Type} : ∀ l : List α, (List.range ((l.length + 1) / 2)).filterMap (fun k => l[2 * k]?) = alt l
  | [] => by simp [alt]
  | [x] => by simp [alt, List.range_succ]
  | x :: y :: r => by
    have e : ((x :: y :: r).length + 1) / 2 = (r.length + 1) / 2 + 1 := by simp only [List.length_cons]; omega
    rw [e, List.range_succ_eq_map, List.filterMap_cons, List.filterMap_map]
    simp only [Nat.mul_zero, List.getElem?_cons_zero, alt]
    rw [← alt_pick r]
    rfl
/-- where it begins -/
def from2 : Option Int → Nat
  | none => 0
  | some i => i.toNat
theorem adj2 {lo : Option Int} {n : Nat} (hl : lo = none ∨ lo = some 1) : Builtin.Slice.sliceAdjust lo none 2 (n : Int) = (((min (from2 lo) n : Nat) : Int), (n : Int)) := by
  unfold Builtin.Slice.sliceAdjust
  rcases hl with rfl | rfl
  · simp [from2]
  · simp [from2]
    omega
theorem pl2 (a n : Nat) (ha : a ≤ n) : Builtin.Slice.slicePlaces (a : Int) (n : Int) 2 = (n - a + 1) / 2 := by
  unfold Builtin.Slice.slicePlaces
  rw [if_pos (by decide)]
  split <;> omega
theorem pick_two (xs : Array Value) (b : Nat) : ((List.range ((xs.size - min b xs.size + 1) / 2)).filterMap fun (k : Nat) => xs[(((min b xs.size : Nat) : Int) + (k : Int) * 2).toNat]?).toArray = (alt (xs.toList.drop b)).toArray := by
  congr 1
  rw [← alt_pick, List.length_drop, Array.length_toList]
  have e : xs.size - min b xs.size = xs.size - b := by omega
  rw [e]
  refine filterMap_same _ fun k hk => ?_
  have hk := List.mem_range.mp hk
  rw [List.getElem?_drop, Array.getElem?_toList]
  congr 1
  omega
section
variable {prog : Program} {w : World} {A : Around} {E : Value → Shared → Prop} {s : Shared}
theorem applied2 {sl : Addr} {vl vs : Value} {lo : Option Int} {n : Nat} {Q : Int × Int × Nat → Shared → Prop} (hs : s.heap.IsSliceOf sl vl .none vs) (pl : IsPart vl lo) (ps : IsPart vs (some 2)) (hl : lo = none ∨ lo = some 1)
    (h : Q (((min (from2 lo) n : Nat) : Int), 2, (n - min (from2 lo) n + 1) / 2) s) : wpAny (model prog w) A (Builtin.Slice.sliceApplied (.ref sl) (pure (n : Int))) Q E s := by
  obtain ⟨os, hos, hcs, hds⟩ := id hs
  unfold Builtin.Slice.sliceApplied Builtin.Slice.sliceFields
  refine wpAny_bind (wpAny_bind (wpAny_field hos hds (x := vl) rfl (wpAny_bind (wpAny_field hos hds (x := .none) rfl (wpAny_bind (wpAny_field hos hds (x := vs) rfl (wpAny_pure ?_)))))))
  refine wpAny_bind (HT.slicePart_ ps ?_)
  show wpAny _ _ (if ((2 : Int) == 0) = true then _ else _) _ _ s
  rw [if_neg (by decide)]
  refine wpAny_bind (HT.slicePart_ pl (wpAny_bind (slicePart_none (wpAny_bind (wpAny_pure ?_)))))
  show wpAny _ _ (match Builtin.Slice.sliceAdjust lo none 2 (n : Int) with | (a, b) => pure (a, (2 : Int), Builtin.Slice.slicePlaces a b 2)) _ _ s
  rw [adj2 hl]
  show wpAny _ _ (pure (((min (from2 lo) n : Nat) : Int), (2 : Int), Builtin.Slice.slicePlaces ((min (from2 lo) n : Nat) : Int) (n : Int) 2)) _ _ s
  rw [pl2 _ _ (Nat.min_le_right _ _)]
  exact wpAny_pure h
theorem tuple2 {t sl : Addr} {items : Array Value} {vl vs : Value} {lo : Option Int} {Q : Value → Shared → Prop} (ht : IsTup s.heap t items) (hs : s.heap.IsSliceOf sl vl .none vs) (pl : IsPart vl lo) (ps : IsPart vs (some 2)) (hl : lo = none ∨ lo = some 1)
    (h : Q (.ref s.heap.objs.size) { s with heap := s.heap.push { cls := .type "tuple", data := .seq (alt (items.toList.drop (from2 lo))).toArray } })
    (hsz : items.size ≤ sizeLine) : wpAny (model prog w) A (getItem (.ref t) (.ref sl)) Q E s := by
  have fits : sizeOk (.seq (alt (items.toList.drop (from2 lo))).toArray) := by
    show (alt (items.toList.drop (from2 lo))).toArray.size ≤ sizeLine
    have := alt_le (items.toList.drop (from2 lo))
    rw [List.length_drop, Array.length_toList] at this
    rw [List.size_toArray]
    exact Nat.le_trans this (Nat.le_trans (Nat.sub_le _ _) hsz)
  obtain ⟨os, hos, hcs, hds⟩ := id hs
  have hTs : s.TypeIs (.ref sl) "slice" := ⟨os, hos, hcs⟩
  unfold getItem
  try with_reducible refine wpAny_holding ?_
  first | refine wpAny_bind (wpAny_pure ?_) | skip
  refine wpAny_bind (wpAny_sequenceKey ht.typeIs (by decide) ?_)
  refine wpAny_bind (wpAny_callSpecial?_slot (name := Str.ofString "__getitem__") ht.typeIs PyProof.Rows.slot_tuple_getitem
    (wpAny_call_entry PyProof.Rows.slot_tuple_getitem ht.typeIs entry_tuple_getitem ?_ (args_tuple_getitem _ _)))
  show wpAny _ _ (Builtin.Tuple.tupleItemsOf (.ref t) >>= _) _ _ s
  refine wpAny_bind (tupleItemsOf_ ht ?_)
  refine wpAny_bind (wpAny_typeOf hTs ?_)
  rw [if_pos (by decide)]
  refine wpAny_bind (applied2 hs pl ps hl ?_)
  have hno : ¬ ((((min (from2 lo) items.size : Nat) : Int) == 0 && (2 : Int) == 1 && (items.size - min (from2 lo) items.size + 1) / 2 == items.size) = true) := by
    rw [show ((2 : Int) == 1) = false from rfl, Bool.and_false, Bool.false_and]
    decide
  show wpAny _ _ (if (((min (from2 lo) items.size : Nat) : Int) == 0 && (2 : Int) == 1 && (items.size - min (from2 lo) items.size + 1) / 2 == items.size) = true then _ else _) _ _ s
  rw [if_neg hno, pick_two]
  first
    | exact wpAny_bind (m := Builtin.Tuple.tupleExact _) (wpAny_newObj_type (wpAny_pure ⟨_, rfl, wpAny_pure h⟩) fits)
    | exact wpAny_bind (m := Builtin.Tuple.tupleExact _) (wpAny_newObj_type (wpAny_bind (wpAny_pure (wpAny_pure ⟨_, rfl, wpAny_pure h⟩))) fits)
    | exact wpAny_bind (wpAny_bind (m := Builtin.Tuple.tupleExact _) (wpAny_newObj_type (wpAny_pure (wpAny_pure ⟨_, rfl, wpAny_pure h⟩)) fits))
    | exact wpAny_bind (wpAny_bind (m := Builtin.Tuple.tupleExact _) (wpAny_newObj_type (wpAny_pure ⟨_, rfl, wpAny_pure h⟩) fits))
end
open L2 Res
theorem Vals.alt : ∀ {xs : List V} {us : List Value}, Vals xs us → Vals (Ev.alt xs) (Ev.alt us)
  | _, _, .nil => .nil
  | _, _, .cons r .nil => .cons r .nil
  | _, _, .cons r (.cons _ t) => .cons r (Vals.alt t)
/-- xs[a::2] of a tuple, a 0 or 1 -/
def fAlt (a : Nat) (_ : Store) (d : D) : Option D := match d with
  | .tup ds => some (.tup (alt (ds.drop a)))
  | _ => none
section
variable {G : GC} {W : WX} {cf : String → List D → Store → Res D} {X : Cx} {μ : Store} {m : AM} {H : Hp}
theorem Reps.alt : ∀ {ds : List D} {vs : List V}, Reps G m H ds vs → Reps G m H (Ev.alt ds) (Ev.alt vs)
  | [], _, h => by rw [h.isnil]; exact Reps.nil
  | [d], vs, h => by
    obtain ⟨w, us, rfl, r1, r2⟩ := h.uncons
    rw [r2.isnil]
    exact .cons r1 .nil
  | d :: _ :: ds, vs, h => by
    obtain ⟨w, us, rfl, r1, r2⟩ := h.uncons
    obtain ⟨w2, us2, rfl, _, r4⟩ := r2.uncons
    exact .cons r1 (Reps.alt r4)
variable {e : Expr} {ce : CE}
theorem se_alt {lo : Option Int} {el : Option Expr} {k : Nat} {p1 p3 pos : Pos} (hK : X.K = G.K) (he : PE X e (tE G W cf ce)) (hl : lo = none ∨ lo = some 1)
    (hp : ∀ (pins : List (Addr × Obj)) (s : Shared) (σ : L2.St) (H : Hp), Inv X pins σ H s → wpAny (model X.prog X.w) X.A (evalPart el X.env) (fun u s' => ∃ o H', Inv X pins σ H' s' ∧ IsPart u o ∧ (o = lo ∧ H' = H)) X.xe s) :
    PE X (.Subscript e (.Slice el none (some (.Constant (.int 2) k p1)) p3) pos) (tE G W cf (.op1 (fAlt (from2 lo)) ce)) := by
  refine ⟨fun pins s σ H Q I ⟨ρ, μ, m, S, h⟩ => ?_⟩
  unfold ev at h
  have hE : tE G W cf ce σ H fun v H1 => ∃ d μ1 m1 r, SR G ρ μ1 m1 σ H1 ∧ Rep G m1 H1 d v ∧ fAlt (from2 lo) μ1 d = some r ∧ ∀ w H2, Ext m1 H1 m1 H2 → StOk G μ1 m1 H2 → Rep G m1 H2 r w → Q w H2 := by
    refine tE_sub S h.bind (.refl _ _) fun d μ1 v H1 m1 q e1 s1 rv => ?_
    obtain ⟨r, hr, q⟩ := out_lift q
    exact ⟨d, μ1, m1, r, s1, rv, hr, fun w H2 e2 st2 rw' => q w H2 m1 (e1.trans e2) (s1.ext e2 st2) rw'⟩
  refine PyProof.Rows.Subscript_ (thn (he.run pins s σ H _ I hE) fun v s1 ⟨x, H1, I1, r1, d, μ1, m1, r, S1, rv, hf, q⟩ => ?_)
  have hst : PO X (some (.Constant (.int 2) k p1)) (tPart (tC (.int 2))) := po_some pe_int
  refine wpAny_Slice (thn (hp pins s1 σ H1 I1) fun vl s2 ⟨l, H2, I2, pl, el, e2⟩ => ?_)
  subst el e2
  refine thn (po_none.run pins s2 σ H2 (fun o H3 => o = none ∧ H3 = H2) I2 ⟨rfl, rfl⟩) fun vu s3 ⟨u, H3, I3, pu, eu, e3⟩ => ?_
  subst eu e3
  refine thn (hst.run pins s3 σ H3 (fun o H4 => o = some 2 ∧ H4 = H3) I3 ⟨2, rfl, rfl, rfl⟩) fun vs s4 ⟨o, H4, I4, ps, eo, e4⟩ => ?_
  subst eo e4
  have I5 : Inv X pins σ H4 { s4 with heap := s4.heap.push { cls := .type "slice", data := .fields #[vl, vu, vs] } } := I4.kept (t' := s4.toks) fun b ob q => Heap.get?_push_of_some _ q
  unfold fAlt at hf
  split at hf
  · rename_i ds
    cases hf
    unfold Rep at rv
    obtain ⟨a, xs, rfl, h1, rr⟩ := rv
    cases r1
    obtain ⟨its, r, ht, hz⟩ := I5.tuple (hK ▸ h1)
    cases pu
    refine PyProof.Rows.tail_any (ops := [.ref a, .ref s4.heap.objs.size]) ht.typeIs PyProof.Rows.slot_tuple_getitem.lookup ?_ (by with_unfolding_all rfl)
    refine tuple2 ht (Heap.IsSliceOf.new _ vl .none vs) pl ps hl ?_ (by rw [List.size_toArray]; have := r.length; omega)
    have np := I5.hok.fresh (Nat.le_refl _)
    have al := alt_le (xs.drop (from2 l))
    rw [List.length_drop] at al
    refine ⟨.ref _, _, I5.laid (t' := s4.toks) (o := .tup (alt (xs.drop (from2 l)))) (fun b ob q => Heap.get?_push_of_some _ q) (Nat.le_refl _) ?_, rfl, ?_⟩
    · exact ⟨Nat.le_trans al (Nat.le_trans (Nat.sub_le _ _) hz), _, Vals.alt (r.drop _), IsTup.new _ _⟩
    · exact q _ _ (st_new S1.st np).1 (st_new S1.st np).2 (rep_newT S1.st np (Reps.alt (rr.drop _)))
  · cases hf
theorem se_alt0 {k : Nat} {p1 p3 pos : Pos} (hK : X.K = G.K) (he : PE X e (tE G W cf ce)) : PE X (.Subscript e (.Slice none none (some (.Constant (.int 2) k p1)) p3) pos) (tE G W cf (.op1 (fAlt 0) ce)) :=
  se_alt (lo := none) hK he (.inl rfl) fun pins s σ H I => po_none.run pins s σ H (fun o H' => o = none ∧ H' = H) I ⟨rfl, rfl⟩
theorem se_alt1 {j k : Nat} {p0 p1 p3 pos : Pos} (hK : X.K = G.K) (he : PE X e (tE G W cf ce)) : PE X (.Subscript e (.Slice (some (.Constant (.int 1) j p0)) none (some (.Constant (.int 2) k p1)) p3) pos) (tE G W cf (.op1 (fAlt 1) ce)) :=
  se_alt (lo := some 1) hK he (.inr rfl) fun pins s σ H I => (po_some pe_int).run pins s σ H (fun o H' => o = some 1 ∧ H' = H) I ⟨1, rfl, rfl, rfl⟩
end
end Ev

namespace Law
open Ev
def d_is_whole : FD := ⟨1, 1, [
  .ret (.and (.opN fIsi [.var 0, .lit (.ty "int")]) (.not (.opN fIsi [.var 0, .lit (.ty "bool")])))]⟩
def d_is_between : FD := ⟨3, 3, [
  .ret (.and (.call "is_whole" id [.var 0]) (.chain fLe fLe (.var 1) (.var 0) (.var 2)))]⟩
def d_is_tuple_of : FD := ⟨2, 2, [
  .ret (.and (.opN fIsi [.var 0, .lit (.ty "tuple")]) (.op2 fEq (.opN fLen [.var 0]) (.var 1)))]⟩
def d_are_wholes : FD := ⟨2, 3, [
  .ret (.and (.call "is_tuple_of" id [.var 0, .var 1]) (.opN fAll [.comp false (.call "is_whole" id [.var 2]) (.name 2) fVal [.var 0] (.lit (.bl true)) [2]]))]⟩
def d_is_text_of : FD := ⟨2, 3, [
  .ret (.and (.opN fIsi [.var 0, .lit (.ty "str")]) (.opN fAll [.comp false (.op2 fIn (.var 2) (.var 1)) (.name 2) fVal [.var 0] (.lit (.bl true)) [2]]))]⟩
def d_lowest : FD := ⟨2, 3, [
  .asg (.name 2) (.opN fGcd [.var 0, .var 1]),
  .ret (.tup [.op2 fDiv (.var 0) (.var 2), .op2 fDiv (.var 1) (.var 2)])]⟩
def d_is_layer_number : FD := ⟨1, 1, [
  .ret (.call "is_between" id [.var 0, .lit (.int 1), .lit (.int 24)])]⟩
def d_is_letter : FD := ⟨1, 1, [
  .ret (.and (.opN fIsi [.var 0, .lit (.ty "str")]) (.and (.op2 fEq (.opN fLen [.var 0]) (.lit (.int 1))) (.op2 fIn (.var 0) (.lit (.str [65, 66, 67])))))]⟩
def d_is_stepped : FD := ⟨1, 1, [
  .ret (.and (.call "is_text_of" id [.var 0, .lit (.str [43, 45])]) (.call "is_layer_number" id [.opN fLen [.var 0]]))]⟩
def d_number_of : FD := ⟨1, 1, [
  .ret (.meth isStr mIndex (.lit (.str [65, 66, 67])) [.var 0])]⟩
def d_further : FD := ⟨2, 2, [
  .ret (.op2 fIx (.lit (.str [65, 66, 67])) (.op2 fMod (.op2 fAdd (.call "number_of" id [.var 0]) (.var 1)) (.opN fLen [.lit (.str [65, 66, 67])])))]⟩
def d_worth : FD := ⟨1, 1, [
  .ret (.ite (.op2 fEq (.var 0) (.lit (.str [43]))) (.lit (.int 1)) (.op1 fNeg (.lit (.int 1))))]⟩
def d_sum_of : FD := ⟨1, 2, [
  .ret (.opN fSumD [.comp false (.call "worth" id [.var 1]) (.name 1) fVal [.var 0] (.lit (.bl true)) [1]])]⟩
def d_led_by : FD := ⟨2, 4, [
  .asg (.name 2) (.var 0),
  .for (.name 3) fVal [.var 1] [.asg (.name 2) (.op2 fAdd (.var 2) (.call "further" id [.op2 fIx (.var 2) (.op1 fNeg (.lit (.int 1))), .call "worth" id [.var 3]]))],
  .ret (.var 2)]⟩
def d_do_go_round : FD := ⟨1, 1, [
  .ret (.op2 fEq (.op2 fMod (.call "sum_of" id [.var 0]) (.opN fLen [.lit (.str [65, 66, 67])])) (.lit (.int 0)))]⟩
def d_check_number : FD := ⟨3, 3, [
  .ifs (.not (.call "is_between" id [.var 0, .var 1, .var 2])) [.never] []]⟩
def d_check_steps : FD := ⟨1, 1, [
  .ifs (.not (.call "is_stepped" id [.var 0])) [.never] []]⟩
def d_check_letter : FD := ⟨1, 1, [
  .ifs (.not (.call "is_letter" id [.var 0])) [.never] []]⟩
def d_is_chance : FD := ⟨1, 1, [
  .ret (.and (.call "are_wholes" id [.var 0, .lit (.int 2)]) (.and (.op2 fGt (.op2 fIx (.var 0) (.lit (.int 1))) (.lit (.int 0))) (.chain fLe fLe (.lit (.int 0)) (.op2 fIx (.var 0) (.lit (.int 0))) (.op2 fIx (.var 0) (.lit (.int 1))))))]⟩
def d_powers_of : FD := ⟨2, 4, [
  .asg (.name 2) (.lst true [.lit (.int 1)]),
  .for (.name 3) fRng1 [.var 1] [.expr (.meth isLst mAppend (.var 2) [.op2 fMul (.op2 fIx (.var 2) (.op1 fNeg (.lit (.int 1)))) (.var 0)])],
  .ret (.frz (.var 2))]⟩
def d_slip_chance_by : FD := ⟨2, 9, [
  .asg (.tup [.name 2, .name 3]) (.var 0),
  .asg (.tup [.name 4, .name 5]) (.tup [.call "powers_of" id [.var 2, .var 1], .call "powers_of" id [.op2 fSub (.var 3) (.var 2), .var 1]]),
  .asg (.name 6) (.comp false (.var 8) (.name 8) fRng1 [.op2 fAdd (.var 1) (.lit (.int 1))] (.op2 fEq (.op2 fMod (.op2 fSub (.var 1) (.op2 fMul (.lit (.int 2)) (.var 8))) (.opN fLen [.lit (.str [65, 66, 67])])) (.lit (.int 0))) [8]),
  .asg (.name 7) (.opN fSumD [.comp false (.op2 fMul (.op2 fMul (.opN fComb [.var 1, .var 8]) (.op2 fIx (.var 4) (.var 8))) (.op2 fIx (.var 5) (.op2 fSub (.var 1) (.var 8)))) (.name 8) fVal [.var 6] (.lit (.bl true)) [8]]),
  .ret (.call "lowest" id [.var 7, .op2 fIx (.call "powers_of" id [.var 3, .var 1]) (.op1 fNeg (.lit (.int 1)))])]⟩
def d_check_chance : FD := ⟨1, 1, [
  .ifs (.not (.call "is_chance" id [.var 0])) [.never] []]⟩
def d_check_apart : FD := ⟨2, 2, [
  .expr (.call "check_chance" id [.var 0]),
  .expr (.call "check_number" id [.var 1, .lit (.int 0), .lit (.int 200)])]⟩
def d_slip_chance : FD := ⟨2, 2, [
  .expr (.call "check_apart" id [.var 0, .var 1]),
  .ret (.call "slip_chance_by" id [.var 0, .var 1])]⟩
def d_stacking_by : FD := ⟨2, 2, [
  .expr (.call "check_letter" id [.var 0]),
  .ifs (.op2 fNe (.var 1) (.lit (.str []))) [.expr (.call "check_steps" id [.var 1])] [],
  .ifs (.op2 fGe (.opN fLen [.var 1]) (.lit (.int 24))) [.never] [],
  .ret (.call "led_by" id [.var 0, .var 1])]⟩
def d_goes_round : FD := ⟨1, 1, [
  .expr (.call "check_steps" id [.var 0]),
  .ret (.call "do_go_round" id [.var 0])]⟩
def d__law_well : FD := ⟨2, 5, [
  .asg (.name 2) (.ite (.op2 fLt (.var 1) (.opN fLen [.var 0])) (.opN fInt [.op2 fIx (.var 0) (.var 1)]) (.op2 fAdd (.op2 fAdd (.op2 fMul (.lit (.int 7919)) (.var 1)) (.op2 fMod (.opN fInt [.opN fSumD [.op3 fSl (.var 0) (.lit .non) (.op1 fI (.lit (.int 3)))]]) (.lit (.int 1000003)))) (.lit (.int 29)))),
  .asg (.name 3) (.op2 fAdd (.lit (.int 40127)) (.op2 fMul (.lit (.int 977)) (.var 1))),
  .for (.name 4) fVal [.op2 fAdd (.op3 fSl (.var 0) (.lit .non) (.op1 fI (.lit (.int 6)))) (.lst false [.var 2])] [.asg (.name 3) (.op2 fMod (.opN fInt [.op2 fAdd (.op2 fAdd (.op2 fMul (.var 3) (.lit (.int 48271))) (.op2 fMod (.opN fInt [.var 4]) (.lit (.int 2147483399)))) (.lit (.int 53))]) (.lit (.int 2147483563)))],
  .ret (.lst true [.ite (.or (.op2 fLt (.var 2) (.lit (.int 0))) (.op2 fGe (.var 2) (.op2 fPow (.lit (.int 10)) (.lit (.int 17))))) (.opN fAbs [.var 2]) (.lit (.int 0)), .var 3, .lit (.int 0)])]⟩
def d__law_take : FD := ⟨2, 4, [
  .ifs (.op2 fGt (.op2 fIx (.var 0) (.lit (.int 0))) (.lit (.int 0))) [.asg (.tup [.sub (.var 0) (.lit (.int 0)), .name 2]) (.opN fDivmod [.op2 fIx (.var 0) (.lit (.int 0)), .var 1]), .ret (.var 2)] [],
  .asg (.sub (.var 0) (.lit (.int 2))) (.op2 fAdd (.op2 fIx (.var 0) (.lit (.int 2))) (.lit (.int 1))),
  .asg (.name 3) (.op2 fAdd (.op2 fMod (.opN fInt [.op2 fIx (.var 0) (.lit (.int 1))]) (.lit (.int 28657))) (.lit (.int 40009))),
  .asg (.sub (.var 0) (.lit (.int 1))) (.op2 fMod (.opN fInt [.op2 fAdd (.op2 fAdd (.op2 fMul (.op2 fIx (.var 0) (.lit (.int 1))) (.var 3)) (.op2 fMul (.lit (.int 50023)) (.op2 fIx (.var 0) (.lit (.int 2))))) (.lit (.int 17))]) (.lit (.int 2147483563))),
  .ret (.op2 fMod (.opN fInt [.op2 fDiv (.op2 fIx (.var 0) (.lit (.int 1))) (.lit (.int 83))]) (.var 1))]⟩
def d__law_pick : FD := ⟨2, 2, [
  .ret (.op2 fIx (.var 1) (.call "_law_take" id [.var 0, .opN fLen [.var 1]]))]⟩
def d__law_same : FD := ⟨2, 3, [
  .ifs (.opN fIsi [.var 1, .lit (.ty "tuple")]) [.ret (.and (.opN fIsi [.var 0, .lit (.ty "tuple")]) (.and (.op2 fEq (.opN fLen [.var 0]) (.opN fLen [.var 1])) (.opN fAll [.comp false (.call "_law_same" id [.op2 fIx (.var 0) (.var 2), .op2 fIx (.var 1) (.var 2)]) (.name 2) fRng1 [.opN fLen [.var 1]] (.lit (.bl true)) [2]])))] [],
  .ifs (.opN fIsi [.var 1, .lit (.ty "list")]) [.ret (.and (.opN fIsi [.var 0, .lit (.ty "list")]) (.and (.op2 fEq (.opN fLen [.var 0]) (.opN fLen [.var 1])) (.opN fAll [.comp false (.call "_law_same" id [.op2 fIx (.var 0) (.var 2), .op2 fIx (.var 1) (.var 2)]) (.name 2) fRng1 [.opN fLen [.var 1]] (.lit (.bl true)) [2]])))] [],
  .ifs (.op2 fIs (.var 1) (.lit .non)) [.ret (.op2 fIs (.var 0) (.lit .non))] [],
  .ifs (.opN fIsi [.var 1, .lit (.ty "bool")]) [.ret (.and (.opN fIsi [.var 0, .lit (.ty "bool")]) (.op2 fEq (.var 0) (.var 1)))] [],
  .ifs (.opN fIsi [.var 1, .lit (.ty "int")]) [.ret (.and (.opN fIsi [.var 0, .lit (.ty "int")]) (.and (.not (.opN fIsi [.var 0, .lit (.ty "bool")])) (.op2 fEq (.var 0) (.var 1))))] [],
  .ifs (.opN fIsi [.var 1, .lit (.ty "str")]) [.ret (.and (.opN fIsi [.var 0, .lit (.ty "str")]) (.op2 fEq (.var 0) (.var 1)))] [],
  .ret (.op2 fEq (.var 0) (.var 1))]⟩
def d__law_lowest : FD := ⟨2, 4, [
  .asg (.tup [.name 2, .name 3]) (.tup [.var 0, .var 1]),
  .whil 1000 (.op2 fGt (.var 3) (.lit (.int 0))) [.asg (.tup [.name 2, .name 3]) (.tup [.var 3, .op2 fMod (.opN fInt [.var 2]) (.var 3)])],
  .ret (.tup [.op2 fDiv (.var 0) (.var 2), .op2 fDiv (.var 1) (.var 2)])]⟩
def d__law_shares : FD := ⟨2, 8, [
  .asg (.tup [.name 2, .name 3]) (.var 0),
  .asg (.tup [.name 4, .name 5]) (.tup [.tup [.lit (.int 1), .lit (.int 0), .lit (.int 0)], .lit (.int 1)]),
  .for (.name 6) fRng1 [.var 1] [.asg (.name 4) (.opN fTuple [.comp false (.op2 fAdd (.op2 fMul (.op2 fIx (.var 4) (.op2 fMod (.opN fInt [.op2 fAdd (.var 7) (.lit (.int 1))]) (.lit (.int 3)))) (.var 2)) (.op2 fMul (.op2 fIx (.var 4) (.op2 fMod (.opN fInt [.op2 fAdd (.var 7) (.lit (.int 2))]) (.lit (.int 3)))) (.op2 fSub (.var 3) (.var 2)))) (.name 7) fRng1 [.lit (.int 3)] (.lit (.bl true)) [7]]), .asg (.name 5) (.op2 fMul (.var 5) (.var 3))],
  .ret (.tup [.var 4, .var 5])]⟩
def d__law_by_rows : FD := ⟨2, 11, [
  .asg (.tup [.name 2, .name 3]) (.var 0),
  .asg (.tup [.name 4, .name 5, .name 6]) (.tup [.lst false [.tup [.lit (.str []), .lit (.int 1)]], .lit (.int 0), .lit (.int 1)]),
  .for (.name 7) fRng1 [.var 1] [.asg (.name 4) (.op2 fAdd (.comp false (.tup [.op2 fAdd (.var 8) (.lit (.str [43])), .op2 fMul (.var 9) (.op2 fSub (.var 3) (.var 2))]) (.tup [.name 8, .name 9]) fVal [.var 4] (.lit (.bl true)) [8, 9]) (.comp false (.tup [.op2 fAdd (.var 8) (.lit (.str [45])), .op2 fMul (.var 9) (.var 2)]) (.tup [.name 8, .name 9]) fVal [.var 4] (.lit (.bl true)) [8, 9])), .asg (.name 6) (.op2 fMul (.var 6) (.var 3))],
  .for (.tup [.name 8, .name 9]) fVal [.var 4] [.asg (.name 10) (.op2 fIx (.call "stacking_by" id [.lit (.str [65]), .var 8]) (.var 1)), .asg (.name 5) (.op2 fAdd (.var 5) (.ite (.op2 fEq (.var 10) (.lit (.str [65]))) (.var 9) (.lit (.int 0))))],
  .ret (.call "_law_lowest" id [.var 5, .var 6])]⟩
def d__law_by_sum : FD := ⟨2, 10, [
  .asg (.tup [.name 2, .name 3]) (.var 0),
  .asg (.tup [.name 4, .name 5, .name 6]) (.tup [.lit (.int 0), .lit (.int 1), .lit (.int 1)]),
  .for (.name 7) fRng1 [.op2 fAdd (.var 1) (.lit (.int 1))] [.ifs (.op2 fEq (.op2 fMod (.opN fInt [.op2 fSub (.var 1) (.op2 fMul (.lit (.int 2)) (.var 7))]) (.lit (.int 3))) (.lit (.int 0))) [.asg (.name 8) (.var 5), .for (.name 9) fRng1 [.var 7] [.asg (.name 8) (.op2 fMul (.var 8) (.var 2))], .for (.name 9) fRng1 [.op2 fSub (.var 1) (.var 7)] [.asg (.name 8) (.op2 fMul (.var 8) (.op2 fSub (.var 3) (.var 2)))], .asg (.name 4) (.op2 fAdd (.var 4) (.var 8))] [], .asg (.name 5) (.op2 fDiv (.op2 fMul (.var 5) (.op2 fSub (.var 1) (.var 7))) (.op2 fAdd (.var 7) (.lit (.int 1))))],
  .for (.name 9) fRng1 [.var 1] [.asg (.name 6) (.op2 fMul (.var 6) (.var 3))],
  .ret (.call "_law_lowest" id [.var 4, .var 6])]⟩
def d__law_asked : FD := ⟨2, 5, [
  .asg (.tup [.name 2, .name 3]) (.call "_law_shares" id [.var 0, .var 1]),
  .asg (.name 4) (.call "_law_lowest" id [.op2 fIx (.var 2) (.lit (.int 0)), .var 3]),
  .ifs (.or (.op2 fNe (.opN fSumD [.var 2]) (.var 3)) (.or (.not (.call "_law_same" id [.call "slip_chance" id [.var 0, .var 1], .var 4])) (.not (.call "_law_same" id [.call "slip_chance" (permL [1, 0]) [.var 1, .var 0], .var 4])))) [.ret (.lit (.bl false))] [],
  .ifs (.or (.and (.op2 fLt (.var 1) (.lit (.int 9))) (.op2 fNe (.call "_law_by_rows" id [.var 0, .var 1]) (.var 4))) (.and (.op2 fLt (.var 1) (.lit (.int 40))) (.op2 fNe (.call "_law_by_sum" id [.var 0, .var 1]) (.var 4)))) [.ret (.lit (.bl false))] [],
  .ret (.call "_law_same" id [.call "slip_chance" id [.tup [.op2 fSub (.op2 fIx (.var 0) (.lit (.int 1))) (.op2 fIx (.var 0) (.lit (.int 0))), .op2 fIx (.var 0) (.lit (.int 1))], .var 1], .var 4])]⟩
def d__law_chance : FD := ⟨1, 2, [
  .asg (.name 1) (.op2 fAdd (.lit (.int 1)) (.call "_law_take" id [.var 0, .call "_law_pick" id [.var 0, .lst false [.lit (.int 1), .lit (.int 2), .lit (.int 4), .lit (.int 12), .lit (.int 1000), .op2 fPow (.lit (.int 10)) (.lit (.int 30))]]])),
  .ret (.tup [.call "_law_pick" id [.var 0, .lst false [.lit (.int 0), .var 1, .call "_law_take" id [.var 0, .op2 fAdd (.var 1) (.lit (.int 1))], .call "_law_take" id [.var 0, .op2 fAdd (.var 1) (.lit (.int 1))]]], .var 1])]⟩
def d__law_most : FD := ⟨1, 3, [
  .asg (.tup [.name 1, .name 2]) (.tup [.var 0, .lit (.int 0)]),
  .whil 1000 (.and (.op2 fLt (.var 2) (.lit (.int 200))) (.op2 fLt (.var 1) (.op2 fMul (.op2 fPow (.lit (.int 10)) (.lit (.int 45))) (.op2 fPow (.lit (.int 10)) (.lit (.int 44)))))) [.asg (.tup [.name 1, .name 2]) (.tup [.op2 fMul (.var 1) (.var 0), .op2 fAdd (.var 2) (.lit (.int 1))])],
  .ret (.var 2)]⟩
def d__law_turn : FD := ⟨1, 5, [
  .asg (.name 1) (.call "_law_chance" id [.var 0]),
  .asg (.name 2) (.call "_law_most" id [.op2 fIx (.var 1) (.lit (.int 1))]),
  .ifs (.not (.opN fAll [.comp false (.call "_law_asked" id [.var 1, .opN fMinD [.var 2, .var 4]]) (.name 4) fVal [.lst false [.lit (.int 0), .lit (.int 1), .lit (.int 2), .lit (.int 3), .op2 fAdd (.lit (.int 4)) (.call "_law_take" id [.var 0, .lit (.int 5)]), .op2 fAdd (.lit (.int 9)) (.call "_law_take" id [.var 0, .lit (.int 30)])]] (.lit (.bl true)) [4]])) [.ret (.lit (.bl false))] [],
  .asg (.name 3) (.call "_law_take" id [.var 0, .lit (.int 201)]),
  .ifs (.or (.not (.call "_law_asked" id [.tup [.call "_law_take" id [.var 0, .lit (.int 4)], .lit (.int 3)], .var 3])) (.not (.call "_law_same" id [.call "slip_chance" id [.tup [.lit (.int 0), .lit (.int 7)], .var 3], .tup [.ite (.or (.op2 fEq (.var 3) (.lit (.int 0))) (.op2 fEq (.op2 fMod (.opN fInt [.var 3]) (.lit (.int 3))) (.lit (.int 0)))) (.lit (.int 1)) (.lit (.int 0)), .lit (.int 1)]]))) [.ret (.lit (.bl false))] [],
  .ret (.or (.op2 fEq (.var 3) (.lit (.int 0))) (.or (.op2 fGt (.var 3) (.lit (.int 24))) (.op2 fEq (.op2 fEq (.call "slip_chance" id [.tup [.lit (.int 0), .lit (.int 1)], .var 3]) (.tup [.lit (.int 1), .lit (.int 1)])) (.op2 fIs (.call "goes_round" id [.op2 fMul (.lit (.str [43])) (.var 3)]) (.lit (.bl true))))))]⟩
def d_law : FD := ⟨1, 2, [
  .for (.name 1) fRng1 [.opN fMax [.lit (.int 4), .opN fMinD [.opN fLen [.var 0], .lit (.int 7)]]] [.ifs (.not (.call "_law_turn" id [.call "_law_well" id [.var 0, .var 1]])) [.ret (.lit (.bl false))] []],
  .ret (.lit (.bl true))]⟩
def prg : String → Option FD
  | "is_whole" => some d_is_whole
  | "is_between" => some d_is_between
  | "is_tuple_of" => some d_is_tuple_of
  | "are_wholes" => some d_are_wholes
  | "is_text_of" => some d_is_text_of
  | "lowest" => some d_lowest
  | "is_layer_number" => some d_is_layer_number
  | "is_letter" => some d_is_letter
  | "is_stepped" => some d_is_stepped
  | "number_of" => some d_number_of
  | "further" => some d_further
  | "worth" => some d_worth
  | "sum_of" => some d_sum_of
  | "led_by" => some d_led_by
  | "do_go_round" => some d_do_go_round
  | "check_number" => some d_check_number
  | "check_steps" => some d_check_steps
  | "check_letter" => some d_check_letter
  | "is_chance" => some d_is_chance
  | "powers_of" => some d_powers_of
  | "slip_chance_by" => some d_slip_chance_by
  | "check_chance" => some d_check_chance
  | "check_apart" => some d_check_apart
  | "slip_chance" => some d_slip_chance
  | "stacking_by" => some d_stacking_by
  | "goes_round" => some d_goes_round
  | "_law_well" => some d__law_well
  | "_law_take" => some d__law_take
  | "_law_pick" => some d__law_pick
  | "_law_same" => some d__law_same
  | "_law_lowest" => some d__law_lowest
  | "_law_shares" => some d__law_shares
  | "_law_by_rows" => some d__law_by_rows
  | "_law_by_sum" => some d__law_by_sum
  | "_law_asked" => some d__law_asked
  | "_law_chance" => some d__law_chance
  | "_law_most" => some d__law_most
  | "_law_turn" => some d__law_turn
  | "law" => some d_law
  | _ => none
end Law

namespace Ev
open Res
theorem callD_eq {P : String → Option FD} {n : Nat} {x : String} {fd : FD} {ds : List D} {μ : Store} (hP : P x = some fd) (hl : ds.length = fd.np) : callD P (n + 1) x ds μ = (exs (callD P n) fd.body (startE fd ds) μ).bind (finish μ) := by
  show (match P x with | none => _ | some fd => _) = _
  rw [hP]
  show (if ds.length = fd.np then _ else _) = _
  rw [if_pos hl]
section
variable {cf : String → List D → Store → Res D} {ρ : Env} {μ : Store}
theorem ev_var (i : Nat) : ev cf (.var i) ρ μ = match ρ[i]? with
    | some (some d) => .ok d μ
    | _ => .stuck := by unfold ev; rfl
theorem ev_lit (d : D) : ev cf (.lit d) ρ μ = .ok d μ := by unfold ev; rfl
theorem ev_op1 (f : Store → D → Option D) (a : CE) : ev cf (.op1 f a) ρ μ = (ev cf a ρ μ).bind fun x μ1 => lift (f μ1 x) μ1 := by conv => lhs; unfold ev
theorem ev_op2 (f : Store → D → D → Option D) (a b : CE) : ev cf (.op2 f a b) ρ μ = (ev cf a ρ μ).bind fun x μ1 => (ev cf b ρ μ1).bind fun y μ2 => lift (f μ2 x y) μ2 := by conv => lhs; unfold ev
theorem ev_op3 (f : Store → D → D → D → Option D) (a b c : CE) : ev cf (.op3 f a b c) ρ μ = (ev cf a ρ μ).bind fun x μ1 => (ev cf b ρ μ1).bind fun y μ2 => (ev cf c ρ μ2).bind fun z μ3 => lift (f μ3 x y z) μ3 := by conv => lhs; unfold ev
theorem ev_opN (f : Store → List D → Option D) (as : List CE) : ev cf (.opN f as) ρ μ = (evs cf as ρ μ).bind fun ds μ1 => lift (f μ1 ds) μ1 := by conv => lhs; unfold ev
theorem ev_opM (f : List D → Store → Res D) (as : List CE) : ev cf (.opM f as) ρ μ = (evs cf as ρ μ).bind fun ds μ1 => noExc (f ds μ1) := by conv => lhs; unfold ev
theorem ev_meth (chk : Store → D → Bool) (f : List D → Store → Res D) (o : CE) (as : List CE) : ev cf (.meth chk f o as) ρ μ = (ev cf o ρ μ).bind fun x μ1 => if chk μ1 x then (evs cf as ρ μ1).bind fun xs μ2 => noExc (f (x :: xs) μ2) else .stuck := by conv => lhs; unfold ev
theorem ev_frz (a : CE) : ev cf (.frz a) ρ μ = (ev cf a ρ μ).bind freeze := by conv => lhs; unfold ev
theorem ev_lst (m : Bool) (as : List CE) : ev cf (.lst m as) ρ μ = (evs cf as ρ μ).bind fun ds μ1 => mkL m ds μ1 := by conv => lhs; unfold ev
theorem ev_tup (as : List CE) : ev cf (.tup as) ρ μ = (evs cf as ρ μ).bind fun ds μ1 => if ds.length ≤ cap then .ok (.tup ds) μ1 else .stuck := by conv => lhs; unfold ev
theorem ev_and (a b : CE) : ev cf (.and a b) ρ μ = (ev cf a ρ μ).bind fun x μ1 => (lift (truth μ1 x) μ1).bind fun t μ2 => if t then ev cf b ρ μ2 else .ok x μ2 := by conv => lhs; unfold ev
theorem ev_or (a b : CE) : ev cf (.or a b) ρ μ = (ev cf a ρ μ).bind fun x μ1 => (lift (truth μ1 x) μ1).bind fun t μ2 => if t then .ok x μ2 else ev cf b ρ μ2 := by conv => lhs; unfold ev
theorem ev_not (a : CE) : ev cf (.not a) ρ μ = (ev cf a ρ μ).bind fun x μ1 => (lift (truth μ1 x) μ1).bind fun t μ2 => .ok (.bl (!t)) μ2 := by conv => lhs; unfold ev
theorem ev_ite (c a b : CE) : ev cf (.ite c a b) ρ μ = (ev cf c ρ μ).bind fun x μ1 => (lift (truth μ1 x) μ1).bind fun t μ2 => if t then ev cf a ρ μ2 else ev cf b ρ μ2 := by conv => lhs; unfold ev
theorem ev_chain (f g : Store → D → D → Option D) (a b c : CE) : ev cf (.chain f g a b c) ρ μ = (ev cf a ρ μ).bind fun x μ1 => (ev cf b ρ μ1).bind fun y μ2 => (lift (f μ2 x y) μ2).bind fun z μ3 => match z with
    | .bl true => (ev cf c ρ μ3).bind fun w μ4 => lift (g μ4 y w) μ4
    | .bl false => .ok (.bl false) μ3
    | _ => .stuck := by
  conv => lhs; unfold ev
  all_goals rfl
theorem ev_call (x : String) (g : List D → List D) (as : List CE) : ev cf (.call x g as) ρ μ = (evs cf as ρ μ).bind fun ds μ1 => cf x (g ds) μ1 := by conv => lhs; unfold ev
/-- one turn of a loop -/
def forStep (cf : String → List D → Store → Res D) (t : CT) (body : List CS) : Env → D → Store → Res Fl := fun ρ d μ => match bindT t d ρ with
  | none => .stuck
  | some ρ1 => exs cf body ρ1 μ
theorem ex_pass : ex cf .pass ρ μ = .ok (.nx ρ) μ := by unfold ex; rfl
theorem ex_expr (e : CE) : ex cf (.expr e) ρ μ = (ev cf e ρ μ).bind fun _ μ1 => .ok (.nx ρ) μ1 := by unfold ex; rfl
theorem ex_asg (t : AT) (e : CE) : ex cf (.asg t e) ρ μ = (ev cf e ρ μ).bind fun d μ1 => (asgT cf t d ρ μ1).bind fun ρ1 μ2 => .ok (.nx ρ1) μ2 := by unfold ex; rfl
theorem ex_ifs (c : CE) (a b : List CS) : ex cf (.ifs c a b) ρ μ = (evT cf c ρ μ).bind fun t μ1 => if t then exs cf a ρ μ1 else exs cf b ρ μ1 := by conv => lhs; unfold ex
theorem ex_for (t : CT) (f : Itf) (as : List CE) (body : List CS) : ex cf (.for t f as body) ρ μ = (evs cf as ρ μ).bind fun ds μ1 => (lift (f μ1 ds) μ1).bind fun items μ2 => forLoop (forStep cf t body) items ρ μ2 := by
  conv => lhs; unfold ex
  all_goals rfl
theorem ex_whil (n : Nat) (c : CE) (body : List CS) : ex cf (.whil n c body) ρ μ = whileLoop (evT cf c) (fun ρ μ => exs cf body ρ μ) n ρ μ := by conv => lhs; unfold ex
theorem ex_ret (e : CE) : ex cf (.ret e) ρ μ = (ev cf e ρ μ).bind fun d μ1 => .ok (.rt d) μ1 := by unfold ex; rfl
theorem ex_retN : ex cf .retN ρ μ = .ok (.rt .non) μ := by unfold ex; rfl
theorem ex_brk : ex cf .brk ρ μ = .ok (.bk ρ) μ := by unfold ex; rfl
theorem ex_cont : ex cf .cont ρ μ = .ok (.ct ρ) μ := by unfold ex; rfl
theorem ex_never : ex cf .never ρ μ = .stuck := by unfold ex; rfl
theorem exs_nil : exs cf [] ρ μ = .ok (.nx ρ) μ := by unfold exs; rfl
theorem exs_cons (c : CS) (cs : List CS) : exs cf (c :: cs) ρ μ = (ex cf c ρ μ).bind fun fl μ1 => match fl with
    | .nx ρ1 => exs cf cs ρ1 μ1
    | fl => .ok fl μ1 := by
  conv => lhs; unfold exs
  all_goals rfl
end
section
variable {cf : String → List D → Store → Res D}
theorem asgT_name (i : Nat) (d : D) (ρ : Env) (μ : Store) : asgT cf (.name i) d ρ μ = if i < ρ.length then .ok (ρ.set i (some d)) μ else .stuck := by unfold asgT; rfl
theorem asgT_sub (o i : CE) (d : D) (ρ : Env) (μ : Store) : asgT cf (.sub o i) d ρ μ = (noExc (ev cf o ρ μ)).bind fun x μ1 => (noExc (ev cf i ρ μ1)).bind fun y μ2 => match setIx x y d μ2 with
    | some μ3 => .ok ρ μ3
    | none => .stuck := by unfold asgT; rfl
theorem asgT_tup (ts : List AT) (ds : List D) (ρ : Env) (μ : Store) : asgT cf (.tup ts) (.tup ds) ρ μ = asgTs cf ts ds ρ μ := by conv => lhs; unfold asgT
theorem asgTs_nil (ρ : Env) (μ : Store) : asgTs cf [] [] ρ μ = .ok ρ μ := by unfold asgTs; rfl
theorem asgTs_cons (t : AT) (ts : List AT) (d : D) (ds : List D) (ρ : Env) (μ : Store) : asgTs cf (t :: ts) (d :: ds) ρ μ = (asgT cf t d ρ μ).bind fun ρ1 μ1 => asgTs cf ts ds ρ1 μ1 := by conv => lhs; unfold asgTs
end
theorem bindT_name (i : Nat) (d : D) (ρ : Env) : bindT (.name i) d ρ = if i < ρ.length then some (ρ.set i (some d)) else none := by unfold bindT; rfl
theorem bindT_tup (ts : List CT) (ds : List D) (ρ : Env) : bindT (.tup ts) (.tup ds) ρ = bindTs ts ds ρ := by conv => lhs; unfold bindT
theorem bindT_str (ts : List CT) (s : List Nat) (ρ : Env) : bindT (.tup ts) (.str s) ρ = bindTs ts (s.map fun c => .str [c]) ρ := by conv => lhs; unfold bindT
theorem bindTs_nil (ρ : Env) : bindTs [] [] ρ = some ρ := by unfold bindTs; rfl
theorem bindTs_cons (t : CT) (ts : List CT) (d : D) (ds : List D) (ρ : Env) : bindTs (t :: ts) (d :: ds) ρ = match bindT t d ρ with
    | some ρ' => bindTs ts ds ρ'
    | none => none := by
  conv => lhs; unfold bindTs
  all_goals (cases bindT t d ρ <;> rfl)
@[simp] theorem trunc_same (μ : Store) (d : D) : trunc μ d μ = .ok d μ := by unfold trunc; split <;> simp
@[simp] theorem finish_rt (μ : Store) (d : D) : finish μ (.rt d) μ = .ok d μ := trunc_same μ d
@[simp] theorem finish_nx (μ : Store) (ρ : Env) : finish μ (.nx ρ) μ = .ok .non μ := trunc_same μ .non
@[simp] theorem isi_int_int (μ : Store) (i : Int) : fIsi μ [.int i, .ty "int"] = some (.bl true) := rfl
@[simp] theorem isi_int_bool (μ : Store) (i : Int) : fIsi μ [.int i, .ty "bool"] = some (.bl false) := rfl
@[simp] theorem isi_str_str (μ : Store) (s : List Nat) : fIsi μ [.str s, .ty "str"] = some (.bl true) := rfl
@[simp] theorem truth_bl (μ : Store) (b : Bool) : truth μ (.bl b) = some b := rfl
section
variable {P : String → Option FD} {n : Nat} {μ : Store}
theorem is_whole_int (hP : P "is_whole" = some Law.d_is_whole) (i : Int) : callD P (n + 1) "is_whole" [.int i] μ = .ok (.bl true) μ := by
  rw [callD_eq hP rfl]
  simp -implicitDefEqProofs only [Law.d_is_whole, startE, exs_nil, exs_cons, ex_pass, ex_expr, ex_asg, ex_ifs, ex_for, ex_ret, ex_retN, ex_brk, ex_cont, ex_never, ev_var, ev_lit, ev_op1, ev_op2, ev_op3, ev_opN, ev_opM, ev_meth, ev_frz, ev_lst, ev_tup, ev_and, ev_or, ev_not, ev_ite, ev_chain, ev_call, ev_comp, evs_nil, evs_cons, Res.bind_assoc, evT, asgT_name, asgT_sub, asgT_tup, asgTs_nil, asgTs_cons, Res.bind_ok, Res.bind_exc, lift_some, noExc_ok, truth_bl, finish_rt, finish_nx, List.map_cons, List.map_nil, List.length_cons, List.length_nil, List.replicate_zero, List.replicate_succ, List.cons_append, List.nil_append, List.getElem?_cons_zero, List.getElem?_cons_succ, List.set_cons_zero, List.set_cons_succ, Bool.not_true, Bool.not_false, ↓reduceIte, Bool.false_eq_true, Nat.reduceAdd, Nat.reduceSub, Nat.reduceLT, Nat.reduceLeDiff, Nat.zero_add, id_eq, Nat.sub_self, Bool.true_and, Bool.and_true, Bool.false_and, Bool.and_false, Bool.true_or, Bool.or_true, Bool.false_or, Bool.or_false, isi_int_int, isi_int_bool]
theorem is_between_int (hP : P "is_between" = some Law.d_is_between) (hW : P "is_whole" = some Law.d_is_whole) (i lo hi : Int) : callD P (n + 2) "is_between" [.int i, .int lo, .int hi] μ = .ok (.bl (decide (lo ≤ i) && decide (i ≤ hi))) μ := by
  rw [callD_eq hP rfl]
  simp -implicitDefEqProofs only [Law.d_is_between, startE, exs_nil, exs_cons, ex_pass, ex_expr, ex_asg, ex_ifs, ex_for, ex_ret, ex_retN, ex_brk, ex_cont, ex_never, ev_var, ev_lit, ev_op1, ev_op2, ev_op3, ev_opN, ev_opM, ev_meth, ev_frz, ev_lst, ev_tup, ev_and, ev_or, ev_not, ev_ite, ev_chain, ev_call, ev_comp, evs_nil, evs_cons, Res.bind_assoc, evT, asgT_name, asgT_sub, asgT_tup, asgTs_nil, asgTs_cons, Res.bind_ok, Res.bind_exc, lift_some, noExc_ok, truth_bl, finish_rt, finish_nx, List.map_cons, List.map_nil, List.length_cons, List.length_nil, List.replicate_zero, List.replicate_succ, List.cons_append, List.nil_append, List.getElem?_cons_zero, List.getElem?_cons_succ, List.set_cons_zero, List.set_cons_succ, Bool.not_true, Bool.not_false, ↓reduceIte, Bool.false_eq_true, Nat.reduceAdd, Nat.reduceSub, Nat.reduceLT, Nat.reduceLeDiff, Nat.zero_add, id_eq, Nat.sub_self, Bool.true_and, Bool.and_true, Bool.false_and, Bool.and_false, Bool.true_or, Bool.or_true, Bool.false_or, Bool.or_false, is_whole_int hW, fLe]
  by_cases h : lo ≤ i
  · rw [decide_eq_true h]; simp -implicitDefEqProofs only [startE, exs_nil, exs_cons, ex_pass, ex_expr, ex_asg, ex_ifs, ex_for, ex_ret, ex_retN, ex_brk, ex_cont, ex_never, ev_var, ev_lit, ev_op1, ev_op2, ev_op3, ev_opN, ev_opM, ev_meth, ev_frz, ev_lst, ev_tup, ev_and, ev_or, ev_not, ev_ite, ev_chain, ev_call, ev_comp, evs_nil, evs_cons, Res.bind_assoc, evT, asgT_name, asgT_sub, asgT_tup, asgTs_nil, asgTs_cons, Res.bind_ok, Res.bind_exc, lift_some, noExc_ok, truth_bl, finish_rt, finish_nx, List.map_cons, List.map_nil, List.length_cons, List.length_nil, List.replicate_zero, List.replicate_succ, List.cons_append, List.nil_append, List.getElem?_cons_zero, List.getElem?_cons_succ, List.set_cons_zero, List.set_cons_succ, Bool.not_true, Bool.not_false, ↓reduceIte, Bool.false_eq_true, Nat.reduceAdd, Nat.reduceSub, Nat.reduceLT, Nat.reduceLeDiff, Nat.zero_add, id_eq, Nat.sub_self, Bool.true_and, Bool.and_true, Bool.false_and, Bool.and_false, Bool.true_or, Bool.or_true, Bool.false_or, Bool.or_false, fLe]
  · rw [decide_eq_false h]; simp -implicitDefEqProofs only [startE, exs_nil, exs_cons, ex_pass, ex_expr, ex_asg, ex_ifs, ex_for, ex_ret, ex_retN, ex_brk, ex_cont, ex_never, ev_var, ev_lit, ev_op1, ev_op2, ev_op3, ev_opN, ev_opM, ev_meth, ev_frz, ev_lst, ev_tup, ev_and, ev_or, ev_not, ev_ite, ev_chain, ev_call, ev_comp, evs_nil, evs_cons, Res.bind_assoc, evT, asgT_name, asgT_sub, asgT_tup, asgTs_nil, asgTs_cons, Res.bind_ok, Res.bind_exc, lift_some, noExc_ok, truth_bl, finish_rt, finish_nx, List.map_cons, List.map_nil, List.length_cons, List.length_nil, List.replicate_zero, List.replicate_succ, List.cons_append, List.nil_append, List.getElem?_cons_zero, List.getElem?_cons_succ, List.set_cons_zero, List.set_cons_succ, Bool.not_true, Bool.not_false, ↓reduceIte, Bool.false_eq_true, Nat.reduceAdd, Nat.reduceSub, Nat.reduceLT, Nat.reduceLeDiff, Nat.zero_add, id_eq, Nat.sub_self, Bool.true_and, Bool.and_true, Bool.false_and, Bool.and_false, Bool.true_or, Bool.or_true, Bool.false_or, Bool.or_false]
end
theorem compLoop_map {α : Type} {step : D → Store → Res (Option D)} {μ : Store} (h g : α → D) : ∀ xs : List α, (∀ x ∈ xs, step (h x) μ = .ok (some (g x)) μ) → compLoop step (xs.map h) μ = .ok (xs.map g) μ
  | [], _ => rfl
  | x :: xs, hx => by
    rw [List.map_cons, compLoop, hx x List.mem_cons_self, noExc_ok, bind_ok, compLoop_map h g xs (fun y hy => hx y (List.mem_cons_of_mem _ hy))]
    rfl
theorem compLoop_filter {α : Type} {step : D → Store → Res (Option D)} {μ : Store} (h g : α → D) (p : α → Bool) : ∀ xs : List α, (∀ x ∈ xs, step (h x) μ = .ok (if p x then some (g x) else none) μ) → compLoop step (xs.map h) μ = .ok ((xs.filter p).map g) μ
  | [], _ => rfl
  | x :: xs, hx => by
    rw [List.map_cons, compLoop, hx x List.mem_cons_self, noExc_ok, bind_ok, compLoop_filter h g p xs (fun y hy => hx y (List.mem_cons_of_mem _ hy)), List.filter_cons]
    by_cases hp : p x = true <;> simp [hp]
theorem blsOf_map {α : Type} (p : α → Bool) : ∀ xs : List α, blsOf (xs.map fun x => .bl (p x)) = some (xs.map p)
  | [] => rfl
  | x :: xs => by rw [List.map_cons, blsOf, blsOf_map p xs]; rfl
@[simp] theorem all_map {α : Type} (μ : Store) (p : α → Bool) (xs : List α) : fAll μ [.lst (xs.map fun x => .bl (p x))] = some (.bl (xs.all p)) := by
  show (match blsOf (xs.map fun x => .bl (p x)) with | some ns => _ | none => _) = _
  rw [blsOf_map]
  show some (D.bl ((xs.map p).all id)) = _
  rw [List.all_map]; rfl
theorem intsOf_map {α : Type} (p : α → Int) : ∀ xs : List α, intsOf (xs.map fun x => .int (p x)) = some (xs.map p)
  | [] => rfl
  | x :: xs => by rw [List.map_cons, intsOf, intsOf_map p xs]; rfl
theorem strsOf_map {α : Type} (p : α → List Nat) : ∀ xs : List α, strsOf (xs.map fun x => .str (p x)) = some (xs.map p)
  | [] => rfl
  | x :: xs => by rw [List.map_cons, strsOf, strsOf_map p xs]; rfl
@[simp] theorem len_str (μ : Store) (s : List Nat) (h : s.length ≤ cap) : fLen μ [.str s] = some (.int s.length) := by simp [fLen, lenD, h]
@[simp] theorem in_sign (μ : Store) (c : Nat) (s : List Nat) : fIn μ (.str [c]) (.str s) = some (.bl (decide (c ∈ s))) := rfl
theorem mkL_val (μ : Store) (ds : List D) (h : ds.length ≤ cap) : mkL false ds μ = .ok (.lst ds) μ := by
  unfold mkL; rw [if_pos h]; rfl
theorem cap_of {n : Nat} (h : n ≤ 1000000) : n ≤ cap := h
def isL (c : Nat) : Bool := c == 65 || c == 66 || c == 67
/-- a stacking -/
def stkB (s : List Nat) : Bool := s.all isL && decide (1 ≤ s.length) && decide (s.length ≤ 24) && (s.zip (s.drop 1)).all fun p => p.1 != p.2
theorem mem_abc (c : Nat) : decide (c ∈ [65, 66, 67]) = isL c := by
  unfold isL
  rw [Bool.eq_iff_iff]; simp [or_assoc]
@[simp] theorem ne_sign (μ : Store) (a b : Nat) (ha : a < 1114112) (hb : b < 1114112) : fNe μ (.str [a]) (.str [b]) = some (.bl (a != b)) := by
  simp [fNe, rd, asL, cmpOk, ha, hb, eqD, bne]
@[simp] theorem eq_sign (μ : Store) (a b : Nat) (ha : a < 1114112) (hb : b < 1114112) : fEq μ (.str [a]) (.str [b]) = some (.bl (a == b)) := by
  simp [fEq, rd, asL, cmpOk, ha, hb, eqD]
theorem isL_lt {c : Nat} (h : isL c = true) : c < 1114112 := by
  unfold isL at h; simp at h; omega
section
variable {P : String → Option FD} {n : Nat} {μ : Store}
theorem is_text_of_str (hP : P "is_text_of" = some Law.d_is_text_of) (s t : List Nat) (hs : s.length ≤ cap) : callD P (n + 1) "is_text_of" [.str s, .str t] μ = .ok (.bl (s.all fun c => decide (c ∈ t))) μ := by
  rw [callD_eq hP rfl]
  have hl : (s.map fun c => D.str [c]).length ≤ cap := by rw [List.length_map]; exact hs
  simp -implicitDefEqProofs only [Law.d_is_text_of, startE, exs_nil, exs_cons, ex_pass, ex_expr, ex_asg, ex_ifs, ex_for, ex_ret, ex_retN, ex_brk, ex_cont, ex_never, ev_var, ev_lit, ev_op1, ev_op2, ev_op3, ev_opN, ev_opM, ev_meth, ev_frz, ev_lst, ev_tup, ev_and, ev_or, ev_not, ev_ite, ev_chain, ev_call, ev_comp, evs_nil, evs_cons, Res.bind_assoc, evT, asgT_name, asgT_sub, asgT_tup, asgTs_nil, asgTs_cons, Res.bind_ok, Res.bind_exc, lift_some, noExc_ok, truth_bl, finish_rt, finish_nx, List.map_cons, List.map_nil, List.length_cons, List.length_nil, List.replicate_zero, List.replicate_succ, List.cons_append, List.nil_append, List.getElem?_cons_zero, List.getElem?_cons_succ, List.set_cons_zero, List.set_cons_succ, Bool.not_true, Bool.not_false, ↓reduceIte, Bool.false_eq_true, Nat.reduceAdd, Nat.reduceSub, Nat.reduceLT, Nat.reduceLeDiff, Nat.zero_add, id_eq, Nat.sub_self, Bool.true_and, Bool.and_true, Bool.false_and, Bool.and_false, Bool.true_or, Bool.or_true, Bool.false_or, Bool.or_false, isi_str_str, fVal, items1, hl]
  rw [compLoop_map (fun c => D.str [c]) (fun c => .bl (decide (c ∈ t)))]
  · simp -implicitDefEqProofs only [startE, exs_nil, exs_cons, ex_pass, ex_expr, ex_asg, ex_ifs, ex_for, ex_ret, ex_retN, ex_brk, ex_cont, ex_never, ev_var, ev_lit, ev_op1, ev_op2, ev_op3, ev_opN, ev_opM, ev_meth, ev_frz, ev_lst, ev_tup, ev_and, ev_or, ev_not, ev_ite, ev_chain, ev_call, ev_comp, evs_nil, evs_cons, Res.bind_assoc, evT, asgT_name, asgT_sub, asgT_tup, asgTs_nil, asgTs_cons, Res.bind_ok, Res.bind_exc, lift_some, noExc_ok, truth_bl, finish_rt, finish_nx, List.map_cons, List.map_nil, List.length_cons, List.length_nil, List.replicate_zero, List.replicate_succ, List.cons_append, List.nil_append, List.getElem?_cons_zero, List.getElem?_cons_succ, List.set_cons_zero, List.set_cons_succ, Bool.not_true, Bool.not_false, ↓reduceIte, Bool.false_eq_true, Nat.reduceAdd, Nat.reduceSub, Nat.reduceLT, Nat.reduceLeDiff, Nat.zero_add, id_eq, Nat.sub_self, Bool.true_and, Bool.and_true, Bool.false_and, Bool.and_false, Bool.true_or, Bool.or_true, Bool.false_or, Bool.or_false, mkL_val _ _ (show (s.map fun c => D.bl (decide (c ∈ t))).length ≤ cap by rw [List.length_map]; exact hs), all_map]
  · intro c _
    simp -implicitDefEqProofs only [startE, exs_nil, exs_cons, ex_pass, ex_expr, ex_asg, ex_ifs, ex_for, ex_ret, ex_retN, ex_brk, ex_cont, ex_never, ev_var, ev_lit, ev_op1, ev_op2, ev_op3, ev_opN, ev_opM, ev_meth, ev_frz, ev_lst, ev_tup, ev_and, ev_or, ev_not, ev_ite, ev_chain, ev_call, ev_comp, evs_nil, evs_cons, Res.bind_assoc, evT, asgT_name, asgT_sub, asgT_tup, asgTs_nil, asgTs_cons, Res.bind_ok, Res.bind_exc, lift_some, noExc_ok, truth_bl, finish_rt, finish_nx, List.map_cons, List.map_nil, List.length_cons, List.length_nil, List.replicate_zero, List.replicate_succ, List.cons_append, List.nil_append, List.getElem?_cons_zero, List.getElem?_cons_succ, List.set_cons_zero, List.set_cons_succ, Bool.not_true, Bool.not_false, ↓reduceIte, Bool.false_eq_true, Nat.reduceAdd, Nat.reduceSub, Nat.reduceLT, Nat.reduceLeDiff, Nat.zero_add, id_eq, Nat.sub_self, Bool.true_and, Bool.and_true, Bool.false_and, Bool.and_false, Bool.true_or, Bool.or_true, Bool.false_or, Bool.or_false, compStep, forStep, bindT_name, bindT_tup, bindT_str, bindTs_nil, bindTs_cons, wipeE, List.length_set, in_sign]
theorem is_layer_number_int (hL : P "is_layer_number" = some Law.d_is_layer_number) (hP : P "is_between" = some Law.d_is_between) (hW : P "is_whole" = some Law.d_is_whole) (i : Int) : callD P (n + 3) "is_layer_number" [.int i] μ = .ok (.bl (decide (1 ≤ i) && decide (i ≤ 24))) μ := by
  rw [callD_eq hL rfl]
  simp -implicitDefEqProofs only [Law.d_is_layer_number, startE, exs_nil, exs_cons, ex_pass, ex_expr, ex_asg, ex_ifs, ex_for, ex_ret, ex_retN, ex_brk, ex_cont, ex_never, ev_var, ev_lit, ev_op1, ev_op2, ev_op3, ev_opN, ev_opM, ev_meth, ev_frz, ev_lst, ev_tup, ev_and, ev_or, ev_not, ev_ite, ev_chain, ev_call, ev_comp, evs_nil, evs_cons, Res.bind_assoc, evT, asgT_name, asgT_sub, asgT_tup, asgTs_nil, asgTs_cons, Res.bind_ok, Res.bind_exc, lift_some, noExc_ok, truth_bl, finish_rt, finish_nx, List.map_cons, List.map_nil, List.length_cons, List.length_nil, List.replicate_zero, List.replicate_succ, List.cons_append, List.nil_append, List.getElem?_cons_zero, List.getElem?_cons_succ, List.set_cons_zero, List.set_cons_succ, Bool.not_true, Bool.not_false, ↓reduceIte, Bool.false_eq_true, Nat.reduceAdd, Nat.reduceSub, Nat.reduceLT, Nat.reduceLeDiff, Nat.zero_add, id_eq, Nat.sub_self, Bool.true_and, Bool.and_true, Bool.false_and, Bool.and_false, Bool.true_or, Bool.or_true, Bool.false_or, Bool.or_false, is_between_int hP hW]
end
section
variable {P : String → Option FD} {n : Nat} {μ : Store}
@[simp] theorem ptOf_one (k d : Nat) : ptOf k d (.int 1) = some (min 1 k) := rfl
@[simp] theorem ptOf_non (k d : Nat) : ptOf k d .non = some d := rfl
theorem drop1 (s : List Nat) : cutL s (min 1 s.length) s.length = s.drop 1 := by
  unfold cutL
  cases s with
  | nil => rfl
  | cons a s => simp
theorem sl_from1 (s : List Nat) (hs : s.length ≤ cap) : fSl μ (.str s) (.int 1) .non = some (.str (s.drop 1)) := by
  show (if s.length ≤ cap then _ else _) = _
  rw [if_pos hs]
  show some (D.str (cutL s (min 1 s.length) s.length)) = _
  rw [drop1]
theorem zip_strs (s t : List Nat) : fZip μ [.str s, .str t] = some ((s.zip t).map fun p => .tup [.str [p.1], .str [p.2]]) := by
  show some (((s.map fun c => D.str [c]).zip (t.map fun c => D.str [c])).map _) = _
  rw [List.zip_map, List.map_map]; rfl
end
end Ev

namespace Ev
open Res
/-! ## the law's own draws: a list of three ints in the store -/
def IsW (w : Nat) (μ : Store) : Prop := ∃ a b c : Int, μ[w]? = some (.lst [.int a, .int b, .int c])
def WL (w : Nat) (μ μ' : Store) : Prop := ∃ a b c : Int, μ' = μ.set w (.lst [.int a, .int b, .int c])
theorem IsW.lt {w : Nat} {μ : Store} (h : IsW w μ) : w < μ.length := by
  obtain ⟨a, b, c, h⟩ := h
  exact (List.getElem?_eq_some_iff.mp h).1
theorem WL.isW {w : Nat} {μ μ' : Store} (h : IsW w μ) (k : WL w μ μ') : IsW w μ' := by
  obtain ⟨a, b, c, rfl⟩ := k
  exact ⟨a, b, c, by rw [List.getElem?_set_self h.lt]⟩
theorem WL.trans {w : Nat} {μ μ1 μ2 : Store} (k : WL w μ μ1) (k2 : WL w μ1 μ2) : WL w μ μ2 := by
  obtain ⟨a, b, c, rfl⟩ := k
  obtain ⟨a2, b2, c2, rfl⟩ := k2
  exact ⟨a2, b2, c2, by rw [List.set_set]⟩
theorem WL.refl {w : Nat} {μ : Store} (h : IsW w μ) : WL w μ μ := by
  obtain ⟨a, b, c, h⟩ := h
  refine ⟨a, b, c, ?_⟩
  obtain ⟨hl, e⟩ := List.getElem?_eq_some_iff.mp h
  rw [← e, List.set_getElem_self]
theorem WL.len {w : Nat} {μ μ' : Store} (k : WL w μ μ') : μ'.length = μ.length := by
  obtain ⟨a, b, c, rfl⟩ := k
  exact List.length_set ..
theorem trunc_len {μ μ' : Store} (d : D) (h : μ'.length = μ.length) : trunc μ d μ' = .ok d μ' := by
  unfold trunc
  split
  · rw [← h, List.take_length]
  · rfl
theorem finish_len {μ μ' : Store} (d : D) (h : μ'.length = μ.length) : finish μ (.rt d) μ' = .ok d μ' := trunc_len d h
theorem ix_ref {μ : Store} {w : Nat} {ds : List D} (h : μ[w]? = some (.lst ds)) (i : Int) : fIx μ (.ref w) (.int i) = (ixOf ds.length i).bind fun j => ds[j]? := by
  simp only [fIx, asL, h]
theorem set_ref {μ : Store} {w : Nat} {ds : List D} (h : μ[w]? = some (.lst ds)) {i : Int} {j : Nat} (hj : ixOf ds.length i = some j) {d : D} (hd : noLst d = true) : setIx (.ref w) (.int i) d μ = some (μ.set w (.lst (ds.set j d))) := by
  simp only [setIx, h, hj, hd, ↓reduceIte]
theorem mod_pos (μ : Store) (i : Int) {j : Int} (h : 0 < j) : fMod μ (.int i) (.int j) = some (.int (i % j)) := by simp only [fMod, h, ↓reduceIte]
theorem div_pos (μ : Store) (i : Int) {j : Int} (h : 0 < j) (h2 : j.natAbs.log2 < 9000) : fDiv μ (.int i) (.int j) = some (.int (i / j)) := by simp only [fDiv, h, h2, and_self, ↓reduceIte]
theorem mul_r (μ : Store) (i : Int) {j : Int} (h : j.natAbs < 18446744073709551616) : fMul μ (.int i) (.int j) = some (.int (i * j)) := by
  have : mulOk i j = true := by unfold mulOk; rw [decide_eq_true h]; simp
  simp only [fMul, this, ↓reduceIte]
theorem mul_l (μ : Store) {i : Int} (j : Int) (h : i.natAbs < 18446744073709551616) : fMul μ (.int i) (.int j) = some (.int (i * j)) := by
  have : mulOk i j = true := by unfold mulOk; rw [decide_eq_true h]; simp
  simp only [fMul, this, ↓reduceIte]
theorem add_int (μ : Store) (i j : Int) : fAdd μ (.int i) (.int j) = some (.int (i + j)) := rfl
theorem sub_int (μ : Store) (i j : Int) : fSub μ (.int i) (.int j) = some (.int (i - j)) := rfl
theorem lt_int (μ : Store) (i j : Int) : fLt μ (.int i) (.int j) = some (.bl (decide (i < j))) := rfl
theorem gt_int (μ : Store) (i j : Int) : fGt μ (.int i) (.int j) = some (.bl (decide (j < i))) := rfl
theorem le_int (μ : Store) (i j : Int) : fLe μ (.int i) (.int j) = some (.bl (decide (i ≤ j))) := rfl
theorem ge_int (μ : Store) (i j : Int) : fGe μ (.int i) (.int j) = some (.bl (decide (j ≤ i))) := rfl
theorem int_int (μ : Store) (i : Int) : fInt μ [.int i] = some (.int i) := rfl
theorem neg_int (μ : Store) (i : Int) : fNeg μ (.int i) = some (.int (-i)) := rfl
theorem fI_int (μ : Store) (i : Int) : fI μ (.int i) = some (.int i) := rfl
section
variable {P : String → Option FD} {n : Nat} {μ : Store}
theorem take_ok (hP : P "_law_take" = some Law.d__law_take) {w : Nat} (hw : IsW w μ) {many : Int} (h0 : 0 < many) (h1 : many < 1073741824) :
    ∃ (k : Int) (μ' : Store), 0 ≤ k ∧ k < many ∧ WL w μ μ' ∧ callD P (n + 1) "_law_take" [.ref w, .int many] μ = .ok (.int k) μ' := by
  have hlt := hw.lt
  obtain ⟨a, b, c, hg⟩ := hw
  rw [callD_eq hP rfl]
  have g0 : fIx μ (.ref w) (.int 0) = some (.int a) := by rw [ix_ref hg]; rfl
  have g1 : fIx μ (.ref w) (.int 1) = some (.int b) := by rw [ix_ref hg]; rfl
  have g2 : fIx μ (.ref w) (.int 2) = some (.int c) := by rw [ix_ref hg]; rfl
  simp -implicitDefEqProofs only [Law.d__law_take, startE, exs_nil, exs_cons, ex_pass, ex_expr, ex_asg, ex_ifs, ex_for, ex_ret, ex_retN, ex_brk, ex_cont, ex_never, ev_var, ev_lit, ev_op1, ev_op2, ev_op3, ev_opN, ev_opM, ev_meth, ev_frz, ev_lst, ev_tup, ev_and, ev_or, ev_not, ev_ite, ev_chain, ev_call, ev_comp, evs_nil, evs_cons, Res.bind_assoc, evT, asgT_name, asgT_sub, asgT_tup, asgTs_nil, asgTs_cons, Res.bind_ok, Res.bind_exc, lift_some, noExc_ok, truth_bl, finish_rt, finish_nx, List.map_cons, List.map_nil, List.length_cons, List.length_nil, List.replicate_zero, List.replicate_succ, List.cons_append, List.nil_append, List.getElem?_cons_zero, List.getElem?_cons_succ, List.set_cons_zero, List.set_cons_succ, Bool.not_true, Bool.not_false, ↓reduceIte, Bool.false_eq_true, Nat.reduceAdd, Nat.reduceSub, Nat.reduceLT, Nat.reduceLeDiff, Nat.zero_add, id_eq, Nat.sub_self, Bool.true_and, Bool.and_true, Bool.false_and, Bool.and_false, Bool.true_or, Bool.or_true, Bool.false_or, Bool.or_false, g0, gt_int]
  by_cases ha : 0 < a
  · rw [decide_eq_true ha]
    have hs : setIx (.ref w) (.int 0) (.int (a / many)) μ = some (μ.set w (.lst [.int (a / many), .int b, .int c])) := by
      rw [set_ref hg (j := 0) rfl rfl]; rfl
    have hd : fDivmod μ [.int a, .int many] = some (.tup [.int (a / many), .int (a % many)]) := if_pos ⟨h0, h1⟩
    refine ⟨a % many, _, Int.emod_nonneg _ (by omega), Int.emod_lt_of_pos _ h0, ⟨a / many, b, c, rfl⟩, ?_⟩
    simp -implicitDefEqProofs only [startE, exs_nil, exs_cons, ex_pass, ex_expr, ex_asg, ex_ifs, ex_for, ex_ret, ex_retN, ex_brk, ex_cont, ex_never, ev_var, ev_lit, ev_op1, ev_op2, ev_op3, ev_opN, ev_opM, ev_meth, ev_frz, ev_lst, ev_tup, ev_and, ev_or, ev_not, ev_ite, ev_chain, ev_call, ev_comp, evs_nil, evs_cons, Res.bind_assoc, evT, asgT_name, asgT_sub, asgT_tup, asgTs_nil, asgTs_cons, Res.bind_ok, Res.bind_exc, lift_some, noExc_ok, truth_bl, finish_rt, finish_nx, List.map_cons, List.map_nil, List.length_cons, List.length_nil, List.replicate_zero, List.replicate_succ, List.cons_append, List.nil_append, List.getElem?_cons_zero, List.getElem?_cons_succ, List.set_cons_zero, List.set_cons_succ, Bool.not_true, Bool.not_false, ↓reduceIte, Bool.false_eq_true, Nat.reduceAdd, Nat.reduceSub, Nat.reduceLT, Nat.reduceLeDiff, Nat.zero_add, id_eq, Nat.sub_self, Bool.true_and, Bool.and_true, Bool.false_and, Bool.and_false, Bool.true_or, Bool.or_true, Bool.false_or, Bool.or_false, g0, hd, hs]
    exact finish_len _ (List.length_set ..)
  · rw [decide_eq_false ha]
    have s2 : setIx (.ref w) (.int 2) (.int (c + 1)) μ = some (μ.set w (.lst [.int a, .int b, .int (c + 1)])) := by
      rw [set_ref hg (j := 2) rfl rfl]; rfl
    have hg2 : (μ.set w (.lst [.int a, .int b, .int (c + 1)]))[w]? = some (.lst [.int a, .int b, .int (c + 1)]) := List.getElem?_set_self hlt
    have k1 : fIx (μ.set w (.lst [.int a, .int b, .int (c + 1)])) (.ref w) (.int 1) = some (.int b) := by rw [ix_ref hg2]; rfl
    have k2 : fIx (μ.set w (.lst [.int a, .int b, .int (c + 1)])) (.ref w) (.int 2) = some (.int (c + 1)) := by rw [ix_ref hg2]; rfl
    have m1 : ∀ μ : Store, fMod μ (.int b) (.int 28657) = some (.int (b % 28657)) := fun μ => mod_pos μ _ (by decide)
    have hby0 : 0 ≤ b % 28657 := Int.emod_nonneg _ (by decide)
    have hby1 : b % 28657 < 28657 := Int.emod_lt_of_pos _ (by decide)
    generalize hby : b % 28657 = e at *
    have m2 : ∀ μ : Store, fMul μ (.int b) (.int (e + 40009)) = some (.int (b * (e + 40009))) := fun μ => mul_r μ _ (by omega)
    have m3 : ∀ μ : Store, fMul μ (.int 50023) (.int (c + 1)) = some (.int (50023 * (c + 1))) := fun μ => mul_l μ _ (by decide)
    simp -implicitDefEqProofs only [startE, exs_nil, exs_cons, ex_pass, ex_expr, ex_asg, ex_ifs, ex_for, ex_ret, ex_retN, ex_brk, ex_cont, ex_never, ev_var, ev_lit, ev_op1, ev_op2, ev_op3, ev_opN, ev_opM, ev_meth, ev_frz, ev_lst, ev_tup, ev_and, ev_or, ev_not, ev_ite, ev_chain, ev_call, ev_comp, evs_nil, evs_cons, Res.bind_assoc, evT, asgT_name, asgT_sub, asgT_tup, asgTs_nil, asgTs_cons, Res.bind_ok, Res.bind_exc, lift_some, noExc_ok, truth_bl, finish_rt, finish_nx, List.map_cons, List.map_nil, List.length_cons, List.length_nil, List.replicate_zero, List.replicate_succ, List.cons_append, List.nil_append, List.getElem?_cons_zero, List.getElem?_cons_succ, List.set_cons_zero, List.set_cons_succ, Bool.not_true, Bool.not_false, ↓reduceIte, Bool.false_eq_true, Nat.reduceAdd, Nat.reduceSub, Nat.reduceLT, Nat.reduceLeDiff, Nat.zero_add, id_eq, Nat.sub_self, Bool.true_and, Bool.and_true, Bool.false_and, Bool.and_false, Bool.true_or, Bool.or_true, Bool.false_or, Bool.or_false, g2, add_int, s2, k1, k2, int_int, m1, m2, m3]
    have m4 : ∀ (μ : Store) (x : Int), fMod μ (.int x) (.int 2147483563) = some (.int (x % 2147483563)) := fun μ x => mod_pos μ _ (by decide)
    simp -implicitDefEqProofs only [startE, exs_nil, exs_cons, ex_pass, ex_expr, ex_asg, ex_ifs, ex_for, ex_ret, ex_retN, ex_brk, ex_cont, ex_never, ev_var, ev_lit, ev_op1, ev_op2, ev_op3, ev_opN, ev_opM, ev_meth, ev_frz, ev_lst, ev_tup, ev_and, ev_or, ev_not, ev_ite, ev_chain, ev_call, ev_comp, evs_nil, evs_cons, Res.bind_assoc, evT, asgT_name, asgT_sub, asgT_tup, asgTs_nil, asgTs_cons, Res.bind_ok, Res.bind_exc, lift_some, noExc_ok, truth_bl, finish_rt, finish_nx, List.map_cons, List.map_nil, List.length_cons, List.length_nil, List.replicate_zero, List.replicate_succ, List.cons_append, List.nil_append, List.getElem?_cons_zero, List.getElem?_cons_succ, List.set_cons_zero, List.set_cons_succ, Bool.not_true, Bool.not_false, ↓reduceIte, Bool.false_eq_true, Nat.reduceAdd, Nat.reduceSub, Nat.reduceLT, Nat.reduceLeDiff, Nat.zero_add, id_eq, Nat.sub_self, Bool.true_and, Bool.and_true, Bool.false_and, Bool.and_false, Bool.true_or, Bool.or_true, Bool.false_or, Bool.or_false, m4]
    generalize hb' : (b * (e + 40009) + 50023 * (c + 1) + 17) % 2147483563 = b'
    have s1 : setIx (.ref w) (.int 1) (.int b') (μ.set w (.lst [.int a, .int b, .int (c + 1)])) = some (μ.set w (.lst [.int a, .int b', .int (c + 1)])) := by
      rw [set_ref hg2 (j := 1) rfl rfl, List.set_set]; rfl
    have hg3 : (μ.set w (.lst [.int a, .int b', .int (c + 1)]))[w]? = some (.lst [.int a, .int b', .int (c + 1)]) := List.getElem?_set_self hlt
    have k3 : fIx (μ.set w (.lst [.int a, .int b', .int (c + 1)])) (.ref w) (.int 1) = some (.int b') := by rw [ix_ref hg3]; rfl
    have m5 : ∀ μ : Store, fDiv μ (.int b') (.int 83) = some (.int (b' / 83)) := fun μ => div_pos μ _ (by decide) (by decide)
    have m6 : ∀ (μ : Store) (x : Int), fMod μ (.int x) (.int many) = some (.int (x % many)) := fun μ x => mod_pos μ _ h0
    refine ⟨b' / 83 % many, _, Int.emod_nonneg _ (by omega), Int.emod_lt_of_pos _ h0, ⟨a, b', c + 1, rfl⟩, ?_⟩
    simp -implicitDefEqProofs only [startE, exs_nil, exs_cons, ex_pass, ex_expr, ex_asg, ex_ifs, ex_for, ex_ret, ex_retN, ex_brk, ex_cont, ex_never, ev_var, ev_lit, ev_op1, ev_op2, ev_op3, ev_opN, ev_opM, ev_meth, ev_frz, ev_lst, ev_tup, ev_and, ev_or, ev_not, ev_ite, ev_chain, ev_call, ev_comp, evs_nil, evs_cons, Res.bind_assoc, evT, asgT_name, asgT_sub, asgT_tup, asgTs_nil, asgTs_cons, Res.bind_ok, Res.bind_exc, lift_some, noExc_ok, truth_bl, finish_rt, finish_nx, List.map_cons, List.map_nil, List.length_cons, List.length_nil, List.replicate_zero, List.replicate_succ, List.cons_append, List.nil_append, List.getElem?_cons_zero, List.getElem?_cons_succ, List.set_cons_zero, List.set_cons_succ, Bool.not_true, Bool.not_false, ↓reduceIte, Bool.false_eq_true, Nat.reduceAdd, Nat.reduceSub, Nat.reduceLT, Nat.reduceLeDiff, Nat.zero_add, id_eq, Nat.sub_self, Bool.true_and, Bool.and_true, Bool.false_and, Bool.and_false, Bool.true_or, Bool.or_true, Bool.false_or, Bool.or_false, s1, k3, m5, m6, int_int]
    exact finish_len _ (List.length_set ..)
end
end Ev

namespace Ev
open Res
theorem ixOf_nat {n i : Nat} (h : i < n) : ixOf n (i : Int) = some i := by
  unfold ixOf
  rw [if_pos (by omega), if_pos (by omega)]
  simp
theorem ixOf_int {n : Nat} {i : Int} (h0 : 0 ≤ i) (h : i < n) : ixOf n i = some i.toNat := by
  unfold ixOf
  rw [if_pos h0, if_pos h]
theorem ixOf_neg {n : Nat} {j : Nat} (h0 : 0 < j) (h : j ≤ n) : ixOf n (-(j : Int)) = some (n - j) := by
  unfold ixOf
  rw [if_neg (by omega), if_pos (by omega)]
  congr 1
  omega
theorem getD_of {α : Type} {s : List α} {i : Nat} (d : α) (h : i < s.length) : s[i]? = some (s.getD i d) := by
  simp [List.getD, h]
theorem ix_str (μ : Store) {s : List Nat} (hs : s.length ≤ cap) {i : Int} (h0 : 0 ≤ i) (h : i < s.length) : fIx μ (.str s) (.int i) = some (.str [s.getD i.toNat 0]) := by
  simp only [fIx, hs, ↓reduceIte, ixOf_int h0 h, Option.bind_some]
  rw [getD_of 0 (by omega)]; rfl
theorem ix_strN (μ : Store) {s : List Nat} (hs : s.length ≤ cap) {i : Nat} (h : i < s.length) : fIx μ (.str s) (.int i) = some (.str [s.getD i 0]) := by
  rw [ix_str μ hs (by omega) (by omega)]; simp
theorem ix_strE (μ : Store) {s : List Nat} (hs : s.length ≤ cap) {j : Nat} (h0 : 0 < j) (h : j ≤ s.length) : fIx μ (.str s) (.int (-(j : Int))) = some (.str [s.getD (s.length - j) 0]) := by
  simp only [fIx, hs, ↓reduceIte, ixOf_neg h0 h, Option.bind_some]
  rw [getD_of 0 (by omega)]; rfl
theorem ix_lst (μ : Store) {ds : List D} {i : Int} (h0 : 0 ≤ i) (h : i < ds.length) : fIx μ (.lst ds) (.int i) = some (ds.getD i.toNat .non) := by
  simp only [fIx, asL, ixOf_int h0 h, Option.bind_some]
  rw [getD_of .non (by omega)]
theorem ix_tup (μ : Store) {ds : List D} {i : Int} (h0 : 0 ≤ i) (h : i < ds.length) : fIx μ (.tup ds) (.int i) = some (ds.getD i.toNat .non) := by
  simp only [fIx, ixOf_int h0 h, Option.bind_some]
  rw [getD_of .non (by omega)]
theorem len_lst (μ : Store) (ds : List D) : fLen μ [.lst ds] = some (.int ds.length) := rfl
theorem len_tup (μ : Store) (ds : List D) : fLen μ [.tup ds] = some (.int ds.length) := rfl
theorem rng1 (μ : Store) {n : Nat} (h : n < 1000000) : fRng1 μ [.int n] = some ((List.range n).map fun k => .int (k : Nat)) := by
  have h1 : rngOk (n : Int) = true := by unfold rngOk; simp; omega
  simp only [fRng1, h1, ↓reduceIte, rngD, Int.toNat_natCast]
  refine congrArg some (List.map_congr_left fun k _ => ?_)
  simp
section
variable {P : String → Option FD} {n : Nat} {μ : Store}
theorem pick_str (hT : P "_law_take" = some Law.d__law_take) (hP : P "_law_pick" = some Law.d__law_pick) {w : Nat} (hw : IsW w μ) {s : List Nat} (h0 : 0 < s.length) (h1 : s.length ≤ cap) :
    ∃ (c : Nat) (μ' : Store), c ∈ s ∧ WL w μ μ' ∧ callD P (n + 2) "_law_pick" [.ref w, .str s] μ = .ok (.str [c]) μ' := by
  have hc : s.length ≤ 1000000 := h1
  obtain ⟨k, μ1, k0, k1, kw, e⟩ := take_ok (n := n) hT hw (many := s.length) (by omega) (by omega)
  refine ⟨s.getD k.toNat 0, μ1, ?_, kw, ?_⟩
  · have hk : k.toNat < s.length := by omega
    simp [List.getD, hk]
  · rw [callD_eq hP rfl]
    simp -implicitDefEqProofs only [Law.d__law_pick, startE, exs_nil, exs_cons, ex_pass, ex_expr, ex_asg, ex_ifs, ex_for, ex_ret, ex_retN, ex_brk, ex_cont, ex_never, ev_var, ev_lit, ev_op1, ev_op2, ev_op3, ev_opN, ev_opM, ev_meth, ev_frz, ev_lst, ev_tup, ev_and, ev_or, ev_not, ev_ite, ev_chain, ev_call, ev_comp, evs_nil, evs_cons, Res.bind_assoc, evT, asgT_name, asgT_sub, asgT_tup, asgTs_nil, asgTs_cons, Res.bind_ok, Res.bind_exc, lift_some, noExc_ok, truth_bl, finish_rt, finish_nx, List.map_cons, List.map_nil, List.length_cons, List.length_nil, List.replicate_zero, List.replicate_succ, List.cons_append, List.nil_append, List.getElem?_cons_zero, List.getElem?_cons_succ, List.set_cons_zero, List.set_cons_succ, Bool.not_true, Bool.not_false, ↓reduceIte, Bool.false_eq_true, Nat.reduceAdd, Nat.reduceSub, Nat.reduceLT, Nat.reduceLeDiff, Nat.zero_add, id_eq, Nat.sub_self, Bool.true_and, Bool.and_true, Bool.false_and, Bool.and_false, Bool.true_or, Bool.or_true, Bool.false_or, Bool.or_false, len_str μ s h1, e, ix_str μ1 h1 k0 k1]
    exact finish_len _ kw.len
theorem pick_lst (hT : P "_law_take" = some Law.d__law_take) (hP : P "_law_pick" = some Law.d__law_pick) {w : Nat} (hw : IsW w μ) {ds : List D} (h0 : 0 < ds.length) (h1 : ds.length ≤ cap) :
    ∃ (d : D) (μ' : Store), d ∈ ds ∧ WL w μ μ' ∧ callD P (n + 2) "_law_pick" [.ref w, .lst ds] μ = .ok d μ' := by
  have hc : ds.length ≤ 1000000 := h1
  obtain ⟨k, μ1, k0, k1, kw, e⟩ := take_ok (n := n) hT hw (many := ds.length) (by omega) (by omega)
  refine ⟨ds.getD k.toNat .non, μ1, ?_, kw, ?_⟩
  · have hk : k.toNat < ds.length := by omega
    simp [List.getD, hk]
  · rw [callD_eq hP rfl]
    simp -implicitDefEqProofs only [Law.d__law_pick, startE, exs_nil, exs_cons, ex_pass, ex_expr, ex_asg, ex_ifs, ex_for, ex_ret, ex_retN, ex_brk, ex_cont, ex_never, ev_var, ev_lit, ev_op1, ev_op2, ev_op3, ev_opN, ev_opM, ev_meth, ev_frz, ev_lst, ev_tup, ev_and, ev_or, ev_not, ev_ite, ev_chain, ev_call, ev_comp, evs_nil, evs_cons, Res.bind_assoc, evT, asgT_name, asgT_sub, asgT_tup, asgTs_nil, asgTs_cons, Res.bind_ok, Res.bind_exc, lift_some, noExc_ok, truth_bl, finish_rt, finish_nx, List.map_cons, List.map_nil, List.length_cons, List.length_nil, List.replicate_zero, List.replicate_succ, List.cons_append, List.nil_append, List.getElem?_cons_zero, List.getElem?_cons_succ, List.set_cons_zero, List.set_cons_succ, Bool.not_true, Bool.not_false, ↓reduceIte, Bool.false_eq_true, Nat.reduceAdd, Nat.reduceSub, Nat.reduceLT, Nat.reduceLeDiff, Nat.zero_add, id_eq, Nat.sub_self, Bool.true_and, Bool.and_true, Bool.false_and, Bool.and_false, Bool.true_or, Bool.or_true, Bool.false_or, Bool.or_false, len_lst, e, ix_lst μ1 k0 k1]
    exact finish_len _ kw.len
end

/-! ## loops -/
theorem forLoop_inv {step : Env → D → Store → Res Fl} (I : Nat → Env → Store → Prop) : ∀ (items : List D) (i : Nat) (ρ : Env) (μ : Store), I i ρ μ →
    (∀ (j : Nat) (d : D) (ρ : Env) (μ : Store), items[j]? = some d → I (i + j) ρ μ → ∃ ρ' μ', step ρ d μ = .ok (.nx ρ') μ' ∧ I (i + j + 1) ρ' μ') →
    ∃ ρ' μ', forLoop step items ρ μ = .ok (.nx ρ') μ' ∧ I (i + items.length) ρ' μ'
  | [], i, ρ, μ, h0, _ => ⟨ρ, μ, rfl, h0⟩
  | d :: items, i, ρ, μ, h0, hs => by
    obtain ⟨ρ1, μ1, e1, h1⟩ := hs 0 d ρ μ rfl h0
    obtain ⟨ρ2, μ2, e2, h2⟩ := forLoop_inv I items (i + 1) ρ1 μ1 h1 fun j d ρ μ hd hi => by
      have := hs (j + 1) d ρ μ (by simpa using hd) (by rw [show i + (j + 1) = i + 1 + j by omega]; exact hi)
      rw [show i + 1 + j + 1 = i + (j + 1) + 1 by omega]; exact this
    refine ⟨ρ2, μ2, ?_, ?_⟩
    · rw [forLoop, e1, bind_ok]; exact e2
    · rw [List.length_cons, show i + (items.length + 1) = i + 1 + items.length by omega]; exact h2

/-! ## one thing the same as itself -/
mutual
def gd : Nat → D → Bool
  | _, .non => true
  | _, .bl _ => true
  | _, .int _ => true
  | _, .str s => s.all (· < 1114112)
  | k + 1, .tup ds => decide (ds.length < 1000000) && gds k ds
  | k + 1, .lst ds => decide (ds.length < 1000000) && gds k ds
  | _, _ => false
def gds : Nat → List D → Bool
  | _, [] => true
  | k, d :: ds => gd k d && gds k ds
end
theorem gds_get : ∀ {k : Nat} {ds : List D} {i : Nat}, gds k ds = true → i < ds.length → gd k (ds.getD i .non) = true
  | k, [], i, _, h => by simp at h
  | k, d :: ds, 0, h, _ => by unfold gds at h; exact (Bool.and_eq_true_iff.mp h).1
  | k, d :: ds, i + 1, h, hi => by
    unfold gds at h
    have := gds_get (i := i) (Bool.and_eq_true_iff.mp h).2 (by simpa using hi)
    simpa using this
theorem eqD_str (s : List Nat) : eqD (.str s) (.str s) = true := by unfold eqD; simp
section
variable {P : String → Option FD} {n : Nat} {μ : Store}
@[simp] theorem isi_tup_tup (μ : Store) (ds : List D) : fIsi μ [.tup ds, .ty "tuple"] = some (.bl true) := rfl
@[simp] theorem isi_tup_lst (μ : Store) (ds : List D) : fIsi μ [.tup ds, .ty "list"] = some (.bl false) := rfl
@[simp] theorem isi_lst_tup (μ : Store) (ds : List D) : fIsi μ [.lst ds, .ty "tuple"] = some (.bl false) := rfl
@[simp] theorem isi_lst_lst (μ : Store) (ds : List D) : fIsi μ [.lst ds, .ty "list"] = some (.bl true) := rfl
theorem isi_non (μ : Store) : fIsi μ [.non, .ty "tuple"] = some (.bl false) ∧ fIsi μ [.non, .ty "list"] = some (.bl false) := ⟨rfl, rfl⟩
theorem isi_bl (μ : Store) (b : Bool) : fIsi μ [.bl b, .ty "tuple"] = some (.bl false) ∧ fIsi μ [.bl b, .ty "list"] = some (.bl false) ∧ fIsi μ [.bl b, .ty "bool"] = some (.bl true) := ⟨rfl, rfl, rfl⟩
theorem isi_int (μ : Store) (i : Int) : fIsi μ [.int i, .ty "tuple"] = some (.bl false) ∧ fIsi μ [.int i, .ty "list"] = some (.bl false) ∧ fIsi μ [.int i, .ty "bool"] = some (.bl false) ∧ fIsi μ [.int i, .ty "int"] = some (.bl true) := ⟨rfl, rfl, rfl, rfl⟩
theorem isi_str (μ : Store) (s : List Nat) : fIsi μ [.str s, .ty "tuple"] = some (.bl false) ∧ fIsi μ [.str s, .ty "list"] = some (.bl false) ∧ fIsi μ [.str s, .ty "bool"] = some (.bl false) ∧ fIsi μ [.str s, .ty "int"] = some (.bl false) ∧ fIsi μ [.str s, .ty "str"] = some (.bl true) := ⟨rfl, rfl, rfl, rfl, rfl⟩
theorem is_nn (μ : Store) : fIs μ .non .non = some (.bl true) := rfl
theorem is_bn (μ : Store) (b : Bool) : fIs μ (.bl b) .non = some (.bl false) := rfl
theorem is_in (μ : Store) (b : Int) : fIs μ (.int b) .non = some (.bl false) := rfl
theorem is_sn (μ : Store) (b : List Nat) : fIs μ (.str b) .non = some (.bl false) := rfl
theorem ne_bls (μ : Store) (b : Bool) : fNe μ (.bl b) (.bl b) = some (.bl false) := by cases b <;> rfl
theorem eq_bls (μ : Store) (b : Bool) : fEq μ (.bl b) (.bl b) = some (.bl true) := by cases b <;> rfl
theorem eq_int (μ : Store) (i j : Int) : fEq μ (.int i) (.int j) = some (.bl (i == j)) := by simp [fEq, rd, asL, cmpOk, eqD]
theorem ne_int (μ : Store) (i j : Int) : fNe μ (.int i) (.int j) = some (.bl (i != j)) := by simp [fNe, rd, asL, cmpOk, eqD, bne]
theorem eq_strs (μ : Store) (s : List Nat) (h : s.all (· < 1114112) = true) : fEq μ (.str s) (.str s) = some (.bl true) := by
  have : cmpOk 8 (.str s) = true := by unfold cmpOk; exact h
  simp only [fEq, rd, asL, this, Bool.and_self, ↓reduceIte, eqD_str]
theorem same_tup (hP : P "_law_same" = some Law.d__law_same) (k n : Nat) (ih : ∀ (n : Nat) (μ : Store) (d : D), gd k d = true → callD P (n + k + 1) "_law_same" [d, d] μ = .ok (.bl true) μ) (μ : Store) (ds : List D) (h : gd (k + 1) (.tup ds) = true) :
    callD P (n + k + 2) "_law_same" [.tup ds, .tup ds] μ = .ok (.bl true) μ := by
  rw [callD_eq hP rfl]
  unfold gd at h
  obtain ⟨h1, h2⟩ := Bool.and_eq_true_iff.mp h
  have h1 := of_decide_eq_true h1
  have hr : ((List.range ds.length).map fun k => D.int (k : Nat)).length ≤ cap := by rw [List.length_map, List.length_range]; exact Nat.le_of_lt h1
  simp -implicitDefEqProofs only [Law.d__law_same, startE, exs_nil, exs_cons, ex_pass, ex_expr, ex_asg, ex_ifs, ex_for, ex_ret, ex_retN, ex_brk, ex_cont, ex_never, ev_var, ev_lit, ev_op1, ev_op2, ev_op3, ev_opN, ev_opM, ev_meth, ev_frz, ev_lst, ev_tup, ev_and, ev_or, ev_not, ev_ite, ev_chain, ev_call, ev_comp, evs_nil, evs_cons, Res.bind_assoc, evT, asgT_name, asgT_sub, asgT_tup, asgTs_nil, asgTs_cons, Res.bind_ok, Res.bind_exc, lift_some, noExc_ok, truth_bl, finish_rt, finish_nx, List.map_cons, List.map_nil, List.length_cons, List.length_nil, List.replicate_zero, List.replicate_succ, List.cons_append, List.nil_append, List.getElem?_cons_zero, List.getElem?_cons_succ, List.set_cons_zero, List.set_cons_succ, Bool.not_true, Bool.not_false, ↓reduceIte, Bool.false_eq_true, Nat.reduceAdd, Nat.reduceSub, Nat.reduceLT, Nat.reduceLeDiff, Nat.zero_add, id_eq, Nat.sub_self, Bool.true_and, Bool.and_true, Bool.false_and, Bool.and_false, Bool.true_or, Bool.or_true, Bool.false_or, Bool.or_false, isi_tup_tup, isi_tup_lst, len_tup, eq_int, beq_self_eq_true, rng1 μ h1, hr]
  rw [compLoop_map (fun k : Nat => D.int k) (fun _ => .bl true)]
  · have hr2 : ((List.range ds.length).map fun _ => D.bl true).length ≤ cap := by rw [List.length_map, List.length_range]; exact Nat.le_of_lt h1
    have ha : ((List.range ds.length).all fun _ => true) = true := by simp
    have hf : fAll μ [.lst ((List.range ds.length).map fun _ => D.bl true)] = some (.bl true) := by
      have := all_map μ (fun _ : Nat => true) (List.range ds.length)
      rw [ha] at this; exact this
    simp -implicitDefEqProofs only [startE, exs_nil, exs_cons, ex_pass, ex_expr, ex_asg, ex_ifs, ex_for, ex_ret, ex_retN, ex_brk, ex_cont, ex_never, ev_var, ev_lit, ev_op1, ev_op2, ev_op3, ev_opN, ev_opM, ev_meth, ev_frz, ev_lst, ev_tup, ev_and, ev_or, ev_not, ev_ite, ev_chain, ev_call, ev_comp, evs_nil, evs_cons, Res.bind_assoc, evT, asgT_name, asgT_sub, asgT_tup, asgTs_nil, asgTs_cons, Res.bind_ok, Res.bind_exc, lift_some, noExc_ok, truth_bl, finish_rt, finish_nx, List.map_cons, List.map_nil, List.length_cons, List.length_nil, List.replicate_zero, List.replicate_succ, List.cons_append, List.nil_append, List.getElem?_cons_zero, List.getElem?_cons_succ, List.set_cons_zero, List.set_cons_succ, Bool.not_true, Bool.not_false, ↓reduceIte, Bool.false_eq_true, Nat.reduceAdd, Nat.reduceSub, Nat.reduceLT, Nat.reduceLeDiff, Nat.zero_add, id_eq, Nat.sub_self, Bool.true_and, Bool.and_true, Bool.false_and, Bool.and_false, Bool.true_or, Bool.or_true, Bool.false_or, Bool.or_false, mkL_val _ _ hr2, hf]
  · intro i hi
    have hi := List.mem_range.mp hi
    have e := ih n μ (ds.getD i .non) (gds_get h2 hi)
    have ei : fIx μ (.tup ds) (.int (i : Nat)) = some (ds.getD i .non) := by rw [ix_tup μ (by omega) (by omega)]; simp
    simp -implicitDefEqProofs only [startE, exs_nil, exs_cons, ex_pass, ex_expr, ex_asg, ex_ifs, ex_for, ex_ret, ex_retN, ex_brk, ex_cont, ex_never, ev_var, ev_lit, ev_op1, ev_op2, ev_op3, ev_opN, ev_opM, ev_meth, ev_frz, ev_lst, ev_tup, ev_and, ev_or, ev_not, ev_ite, ev_chain, ev_call, ev_comp, evs_nil, evs_cons, Res.bind_assoc, evT, asgT_name, asgT_sub, asgT_tup, asgTs_nil, asgTs_cons, Res.bind_ok, Res.bind_exc, lift_some, noExc_ok, truth_bl, finish_rt, finish_nx, List.map_cons, List.map_nil, List.length_cons, List.length_nil, List.replicate_zero, List.replicate_succ, List.cons_append, List.nil_append, List.getElem?_cons_zero, List.getElem?_cons_succ, List.set_cons_zero, List.set_cons_succ, Bool.not_true, Bool.not_false, ↓reduceIte, Bool.false_eq_true, Nat.reduceAdd, Nat.reduceSub, Nat.reduceLT, Nat.reduceLeDiff, Nat.zero_add, id_eq, Nat.sub_self, Bool.true_and, Bool.and_true, Bool.false_and, Bool.and_false, Bool.true_or, Bool.or_true, Bool.false_or, Bool.or_false, compStep, forStep, bindT_name, bindT_tup, bindT_str, bindTs_nil, bindTs_cons, wipeE, List.length_set, ei, e]
theorem same_lst (hP : P "_law_same" = some Law.d__law_same) (k n : Nat) (ih : ∀ (n : Nat) (μ : Store) (d : D), gd k d = true → callD P (n + k + 1) "_law_same" [d, d] μ = .ok (.bl true) μ) (μ : Store) (ds : List D) (h : gd (k + 1) (.lst ds) = true) :
    callD P (n + k + 2) "_law_same" [.lst ds, .lst ds] μ = .ok (.bl true) μ := by
  rw [callD_eq hP rfl]
  unfold gd at h
  obtain ⟨h1, h2⟩ := Bool.and_eq_true_iff.mp h
  have h1 := of_decide_eq_true h1
  have hr : ((List.range ds.length).map fun k => D.int (k : Nat)).length ≤ cap := by rw [List.length_map, List.length_range]; exact Nat.le_of_lt h1
  simp -implicitDefEqProofs only [Law.d__law_same, startE, exs_nil, exs_cons, ex_pass, ex_expr, ex_asg, ex_ifs, ex_for, ex_ret, ex_retN, ex_brk, ex_cont, ex_never, ev_var, ev_lit, ev_op1, ev_op2, ev_op3, ev_opN, ev_opM, ev_meth, ev_frz, ev_lst, ev_tup, ev_and, ev_or, ev_not, ev_ite, ev_chain, ev_call, ev_comp, evs_nil, evs_cons, Res.bind_assoc, evT, asgT_name, asgT_sub, asgT_tup, asgTs_nil, asgTs_cons, Res.bind_ok, Res.bind_exc, lift_some, noExc_ok, truth_bl, finish_rt, finish_nx, List.map_cons, List.map_nil, List.length_cons, List.length_nil, List.replicate_zero, List.replicate_succ, List.cons_append, List.nil_append, List.getElem?_cons_zero, List.getElem?_cons_succ, List.set_cons_zero, List.set_cons_succ, Bool.not_true, Bool.not_false, ↓reduceIte, Bool.false_eq_true, Nat.reduceAdd, Nat.reduceSub, Nat.reduceLT, Nat.reduceLeDiff, Nat.zero_add, id_eq, Nat.sub_self, Bool.true_and, Bool.and_true, Bool.false_and, Bool.and_false, Bool.true_or, Bool.or_true, Bool.false_or, Bool.or_false, isi_lst_tup, isi_lst_lst, len_lst, eq_int, beq_self_eq_true, rng1 μ h1, hr]
  rw [compLoop_map (fun k : Nat => D.int k) (fun _ => .bl true)]
  · have hr2 : ((List.range ds.length).map fun _ => D.bl true).length ≤ cap := by rw [List.length_map, List.length_range]; exact Nat.le_of_lt h1
    have ha : ((List.range ds.length).all fun _ => true) = true := by simp
    have hf : fAll μ [.lst ((List.range ds.length).map fun _ => D.bl true)] = some (.bl true) := by
      have := all_map μ (fun _ : Nat => true) (List.range ds.length)
      rw [ha] at this; exact this
    simp -implicitDefEqProofs only [startE, exs_nil, exs_cons, ex_pass, ex_expr, ex_asg, ex_ifs, ex_for, ex_ret, ex_retN, ex_brk, ex_cont, ex_never, ev_var, ev_lit, ev_op1, ev_op2, ev_op3, ev_opN, ev_opM, ev_meth, ev_frz, ev_lst, ev_tup, ev_and, ev_or, ev_not, ev_ite, ev_chain, ev_call, ev_comp, evs_nil, evs_cons, Res.bind_assoc, evT, asgT_name, asgT_sub, asgT_tup, asgTs_nil, asgTs_cons, Res.bind_ok, Res.bind_exc, lift_some, noExc_ok, truth_bl, finish_rt, finish_nx, List.map_cons, List.map_nil, List.length_cons, List.length_nil, List.replicate_zero, List.replicate_succ, List.cons_append, List.nil_append, List.getElem?_cons_zero, List.getElem?_cons_succ, List.set_cons_zero, List.set_cons_succ, Bool.not_true, Bool.not_false, ↓reduceIte, Bool.false_eq_true, Nat.reduceAdd, Nat.reduceSub, Nat.reduceLT, Nat.reduceLeDiff, Nat.zero_add, id_eq, Nat.sub_self, Bool.true_and, Bool.and_true, Bool.false_and, Bool.and_false, Bool.true_or, Bool.or_true, Bool.false_or, Bool.or_false, mkL_val _ _ hr2, hf]
  · intro i hi
    have hi := List.mem_range.mp hi
    have e := ih n μ (ds.getD i .non) (gds_get h2 hi)
    have ei : fIx μ (.lst ds) (.int (i : Nat)) = some (ds.getD i .non) := by rw [ix_lst μ (by omega) (by omega)]; simp
    simp -implicitDefEqProofs only [startE, exs_nil, exs_cons, ex_pass, ex_expr, ex_asg, ex_ifs, ex_for, ex_ret, ex_retN, ex_brk, ex_cont, ex_never, ev_var, ev_lit, ev_op1, ev_op2, ev_op3, ev_opN, ev_opM, ev_meth, ev_frz, ev_lst, ev_tup, ev_and, ev_or, ev_not, ev_ite, ev_chain, ev_call, ev_comp, evs_nil, evs_cons, Res.bind_assoc, evT, asgT_name, asgT_sub, asgT_tup, asgTs_nil, asgTs_cons, Res.bind_ok, Res.bind_exc, lift_some, noExc_ok, truth_bl, finish_rt, finish_nx, List.map_cons, List.map_nil, List.length_cons, List.length_nil, List.replicate_zero, List.replicate_succ, List.cons_append, List.nil_append, List.getElem?_cons_zero, List.getElem?_cons_succ, List.set_cons_zero, List.set_cons_succ, Bool.not_true, Bool.not_false, ↓reduceIte, Bool.false_eq_true, Nat.reduceAdd, Nat.reduceSub, Nat.reduceLT, Nat.reduceLeDiff, Nat.zero_add, id_eq, Nat.sub_self, Bool.true_and, Bool.and_true, Bool.false_and, Bool.and_false, Bool.true_or, Bool.or_true, Bool.false_or, Bool.or_false, compStep, forStep, bindT_name, bindT_tup, bindT_str, bindTs_nil, bindTs_cons, wipeE, List.length_set, ei, e]
theorem same_refl (hP : P "_law_same" = some Law.d__law_same) : ∀ (k : Nat) (n : Nat) (μ : Store) (d : D), gd k d = true → callD P (n + k + 1) "_law_same" [d, d] μ = .ok (.bl true) μ := by
  intro k
  induction k with
  | zero =>
    intro n μ d h
    rw [callD_eq hP rfl]
    cases d with
    | non => simp -implicitDefEqProofs only [Law.d__law_same, startE, exs_nil, exs_cons, ex_pass, ex_expr, ex_asg, ex_ifs, ex_for, ex_ret, ex_retN, ex_brk, ex_cont, ex_never, ev_var, ev_lit, ev_op1, ev_op2, ev_op3, ev_opN, ev_opM, ev_meth, ev_frz, ev_lst, ev_tup, ev_and, ev_or, ev_not, ev_ite, ev_chain, ev_call, ev_comp, evs_nil, evs_cons, Res.bind_assoc, evT, asgT_name, asgT_sub, asgT_tup, asgTs_nil, asgTs_cons, Res.bind_ok, Res.bind_exc, lift_some, noExc_ok, truth_bl, finish_rt, finish_nx, List.map_cons, List.map_nil, List.length_cons, List.length_nil, List.replicate_zero, List.replicate_succ, List.cons_append, List.nil_append, List.getElem?_cons_zero, List.getElem?_cons_succ, List.set_cons_zero, List.set_cons_succ, Bool.not_true, Bool.not_false, ↓reduceIte, Bool.false_eq_true, Nat.reduceAdd, Nat.reduceSub, Nat.reduceLT, Nat.reduceLeDiff, Nat.zero_add, id_eq, Nat.sub_self, Bool.true_and, Bool.and_true, Bool.false_and, Bool.and_false, Bool.true_or, Bool.or_true, Bool.false_or, Bool.or_false, isi_non, is_nn]
    | bl b => simp -implicitDefEqProofs only [Law.d__law_same, startE, exs_nil, exs_cons, ex_pass, ex_expr, ex_asg, ex_ifs, ex_for, ex_ret, ex_retN, ex_brk, ex_cont, ex_never, ev_var, ev_lit, ev_op1, ev_op2, ev_op3, ev_opN, ev_opM, ev_meth, ev_frz, ev_lst, ev_tup, ev_and, ev_or, ev_not, ev_ite, ev_chain, ev_call, ev_comp, evs_nil, evs_cons, Res.bind_assoc, evT, asgT_name, asgT_sub, asgT_tup, asgTs_nil, asgTs_cons, Res.bind_ok, Res.bind_exc, lift_some, noExc_ok, truth_bl, finish_rt, finish_nx, List.map_cons, List.map_nil, List.length_cons, List.length_nil, List.replicate_zero, List.replicate_succ, List.cons_append, List.nil_append, List.getElem?_cons_zero, List.getElem?_cons_succ, List.set_cons_zero, List.set_cons_succ, Bool.not_true, Bool.not_false, ↓reduceIte, Bool.false_eq_true, Nat.reduceAdd, Nat.reduceSub, Nat.reduceLT, Nat.reduceLeDiff, Nat.zero_add, id_eq, Nat.sub_self, Bool.true_and, Bool.and_true, Bool.false_and, Bool.and_false, Bool.true_or, Bool.or_true, Bool.false_or, Bool.or_false, isi_bl, is_bn, eq_bls]
    | int i => simp -implicitDefEqProofs only [Law.d__law_same, startE, exs_nil, exs_cons, ex_pass, ex_expr, ex_asg, ex_ifs, ex_for, ex_ret, ex_retN, ex_brk, ex_cont, ex_never, ev_var, ev_lit, ev_op1, ev_op2, ev_op3, ev_opN, ev_opM, ev_meth, ev_frz, ev_lst, ev_tup, ev_and, ev_or, ev_not, ev_ite, ev_chain, ev_call, ev_comp, evs_nil, evs_cons, Res.bind_assoc, evT, asgT_name, asgT_sub, asgT_tup, asgTs_nil, asgTs_cons, Res.bind_ok, Res.bind_exc, lift_some, noExc_ok, truth_bl, finish_rt, finish_nx, List.map_cons, List.map_nil, List.length_cons, List.length_nil, List.replicate_zero, List.replicate_succ, List.cons_append, List.nil_append, List.getElem?_cons_zero, List.getElem?_cons_succ, List.set_cons_zero, List.set_cons_succ, Bool.not_true, Bool.not_false, ↓reduceIte, Bool.false_eq_true, Nat.reduceAdd, Nat.reduceSub, Nat.reduceLT, Nat.reduceLeDiff, Nat.zero_add, id_eq, Nat.sub_self, Bool.true_and, Bool.and_true, Bool.false_and, Bool.and_false, Bool.true_or, Bool.or_true, Bool.false_or, Bool.or_false, isi_int, is_in, eq_int, beq_self_eq_true]
    | str s => simp -implicitDefEqProofs only [Law.d__law_same, startE, exs_nil, exs_cons, ex_pass, ex_expr, ex_asg, ex_ifs, ex_for, ex_ret, ex_retN, ex_brk, ex_cont, ex_never, ev_var, ev_lit, ev_op1, ev_op2, ev_op3, ev_opN, ev_opM, ev_meth, ev_frz, ev_lst, ev_tup, ev_and, ev_or, ev_not, ev_ite, ev_chain, ev_call, ev_comp, evs_nil, evs_cons, Res.bind_assoc, evT, asgT_name, asgT_sub, asgT_tup, asgTs_nil, asgTs_cons, Res.bind_ok, Res.bind_exc, lift_some, noExc_ok, truth_bl, finish_rt, finish_nx, List.map_cons, List.map_nil, List.length_cons, List.length_nil, List.replicate_zero, List.replicate_succ, List.cons_append, List.nil_append, List.getElem?_cons_zero, List.getElem?_cons_succ, List.set_cons_zero, List.set_cons_succ, Bool.not_true, Bool.not_false, ↓reduceIte, Bool.false_eq_true, Nat.reduceAdd, Nat.reduceSub, Nat.reduceLT, Nat.reduceLeDiff, Nat.zero_add, id_eq, Nat.sub_self, Bool.true_and, Bool.and_true, Bool.false_and, Bool.and_false, Bool.true_or, Bool.or_true, Bool.false_or, Bool.or_false, isi_str, is_sn, eq_strs μ s (by unfold gd at h; exact h)]
    | _ => unfold gd at h; exact absurd h Bool.false_ne_true
  | succ k ih =>
    intro n μ d h
    cases d with
    | non => rw [callD_eq hP rfl]; simp -implicitDefEqProofs only [Law.d__law_same, startE, exs_nil, exs_cons, ex_pass, ex_expr, ex_asg, ex_ifs, ex_for, ex_ret, ex_retN, ex_brk, ex_cont, ex_never, ev_var, ev_lit, ev_op1, ev_op2, ev_op3, ev_opN, ev_opM, ev_meth, ev_frz, ev_lst, ev_tup, ev_and, ev_or, ev_not, ev_ite, ev_chain, ev_call, ev_comp, evs_nil, evs_cons, Res.bind_assoc, evT, asgT_name, asgT_sub, asgT_tup, asgTs_nil, asgTs_cons, Res.bind_ok, Res.bind_exc, lift_some, noExc_ok, truth_bl, finish_rt, finish_nx, List.map_cons, List.map_nil, List.length_cons, List.length_nil, List.replicate_zero, List.replicate_succ, List.cons_append, List.nil_append, List.getElem?_cons_zero, List.getElem?_cons_succ, List.set_cons_zero, List.set_cons_succ, Bool.not_true, Bool.not_false, ↓reduceIte, Bool.false_eq_true, Nat.reduceAdd, Nat.reduceSub, Nat.reduceLT, Nat.reduceLeDiff, Nat.zero_add, id_eq, Nat.sub_self, Bool.true_and, Bool.and_true, Bool.false_and, Bool.and_false, Bool.true_or, Bool.or_true, Bool.false_or, Bool.or_false, isi_non, is_nn]
    | bl b => rw [callD_eq hP rfl]; simp -implicitDefEqProofs only [Law.d__law_same, startE, exs_nil, exs_cons, ex_pass, ex_expr, ex_asg, ex_ifs, ex_for, ex_ret, ex_retN, ex_brk, ex_cont, ex_never, ev_var, ev_lit, ev_op1, ev_op2, ev_op3, ev_opN, ev_opM, ev_meth, ev_frz, ev_lst, ev_tup, ev_and, ev_or, ev_not, ev_ite, ev_chain, ev_call, ev_comp, evs_nil, evs_cons, Res.bind_assoc, evT, asgT_name, asgT_sub, asgT_tup, asgTs_nil, asgTs_cons, Res.bind_ok, Res.bind_exc, lift_some, noExc_ok, truth_bl, finish_rt, finish_nx, List.map_cons, List.map_nil, List.length_cons, List.length_nil, List.replicate_zero, List.replicate_succ, List.cons_append, List.nil_append, List.getElem?_cons_zero, List.getElem?_cons_succ, List.set_cons_zero, List.set_cons_succ, Bool.not_true, Bool.not_false, ↓reduceIte, Bool.false_eq_true, Nat.reduceAdd, Nat.reduceSub, Nat.reduceLT, Nat.reduceLeDiff, Nat.zero_add, id_eq, Nat.sub_self, Bool.true_and, Bool.and_true, Bool.false_and, Bool.and_false, Bool.true_or, Bool.or_true, Bool.false_or, Bool.or_false, isi_bl, is_bn, eq_bls]
    | int i => rw [callD_eq hP rfl]; simp -implicitDefEqProofs only [Law.d__law_same, startE, exs_nil, exs_cons, ex_pass, ex_expr, ex_asg, ex_ifs, ex_for, ex_ret, ex_retN, ex_brk, ex_cont, ex_never, ev_var, ev_lit, ev_op1, ev_op2, ev_op3, ev_opN, ev_opM, ev_meth, ev_frz, ev_lst, ev_tup, ev_and, ev_or, ev_not, ev_ite, ev_chain, ev_call, ev_comp, evs_nil, evs_cons, Res.bind_assoc, evT, asgT_name, asgT_sub, asgT_tup, asgTs_nil, asgTs_cons, Res.bind_ok, Res.bind_exc, lift_some, noExc_ok, truth_bl, finish_rt, finish_nx, List.map_cons, List.map_nil, List.length_cons, List.length_nil, List.replicate_zero, List.replicate_succ, List.cons_append, List.nil_append, List.getElem?_cons_zero, List.getElem?_cons_succ, List.set_cons_zero, List.set_cons_succ, Bool.not_true, Bool.not_false, ↓reduceIte, Bool.false_eq_true, Nat.reduceAdd, Nat.reduceSub, Nat.reduceLT, Nat.reduceLeDiff, Nat.zero_add, id_eq, Nat.sub_self, Bool.true_and, Bool.and_true, Bool.false_and, Bool.and_false, Bool.true_or, Bool.or_true, Bool.false_or, Bool.or_false, isi_int, is_in, eq_int, beq_self_eq_true]
    | str s => rw [callD_eq hP rfl]; simp -implicitDefEqProofs only [Law.d__law_same, startE, exs_nil, exs_cons, ex_pass, ex_expr, ex_asg, ex_ifs, ex_for, ex_ret, ex_retN, ex_brk, ex_cont, ex_never, ev_var, ev_lit, ev_op1, ev_op2, ev_op3, ev_opN, ev_opM, ev_meth, ev_frz, ev_lst, ev_tup, ev_and, ev_or, ev_not, ev_ite, ev_chain, ev_call, ev_comp, evs_nil, evs_cons, Res.bind_assoc, evT, asgT_name, asgT_sub, asgT_tup, asgTs_nil, asgTs_cons, Res.bind_ok, Res.bind_exc, lift_some, noExc_ok, truth_bl, finish_rt, finish_nx, List.map_cons, List.map_nil, List.length_cons, List.length_nil, List.replicate_zero, List.replicate_succ, List.cons_append, List.nil_append, List.getElem?_cons_zero, List.getElem?_cons_succ, List.set_cons_zero, List.set_cons_succ, Bool.not_true, Bool.not_false, ↓reduceIte, Bool.false_eq_true, Nat.reduceAdd, Nat.reduceSub, Nat.reduceLT, Nat.reduceLeDiff, Nat.zero_add, id_eq, Nat.sub_self, Bool.true_and, Bool.and_true, Bool.false_and, Bool.and_false, Bool.true_or, Bool.or_true, Bool.false_or, Bool.or_false, isi_str, is_sn, eq_strs μ s (by unfold gd at h; exact h)]
    | tup ds => exact same_tup hP k n ih μ ds h
    | lst ds => exact same_lst hP k n ih μ ds h
    | _ => unfold gd at h; exact absurd h Bool.false_ne_true
end
end Ev

namespace Ev
open Res
/-- the sign at a place -/
abbrev at' (s : List Nat) (i : Nat) : Nat := s.getD i 0
theorem at_mem {s : List Nat} {i : Nat} (h : i < s.length) : at' s i ∈ s := by simp [at', List.getD, h]
/-- a stacking -/
structure Stk (s : List Nat) : Prop where
  pos : 1 ≤ s.length
  le : s.length ≤ 24
  ltr : ∀ c ∈ s, isL c = true
  nb : ∀ i, i + 1 < s.length → at' s i ≠ at' s (i + 1)
/-- a closed one -/
structure Clo (s : List Nat) : Prop extends Stk s where
  rd : at' s 0 ≠ at' s (s.length - 1)
theorem nb_iff : ∀ s : List Nat, ((s.zip (s.drop 1)).all fun p => p.1 != p.2) = true ↔ ∀ i, i + 1 < s.length → at' s i ≠ at' s (i + 1)
  | [] => by simp
  | [a] => by simp
  | a :: b :: s => by
    have ih := nb_iff (b :: s)
    simp only [List.drop_succ_cons, List.drop_zero, List.zip_cons_cons, List.all_cons, Bool.and_eq_true] at ih ⊢
    have e : ((s.drop 0)) = s := rfl
    constructor
    · intro ⟨h1, h2⟩ i hi
      cases i with
      | zero => simpa using h1
      | succ i =>
        have := ih.mp h2 i (by simpa using hi)
        simpa using this
    · intro h
      refine ⟨by simpa using h 0 (by simp), ih.mpr fun i hi => ?_⟩
      have := h (i + 1) (by simpa using hi)
      simpa using this
theorem stkB_iff (s : List Nat) : stkB s = true ↔ Stk s := by
  unfold stkB
  rw [Bool.and_eq_true, Bool.and_eq_true, Bool.and_eq_true, nb_iff, List.all_eq_true, decide_eq_true_iff, decide_eq_true_iff]
  exact ⟨fun ⟨⟨⟨a, b⟩, c⟩, d⟩ => ⟨b, c, a, d⟩, fun h => ⟨⟨⟨h.ltr, h.pos⟩, h.le⟩, h.nb⟩⟩
theorem Stk.cap {s : List Nat} (h : Stk s) : s.length ≤ cap := Nat.le_trans h.le (by decide)
theorem Stk.uni {s : List Nat} (h : Stk s) : ∀ c ∈ s, c < 1114112 := fun c hc => isL_lt (h.ltr c hc)
theorem Stk.at {s : List Nat} (h : Stk s) {i : Nat} (hi : i < s.length) : isL (at' s i) = true := h.ltr _ (at_mem hi)
theorem Clo.two {s : List Nat} (h : Clo s) : 2 ≤ s.length := by
  have h1 := h.pos
  have := h.rd
  by_cases h2 : s.length = 1
  · rw [h2] at this; exact absurd rfl this
  · omega
/-- neighbours, going round -/
theorem Clo.ring {s : List Nat} (h : Clo s) {i : Nat} (hi : i < s.length) : at' s i ≠ at' s ((i + 1) % s.length) := by
  by_cases h1 : i + 1 < s.length
  · rw [Nat.mod_eq_of_lt h1]; exact h.nb i h1
  · have e : i + 1 = s.length := by omega
    rw [e, Nat.mod_self, show i = s.length - 1 by omega]
    exact fun z => h.rd z.symm
section
variable {P : String → Option FD} {n : Nat} {μ : Store}
/-! ### letters -/
theorem isL_cases {c : Nat} (h : isL c = true) : c = 65 ∨ c = 66 ∨ c = 67 := by
  unfold isL at h; simp at h; omega
theorem index_abc (μ : Store) {c : Nat} (h : isL c = true) : mIndex [.str [65, 66, 67], .str [c]] μ = .ok (.int ((c : Int) - 65)) μ := by
  rcases isL_cases h with rfl | rfl | rfl <;> rfl
theorem number_of_ok (hP : P "number_of" = some Law.d_number_of) {c : Nat} (h : isL c = true) : callD P (n + 1) "number_of" [.str [c]] μ = .ok (.int ((c : Int) - 65)) μ := by
  rw [callD_eq hP rfl]
  simp -implicitDefEqProofs only [Law.d_number_of, startE, exs_nil, exs_cons, ex_pass, ex_expr, ex_asg, ex_ifs, ex_for, ex_ret, ex_retN, ex_brk, ex_cont, ex_never, ev_var, ev_lit, ev_op1, ev_op2, ev_op3, ev_opN, ev_opM, ev_meth, ev_frz, ev_lst, ev_tup, ev_and, ev_or, ev_not, ev_ite, ev_chain, ev_call, ev_comp, evs_nil, evs_cons, Res.bind_assoc, evT, asgT_name, asgT_sub, asgT_tup, asgTs_nil, asgTs_cons, Res.bind_ok, Res.bind_exc, lift_some, noExc_ok, truth_bl, finish_rt, finish_nx, List.map_cons, List.map_nil, List.length_cons, List.length_nil, List.replicate_zero, List.replicate_succ, List.cons_append, List.nil_append, List.getElem?_cons_zero, List.getElem?_cons_succ, List.set_cons_zero, List.set_cons_succ, Bool.not_true, Bool.not_false, ↓reduceIte, Bool.false_eq_true, Nat.reduceAdd, Nat.reduceSub, Nat.reduceLT, Nat.reduceLeDiff, Nat.zero_add, id_eq, Nat.sub_self, Bool.true_and, Bool.and_true, Bool.false_and, Bool.and_false, Bool.true_or, Bool.or_true, Bool.false_or, Bool.or_false, isStr, index_abc μ h]
end
end Ev

namespace Ev
open Res
/-- letters, unlike neighbours -/
structure Pre (s : List Nat) : Prop where
  ltr : ∀ c ∈ s, isL c = true
  nb : ∀ i, i + 1 < s.length → at' s i ≠ at' s (i + 1)
theorem Pre.one {c : Nat} (h : isL c = true) : Pre [c] := ⟨fun d hd => by rw [List.mem_singleton.mp hd]; exact h, fun i hi => by simp at hi⟩
theorem at_app {s : List Nat} {c i : Nat} (h : i < s.length) : at' (s ++ [c]) i = at' s i := by
  show (s ++ [c]).getD i 0 = s.getD i 0
  rw [List.getD_eq_getElem?_getD, List.getD_eq_getElem?_getD, List.getElem?_append_left h]
theorem at_last (s : List Nat) (c : Nat) : at' (s ++ [c]) s.length = c := by simp [at']
theorem Pre.app {s : List Nat} {c : Nat} (h : Pre s) (hc : isL c = true) (hn : 0 < s.length → c ≠ at' s (s.length - 1)) : Pre (s ++ [c]) := by
  refine ⟨fun d hd => ?_, fun i hi => ?_⟩
  · rcases List.mem_append.mp hd with z | z
    · exact h.ltr d z
    · rw [List.mem_singleton.mp z]; exact hc
  · rw [List.length_append, List.length_singleton] at hi
    by_cases h1 : i + 1 < s.length
    · rw [at_app (by omega), at_app h1]; exact h.nb i h1
    · have e : i + 1 = s.length := by omega
      rw [e, at_last, at_app (by omega), show i = s.length - 1 by omega]
      exact fun z => hn (by omega) z.symm
theorem Pre.stk {s : List Nat} (h : Pre s) (h1 : 1 ≤ s.length) (h2 : s.length ≤ 24) : Stk s := ⟨h1, h2, h.ltr, h.nb⟩
theorem abc_ex {a b : Nat} (ha : isL a = true) (hb : isL b = true) : ∃ c ∈ [65, 66, 67], c ≠ a ∧ c ≠ b := by
  rcases isL_cases ha with rfl | rfl | rfl <;> rcases isL_cases hb with rfl | rfl | rfl <;> decide
theorem abc_isL {c : Nat} (h : c ∈ [65, 66, 67]) : isL c = true := by
  simp at h
  rcases h with rfl | rfl | rfl <;> rfl
theorem cmpOks_signs {k : Nat} : ∀ {xs : List Nat}, (∀ c ∈ xs, c < 1114112) → cmpOks k (xs.map fun c => D.str [c]) = true
  | [], _ => by unfold cmpOks; rfl
  | c :: xs, h => by
    rw [List.map_cons]
    unfold cmpOks
    rw [cmpOks_signs (fun d hd => h d (List.mem_cons_of_mem _ hd))]
    have : c < 1114112 := h c List.mem_cons_self
    unfold cmpOk
    simp [this]
theorem ne_nil (μ : Store) {xs : List Nat} (h : ∀ c ∈ xs, c < 1114112) : fNe μ (.lst (xs.map fun c => D.str [c])) (.lst []) = some (.bl (!xs.isEmpty)) := by
  have h1 : cmpOk 8 (.lst (xs.map fun c => D.str [c])) = true := by unfold cmpOk; exact cmpOks_signs h
  have h2 : cmpOk 8 (.lst []) = true := by unfold cmpOk cmpOks; rfl
  simp only [fNe, rd, asL, h1, h2, Bool.and_self, ↓reduceIte]
  cases xs with
  | nil => unfold eqD eqDs; rfl
  | cons c xs => unfold eqD; rw [List.map_cons]; unfold eqDs; rfl
theorem add_str (μ : Store) {s t : List Nat} (h : s.length + t.length ≤ cap) : fAdd μ (.str s) (.str t) = some (.str (s ++ t)) := by
  simp only [fAdd, h, ↓reduceIte]
theorem val_str (μ : Store) (s : List Nat) : fVal μ [.str s] = some (s.map fun c => .str [c]) := rfl
theorem val_lst (μ : Store) (ds : List D) : fVal μ [.lst ds] = some ds := rfl
theorem val_tup (μ : Store) (ds : List D) : fVal μ [.tup ds] = some ds := rfl
theorem rng2 (μ : Store) {i j : Nat} (h : j < 1000000) (hij : i ≤ j) : fRng2 μ [.int i, .int j] = some ((List.range (j - i)).map fun k => .int ((i + k : Nat) : Int)) := by
  have h1 : rngOk (i : Int) = true := by unfold rngOk; simp; omega
  have h2 : rngOk (j : Int) = true := by unfold rngOk; simp; omega
  have h3 : ((j : Int) - i).toNat = j - i := by omega
  simp only [fRng2, h1, h2, Bool.and_self, ↓reduceIte, rngD, h3]
  refine congrArg some (List.map_congr_left fun k _ => ?_)
  simp
theorem compLoop_inv {step : D → Store → Res (Option D)} (I : Store → Prop) (Q : D → Prop) : ∀ (items : List D) (μ : Store), I μ → (∀ d ∈ items, ∀ μ, I μ → ∃ y μ', step d μ = .ok (some y) μ' ∧ Q y ∧ I μ') →
    ∃ ys μ', compLoop step items μ = .ok ys μ' ∧ ys.length = items.length ∧ (∀ y ∈ ys, Q y) ∧ I μ'
  | [], μ, h0, _ => ⟨[], μ, rfl, rfl, fun _ h => by simp at h, h0⟩
  | d :: items, μ, h0, hs => by
    obtain ⟨y, μ1, e1, q1, h1⟩ := hs d List.mem_cons_self μ h0
    obtain ⟨ys, μ2, e2, l2, q2, h2⟩ := compLoop_inv I Q items μ1 h1 fun d hd => hs d (List.mem_cons_of_mem _ hd)
    refine ⟨y :: ys, μ2, ?_, by simp [l2], fun z hz => ?_, h2⟩
    · rw [compLoop, e1, noExc_ok, bind_ok, e2]; rfl
    · rcases List.mem_cons.mp hz with rfl | h
      · exact q1
      · exact q2 z h
theorem get_rng0 {n j : Nat} {d : D} {f : Nat → D} (h : ((List.range n).map f)[j]? = some d) : j < n ∧ d = f j := by
  rw [List.getElem?_map] at h
  by_cases hj : j < n
  · rw [List.getElem?_range hj] at h
    exact ⟨hj, (Option.some.inj h).symm⟩
  · rw [List.getElem?_eq_none (by rw [List.length_range]; omega)] at h; cases h
section
variable {P : String → Option FD} {n : Nat} {μ : Store}
end
end Ev

namespace Ev
open Res
theorem sl_scr (μ : Store) (ns : List Int) (k : Nat) : ∃ l : List Int, fSl μ (.scr ns) .non (.int k) = some (.lst (l.map .int)) ∧ l.length ≤ k := by
  have h1 : ptOf ns.length ns.length (.int k) = some (min k ns.length) := by
    show some (if (k : Int) < 0 then _ else min (k : Int).toNat ns.length) = _
    rw [if_neg (by omega)]; rfl
  refine ⟨cutL ns 0 (min k ns.length), ?_, ?_⟩
  · simp only [fSl, ptOf_non, h1]
  · unfold cutL
    rw [List.length_take]
    exact Nat.le_trans (Nat.min_le_left _ _) (Nat.le_trans (Nat.sub_le _ _) (Nat.min_le_left _ _))
theorem sum_ints (μ : Store) (l : List Int) : fSumD μ [.lst (l.map .int)] = some (.int l.sum) := by
  have h : intsOf (l.map D.int) = some l := by
    have := intsOf_map (fun i : Int => i) l
    simpa using this
  show (match intsOf (l.map D.int) with | some ns => _ | none => _) = _
  rw [h]
theorem add_lsts (μ : Store) {a b : List D} (h : a.length + b.length ≤ cap) : fAdd μ (.lst a) (.lst b) = some (.lst (a ++ b)) := by
  simp only [fAdd, asL, h, ↓reduceIte]
theorem len_scr (μ : Store) (ns : List Int) : fLen μ [.scr ns] = some (.int ns.length) := rfl
theorem ix_scr (μ : Store) {ns : List Int} {i : Nat} (h : i < ns.length) : fIx μ (.scr ns) (.int i) = some (.int (ns.getD i 0)) := by
  simp only [fIx, ixOf_nat h, Option.bind_some]
  rw [getD_of 0 h]; rfl
section
variable {P : String → Option FD} {n : Nat} {μ : Store}
theorem law_well_ok (hP : P "_law_well" = some Law.d__law_well) (ns : List Int) (t : Nat) (hns : ns.length ≤ 63) : ∃ a b c : Int, callD P (n + 1) "_law_well" [.scr ns, .int t] μ = .ok (.ref μ.length) (μ ++ [.lst [.int a, .int b, .int c]]) := by
  obtain ⟨l2, s2, _⟩ := sl_scr μ ns 3
  obtain ⟨l5, s5, h5⟩ := sl_scr μ ns 6
  have s2' : fSl μ (.scr ns) .non (.int 3) = some (.lst (l2.map .int)) := s2
  have s5' : fSl μ (.scr ns) .non (.int 6) = some (.lst (l5.map .int)) := s5
  have own : ∃ o : Int, ev (callD P n) (.ite (.op2 fLt (.var 1) (.opN fLen [.var 0])) (.opN fInt [.op2 fIx (.var 0) (.var 1)]) (.op2 fAdd (.op2 fAdd (.op2 fMul (.lit (.int 7919)) (.var 1)) (.op2 fMod (.opN fInt [.opN fSumD [.op3 fSl (.var 0) (.lit .non) (.op1 fI (.lit (.int 3)))]]) (.lit (.int 1000003)))) (.lit (.int 29)))) [some (.scr ns), some (.int t), none, none, none] μ = .ok (.int o) μ := by
    by_cases h : t < ns.length
    · refine ⟨ns.getD t 0, ?_⟩
      have hd : decide ((t : Int) < ns.length) = true := decide_eq_true (by omega)
      simp -implicitDefEqProofs only [startE, exs_nil, exs_cons, ex_pass, ex_expr, ex_asg, ex_ifs, ex_for, ex_ret, ex_retN, ex_brk, ex_cont, ex_never, ev_var, ev_lit, ev_op1, ev_op2, ev_op3, ev_opN, ev_opM, ev_meth, ev_frz, ev_lst, ev_tup, ev_and, ev_or, ev_not, ev_ite, ev_chain, ev_call, ev_comp, evs_nil, evs_cons, Res.bind_assoc, evT, asgT_name, asgT_sub, asgT_tup, asgTs_nil, asgTs_cons, Res.bind_ok, Res.bind_exc, lift_some, noExc_ok, truth_bl, finish_rt, finish_nx, List.map_cons, List.map_nil, List.length_cons, List.length_nil, List.replicate_zero, List.replicate_succ, List.cons_append, List.nil_append, List.getElem?_cons_zero, List.getElem?_cons_succ, List.set_cons_zero, List.set_cons_succ, Bool.not_true, Bool.not_false, ↓reduceIte, Bool.false_eq_true, Nat.reduceAdd, Nat.reduceSub, Nat.reduceLT, Nat.reduceLeDiff, Nat.zero_add, id_eq, Nat.sub_self, Bool.true_and, Bool.and_true, Bool.false_and, Bool.and_false, Bool.true_or, Bool.or_true, Bool.false_or, Bool.or_false, len_scr, lt_int, hd, ix_scr μ h, int_int]
    · have hd : decide ((t : Int) < ns.length) = false := decide_eq_false (by omega)
      refine ⟨7919 * t + l2.sum % 1000003 + 29, ?_⟩
      simp -implicitDefEqProofs only [startE, exs_nil, exs_cons, ex_pass, ex_expr, ex_asg, ex_ifs, ex_for, ex_ret, ex_retN, ex_brk, ex_cont, ex_never, ev_var, ev_lit, ev_op1, ev_op2, ev_op3, ev_opN, ev_opM, ev_meth, ev_frz, ev_lst, ev_tup, ev_and, ev_or, ev_not, ev_ite, ev_chain, ev_call, ev_comp, evs_nil, evs_cons, Res.bind_assoc, evT, asgT_name, asgT_sub, asgT_tup, asgTs_nil, asgTs_cons, Res.bind_ok, Res.bind_exc, lift_some, noExc_ok, truth_bl, finish_rt, finish_nx, List.map_cons, List.map_nil, List.length_cons, List.length_nil, List.replicate_zero, List.replicate_succ, List.cons_append, List.nil_append, List.getElem?_cons_zero, List.getElem?_cons_succ, List.set_cons_zero, List.set_cons_succ, Bool.not_true, Bool.not_false, ↓reduceIte, Bool.false_eq_true, Nat.reduceAdd, Nat.reduceSub, Nat.reduceLT, Nat.reduceLeDiff, Nat.zero_add, id_eq, Nat.sub_self, Bool.true_and, Bool.and_true, Bool.false_and, Bool.and_false, Bool.true_or, Bool.or_true, Bool.false_or, Bool.or_false, len_scr, lt_int, hd, fI_int, s2', sum_ints, int_int, mod_pos μ _ (show (0 : Int) < 1000003 by decide), mul_l μ t (show (7919 : Int).natAbs < 18446744073709551616 by decide), add_int]
  obtain ⟨o, eo⟩ := own
  rw [callD_eq hP rfl]
  have hl1 : (l5.map D.int).length + [D.int o].length ≤ cap := by
    have : (l5.map D.int).length + [D.int o].length ≤ 7 := by rw [List.length_map, List.length_singleton]; omega
    exact Nat.le_trans this (by decide)
  have m1 : mkL false [D.int o] μ = .ok (.lst [.int o]) μ := mkL_val _ _ (show 1 ≤ cap by decide)
  rw [show Law.d__law_well.body = (.asg (.name 2) (.ite (.op2 fLt (.var 1) (.opN fLen [.var 0])) (.opN fInt [.op2 fIx (.var 0) (.var 1)]) (.op2 fAdd (.op2 fAdd (.op2 fMul (.lit (.int 7919)) (.var 1)) (.op2 fMod (.opN fInt [.opN fSumD [.op3 fSl (.var 0) (.lit .non) (.op1 fI (.lit (.int 3)))]]) (.lit (.int 1000003)))) (.lit (.int 29))))) :: Law.d__law_well.body.drop 1 from rfl]
  rw [show startE Law.d__law_well [.scr ns, .int t] = [some (.scr ns), some (.int t), none, none, none] from rfl]
  rw [exs_cons, ex_asg, eo]
  simp -implicitDefEqProofs only [Law.d__law_well, startE, exs_nil, exs_cons, ex_pass, ex_expr, ex_asg, ex_ifs, ex_for, ex_ret, ex_retN, ex_brk, ex_cont, ex_never, ev_var, ev_lit, ev_op1, ev_op2, ev_op3, ev_opN, ev_opM, ev_meth, ev_frz, ev_lst, ev_tup, ev_and, ev_or, ev_not, ev_ite, ev_chain, ev_call, ev_comp, evs_nil, evs_cons, Res.bind_assoc, evT, asgT_name, asgT_sub, asgT_tup, asgTs_nil, asgTs_cons, Res.bind_ok, Res.bind_exc, lift_some, noExc_ok, truth_bl, finish_rt, finish_nx, List.map_cons, List.map_nil, List.length_cons, List.length_nil, List.replicate_zero, List.replicate_succ, List.cons_append, List.nil_append, List.getElem?_cons_zero, List.getElem?_cons_succ, List.set_cons_zero, List.set_cons_succ, Bool.not_true, Bool.not_false, ↓reduceIte, Bool.false_eq_true, Nat.reduceAdd, Nat.reduceSub, Nat.reduceLT, Nat.reduceLeDiff, Nat.zero_add, id_eq, Nat.sub_self, Bool.true_and, Bool.and_true, Bool.false_and, Bool.and_false, Bool.true_or, Bool.or_true, Bool.false_or, Bool.or_false, List.drop_succ_cons, List.drop_zero, mul_l μ t (show (977 : Int).natAbs < 18446744073709551616 by decide), add_int, fI_int, s5', m1, add_lsts μ hl1, val_lst]
  generalize hst : forStep _ _ _ = st
  obtain ⟨ρ', μ', e5, ⟨sv, o4, rfl, rfl⟩⟩ := forLoop_inv (step := st) (fun _ ρ μ' => ∃ (sv : Int) (o4 : Option D), ρ = [some (.scr ns), some (.int t), some (.int o), some (.int sv), o4] ∧ μ' = μ) (l5.map D.int ++ [.int o]) 0
    [some (.scr ns), some (.int t), some (.int o), some (.int (40127 + 977 * t)), none] μ ⟨_, _, rfl, rfl⟩ (by
      rintro j d ρ μ' hj ⟨sv, o4, rfl, rfl⟩
      obtain ⟨z, rfl⟩ : ∃ z : Int, d = .int z := by
        have := List.mem_of_getElem? hj
        rcases List.mem_append.mp this with h | h
        · obtain ⟨z, _, rfl⟩ := List.mem_map.mp h; exact ⟨z, rfl⟩
        · exact ⟨o, List.mem_singleton.mp h⟩
      subst hst
      refine ⟨_, _, ?_, (sv * 48271 + z % 2147483399 + 53) % 2147483563, some (.int z), rfl, rfl⟩
      simp -implicitDefEqProofs only [startE, exs_nil, exs_cons, ex_pass, ex_expr, ex_asg, ex_ifs, ex_for, ex_ret, ex_retN, ex_brk, ex_cont, ex_never, ev_var, ev_lit, ev_op1, ev_op2, ev_op3, ev_opN, ev_opM, ev_meth, ev_frz, ev_lst, ev_tup, ev_and, ev_or, ev_not, ev_ite, ev_chain, ev_call, ev_comp, evs_nil, evs_cons, Res.bind_assoc, evT, asgT_name, asgT_sub, asgT_tup, asgTs_nil, asgTs_cons, Res.bind_ok, Res.bind_exc, lift_some, noExc_ok, truth_bl, finish_rt, finish_nx, List.map_cons, List.map_nil, List.length_cons, List.length_nil, List.replicate_zero, List.replicate_succ, List.cons_append, List.nil_append, List.getElem?_cons_zero, List.getElem?_cons_succ, List.set_cons_zero, List.set_cons_succ, Bool.not_true, Bool.not_false, ↓reduceIte, Bool.false_eq_true, Nat.reduceAdd, Nat.reduceSub, Nat.reduceLT, Nat.reduceLeDiff, Nat.zero_add, id_eq, Nat.sub_self, Bool.true_and, Bool.and_true, Bool.false_and, Bool.and_false, Bool.true_or, Bool.or_true, Bool.false_or, Bool.or_false, compStep, forStep, bindT_name, bindT_tup, bindT_str, bindTs_nil, bindTs_cons, wipeE, List.length_set, mul_r μ' sv (show (48271 : Int).natAbs < 18446744073709551616 by decide), int_int, mod_pos μ' _ (show (0 : Int) < 2147483399 by decide), mod_pos μ' _ (show (0 : Int) < 2147483563 by decide), add_int])
  have pw : fPow μ' (.int 10) (.int 17) = some (.int (10 ^ 17)) := rfl
  have ab : fAbs μ' [.int o] = some (.int (if o < 0 then -o else o)) := rfl
  have mk : ∀ a, mkL true [.int a, .int sv, .int 0] μ' = .ok (.ref μ'.length) (μ' ++ [.lst [.int a, .int sv, .int 0]]) := fun _ => rfl
  rw [e5]
  cases h1 : decide (o < 0) with
  | true => exact ⟨if o < 0 then -o else o, sv, 0, by simp -implicitDefEqProofs only [startE, exs_nil, exs_cons, ex_pass, ex_expr, ex_asg, ex_ifs, ex_for, ex_ret, ex_retN, ex_brk, ex_cont, ex_never, ev_var, ev_lit, ev_op1, ev_op2, ev_op3, ev_opN, ev_opM, ev_meth, ev_frz, ev_lst, ev_tup, ev_and, ev_or, ev_not, ev_ite, ev_chain, ev_call, ev_comp, evs_nil, evs_cons, Res.bind_assoc, evT, asgT_name, asgT_sub, asgT_tup, asgTs_nil, asgTs_cons, Res.bind_ok, Res.bind_exc, lift_some, noExc_ok, truth_bl, finish_rt, finish_nx, List.map_cons, List.map_nil, List.length_cons, List.length_nil, List.replicate_zero, List.replicate_succ, List.cons_append, List.nil_append, List.getElem?_cons_zero, List.getElem?_cons_succ, List.set_cons_zero, List.set_cons_succ, Bool.not_true, Bool.not_false, ↓reduceIte, Bool.false_eq_true, Nat.reduceAdd, Nat.reduceSub, Nat.reduceLT, Nat.reduceLeDiff, Nat.zero_add, id_eq, Nat.sub_self, Bool.true_and, Bool.and_true, Bool.false_and, Bool.and_false, Bool.true_or, Bool.or_true, Bool.false_or, Bool.or_false, lt_int, h1, ab, mk]; rfl⟩
  | false =>
    cases h2 : decide (((10 : Int) ^ 17) ≤ o) with
    | true => exact ⟨if o < 0 then -o else o, sv, 0, by simp -implicitDefEqProofs only [startE, exs_nil, exs_cons, ex_pass, ex_expr, ex_asg, ex_ifs, ex_for, ex_ret, ex_retN, ex_brk, ex_cont, ex_never, ev_var, ev_lit, ev_op1, ev_op2, ev_op3, ev_opN, ev_opM, ev_meth, ev_frz, ev_lst, ev_tup, ev_and, ev_or, ev_not, ev_ite, ev_chain, ev_call, ev_comp, evs_nil, evs_cons, Res.bind_assoc, evT, asgT_name, asgT_sub, asgT_tup, asgTs_nil, asgTs_cons, Res.bind_ok, Res.bind_exc, lift_some, noExc_ok, truth_bl, finish_rt, finish_nx, List.map_cons, List.map_nil, List.length_cons, List.length_nil, List.replicate_zero, List.replicate_succ, List.cons_append, List.nil_append, List.getElem?_cons_zero, List.getElem?_cons_succ, List.set_cons_zero, List.set_cons_succ, Bool.not_true, Bool.not_false, ↓reduceIte, Bool.false_eq_true, Nat.reduceAdd, Nat.reduceSub, Nat.reduceLT, Nat.reduceLeDiff, Nat.zero_add, id_eq, Nat.sub_self, Bool.true_and, Bool.and_true, Bool.false_and, Bool.and_false, Bool.true_or, Bool.or_true, Bool.false_or, Bool.or_false, lt_int, h1, pw, ge_int, h2, ab, mk]; rfl⟩
    | false => exact ⟨0, sv, 0, by simp -implicitDefEqProofs only [startE, exs_nil, exs_cons, ex_pass, ex_expr, ex_asg, ex_ifs, ex_for, ex_ret, ex_retN, ex_brk, ex_cont, ex_never, ev_var, ev_lit, ev_op1, ev_op2, ev_op3, ev_opN, ev_opM, ev_meth, ev_frz, ev_lst, ev_tup, ev_and, ev_or, ev_not, ev_ite, ev_chain, ev_call, ev_comp, evs_nil, evs_cons, Res.bind_assoc, evT, asgT_name, asgT_sub, asgT_tup, asgTs_nil, asgTs_cons, Res.bind_ok, Res.bind_exc, lift_some, noExc_ok, truth_bl, finish_rt, finish_nx, List.map_cons, List.map_nil, List.length_cons, List.length_nil, List.replicate_zero, List.replicate_succ, List.cons_append, List.nil_append, List.getElem?_cons_zero, List.getElem?_cons_succ, List.set_cons_zero, List.set_cons_succ, Bool.not_true, Bool.not_false, ↓reduceIte, Bool.false_eq_true, Nat.reduceAdd, Nat.reduceSub, Nat.reduceLT, Nat.reduceLeDiff, Nat.zero_add, id_eq, Nat.sub_self, Bool.true_and, Bool.and_true, Bool.false_and, Bool.and_false, Bool.true_or, Bool.or_true, Bool.false_or, Bool.or_false, lt_int, h1, pw, ge_int, h2, mk]; rfl⟩
end
end Ev

namespace Ev
open Res
theorem compLoop_nil (step : D → Store → Res (Option D)) (μ : Store) : compLoop step [] μ = .ok [] μ := rfl
theorem compLoop_cons (step : D → Store → Res (Option D)) (d : D) (ds : List D) (μ : Store) : compLoop step (d :: ds) μ = (noExc (step d μ)).bind fun o μ1 => (compLoop step ds μ1).bind fun r μ2 => .ok (match o with | some y => y :: r | none => r) μ2 := rfl
theorem get_mid {α : Type} (a : List α) (x : α) (r : List α) : (a ++ x :: r)[a.length]? = some x := by simp
theorem set_mid {α : Type} (a : List α) (x y : α) (r : List α) : (a ++ x :: r).set a.length y = a ++ y :: r := by simp
theorem get_rng {n j : Nat} {d : D} {f : Nat → D} (h : ((List.range n).map f)[j]? = some d) : j < n ∧ d = f j := by
  rw [List.getElem?_map] at h
  by_cases hj : j < n
  · rw [List.getElem?_range hj] at h
    exact ⟨hj, (Option.some.inj h).symm⟩
  · rw [List.getElem?_eq_none (by rw [List.length_range]; omega)] at h; cases h
theorem join_nil : ∀ xs : List Nat, joinL [] (xs.map fun c => [c]) = xs
  | [] => rfl
  | [c] => rfl
  | c :: d :: xs => by
    have := join_nil (d :: xs)
    simp only [List.map_cons] at this ⊢
    rw [joinL, this]; rfl
    intro z; cases z
section
variable {P : String → Option FD} {n : Nat} {μ : Store}
theorem sum_ones : ∀ xs : List Nat, ((xs.map fun c => [c]).map List.length).sum = xs.length
  | [] => rfl
  | a :: xs => by
    rw [List.map_cons, List.map_cons, List.sum_cons, sum_ones xs, List.length_cons]
    simp; omega
theorem join_signs (xs : List Nat) (h : xs.length ≤ cap) : mJoin [.str [], .lst (xs.map fun c => .str [c])] μ = .ok (.str xs) μ := by
  have hs : strsOf (xs.map fun c => D.str [c]) = some (xs.map fun c => [c]) := strsOf_map (fun c => [c]) xs
  have hsum : ((xs.map fun c => [c]).map List.length).sum + (xs.map fun c => [c]).length * ([] : List Nat).length ≤ cap := by
    rw [sum_ones]; simpa using h
  simp only [mJoin, seqOf, asL, hs]
  rw [if_pos hsum, join_nil]
end
end Ev

namespace Ev
open Res
/-! ## what holds in each law -/
def lastD (f : List Nat) : Nat := at' f (f.length - 1)
theorem lastD_app (f : List Nat) (c : Nat) : lastD (f ++ [c]) = c := by
  unfold lastD
  rw [List.length_append, List.length_singleton, Nat.add_sub_cancel]
  exact at_last _ _
section
variable {P : String → Option FD} {n : Nat} {μ : Store}
theorem cap100 {n : Nat} (h : n ≤ 100) : n ≤ cap := Nat.le_trans h (by decide)
theorem mcount (s : List Nat) (c : Nat) : mCount [.str s, .str [c]] μ = .ok (.int (s.count c : Nat)) μ := rfl
theorem sl_from (s : List Nat) (hs : s.length ≤ cap) {a : Nat} (ha : a ≤ s.length) : fSl μ (.str s) (.int a) .non = some (.str (s.drop a)) := by
  have h1 : ptOf s.length 0 (.int a) = some a := by
    show some (if (a : Int) < 0 then _ else min (a : Int).toNat s.length) = _
    rw [if_neg (by omega)]; simp; omega
  simp only [fSl, hs, ↓reduceIte, h1, ptOf_non]
  unfold cutL
  rw [List.take_of_length_le (by rw [List.length_drop]; omega)]
theorem sl_to (s : List Nat) (hs : s.length ≤ cap) {a : Nat} (ha : a ≤ s.length) : fSl μ (.str s) .non (.int a) = some (.str (s.take a)) := by
  have h1 : ptOf s.length s.length (.int a) = some a := by
    show some (if (a : Int) < 0 then _ else min (a : Int).toNat s.length) = _
    rw [if_neg (by omega)]; simp; omega
  simp only [fSl, hs, ↓reduceIte, h1, ptOf_non]
  unfold cutL
  rw [List.drop_zero, Nat.sub_zero]
theorem sl_but1 (s : List Nat) (hs : s.length ≤ cap) (h0 : 1 ≤ s.length) : fSl μ (.str s) .non (.int (-1)) = some (.str (s.take (s.length - 1))) := by
  have h1 : ptOf s.length s.length (.int (-1)) = some (s.length - 1) := by
    show some (if (-1 : Int) < 0 then ((-1 : Int) + (s.length : Nat)).toNat else _) = _
    rw [if_pos (by decide)]; congr 1; omega
  simp only [fSl, hs, ↓reduceIte, h1, ptOf_non]
  unfold cutL
  rw [List.drop_zero, Nat.sub_zero]
theorem ix_last (μ : Store) {f : List Nat} (h : f.length ≤ cap) (h1 : 1 ≤ f.length) : fIx μ (.str f) (.int (-1)) = some (.str [lastD f]) := ix_strE μ h (j := 1) (by omega) h1
end
section
variable {cf : String → List D → Store → Res D} {ρ : Env} {μ : Store}
theorem ex_rse (x f : String) (e : CE) : ex cf (.rse x f e) ρ μ = (ev cf e ρ μ).bind fun d μ1 => .exc x (.exv x f d) μ1 := by conv => lhs; unfold ex
theorem ex_tr (k : TK) (e : CE) (p : String → Bool) (i : Nat) (hd : List CS) : ex cf (.tr k e p i hd) ρ μ = match ev cf e ρ μ with
    | .stuck => .stuck
    | .exc x d μ1 => if p x then (if i < ρ.length then (noExc (exs cf hd (ρ.set i (some d)) μ1)).bind fun fl μ2 => match fl with
        | .rt r => if noX r then .ok (.rt r) μ2 else .stuck
        | .nx ρ2 => if noXE (ρ2.set i none) then .ok (.nx (ρ2.set i none)) μ2 else .stuck
        | .ct ρ2 => if noXE (ρ2.set i none) then .ok (.ct (ρ2.set i none)) μ2 else .stuck
        | .bk ρ2 => if noXE (ρ2.set i none) then .ok (.bk (ρ2.set i none)) μ2 else .stuck else .stuck) else .stuck
    | .ok d μ1 => match k with
      | .ret => .ok (.rt d) μ1
      | .expr => .ok (.nx ρ) μ1
      | .asg t => (asgT cf t d ρ μ1).bind fun ρ1 μ2 => .ok (.nx ρ1) μ2 := by
  conv => lhs; unfold ex
  all_goals rfl
end
def dk (μ : Store) (n : Nat) : Bool := match μ[n]? with
  | some (.dct kvs) => decide ((kvs.map (·.1)).Nodup) && flatDs kvs
  | _ => false
mutual
def gv (μ : Store) : Nat → D → Bool
  | _, .non => true
  | _, .bl _ => true
  | _, .int _ => true
  | _, .str s => s.all (· < 1114112)
  | _, .ref n => dk μ n
  | k + 1, .tup ds => decide (ds.length < 1000000) && gvs μ k ds
  | k + 1, .lst ds => decide (ds.length < 1000000) && gvs μ k ds
  | _, _ => false
def gvs (μ : Store) : Nat → List D → Bool
  | _, [] => true
  | k, d :: ds => gv μ k d && gvs μ k ds
end
theorem gvs_mem {μ : Store} {k : Nat} : ∀ {ds : List D} {d : D}, gvs μ k ds = true → d ∈ ds → gv μ k d = true
  | [], _, _, h => by simp at h
  | e :: ds, d, h, hd => by
    unfold gvs at h
    obtain ⟨h1, h2⟩ := Bool.and_eq_true_iff.mp h
    rcases List.mem_cons.mp hd with rfl | q
    · exact h1
    · exact gvs_mem h2 q
mutual
theorem gv_mono {μ μ' : Store} (h : ∀ n, dk μ n = true → dk μ' n = true) : ∀ (k : Nat) (d : D), gv μ k d = true → gv μ' k d = true
  | _, .non, _ => by unfold gv; rfl
  | _, .bl _, _ => by unfold gv; rfl
  | _, .int _, _ => by unfold gv; rfl
  | _, .str s, g => by unfold gv at g ⊢; exact g
  | _, .ref n, g => by unfold gv at g ⊢; exact h n g
  | k + 1, .tup ds, g => by
    unfold gv at g ⊢
    obtain ⟨h1, h2⟩ := Bool.and_eq_true_iff.mp g
    rw [h1, gvs_mono h k ds h2]; rfl
  | k + 1, .lst ds, g => by
    unfold gv at g ⊢
    obtain ⟨h1, h2⟩ := Bool.and_eq_true_iff.mp g
    rw [h1, gvs_mono h k ds h2]; rfl
  | 0, .tup _, g => by unfold gv at g; cases g
  | 0, .lst _, g => by unfold gv at g; cases g
  | _, .gl _, g => by unfold gv at g; cases g
  | _, .ty _, g => by unfold gv at g; cases g
  | _, .scr _, g => by unfold gv at g; cases g
  | _, .dcv _ _, g => by unfold gv at g; cases g
  | _, .exv _ _ _, g => by unfold gv at g; cases g
theorem gvs_mono {μ μ' : Store} (h : ∀ n, dk μ n = true → dk μ' n = true) : ∀ (k : Nat) (ds : List D), gvs μ k ds = true → gvs μ' k ds = true
  | _, [], _ => by unfold gvs; rfl
  | k, d :: ds, g => by
    unfold gvs at g ⊢
    obtain ⟨h1, h2⟩ := Bool.and_eq_true_iff.mp g
    rw [gv_mono h k d h1, gvs_mono h k ds h2]; rfl
end
mutual
theorem gv_noX {μ : Store} : ∀ (k : Nat) (d : D), gv μ k d = true → noX d = true
  | _, .non, _ => rfl
  | _, .bl _, _ => rfl
  | _, .int _, _ => rfl
  | _, .str s, g => rfl
  | _, .ref n, g => rfl
  | k + 1, .tup ds, g => by
    unfold gv at g
    unfold noX
    exact gvs_noX k ds (Bool.and_eq_true_iff.mp g).2
  | k + 1, .lst ds, g => by
    unfold gv at g
    unfold noX
    exact gvs_noX k ds (Bool.and_eq_true_iff.mp g).2
  | 0, .tup _, g => by unfold gv at g; cases g
  | 0, .lst _, g => by unfold gv at g; cases g
  | _, .gl _, g => by unfold gv at g; cases g
  | _, .ty _, g => by unfold gv at g; cases g
  | _, .scr _, g => by unfold gv at g; cases g
  | _, .dcv _ _, g => by unfold gv at g; cases g
  | _, .exv _ _ _, g => by unfold gv at g; cases g
theorem gvs_noX {μ : Store} : ∀ (k : Nat) (ds : List D), gvs μ k ds = true → noXs ds = true
  | _, [], _ => rfl
  | k, d :: ds, g => by
    unfold gvs at g
    obtain ⟨h1, h2⟩ := Bool.and_eq_true_iff.mp g
    unfold noXs
    rw [gv_noX k d h1, gvs_noX k ds h2]; rfl
end
theorem dk_dct {μ : Store} {n : Nat} (h : dk μ n = true) : ∃ kvs, μ[n]? = some (.dct kvs) ∧ (kvs.map (·.1)).Nodup ∧ flatDs kvs = true := by
  unfold dk at h
  split at h
  · rename_i kvs e
    obtain ⟨h1, h2⟩ := Bool.and_eq_true_iff.mp h
    exact ⟨kvs, e, of_decide_eq_true h1, h2⟩
  · cases h
theorem isi_ref {μ : Store} {n : Nat} (h : dk μ n = true) : fIsiD μ [.ref n, .ty "tuple"] = some (.bl false) ∧ fIsiD μ [.ref n, .ty "list"] = some (.bl false) ∧ fIsiD μ [.ref n, .ty "dict"] = some (.bl true) ∧ fIsiD μ [.ref n, .ty "str"] = some (.bl false) := by
  obtain ⟨kvs, e, _⟩ := dk_dct h
  have t : tyD μ (.ref n) = some "dict" := by
    unfold tyD
    simp only [dctR, e, Option.isSome_some, ↓reduceIte]
  simp only [fIsiD, t]
  exact ⟨rfl, rfl, rfl, rfl⟩
theorem eqD_str' (s : List Nat) : eqD (.str s) (.str s) = true := by unfold eqD; simp
theorem eqX_str (μ : Store) {s : List Nat} (h : s.all (· < 1114112) = true) : fEqX μ (.str s) (.str s) = some (.bl true) := by
  have : cmpOk 8 (.str s) = true := by unfold cmpOk; exact h
  show fEq μ (.str s) (.str s) = _
  simp only [fEq, rd, asL, this, Bool.and_self, ↓reduceIte, eqD_str']
theorem eqX_int (μ : Store) (i : Int) : fEqX μ (.int i) (.int i) = some (.bl true) := by
  show fEq μ (.int i) (.int i) = _
  simp [fEq, rd, asL, cmpOk, eqD]
theorem eqX_ref {μ : Store} {n : Nat} (h : dk μ n = true) : fEqX μ (.ref n) (.ref n) = some (.bl true) := by
  obtain ⟨kvs, e, nd, fl⟩ := dk_dct h
  simp only [fEqX, e]
  rw [if_pos ⟨trivial, nd, fl⟩]
theorem comp_enum {step : D → Store → Res (Option D)} {μ : Store} : ∀ (es : List D) (k : Nat), (∀ j d, es[j]? = some d → step (.tup [.int ((k + j : Nat) : Int), d]) μ = .ok (some (.bl true)) μ) → compLoop step (enumD k es) μ = .ok (es.map fun _ => .bl true) μ
  | [], k, _ => rfl
  | d :: es, k, h => by
    have h0 := h 0 d rfl
    rw [Nat.add_zero] at h0
    rw [enumD, compLoop_cons, h0, noExc_ok, bind_ok, comp_enum es (k + 1) fun j e he => by
      have := h (j + 1) e he
      rw [show k + (j + 1) = k + 1 + j by omega] at this
      exact this]
    rfl
section
variable {P : String → Option FD} {n : Nat} {μ : Store}
theorem ne_intX (μ : Store) (i : Int) : fNe μ (.int i) (.int i) = some (.bl false) := by simp [fNe, rd, asL, cmpOk, eqD]
end
def cloB (s : List Nat) : Bool := stkB s && (at' s 0 != at' s (s.length - 1))
def stV : D → Bool
  | .str s => stkB s
  | _ => false
def cloV : D → Bool
  | .str s => cloB s
  | _ => false
structure OkV (μ : Store) (v : D) : Prop where
  g : gv μ 2 v = true
  s : ∀ s, v = .str s → s.length ≤ 1000
theorem OkV.cases {μ : Store} {v : D} (h : OkV μ v) : (∃ s, v = .str s ∧ s.length ≤ 1000 ∧ ∀ c ∈ s, c < 1114112) ∨ (fIsiD μ [v, .ty "str"] = some (.bl false) ∧ stV v = false ∧ cloV v = false) := by
  have g := h.g
  cases v with
  | str s =>
    refine .inl ⟨s, rfl, h.s s rfl, fun c hc => ?_⟩
    unfold gv at g
    have := List.all_eq_true.mp g c hc
    exact of_decide_eq_true this
  | non => exact .inr ⟨rfl, rfl, rfl⟩
  | bl b => exact .inr ⟨rfl, rfl, rfl⟩
  | int i => exact .inr ⟨rfl, rfl, rfl⟩
  | tup ds => exact .inr ⟨rfl, rfl, rfl⟩
  | lst ds => exact .inr ⟨rfl, rfl, rfl⟩
  | ref n =>
    unfold gv at g
    exact .inr ⟨(isi_ref g).2.2.2, rfl, rfl⟩
  | gl x => unfold gv at g; cases g
  | ty x => unfold gv at g; cases g
  | scr x => unfold gv at g; cases g
  | dcv x y => unfold gv at g; cases g
  | exv x y z => unfold gv at g; cases g
theorem cap1000 {n : Nat} (h : n ≤ 1000) : n ≤ cap := Nat.le_trans h (by decide)
theorem eq_nil_ints (μ : Store) {α : Type} (f : α → Int) (l : List α) : fEq μ (.lst (l.map fun a => D.int (f a))) (.lst []) = some (.bl l.isEmpty) := by
  have c1 : ∀ (k : Nat) (l : List α), cmpOks k (l.map fun a => D.int (f a)) = true := fun k l => by
    induction l with
    | nil => unfold cmpOks; rfl
    | cons a l ih => rw [List.map_cons]; unfold cmpOks; rw [ih, Bool.and_true]; cases k <;> (unfold cmpOk; rfl)
  have c2 : cmpOk 8 (.lst (l.map fun a => D.int (f a))) = true := by unfold cmpOk; exact c1 7 l
  have c3 : cmpOk 8 (.lst []) = true := by unfold cmpOk cmpOks; rfl
  simp only [fEq, rd, asL, c2, c3, Bool.and_self, ↓reduceIte]
  cases l with
  | nil => unfold eqD eqDs; rfl
  | cons a l => rw [List.map_cons]; unfold eqD eqDs; rfl
section
variable {P : String → Option FD} {n : Nat} {μ : Store}
theorem ends_ne (μ : Store) {s : List Nat} (h : Stk s) : fIx μ (.str s) (.int 0) = some (.str [at' s 0]) ∧ fIx μ (.str s) (.int (-1)) = some (.str [at' s (s.length - 1)]) ∧ fNe μ (.str [at' s 0]) (.str [at' s (s.length - 1)]) = some (.bl (at' s 0 != at' s (s.length - 1))) := by
  have hp := h.pos
  exact ⟨ix_strN μ h.cap (i := 0) (by omega), ix_strE μ h.cap (j := 1) (by omega) (by omega), ne_sign μ _ _ (isL_lt (h.at (by omega))) (isL_lt (h.at (by omega)))⟩
end
theorem eq_strg (μ : Store) {s t : List Nat} (hs : ∀ c ∈ s, c < 1114112) (ht : ∀ c ∈ t, c < 1114112) : fEq μ (.str s) (.str t) = some (.bl (s == t)) := by
  have c1 : cmpOk 8 (.str s) = true := by unfold cmpOk; exact List.all_eq_true.mpr fun c hc => decide_eq_true (hs c hc)
  have c2 : cmpOk 8 (.str t) = true := by unfold cmpOk; exact List.all_eq_true.mpr fun c hc => decide_eq_true (ht c hc)
  simp only [fEq, rd, asL, c1, c2, Bool.and_self, ↓reduceIte]
  unfold eqD; rfl
theorem eq_intX (μ : Store) (i j : Int) : fEq μ (.int i) (.int j) = some (.bl (i == j)) := by simp [fEq, rd, asL, cmpOk, eqD]
theorem ne_one (μ : Store) {x : D} (h : cmpOk 7 x = true) : fNe μ (.lst [x]) (.lst []) = some (.bl true) := by
  have c1 : cmpOk 8 (.lst [x]) = true := by unfold cmpOk cmpOks cmpOks; rw [h]; rfl
  have c2 : cmpOk 8 (.lst []) = true := by unfold cmpOk cmpOks; rfl
  simp only [fNe, rd, asL, c1, c2, Bool.and_self, ↓reduceIte]
  unfold eqD eqDs; rfl
theorem cmp_str (k : Nat) {s : List Nat} (hs : ∀ c ∈ s, c < 1114112) : cmpOk k (.str s) = true := by
  cases k <;> (unfold cmpOk; exact List.all_eq_true.mpr fun c hc => decide_eq_true (hs c hc))
theorem sum_le {l : List Nat} {b : Nat} (h : ∀ x ∈ l, x ≤ b) : l.sum ≤ l.length * b := by
  induction l with
  | nil => simp
  | cons a l ih =>
    have h1 := h a List.mem_cons_self
    have h2 := ih fun x hx => h x (List.mem_cons_of_mem _ hx)
    rw [List.sum_cons, List.length_cons, Nat.add_mul, Nat.one_mul]; omega
theorem join_map (μ : Store) (sep : List Nat) {α : Type} (f : α → List Nat) (l : List α) (h : ((l.map f).map List.length).sum + l.length * sep.length ≤ cap) : mJoin [.str sep, .lst (l.map fun x => .str (f x))] μ = .ok (.str (joinL sep (l.map f))) μ := by
  simp only [mJoin, seqOf, asL, strsOf_map, List.length_map]
  rw [if_pos h]
section
variable {P : String → Option FD} {n : Nat} {μ : Store}
theorem rev_str (μ : Store) {s : List Nat} (hs : s.length ≤ cap) : fRev μ (.str s) = some (.str s.reverse) := by
  simp only [fRev, hs, ↓reduceIte]
end
theorem mkL1 (μ : Store) (d : D) : mkL false [d] μ = .ok (.lst [d]) μ := mkL_val _ _ (show 1 ≤ cap by decide)
theorem mkL2 (μ : Store) (d e : D) : mkL false [d, e] μ = .ok (.lst [d, e]) μ := mkL_val _ _ (show 2 ≤ cap by decide)
theorem mkL0 (μ : Store) : mkL false [] μ = .ok (.lst []) μ := mkL_val _ _ (show 0 ≤ cap by decide)
theorem gvs_n {μ : Store} {k : Nat} : gvs μ k [] = true := by unfold gvs; rfl
theorem gvs_c {μ : Store} {k : Nat} {d : D} {ds : List D} (h : gv μ k d = true) (hs : gvs μ k ds = true) : gvs μ k (d :: ds) = true := by unfold gvs; rw [h, hs]; rfl
theorem gv_l {μ : Store} {k : Nat} {ds : List D} (h : gvs μ k ds = true) (hl : ds.length < 1000000) : gv μ (k + 1) (.lst ds) = true := by unfold gv; rw [h, decide_eq_true hl]; rfl
theorem gv_t {μ : Store} {k : Nat} {ds : List D} (h : gvs μ k ds = true) (hl : ds.length < 1000000) : gv μ (k + 1) (.tup ds) = true := by unfold gv; rw [h, decide_eq_true hl]; rfl
theorem gv_s {μ : Store} {k : Nat} {s : List Nat} (h : s.all (· < 1114112) = true) : gv μ k (.str s) = true := by cases k <;> (unfold gv; exact h)
theorem low_ok (μ : Store) {s : List Nat} (h : ∀ c ∈ s, isL c = true) (hl : s.length ≤ 1000) : ∃ t : List Nat, (∀ c ∈ t, c < 1114112) ∧ t.length = s.length ∧ mLower [.str s] μ = .ok (.str t) μ := by
  have lt : ∀ c ∈ s, c < 128 := fun c hc => by rcases isL_cases (h c hc) with rfl | rfl | rfl <;> decide
  have e : PySem.Txt.lower (toS s) = ⟨(toS s).cps.map PyProof.Rows.lo1⟩ := PyProof.Rows.lower_ascii fun c hc => lt c (by simpa using hc)
  refine ⟨s.map PyProof.Rows.lo1, fun c hc => ?_, List.length_map _, ?_⟩
  · obtain ⟨d, hd, rfl⟩ := List.mem_map.mp hc
    have := lt d hd
    unfold PyProof.Rows.lo1
    split <;> omega
  · simp only [mLower]
    rw [if_pos (by omega), e]
    simp
def Go (w : Nat) (μ μ' : Store) : Prop := ∃ (a b c : Int) (ex : Store), μ' = μ.set w (.lst [.int a, .int b, .int c]) ++ ex
theorem Go.of {w : Nat} {μ μ' : Store} (k : WL w μ μ') : Go w μ μ' := by
  obtain ⟨a, b, c, rfl⟩ := k
  exact ⟨a, b, c, [], by rw [List.append_nil]⟩
theorem Go.isW {w : Nat} {μ μ' : Store} (h : IsW w μ) (k : Go w μ μ') : IsW w μ' := by
  obtain ⟨a, b, c, ex, rfl⟩ := k
  have hl := h.lt
  exact ⟨a, b, c, by rw [List.getElem?_append_left (by rw [List.length_set]; exact hl), List.getElem?_set_self hl]⟩
theorem Go.trans {w : Nat} {μ μ1 μ2 : Store} (h : IsW w μ) (k : Go w μ μ1) (k2 : Go w μ1 μ2) : Go w μ μ2 := by
  obtain ⟨a, b, c, ex, rfl⟩ := k
  obtain ⟨a2, b2, c2, ex2, rfl⟩ := k2
  have hl := h.lt
  refine ⟨a2, b2, c2, ex ++ ex2, ?_⟩
  rw [List.set_append, if_pos (by rw [List.length_set]; exact hl), List.set_set, List.append_assoc]
theorem Go.more {w : Nat} {μ μ1 : Store} (k : Go w μ μ1) (z : Store) : Go w μ (μ1 ++ z) := by
  obtain ⟨a, b, c, ex, rfl⟩ := k
  exact ⟨a, b, c, ex ++ z, by rw [List.append_assoc]⟩
theorem Go.refl {w : Nat} {μ : Store} (h : IsW w μ) : Go w μ μ := .of (WL.refl h)
theorem Go.dk {w : Nat} {μ μ1 : Store} (h : IsW w μ) (k : Go w μ μ1) (r : Nat) (hd : dk μ r = true) : Ev.dk μ1 r = true := by
  obtain ⟨a, b, c, ex, rfl⟩ := k
  obtain ⟨x, y, z, hw⟩ := h
  obtain ⟨kvs, e, nd, fl⟩ := dk_dct hd
  have ne : w ≠ r := fun q => by
    rw [q, e] at hw; cases hw
  have hl := (List.getElem?_eq_some_iff.mp e).1
  unfold Ev.dk
  rw [List.getElem?_append_left (by rw [List.length_set]; exact hl), List.getElem?_set_ne ne, e]
  simp only [nd, fl, decide_true, Bool.and_self]
theorem OkV.mono {w : Nat} {μ μ1 : Store} {v : D} (h : IsW w μ) (k : Go w μ μ1) (o : OkV μ v) : OkV μ1 v := ⟨gv_mono (Go.dk h k) 2 v o.g, o.s⟩
mutual
theorem gv_nr {μ μ' : Store} : ∀ (k : Nat) (d : D), gv μ k d = true → noRef d = true → gv μ' k d = true
  | _, .non, _, _ => by unfold gv; rfl
  | _, .bl _, _, _ => by unfold gv; rfl
  | _, .int _, _, _ => by unfold gv; rfl
  | _, .str s, g, _ => by unfold gv at g ⊢; exact g
  | _, .ref n, g, h => by unfold noRef at h; cases h
  | k + 1, .tup ds, g, h => by
    unfold gv at g ⊢
    unfold noRef at h
    obtain ⟨h1, h2⟩ := Bool.and_eq_true_iff.mp g
    rw [h1, gvs_nr k ds h2 h]; rfl
  | k + 1, .lst ds, g, h => by
    unfold gv at g ⊢
    unfold noRef at h
    obtain ⟨h1, h2⟩ := Bool.and_eq_true_iff.mp g
    rw [h1, gvs_nr k ds h2 h]; rfl
  | 0, .tup _, g, _ => by unfold gv at g; cases g
  | 0, .lst _, g, _ => by unfold gv at g; cases g
  | _, .gl _, g, _ => by unfold gv at g; cases g
  | _, .ty _, g, _ => by unfold gv at g; cases g
  | _, .scr _, g, _ => by unfold gv at g; cases g
  | _, .dcv _ _, g, _ => by unfold gv at g; cases g
  | _, .exv _ _ _, g, _ => by unfold gv at g; cases g
theorem gvs_nr {μ μ' : Store} : ∀ (k : Nat) (ds : List D), gvs μ k ds = true → noRefs ds = true → gvs μ' k ds = true
  | _, [], _, _ => by unfold gvs; rfl
  | k, d :: ds, g, h => by
    unfold gvs at g ⊢
    unfold noRefs at h
    obtain ⟨h1, h2⟩ := Bool.and_eq_true_iff.mp g
    obtain ⟨h3, h4⟩ := Bool.and_eq_true_iff.mp h
    rw [gv_nr k d h1 h3, gvs_nr k ds h2 h4]; rfl
end
theorem fin_go {w : Nat} {μ μ' : Store} {v : D} (k : Go w μ μ') (o : OkV μ' v) : ∃ μ2, finish μ (.rt v) μ' = .ok v μ2 ∧ Go w μ μ2 ∧ OkV μ2 v := by
  unfold finish trunc
  dsimp only
  by_cases h : noRef v = true
  · rw [if_pos h]
    obtain ⟨a, b, c, ex, rfl⟩ := k
    refine ⟨_, rfl, ⟨a, b, c, [], ?_⟩, ⟨gv_nr 2 v o.g h, o.s⟩⟩
    rw [List.append_nil]
    have : μ.length = (μ.set w (.lst [.int a, .int b, .int c])).length := by rw [List.length_set]
    rw [this, List.take_left]
  · rw [if_neg h]
    exact ⟨_, rfl, k, o⟩
theorem okv_str {μ : Store} {s : List Nat} (h : ∀ c ∈ s, c < 1114112) (hl : s.length ≤ 1000) : OkV μ (.str s) :=
  ⟨gv_s (List.all_eq_true.mpr fun c hc => decide_eq_true (h c hc)), fun t e => by cases e; exact hl⟩
theorem okv_strs {μ : Store} {s : List Nat} (h : ∀ c ∈ s, c < 1114112) (k : Nat) : gvs μ k (s.map fun c => D.str [c]) = true := by
  induction s with
  | nil => exact gvs_n
  | cons a s ih =>
    rw [List.map_cons]
    exact gvs_c (gv_s (by simp [h a List.mem_cons_self])) (ih fun c hc => h c (List.mem_cons_of_mem _ hc))
theorem okv_of {μ : Store} {v : D} (h : gv μ 2 v = true) (hn : ∀ s, v ≠ .str s) : OkV μ v := ⟨h, fun s e => absurd e (hn s)⟩
theorem sl_fromX (μ : Store) (s : List Nat) (hs : s.length ≤ cap) (a : Nat) : fSl μ (.str s) (.int a) .non = some (.str (s.drop a)) := by
  by_cases ha : a ≤ s.length
  · exact sl_from s hs ha
  · have h1 : ptOf s.length 0 (.int a) = some s.length := by
      show some (if (a : Int) < 0 then _ else min (a : Int).toNat s.length) = _
      rw [if_neg (by omega)]; simp; omega
    simp only [fSl, hs, ↓reduceIte, h1, ptOf_non]
    unfold cutL
    rw [List.drop_of_length_le (Nat.le_refl _), List.drop_of_length_le (by omega)]; simp
theorem sl_toX (μ : Store) (s : List Nat) (hs : s.length ≤ cap) (a : Nat) : fSl μ (.str s) .non (.int a) = some (.str (s.take a)) := by
  by_cases ha : a ≤ s.length
  · exact sl_to s hs ha
  · have h1 : ptOf s.length s.length (.int a) = some s.length := by
      show some (if (a : Int) < 0 then _ else min (a : Int).toNat s.length) = _
      rw [if_neg (by omega)]; simp; omega
    simp only [fSl, hs, ↓reduceIte, h1, ptOf_non]
    unfold cutL
    rw [List.take_of_length_le (by omega : s.length ≤ a)]; simp
theorem exists_map {α : Type} {f : α → D} {Q : α → Prop} : ∀ {ys : List D}, (∀ y ∈ ys, ∃ c, Q c ∧ y = f c) → ∃ cs : List α, ys = cs.map f ∧ cs.length = ys.length ∧ ∀ c ∈ cs, Q c
  | [], _ => ⟨[], rfl, rfl, fun _ h => by simp at h⟩
  | y :: ys, h => by
    obtain ⟨c, hc, rfl⟩ := h y List.mem_cons_self
    obtain ⟨cs, rfl, l, hq⟩ := exists_map fun z hz => h z (List.mem_cons_of_mem _ hz)
    refine ⟨c :: cs, rfl, by rw [List.length_cons, List.length_cons, List.length_map], fun d hd => ?_⟩
    rcases List.mem_cons.mp hd with rfl | q
    · exact hc
    · exact hq d q
theorem flat2_len : ∀ k : Nat, (List.replicate k [43, 45]).flatten.length = 2 * k
  | 0 => rfl
  | k + 1 => by rw [List.replicate_succ, List.flatten_cons, List.length_append, flat2_len k]; simp; omega
theorem flat2_mem (k : Nat) : ∀ c ∈ (List.replicate k [43, 45]).flatten, c = 43 ∨ c = 45 := fun c hc => by
  obtain ⟨l, hl, hc⟩ := List.mem_flatten.mp hc
  rw [List.eq_of_mem_replicate hl] at hc
  simpa using hc
section
variable {P : String → Option FD} {n : Nat} {μ : Store}
theorem dk_new (ν ex : Store) {kvs : List (DK × D)} (h1 : (kvs.map (·.1)).Nodup) (h2 : flatDs kvs = true) : dk (ν ++ .dct kvs :: ex) ν.length = true := by
  unfold dk
  rw [get_mid]
  simp only [h1, h2, decide_true, Bool.and_self]
end
section
variable {P : String → Option FD} {n : Nat} {μ : Store}
theorem uni_app {s t : List Nat} (hs : ∀ c ∈ s, c < 1114112) (ht : ∀ c ∈ t, c < 1114112) : ∀ c ∈ s ++ t, c < 1114112 := fun c hc => by
  rcases List.mem_append.mp hc with z | z
  · exact hs c z
  · exact ht c z
theorem uni_rep {s : List Nat} (hs : ∀ c ∈ s, c < 1114112) (k : Nat) : ∀ c ∈ (List.replicate k s).flatten, c < 1114112 := fun c hc => by
  obtain ⟨l, hl, hc⟩ := List.mem_flatten.mp hc
  rw [List.eq_of_mem_replicate hl] at hc
  exact hs c hc
theorem rep_len' (s : List Nat) (k : Nat) : (List.replicate k s).flatten.length = k * s.length := by simp
theorem mul_s (μ : Store) (s : List Nat) (k : Nat) (hs : s.length ≤ 1000) (hk : k ≤ 1000) : fMul μ (.str s) (.int (k : Nat)) = some (.str (List.replicate k s).flatten) := by
  simp only [fMul]
  rw [if_pos ⟨by omega, by omega, hs⟩, Int.toNat_natCast]
theorem ne_nilD (μ : Store) : fNe μ (.lst []) (.lst []) = some (.bl false) := by
  have c2 : cmpOk 8 (.lst []) = true := by unfold cmpOk cmpOks; rfl
  simp only [fNe, rd, asL, c2, Bool.and_self, ↓reduceIte]
  unfold eqD eqDs; rfl
theorem eq_nilD (μ : Store) : fEq μ (.lst []) (.lst []) = some (.bl true) := by
  have c2 : cmpOk 8 (.lst []) = true := by unfold cmpOk cmpOks; rfl
  simp only [fEq, rd, asL, c2, Bool.and_self, ↓reduceIte]
  unfold eqD eqDs; rfl
theorem comp_none {step : D → Store → Res (Option D)} {μ : Store} : ∀ (ds : List D), (∀ d ∈ ds, step d μ = .ok none μ) → compLoop step ds μ = .ok [] μ
  | [], _ => rfl
  | d :: ds, h => by
    rw [compLoop_cons, h d List.mem_cons_self, noExc_ok, bind_ok, comp_none ds fun e he => h e (List.mem_cons_of_mem _ he)]
    rfl
theorem comp_go {step : D → Store → Res (Option D)} {w : Nat} : ∀ (items : List D) (μ : Store), IsW w μ → (∀ d ∈ items, ∀ μ, IsW w μ → ∃ y μ', step d μ = .ok (some y) μ' ∧ Go w μ μ' ∧ OkV μ' y) →
    ∃ ys μ', compLoop step items μ = .ok ys μ' ∧ ys.length = items.length ∧ (∀ y ∈ ys, OkV μ' y) ∧ Go w μ μ'
  | [], μ, hw, _ => ⟨[], μ, rfl, rfl, fun _ h => by simp at h, .refl hw⟩
  | d :: items, μ, hw, hs => by
    obtain ⟨y, μ1, e1, g1, o1⟩ := hs d List.mem_cons_self μ hw
    obtain ⟨ys, μ2, e2, l2, q2, g2⟩ := comp_go items μ1 (g1.isW hw) fun d hd => hs d (List.mem_cons_of_mem _ hd)
    refine ⟨y :: ys, μ2, ?_, by simp [l2], fun z hz => ?_, g1.trans hw g2⟩
    · rw [compLoop_cons, e1, noExc_ok, bind_ok, e2]; rfl
    · rcases List.mem_cons.mp hz with rfl | q
      · exact o1.mono (g1.isW hw) g2
      · exact q2 z q
theorem comp_go0 {step : D → Store → Res (Option D)} {w : Nat} : ∀ (items : List D) (μ : Store), IsW w μ → (∀ d ∈ items, ∀ μ, IsW w μ → ∃ μ', step d μ = .ok none μ' ∧ Go w μ μ') →
    ∃ μ', compLoop step items μ = .ok [] μ' ∧ Go w μ μ'
  | [], μ, hw, _ => ⟨μ, rfl, .refl hw⟩
  | d :: items, μ, hw, hs => by
    obtain ⟨μ1, e1, g1⟩ := hs d List.mem_cons_self μ hw
    obtain ⟨μ2, e2, g2⟩ := comp_go0 items μ1 (g1.isW hw) fun d hd => hs d (List.mem_cons_of_mem _ hd)
    refine ⟨μ2, ?_, g1.trans hw g2⟩
    rw [compLoop_cons, e1, noExc_ok, bind_ok, e2]; rfl
theorem fin_bl {w : Nat} {μ μ' : Store} {b : Bool} (k : Go w μ μ') : ∃ μ2, finish μ (.rt (.bl b)) μ' = .ok (.bl b) μ2 := ⟨_, rfl⟩
theorem rng_max (μ : Store) (k : Nat) : ∃ j : Nat, j ≤ 3 ∧ fMinD μ [.int k, .int 3] = some (.int (if (3 : Int) < k then 3 else k)) ∧ fMax μ [.int 2, .int (if (3 : Int) < k then 3 else (k : Int))] = some (.int j) := by
  by_cases h : (3 : Int) < k
  · refine ⟨3, by omega, rfl, ?_⟩
    rw [if_pos h]; rfl
  · refine ⟨if (k : Int) > 2 then k else 2, by split <;> omega, rfl, ?_⟩
    rw [if_neg h]
    show some (D.int (if (k : Int) > 2 then (k : Int) else 2)) = _
    by_cases h2 : (k : Int) > 2
    · rw [if_pos h2, if_pos h2]
    · rw [if_neg h2, if_neg h2]; rfl
theorem all_true {μ : Store} {ys : List D} (h : ∀ y ∈ ys, y = .bl true) : fAll μ [.lst ys] = some (.bl true) := by
  have e : ys = ys.map fun _ => D.bl true := by
    apply List.ext_getElem
    · simp
    · intro i h1 h2
      rw [List.getElem_map]
      exact h _ (List.getElem_mem h1)
  rw [e]
  have := all_map μ (fun _ : D => true) ys
  rw [show (ys.all fun _ => true) = true by simp] at this
  exact this
end
theorem ne_blX (μ : Store) (b : Bool) : fNe μ (.bl b) (.bl b) = some (.bl false) := by cases b <;> rfl
theorem eq_blX (μ : Store) (b : Bool) : fEq μ (.bl b) (.bl b) = some (.bl true) := by cases b <;> rfl
end Ev

namespace Ev
open Res
/-! ## fractions -/
theorem whileLoop_inv {cond : Env → Store → Res Bool} {body : Env → Store → Res Fl} (I : Nat → Env → Store → Prop)
    (hs : ∀ k ρ μ, I k ρ μ → ∃ t, cond ρ μ = .ok t μ ∧ (t = true → ∃ k' ρ' μ', k' < k ∧ body ρ μ = .ok (.nx ρ') μ' ∧ I k' ρ' μ')) :
    ∀ (n k : Nat) (ρ : Env) (μ : Store), k < n → I k ρ μ → ∃ k' ρ' μ', whileLoop cond body n ρ μ = .ok (.nx ρ') μ' ∧ I k' ρ' μ' ∧ cond ρ' μ' = .ok false μ'
  | 0, k, ρ, μ, h, _ => by omega
  | n + 1, k, ρ, μ, h, hi => by
    obtain ⟨t, e, ht⟩ := hs k ρ μ hi
    cases t with
    | false => exact ⟨k, ρ, μ, by rw [whileLoop, e, bind_ok]; rfl, hi, e⟩
    | true =>
      obtain ⟨k', ρ', μ', hk, eb, hi'⟩ := ht rfl
      obtain ⟨k2, ρ2, μ2, e2, hi2, ec⟩ := whileLoop_inv I hs n k' ρ' μ' (by omega) hi'
      refine ⟨k2, ρ2, μ2, ?_, hi2, ec⟩
      rw [whileLoop, e, bind_ok, if_pos rfl, eb, bind_ok]
      exact e2
/-- the steps of Euclid's way -/
def eu (a b : Nat) : Nat := if h : b = 0 then 0 else eu b (a % b) + 1
termination_by b
decreasing_by exact Nat.mod_lt _ (Nat.pos_of_ne_zero h)
theorem eu_zero (a : Nat) : eu a 0 = 0 := by rw [eu, dif_pos rfl]
theorem eu_step (a : Nat) {b : Nat} (h : b ≠ 0) : eu a b = eu b (a % b) + 1 := by rw [eu, dif_neg h]
def fib : Nat → Nat
  | 0 => 0
  | 1 => 1
  | n + 2 => fib (n + 1) + fib n
theorem fib_ss (n : Nat) : fib (n + 2) = fib (n + 1) + fib n := rfl
theorem eu_fib : ∀ (k a b : Nat), b < fib (k + 1) → eu a b ≤ k
  | 0, a, b, h => by
    have : b = 0 := by
      have e : fib (0 + 1) = 1 := rfl
      omega
    rw [this, eu_zero]; omega
  | 1, a, b, h => by
    have : b = 0 := by
      have e : fib (1 + 1) = 1 := rfl
      omega
    rw [this, eu_zero]; omega
  | k + 2, a, b, h => by
    by_cases hb : b = 0
    · rw [hb, eu_zero]; omega
    · rw [eu_step a hb]
      have hr := Nat.mod_lt a (Nat.pos_of_ne_zero hb)
      by_cases h1 : a % b < fib (k + 2)
      · have := eu_fib (k + 1) b (a % b) h1
        omega
      · have hr0 : a % b ≠ 0 := fun z => by
          have : 0 < fib (k + 2) := by
            have mono : ∀ n, 0 < fib (n + 1) := by
              intro n
              induction n with
              | zero => decide
              | succ n ih => rw [fib_ss]; omega
            exact mono (k + 1)
          omega
        rw [eu_step b hr0]
        have e : fib (k + 2 + 1) = fib (k + 2) + fib (k + 1) := rfl
        have h2 : b % (a % b) ≤ b - a % b := by
          have := Nat.mod_eq_sub_mod (show b ≥ a % b by omega)
          rw [this]; exact Nat.mod_le _ _
        have := eu_fib k (a % b) (b % (a % b)) (by omega)
        omega
theorem fib_ten (n : Nat) : 89 * fib n ≤ fib (n + 10) ∧ 0 < fib (n + 1) := by
  have mono : ∀ n, 0 < fib (n + 1) ∧ fib n ≤ fib (n + 1) := by
    intro n
    induction n with
    | zero => decide
    | succ n ih => rw [fib_ss]; omega
  have h := mono n
  have e2 := fib_ss n
  have e3 := fib_ss (n + 1)
  have e4 := fib_ss (n + 2)
  have e5 := fib_ss (n + 3)
  have e6 := fib_ss (n + 4)
  have e7 := fib_ss (n + 5)
  have e8 := fib_ss (n + 6)
  have e9 := fib_ss (n + 7)
  have e10 := fib_ss (n + 8)
  simp only [Nat.add_assoc, Nat.reduceAdd] at e2 e3 e4 e5 e6 e7 e8 e9 e10
  constructor
  · omega
  · exact h.1
theorem fib_pow : ∀ m : Nat, 89 ^ m ≤ fib (10 * m + 1)
  | 0 => Nat.le_refl 1
  | m + 1 => by
    have h := (fib_ten (10 * m + 1)).1
    have ih := fib_pow m
    rw [Nat.pow_succ, show 10 * (m + 1) + 1 = 10 * m + 1 + 10 by omega]
    omega
theorem eu_pow {a b m : Nat} (h : b < 89 ^ m) : eu a b ≤ 10 * m := eu_fib _ a b (Nat.lt_of_lt_of_le h (fib_pow m))
/-- in lowest terms -/
def lowD (p q : Nat) : D := .tup [.int ((p / Nat.gcd p q : Nat) : Int), .int ((q / Nat.gcd p q : Nat) : Int)]
/-- equal fractions are the same in lowest terms -/
theorem lowD_eq {p q p' q' : Nat} (hq : 0 < q) (hq' : 0 < q') (h : p * q' = p' * q) : lowD p q = lowD p' q' := by
  have g0 : 0 < Nat.gcd p q := Nat.gcd_pos_of_pos_right _ hq
  have g0' : 0 < Nat.gcd p' q' := Nat.gcd_pos_of_pos_right _ hq'
  have key : ∀ {a b c d : Nat}, Nat.Coprime a b → Nat.Coprime c d → 0 < b → 0 < d → a * d = c * b → a = c ∧ b = d := by
    intro a b c d h1 h2 hb hd h
    have d1 : b ∣ d := (Nat.Coprime.dvd_of_dvd_mul_left (Nat.Coprime.symm h1) ⟨c, by rw [h, Nat.mul_comm]⟩)
    have d2 : d ∣ b := (Nat.Coprime.dvd_of_dvd_mul_left (Nat.Coprime.symm h2) ⟨a, by rw [← h, Nat.mul_comm]⟩)
    have e := Nat.dvd_antisymm d1 d2
    subst e
    exact ⟨Nat.eq_of_mul_eq_mul_right hb h, rfl⟩
  obtain ⟨e1, e2⟩ := key (Nat.coprime_div_gcd_div_gcd g0) (Nat.coprime_div_gcd_div_gcd g0') (Nat.div_pos (Nat.gcd_le_right _ hq) g0) (Nat.div_pos (Nat.gcd_le_right _ hq') g0') (by
    refine Nat.eq_of_mul_eq_mul_right (Nat.mul_pos g0 g0') ?_
    have a1 := Nat.div_mul_cancel (Nat.gcd_dvd_left p q)
    have a2 := Nat.div_mul_cancel (Nat.gcd_dvd_right p q)
    have a3 := Nat.div_mul_cancel (Nat.gcd_dvd_left p' q')
    have a4 := Nat.div_mul_cancel (Nat.gcd_dvd_right p' q')
    calc p / Nat.gcd p q * (q' / Nat.gcd p' q') * (Nat.gcd p q * Nat.gcd p' q') = (p / Nat.gcd p q * Nat.gcd p q) * (q' / Nat.gcd p' q' * Nat.gcd p' q') := by ac_rfl
      _ = p * q' := by rw [a1, a4]
      _ = p' * q := h
      _ = (p' / Nat.gcd p' q' * Nat.gcd p' q') * (q / Nat.gcd p q * Nat.gcd p q) := by rw [a3, a2]
      _ = p' / Nat.gcd p' q' * (q / Nat.gcd p q) * (Nat.gcd p q * Nat.gcd p' q') := by ac_rfl)
  unfold lowD
  rw [e1, e2]
/-- a fraction in lowest terms: its parts -/
structure Low (p q a b : Nat) : Prop where
  pos : 0 < b
  le : b ≤ q
  e : a * q = p * b
theorem low_parts {p q : Nat} (hq : 0 < q) : Low p q (p / Nat.gcd p q) (q / Nat.gcd p q) := by
  have g0 : 0 < Nat.gcd p q := Nat.gcd_pos_of_pos_right _ hq
  refine ⟨Nat.div_pos (Nat.gcd_le_right _ hq) g0, Nat.div_le_self _ _, ?_⟩
  have a1 := Nat.div_mul_cancel (Nat.gcd_dvd_left p q)
  have a2 := Nat.div_mul_cancel (Nat.gcd_dvd_right p q)
  calc p / Nat.gcd p q * q = p / Nat.gcd p q * (q / Nat.gcd p q * Nat.gcd p q) := by rw [a2]
    _ = (p / Nat.gcd p q * Nat.gcd p q) * (q / Nat.gcd p q) := by ac_rfl
    _ = p * (q / Nat.gcd p q) := by rw [a1]
theorem lt_log {n k : Nat} (h : n < 2 ^ k) (hk : 0 < k) : n.log2 < k := by
  by_cases h0 : n = 0
  · subst h0
    have : Nat.log2 0 = 0 := by decide
    omega
  · exact (Nat.log2_lt h0).mpr h
section
variable {P : String → Option FD} {n : Nat} {μ : Store}
theorem div_nat (μ : Store) (p : Nat) {g : Nat} (h0 : 0 < g) (h1 : g.log2 < 9000) : fDiv μ (.int (p : Nat)) (.int (g : Nat)) = some (.int ((p / g : Nat) : Int)) := by
  rw [div_pos μ _ (by omega) (by simpa using h1)]
  simp
theorem gcd_log {p q m : Nat} (hq : 0 < q) (h : q < 89 ^ m) (hm : m ≤ 1000) : (Nat.gcd p q).log2 < 9000 := by
  have h1 : Nat.gcd p q ≤ q := Nat.gcd_le_right _ hq
  have h2 : (89 : Nat) ^ m ≤ (2 ^ 7) ^ m := Nat.pow_le_pow_left (by decide) m
  have h3 : ((2 : Nat) ^ 7) ^ m = 2 ^ (7 * m) := by rw [← Nat.pow_mul]
  have m0 : 0 < m := by
    rcases Nat.eq_zero_or_pos m with z | z
    · subst z
      rw [Nat.pow_zero] at h; omega
    · exact z
  have : (Nat.gcd p q).log2 < 7 * m := lt_log (Nat.lt_of_le_of_lt h1 (Nat.lt_of_lt_of_le h (h3 ▸ h2))) (by omega)
  omega
theorem lowest_ok (hP : P "lowest" = some Law.d_lowest) {p q m : Nat} (hq : 0 < q) (h : q < 89 ^ m) (hm : m ≤ 1000) : callD P (n + 1) "lowest" [.int (p : Nat), .int (q : Nat)] μ = .ok (lowD p q) μ := by
  have g : fGcd μ [.int (p : Nat), .int (q : Nat)] = some (.int ((Nat.gcd p q : Nat) : Int)) := by
    show some (D.int ((Nat.gcd (p : Int).natAbs (q : Int).natAbs : Nat) : Int)) = _
    rw [Int.natAbs_natCast, Int.natAbs_natCast]
  have g0 : 0 < Nat.gcd p q := Nat.gcd_pos_of_pos_right _ hq
  have gl := gcd_log (p := p) hq h hm
  have d1 := div_nat μ p g0 gl
  have d2 := div_nat μ q g0 gl
  have c2 : 2 ≤ cap := by decide
  rw [callD_eq hP rfl]
  simp -implicitDefEqProofs only [Law.d_lowest, startE, exs_nil, exs_cons, ex_pass, ex_expr, ex_asg, ex_ifs, ex_for, ex_ret, ex_retN, ex_brk, ex_cont, ex_never, ev_var, ev_lit, ev_op1, ev_op2, ev_op3, ev_opN, ev_opM, ev_meth, ev_frz, ev_lst, ev_tup, ev_and, ev_or, ev_not, ev_ite, ev_chain, ev_call, ev_comp, evs_nil, evs_cons, Res.bind_assoc, evT, asgT_name, asgT_sub, asgT_tup, asgTs_nil, asgTs_cons, Res.bind_ok, Res.bind_exc, lift_some, noExc_ok, truth_bl, finish_rt, finish_nx, List.map_cons, List.map_nil, List.length_cons, List.length_nil, List.replicate_zero, List.replicate_succ, List.cons_append, List.nil_append, List.getElem?_cons_zero, List.getElem?_cons_succ, List.set_cons_zero, List.set_cons_succ, Bool.not_true, Bool.not_false, ↓reduceIte, Bool.false_eq_true, Nat.reduceAdd, Nat.reduceSub, Nat.reduceLT, Nat.reduceLeDiff, Nat.zero_add, id_eq, Nat.sub_self, Bool.true_and, Bool.and_true, Bool.false_and, Bool.and_false, Bool.true_or, Bool.or_true, Bool.false_or, Bool.or_false, g, d1, d2, c2, lowD]
end
end Ev

namespace Ev
open Res
structure K70 (P : String → Option FD) : Prop where
  whole : P "is_whole" = some Law.d_is_whole
  between : P "is_between" = some Law.d_is_between
  text : P "is_text_of" = some Law.d_is_text_of
  layer : P "is_layer_number" = some Law.d_is_layer_number
  isTupleOf : P "is_tuple_of" = some Law.d_is_tuple_of
  areWholes : P "are_wholes" = some Law.d_are_wholes
  lowest : P "lowest" = some Law.d_lowest
  isLetter : P "is_letter" = some Law.d_is_letter
  isStepped : P "is_stepped" = some Law.d_is_stepped
  num : P "number_of" = some Law.d_number_of
  fur : P "further" = some Law.d_further
  worth : P "worth" = some Law.d_worth
  sumOf : P "sum_of" = some Law.d_sum_of
  ledBy : P "led_by" = some Law.d_led_by
  doGoRound : P "do_go_round" = some Law.d_do_go_round
  checkNumber : P "check_number" = some Law.d_check_number
  checkSteps : P "check_steps" = some Law.d_check_steps
  checkLetter : P "check_letter" = some Law.d_check_letter
  isChance : P "is_chance" = some Law.d_is_chance
  powersOf : P "powers_of" = some Law.d_powers_of
  slipChanceBy : P "slip_chance_by" = some Law.d_slip_chance_by
  checkChance : P "check_chance" = some Law.d_check_chance
  checkApart : P "check_apart" = some Law.d_check_apart
  slipChance : P "slip_chance" = some Law.d_slip_chance
  stackingBy : P "stacking_by" = some Law.d_stacking_by
  goesRound : P "goes_round" = some Law.d_goes_round
  well : P "_law_well" = some Law.d__law_well
  take : P "_law_take" = some Law.d__law_take
  pick : P "_law_pick" = some Law.d__law_pick
  same : P "_law_same" = some Law.d__law_same
  lLowest : P "_law_lowest" = some Law.d__law_lowest
  lShares : P "_law_shares" = some Law.d__law_shares
  lByRows : P "_law_by_rows" = some Law.d__law_by_rows
  lBySum : P "_law_by_sum" = some Law.d__law_by_sum
  lAsked : P "_law_asked" = some Law.d__law_asked
  lChance : P "_law_chance" = some Law.d__law_chance
  lMost : P "_law_most" = some Law.d__law_most
  lTurn : P "_law_turn" = some Law.d__law_turn
  law : P "law" = some Law.d_law
end Ev

set_option exponentiation.threshold 100000
namespace Ev
open Res
theorem mul_nat (μ : Store) {x y a b : Nat} (hx : x < 2 ^ a) (hy : y < 2 ^ b) (ha : 0 < a) (hb : 0 < b) (h : a + b ≤ 1000000) : fMul μ (.int (x : Nat)) (.int (y : Nat)) = some (.int ((x * y : Nat) : Int)) := by
  have ok : mulOk (x : Nat) (y : Nat) = true := by
    unfold mulOk
    rw [Bool.or_eq_true]
    refine .inr (decide_eq_true ?_)
    rw [Int.natAbs_natCast, Int.natAbs_natCast]
    have h1 := lt_log hx ha
    have h2 := lt_log hy hb
    omega
  show (if mulOk (x : Nat) (y : Nat) then _ else _) = _
  rw [if_pos ok, Int.natCast_mul]
theorem pow_lt {x k j : Nat} {e : Nat} (hx : x < 2 ^ e) (hj : j ≤ k) (he : 0 < e := by decide) (hk : 0 < k := by decide) : x ^ j < 2 ^ (e * k) := by
  by_cases z : j = 0
  · subst z
    rw [Nat.pow_zero]
    exact Nat.one_lt_pow (Nat.pos_iff_ne_zero.mp (Nat.mul_pos he hk)) (by decide)
  · refine Nat.lt_of_lt_of_le (Nat.pow_lt_pow_left hx z) ?_
    rw [← Nat.pow_mul]
    exact Nat.pow_le_pow_right (by decide) (Nat.mul_le_mul_left e hj)
section
variable {P : String → Option FD} {n : Nat} {μ : Store}
theorem law_lowest_ok (hP : P "_law_lowest" = some Law.d__law_lowest) {p q : Nat} (hq : 0 < q) (h : q < 89 ^ 98) : callD P (n + 1) "_law_lowest" [.int (p : Nat), .int (q : Nat)] μ = .ok (lowD p q) μ := by
  have g0 : 0 < Nat.gcd p q := Nat.gcd_pos_of_pos_right _ hq
  have gl := gcd_log (p := p) hq h (by decide)
  have d1 := div_nat μ p g0 gl
  have d2 := div_nat μ q g0 gl
  have c2 : 2 ≤ cap := by decide
  have c3 : 3 ≤ cap := by decide
  rw [callD_eq hP rfl]
  have s0 : ex (callD P n) (Law.d__law_lowest.body.getD 0 .pass) (startE Law.d__law_lowest [.int (p : Nat), .int (q : Nat)]) μ = .ok (.nx [some (.int (p : Nat)), some (.int (q : Nat)), some (.int (p : Nat)), some (.int (q : Nat))]) μ := by
    simp -implicitDefEqProofs only [Law.d__law_lowest, List.getD_cons_zero, startE, exs_nil, exs_cons, ex_pass, ex_expr, ex_asg, ex_ifs, ex_for, ex_ret, ex_retN, ex_brk, ex_cont, ex_never, ev_var, ev_lit, ev_op1, ev_op2, ev_op3, ev_opN, ev_opM, ev_meth, ev_frz, ev_lst, ev_tup, ev_and, ev_or, ev_not, ev_ite, ev_chain, ev_call, ev_comp, evs_nil, evs_cons, Res.bind_assoc, evT, asgT_name, asgT_sub, asgT_tup, asgTs_nil, asgTs_cons, Res.bind_ok, Res.bind_exc, lift_some, noExc_ok, truth_bl, finish_rt, finish_nx, List.map_cons, List.map_nil, List.length_cons, List.length_nil, List.replicate_zero, List.replicate_succ, List.cons_append, List.nil_append, List.getElem?_cons_zero, List.getElem?_cons_succ, List.set_cons_zero, List.set_cons_succ, Bool.not_true, Bool.not_false, ↓reduceIte, Bool.false_eq_true, Nat.reduceAdd, Nat.reduceSub, Nat.reduceLT, Nat.reduceLeDiff, Nat.zero_add, id_eq, Nat.sub_self, Bool.true_and, Bool.and_true, Bool.false_and, Bool.and_false, Bool.true_or, Bool.or_true, Bool.false_or, Bool.or_false, c2]
  have sp : Law.d__law_lowest.body = [Law.d__law_lowest.body.getD 0 .pass, .whil 1000 (.op2 fGt (.var 3) (.lit (.int 0))) [.asg (.tup [.name 2, .name 3]) (.tup [.var 3, .op2 fMod (.opN fInt [.var 2]) (.var 3)])], .ret (.tup [.op2 fDiv (.var 0) (.var 2), .op2 fDiv (.var 1) (.var 2)])] := rfl
  rw [sp, exs_cons, s0, bind_ok]
  dsimp only
  rw [exs_cons, ex_whil]
  generalize hc : evT _ _ = cond
  generalize hb : (fun ρ μ => exs (callD P n) [.asg (.tup [.name 2, .name 3]) (.tup [.var 3, .op2 fMod (.opN fInt [.var 2]) (.var 3)])] ρ μ) = body
  have step : ∀ k ρ μ', (∃ a b : Nat, ρ = [some (.int (p : Nat)), some (.int (q : Nat)), some (.int (a : Nat)), some (.int (b : Nat))] ∧ μ' = μ ∧ Nat.gcd a b = Nat.gcd p q ∧ eu a b = k) →
      ∃ t, cond ρ μ' = .ok t μ' ∧ (t = true → ∃ k' ρ' μ2, k' < k ∧ body ρ μ' = .ok (.nx ρ') μ2 ∧ (∃ a b : Nat, ρ' = [some (.int (p : Nat)), some (.int (q : Nat)), some (.int (a : Nat)), some (.int (b : Nat))] ∧ μ2 = μ ∧ Nat.gcd a b = Nat.gcd p q ∧ eu a b = k')) := by
    rintro k ρ μ' ⟨a, b, rfl, rfl, hg, hk⟩
    have ne : fGt μ' (.int (b : Nat)) (.int 0) = some (.bl (decide ((0 : Int) < (b : Nat)))) := gt_int _ _ _
    by_cases z : b = 0
    · refine ⟨false, ?_, fun w => by cases w⟩
      rw [decide_eq_false (by omega)] at ne
      subst hc
      simp -implicitDefEqProofs only [startE, exs_nil, exs_cons, ex_pass, ex_expr, ex_asg, ex_ifs, ex_for, ex_ret, ex_retN, ex_brk, ex_cont, ex_never, ev_var, ev_lit, ev_op1, ev_op2, ev_op3, ev_opN, ev_opM, ev_meth, ev_frz, ev_lst, ev_tup, ev_and, ev_or, ev_not, ev_ite, ev_chain, ev_call, ev_comp, evs_nil, evs_cons, Res.bind_assoc, evT, asgT_name, asgT_sub, asgT_tup, asgTs_nil, asgTs_cons, Res.bind_ok, Res.bind_exc, lift_some, noExc_ok, truth_bl, finish_rt, finish_nx, List.map_cons, List.map_nil, List.length_cons, List.length_nil, List.replicate_zero, List.replicate_succ, List.cons_append, List.nil_append, List.getElem?_cons_zero, List.getElem?_cons_succ, List.set_cons_zero, List.set_cons_succ, Bool.not_true, Bool.not_false, ↓reduceIte, Bool.false_eq_true, Nat.reduceAdd, Nat.reduceSub, Nat.reduceLT, Nat.reduceLeDiff, Nat.zero_add, id_eq, Nat.sub_self, Bool.true_and, Bool.and_true, Bool.false_and, Bool.and_false, Bool.true_or, Bool.or_true, Bool.false_or, Bool.or_false, ne]
    · rw [decide_eq_true (by omega)] at ne
      refine ⟨true, ?_, fun _ => ⟨eu b (a % b), _, μ', ?_, ?_, b, a % b, rfl, rfl, ?_, rfl⟩⟩
      · subst hc
        simp -implicitDefEqProofs only [startE, exs_nil, exs_cons, ex_pass, ex_expr, ex_asg, ex_ifs, ex_for, ex_ret, ex_retN, ex_brk, ex_cont, ex_never, ev_var, ev_lit, ev_op1, ev_op2, ev_op3, ev_opN, ev_opM, ev_meth, ev_frz, ev_lst, ev_tup, ev_and, ev_or, ev_not, ev_ite, ev_chain, ev_call, ev_comp, evs_nil, evs_cons, Res.bind_assoc, evT, asgT_name, asgT_sub, asgT_tup, asgTs_nil, asgTs_cons, Res.bind_ok, Res.bind_exc, lift_some, noExc_ok, truth_bl, finish_rt, finish_nx, List.map_cons, List.map_nil, List.length_cons, List.length_nil, List.replicate_zero, List.replicate_succ, List.cons_append, List.nil_append, List.getElem?_cons_zero, List.getElem?_cons_succ, List.set_cons_zero, List.set_cons_succ, Bool.not_true, Bool.not_false, ↓reduceIte, Bool.false_eq_true, Nat.reduceAdd, Nat.reduceSub, Nat.reduceLT, Nat.reduceLeDiff, Nat.zero_add, id_eq, Nat.sub_self, Bool.true_and, Bool.and_true, Bool.false_and, Bool.and_false, Bool.true_or, Bool.or_true, Bool.false_or, Bool.or_false, ne]
      · rw [eu_step a z] at hk; omega
      · have md := mod_pos μ' ((a : Nat) : Int) (show (0 : Int) < (b : Nat) by omega)
        rw [← Int.natCast_emod] at md
        subst hb
        simp -implicitDefEqProofs only [startE, exs_nil, exs_cons, ex_pass, ex_expr, ex_asg, ex_ifs, ex_for, ex_ret, ex_retN, ex_brk, ex_cont, ex_never, ev_var, ev_lit, ev_op1, ev_op2, ev_op3, ev_opN, ev_opM, ev_meth, ev_frz, ev_lst, ev_tup, ev_and, ev_or, ev_not, ev_ite, ev_chain, ev_call, ev_comp, evs_nil, evs_cons, Res.bind_assoc, evT, asgT_name, asgT_sub, asgT_tup, asgTs_nil, asgTs_cons, Res.bind_ok, Res.bind_exc, lift_some, noExc_ok, truth_bl, finish_rt, finish_nx, List.map_cons, List.map_nil, List.length_cons, List.length_nil, List.replicate_zero, List.replicate_succ, List.cons_append, List.nil_append, List.getElem?_cons_zero, List.getElem?_cons_succ, List.set_cons_zero, List.set_cons_succ, Bool.not_true, Bool.not_false, ↓reduceIte, Bool.false_eq_true, Nat.reduceAdd, Nat.reduceSub, Nat.reduceLT, Nat.reduceLeDiff, Nat.zero_add, id_eq, Nat.sub_self, Bool.true_and, Bool.and_true, Bool.false_and, Bool.and_false, Bool.true_or, Bool.or_true, Bool.false_or, Bool.or_false, int_int, md, c2]
      · rw [← hg, Nat.gcd_comm b, ← Nat.gcd_rec, Nat.gcd_comm]
  have e0 : eu p q ≤ 980 := eu_pow (m := 98) h
  obtain ⟨k', ρ', μ2, ew, ⟨a, b, rfl, rfl, hg, hk⟩, ec⟩ := whileLoop_inv _ step 1000 (eu p q) [some (.int (p : Nat)), some (.int (q : Nat)), some (.int (p : Nat)), some (.int (q : Nat))] μ (by omega) ⟨p, q, rfl, rfl, rfl, rfl⟩
  have b0 : b = 0 := by
    by_cases z : b = 0
    · exact z
    · exfalso
      have ne : fGt μ2 (.int (b : Nat)) (.int 0) = some (.bl true) := by rw [gt_int, decide_eq_true (by omega)]
      subst hc
      simp -implicitDefEqProofs only [startE, exs_nil, exs_cons, ex_pass, ex_expr, ex_asg, ex_ifs, ex_for, ex_ret, ex_retN, ex_brk, ex_cont, ex_never, ev_var, ev_lit, ev_op1, ev_op2, ev_op3, ev_opN, ev_opM, ev_meth, ev_frz, ev_lst, ev_tup, ev_and, ev_or, ev_not, ev_ite, ev_chain, ev_call, ev_comp, evs_nil, evs_cons, Res.bind_assoc, evT, asgT_name, asgT_sub, asgT_tup, asgTs_nil, asgTs_cons, Res.bind_ok, Res.bind_exc, lift_some, noExc_ok, truth_bl, finish_rt, finish_nx, List.map_cons, List.map_nil, List.length_cons, List.length_nil, List.replicate_zero, List.replicate_succ, List.cons_append, List.nil_append, List.getElem?_cons_zero, List.getElem?_cons_succ, List.set_cons_zero, List.set_cons_succ, Bool.not_true, Bool.not_false, ↓reduceIte, Bool.false_eq_true, Nat.reduceAdd, Nat.reduceSub, Nat.reduceLT, Nat.reduceLeDiff, Nat.zero_add, id_eq, Nat.sub_self, Bool.true_and, Bool.and_true, Bool.false_and, Bool.and_false, Bool.true_or, Bool.or_true, Bool.false_or, Bool.or_false, ne] at ec
      simp at ec
  subst b0
  rw [Nat.gcd_zero_right] at hg
  subst hg
  rw [ew]
  simp -implicitDefEqProofs only [startE, exs_nil, exs_cons, ex_pass, ex_expr, ex_asg, ex_ifs, ex_for, ex_ret, ex_retN, ex_brk, ex_cont, ex_never, ev_var, ev_lit, ev_op1, ev_op2, ev_op3, ev_opN, ev_opM, ev_meth, ev_frz, ev_lst, ev_tup, ev_and, ev_or, ev_not, ev_ite, ev_chain, ev_call, ev_comp, evs_nil, evs_cons, Res.bind_assoc, evT, asgT_name, asgT_sub, asgT_tup, asgTs_nil, asgTs_cons, Res.bind_ok, Res.bind_exc, lift_some, noExc_ok, truth_bl, finish_rt, finish_nx, List.map_cons, List.map_nil, List.length_cons, List.length_nil, List.replicate_zero, List.replicate_succ, List.cons_append, List.nil_append, List.getElem?_cons_zero, List.getElem?_cons_succ, List.set_cons_zero, List.set_cons_succ, Bool.not_true, Bool.not_false, ↓reduceIte, Bool.false_eq_true, Nat.reduceAdd, Nat.reduceSub, Nat.reduceLT, Nat.reduceLeDiff, Nat.zero_add, id_eq, Nat.sub_self, Bool.true_and, Bool.and_true, Bool.false_and, Bool.and_false, Bool.true_or, Bool.or_true, Bool.false_or, Bool.or_false, d1, d2, c2, lowD]
/-! ### powers -/
def pws (x k : Nat) : List D := (List.range (k + 1)).map fun j => .int ((x ^ j : Nat) : Int)
theorem pws_len (x k : Nat) : (pws x k).length = k + 1 := by simp [pws]
theorem pws_ix (μ : Store) {x k j : Nat} (h : j ≤ k) : fIx μ (.lst (pws x k)) (.int (j : Nat)) = some (.int ((x ^ j : Nat) : Int)) := by
  rw [ix_lst μ (by omega) (by rw [pws_len]; omega)]
  congr 1
  rw [Int.toNat_natCast]
  simp [pws, List.getD, show j < k + 1 by omega]
theorem pws_last (μ : Store) (x k : Nat) : fIx μ (.lst (pws x k)) (.int (-1)) = some (.int ((x ^ k : Nat) : Int)) := by
  have hl := pws_len x k
  have e : ixOf (pws x k).length (-1) = some k := by
    have := ixOf_neg (n := (pws x k).length) (j := 1) (by omega) (by omega)
    rw [hl] at this ⊢
    simpa using this
  show ((ixOf (pws x k).length (-1)).bind fun j => (pws x k)[j]?) = _
  rw [e]
  simp [pws]
theorem powers_of_ok (hP : P "powers_of" = some Law.d_powers_of) {x k : Nat} (hx : x < 2 ^ 110) (hk : k ≤ 200) : callD P (n + 1) "powers_of" [.int (x : Nat), .int (k : Nat)] μ = .ok (.lst (pws x k)) μ := by
  rw [callD_eq hP rfl]
  have mk : mkL true [D.int 1] μ = .ok (.ref μ.length) (μ ++ [.lst [.int 1]]) := rfl
  have rg : ∀ ν : Store, fRng1 ν [.int (k : Nat)] = some ((List.range k).map fun j => .int (j : Nat)) := fun ν => rng1 ν (by omega)
  simp -implicitDefEqProofs only [Law.d_powers_of, startE, exs_nil, exs_cons, ex_pass, ex_expr, ex_asg, ex_ifs, ex_for, ex_ret, ex_retN, ex_brk, ex_cont, ex_never, ev_var, ev_lit, ev_op1, ev_op2, ev_op3, ev_opN, ev_opM, ev_meth, ev_frz, ev_lst, ev_tup, ev_and, ev_or, ev_not, ev_ite, ev_chain, ev_call, ev_comp, evs_nil, evs_cons, Res.bind_assoc, evT, asgT_name, asgT_sub, asgT_tup, asgTs_nil, asgTs_cons, Res.bind_ok, Res.bind_exc, lift_some, noExc_ok, truth_bl, finish_rt, finish_nx, List.map_cons, List.map_nil, List.length_cons, List.length_nil, List.replicate_zero, List.replicate_succ, List.cons_append, List.nil_append, List.getElem?_cons_zero, List.getElem?_cons_succ, List.set_cons_zero, List.set_cons_succ, Bool.not_true, Bool.not_false, ↓reduceIte, Bool.false_eq_true, Nat.reduceAdd, Nat.reduceSub, Nat.reduceLT, Nat.reduceLeDiff, Nat.zero_add, id_eq, Nat.sub_self, Bool.true_and, Bool.and_true, Bool.false_and, Bool.and_false, Bool.true_or, Bool.or_true, Bool.false_or, Bool.or_false, mk, rg]
  generalize hst : forStep _ _ _ = st
  obtain ⟨ρ', μ', e, o, rfl, rfl⟩ := forLoop_inv (step := st) (fun j ρ μ' => ∃ o : Option D, ρ = [some (.int (x : Nat)), some (.int (k : Nat)), some (.ref μ.length), o] ∧ μ' = μ ++ [.lst (pws x j)])
    ((List.range k).map fun j => .int (j : Nat)) 0 [some (.int (x : Nat)), some (.int (k : Nat)), some (.ref μ.length), none] (μ ++ [.lst [.int 1]]) ⟨none, rfl, rfl⟩ (by
      rintro j d ρ μ' hj ⟨o, rfl, rfl⟩
      obtain ⟨hjn, rfl⟩ := get_rng0 hj
      rw [Nat.zero_add]
      have hg : (μ ++ [MO.lst (pws x j)])[μ.length]? = some (.lst (pws x j)) := get_mid μ _ []
      have il : isLst (μ ++ [MO.lst (pws x j)]) (.ref μ.length) = true := by
        unfold isLst asL
        simp only [hg]; rfl
      have x1 : fIx (μ ++ [MO.lst (pws x j)]) (.ref μ.length) (.int (-1)) = some (.int ((x ^ j : Nat) : Int)) := by
        rw [ix_ref hg]
        exact pws_last μ x j
      have ml : fMul (μ ++ [MO.lst (pws x j)]) (.int ((x ^ j : Nat) : Int)) (.int (x : Nat)) = some (.int ((x ^ (j + 1) : Nat) : Int)) := by
        have lo := mul_nat (μ ++ [MO.lst (pws x j)]) (x := x ^ j) (y := x) (a := 110 * 200) (b := 110) (pow_lt hx (by omega)) hx (by decide) (by decide) (by decide)
        rw [lo, Nat.pow_succ]
      have ap : mAppend [.ref μ.length, .int ((x ^ (j + 1) : Nat) : Int)] (μ ++ [MO.lst (pws x j)]) = .ok .non (μ ++ [MO.lst (pws x (j + 1))]) := by
        have lc : (pws x j).length < cap := by rw [pws_len]; exact Nat.lt_of_le_of_lt (by omega : j + 1 ≤ 201) (by decide)
        have e1 : pws x (j + 1) = pws x j ++ [.int ((x ^ (j + 1) : Nat) : Int)] := by
          unfold pws
          rw [List.range_succ, List.map_append]; rfl
        simp only [mAppend, hg]
        rw [if_pos ⟨rfl, lc⟩, set_mid μ _ _ [], e1]
      refine ⟨_, _, ?_, some (.int (j : Nat)), rfl, rfl⟩
      subst hst
      simp -implicitDefEqProofs only [startE, exs_nil, exs_cons, ex_pass, ex_expr, ex_asg, ex_ifs, ex_for, ex_ret, ex_retN, ex_brk, ex_cont, ex_never, ev_var, ev_lit, ev_op1, ev_op2, ev_op3, ev_opN, ev_opM, ev_meth, ev_frz, ev_lst, ev_tup, ev_and, ev_or, ev_not, ev_ite, ev_chain, ev_call, ev_comp, evs_nil, evs_cons, Res.bind_assoc, evT, asgT_name, asgT_sub, asgT_tup, asgTs_nil, asgTs_cons, Res.bind_ok, Res.bind_exc, lift_some, noExc_ok, truth_bl, finish_rt, finish_nx, List.map_cons, List.map_nil, List.length_cons, List.length_nil, List.replicate_zero, List.replicate_succ, List.cons_append, List.nil_append, List.getElem?_cons_zero, List.getElem?_cons_succ, List.set_cons_zero, List.set_cons_succ, Bool.not_true, Bool.not_false, ↓reduceIte, Bool.false_eq_true, Nat.reduceAdd, Nat.reduceSub, Nat.reduceLT, Nat.reduceLeDiff, Nat.zero_add, id_eq, Nat.sub_self, Bool.true_and, Bool.and_true, Bool.false_and, Bool.and_false, Bool.true_or, Bool.or_true, Bool.false_or, Bool.or_false, compStep, forStep, bindT_name, bindT_tup, bindT_str, bindTs_nil, bindTs_cons, wipeE, List.length_set, il, neg_int, x1, ml, ap])
  rw [Nat.zero_add, List.length_map, List.length_range] at e
  have hg : (μ ++ [MO.lst (pws x k)])[μ.length]? = some (.lst (pws x k)) := get_mid μ _ []
  have fz : freeze (.ref μ.length) (μ ++ [MO.lst (pws x k)]) = .ok (.lst (pws x k)) (μ ++ [MO.dead]) := by
    simp only [freeze, hg]
    rw [set_mid μ _ _ []]
  simp -implicitDefEqProofs only [startE, exs_nil, exs_cons, ex_pass, ex_expr, ex_asg, ex_ifs, ex_for, ex_ret, ex_retN, ex_brk, ex_cont, ex_never, ev_var, ev_lit, ev_op1, ev_op2, ev_op3, ev_opN, ev_opM, ev_meth, ev_frz, ev_lst, ev_tup, ev_and, ev_or, ev_not, ev_ite, ev_chain, ev_call, ev_comp, evs_nil, evs_cons, Res.bind_assoc, evT, asgT_name, asgT_sub, asgT_tup, asgTs_nil, asgTs_cons, Res.bind_ok, Res.bind_exc, lift_some, noExc_ok, truth_bl, finish_rt, finish_nx, List.map_cons, List.map_nil, List.length_cons, List.length_nil, List.replicate_zero, List.replicate_succ, List.cons_append, List.nil_append, List.getElem?_cons_zero, List.getElem?_cons_succ, List.set_cons_zero, List.set_cons_succ, Bool.not_true, Bool.not_false, ↓reduceIte, Bool.false_eq_true, Nat.reduceAdd, Nat.reduceSub, Nat.reduceLT, Nat.reduceLeDiff, Nat.zero_add, id_eq, Nat.sub_self, Bool.true_and, Bool.and_true, Bool.false_and, Bool.and_false, Bool.true_or, Bool.or_true, Bool.false_or, Bool.or_false, e, fz]
  have nr : noRef (.lst (pws x k)) = true := by
    unfold noRef pws
    have : ∀ l : List Nat, noRefs (l.map fun j => D.int ((x ^ j : Nat) : Int)) = true := by
      intro l
      induction l with
      | nil => unfold noRefs; rfl
      | cons a l ih => rw [List.map_cons]; unfold noRefs; rw [ih]; rfl
    exact this _
  show trunc μ _ _ = _
  unfold trunc
  rw [if_pos nr, List.take_left]
end
end Ev

namespace Ev
open Res
/-! ### ways of downs, sorted by the rest by 3 -/
def ch : Nat → Nat → Nat
  | _, 0 => 1
  | 0, _ + 1 => 0
  | n + 1, j + 1 => ch n j + ch n (j + 1)
theorem ch_zero (n : Nat) : ch n 0 = 1 := by cases n <;> rfl
theorem ch_gt : ∀ (n j : Nat), n < j → ch n j = 0
  | 0, j + 1, _ => rfl
  | n + 1, j + 1, h => by
    show ch n j + ch n (j + 1) = 0
    rw [ch_gt n j (by omega), ch_gt n (j + 1) (by omega)]
/-- what j downs of n slips are worth -/
def gp (a c n j : Nat) : Nat := ch n j * (a ^ j * c ^ (n - j))
theorem gp_zero (a c n : Nat) : gp a c (n + 1) 0 = gp a c n 0 * c := by
  unfold gp
  rw [ch_zero, ch_zero, Nat.sub_zero, Nat.sub_zero, Nat.pow_succ]
  simp only [Nat.pow_zero, Nat.one_mul]
theorem gp_succ (a c n j : Nat) : gp a c (n + 1) (j + 1) = gp a c n (j + 1) * c + gp a c n j * a := by
  unfold gp
  show (ch n j + ch n (j + 1)) * (a ^ (j + 1) * c ^ (n + 1 - (j + 1))) = _
  rw [Nat.add_sub_add_right, Nat.add_mul, Nat.add_comm]
  congr 1
  · by_cases h : j + 1 ≤ n
    · rw [show n - j = n - (j + 1) + 1 by omega, Nat.pow_succ c]
      simp only [Nat.mul_assoc]
    · rw [ch_gt n (j + 1) (by omega)]
      simp
  · rw [Nat.pow_succ]
    simp only [Nat.mul_assoc, Nat.mul_comm, Nat.mul_left_comm]
theorem gp_gt (a c : Nat) {n j : Nat} (h : n < j) : gp a c n j = 0 := by unfold gp; rw [ch_gt n j h, Nat.zero_mul]
def sm (f : Nat → Nat) : Nat → Nat
  | 0 => 0
  | m + 1 => sm f m + f m
theorem sm_range (f : Nat → Nat) : ∀ m, ((List.range m).map f).sum = sm f m
  | 0 => rfl
  | m + 1 => by rw [List.range_succ, List.map_append, List.sum_append, sm_range f m]; simp [sm]
def Tk (a c n k m : Nat) : Nat := sm (fun j => if (n + j) % 3 = k then gp a c n j else 0) m
theorem Tk_step (a c n : Nat) {k : Nat} (hk : k < 3) : ∀ m, Tk a c (n + 1) k (m + 1) = Tk a c n ((k + 2) % 3) (m + 1) * c + Tk a c n ((k + 1) % 3) m * a
  | 0 => by
    unfold Tk
    simp only [sm, Nat.zero_add, Nat.add_zero, gp_zero, Nat.zero_mul]
    have e : ((n + 1) % 3 = k) = (n % 3 = (k + 2) % 3) := propext ⟨fun h => by omega, fun h => by omega⟩
    simp only [e]
    split <;> simp
  | m + 1 => by
    have ih := Tk_step a c n hk m
    unfold Tk at ih ⊢
    have e1 : ((n + 1 + (m + 1)) % 3 = k) = ((n + (m + 1)) % 3 = (k + 2) % 3) := propext ⟨fun h => by omega, fun h => by omega⟩
    have e2 : ((n + 1 + (m + 1)) % 3 = k) = ((n + m) % 3 = (k + 1) % 3) := propext ⟨fun h => by omega, fun h => by omega⟩
    rw [sm, ih, sm.eq_2 _ (m + 1), sm.eq_2 (fun j => if (n + j) % 3 = (k + 1) % 3 then gp a c n j else 0) m]
    simp only [gp_succ]
    by_cases h : (n + 1 + (m + 1)) % 3 = k
    · rw [if_pos h, if_pos (e1 ▸ h), if_pos (e2 ▸ h)]
      simp only [Nat.add_mul]
      omega
    · rw [if_neg h, if_neg (e1 ▸ h), if_neg (e2 ▸ h)]
      simp
theorem Tk_more (a c n k : Nat) : Tk a c n k (n + 1 + 1) = Tk a c n k (n + 1) := by
  unfold Tk
  rw [sm]
  rw [gp_gt a c (by omega : n < n + 1)]
  simp
/-- the weight of being k letters on, behind n slips -/
def Rk (a c n k : Nat) : Nat := Tk a c n k (n + 1)
theorem Rk_step (a c n : Nat) {k : Nat} (hk : k < 3) : Rk a c (n + 1) k = Rk a c n ((k + 1) % 3) * a + Rk a c n ((k + 2) % 3) * c := by
  unfold Rk
  rw [Tk_step a c n hk, Tk_more, Nat.add_comm]
theorem Rk_zero (a c : Nat) : Rk a c 0 0 = 1 ∧ Rk a c 0 1 = 0 ∧ Rk a c 0 2 = 0 := by
  unfold Rk Tk
  simp [sm, gp, ch]
theorem Rk_sum (a c : Nat) : ∀ n, Rk a c n 0 + Rk a c n 1 + Rk a c n 2 = (a + c) ^ n
  | 0 => by
    obtain ⟨h0, h1, h2⟩ := Rk_zero a c
    rw [h0, h1, h2]
    rfl
  | n + 1 => by
    rw [Rk_step a c n (by decide : 0 < 3), Rk_step a c n (by decide : 1 < 3), Rk_step a c n (by decide : 2 < 3), Nat.pow_succ, ← Rk_sum a c n]
    simp only [Nat.zero_add, Nat.reduceAdd, Nat.reduceMod, Nat.add_mul, Nat.mul_add]
    omega
/-- downs for ups -/
theorem Rk_flip (a c : Nat) : ∀ n, Rk a c n 0 = Rk c a n 0 ∧ Rk a c n 1 = Rk c a n 2 ∧ Rk a c n 2 = Rk c a n 1
  | 0 => by
    obtain ⟨h0, h1, h2⟩ := Rk_zero a c
    obtain ⟨g0, g1, g2⟩ := Rk_zero c a
    exact ⟨by rw [h0, g0], by rw [h1, g2], by rw [h2, g1]⟩
  | n + 1 => by
    obtain ⟨i0, i1, i2⟩ := Rk_flip a c n
    refine ⟨?_, ?_, ?_⟩ <;> (rw [Rk_step _ _ n (by decide), Rk_step _ _ n (by decide)]; simp only [Nat.zero_add, Nat.reduceAdd, Nat.reduceMod, i0, i1, i2]; omega)
end Ev

namespace Ev
open Res
/-! ### comb -/
def fc : Nat → Nat
  | 0 => 1
  | k + 1 => (k + 1) * fc k
def fallN (n : Nat) : Nat → Nat
  | 0 => 1
  | k + 1 => fallN n k * (n - k)
theorem fall_gt (n : Nat) : ∀ k, n < k → fallN n k = 0
  | k + 1, h => by
    by_cases e : n = k
    · subst e
      simp [fallN]
    · rw [fallN, fall_gt n k (by omega), Nat.zero_mul]
theorem fall_succ (n : Nat) : ∀ k, fallN (n + 1) (k + 1) = (n + 1) * fallN n k
  | 0 => by simp [fallN]
  | k + 1 => by
    rw [fallN, fall_succ n k, fallN, Nat.add_sub_add_right, Nat.mul_assoc]
theorem ch_fall : ∀ n k, ch n k * fc k = fallN n k
  | n, 0 => by rw [ch_zero]; rfl
  | 0, k + 1 => by
    rw [fall_gt 0 (k + 1) (by omega)]
    simp [ch]
  | n + 1, k + 1 => by
    have i1 := ch_fall n k
    have i2 := ch_fall n (k + 1)
    rw [fall_succ]
    show (ch n k + ch n (k + 1)) * fc (k + 1) = _
    rw [Nat.add_mul, i2, fallN, ← i1]
    show ch n k * ((k + 1) * fc k) + ch n k * fc k * (n - k) = _
    by_cases h : k ≤ n
    · have e : ch n k * ((k + 1) * fc k) + ch n k * fc k * (n - k) = ch n k * fc k * ((k + 1) + (n - k)) := by
        rw [Nat.mul_add, Nat.mul_left_comm, Nat.mul_comm (k + 1)]
      rw [e, show k + 1 + (n - k) = n + 1 by omega, Nat.mul_comm]
    · rw [ch_gt n k (by omega)]
      simp
theorem fc_pos : ∀ k, 0 < fc k
  | 0 => Nat.one_pos
  | k + 1 => Nat.mul_pos (Nat.succ_pos k) (fc_pos k)
theorem fall_self : ∀ k, fallN k k = fc k
  | 0 => rfl
  | k + 1 => by rw [fall_succ, fall_self k]; rfl
theorem ch_self : ∀ n, ch n n = 1
  | 0 => rfl
  | n + 1 => by
    show ch n n + ch n (n + 1) = 1
    rw [ch_self n, ch_gt n (n + 1) (by omega)]
theorem ch_sym : ∀ n k, k ≤ n → ch n k = ch n (n - k)
  | n, 0, _ => by rw [ch_zero, Nat.sub_zero, ch_self]
  | n + 1, k + 1, h => by
    rw [Nat.add_sub_add_right]
    by_cases e : k = n
    · subst e
      rw [Nat.sub_self, ch_zero, ch_self]
    · obtain ⟨m, hm⟩ : ∃ m, n - k = m + 1 := ⟨n - k - 1, by omega⟩
      rw [hm]
      show ch n k + ch n (k + 1) = ch n m + ch n (m + 1)
      rw [ch_sym n k (by omega), ch_sym n (k + 1) (by omega), hm, show n - (k + 1) = m by omega, Nat.add_comm]
theorem fall_int (n : Nat) : ∀ k, k ≤ n → PySem.Builtin.Math.fallingProduct (n : Int) k = (fallN n k : Nat)
  | 0, _ => rfl
  | k + 1, h => by
    unfold PySem.Builtin.Math.fallingProduct
    rw [List.range_succ, List.foldl_append, List.foldl_cons, List.foldl_nil]
    have ih := fall_int n k (by omega)
    unfold PySem.Builtin.Math.fallingProduct at ih
    rw [ih, fallN, Int.natCast_mul, Int.ofNat_sub (by omega)]
theorem comb_nat {n k : Nat} (h : k ≤ n) : PySem.W.mcComb (n : Int) (k : Int) = (ch n k : Nat) := by
  have go : ∀ m : Nat, m ≤ n → ch n m = ch n k → min (k : Int) ((n : Int) - k) = (m : Nat) → PySem.W.mcComb (n : Int) (k : Int) = (ch n k : Nat) := fun m hm e hx => by
    rw [PySem.W.mcComb_at (by omega) (by omega) hx, Int.toNat_natCast, fall_int n m hm, fall_int m m (Nat.le_refl _), fall_self, ← ch_fall n m, e]
    have hp := fc_pos m
    rw [Int.natCast_mul, Int.mul_ediv_cancel _ (by omega)]
  by_cases q : k ≤ n - k
  · exact go k h rfl (by omega)
  · exact go (n - k) (by omega) (ch_sym n k h).symm (by omega)
theorem comb_ok (μ : Store) {n k : Nat} (h : k ≤ n) (hn : n ≤ 9000) : fComb μ [.int (n : Nat), .int (k : Nat)] = some (.int (ch n k : Nat)) := by
  have h1 : ((n : Nat) : Int) < 2 ^ 64 := Int.lt_of_lt_of_le (by omega : ((n : Nat) : Int) < 9001) (by decide)
  have h2 : (0 : Int) ≤ (n : Nat) ∧ (0 : Int) ≤ (k : Nat) ∧ ((n : Nat) : Int) < 2 ^ 64 ∧ ((k : Nat) : Int) ≤ 9000 := ⟨Int.natCast_nonneg n, Int.natCast_nonneg k, h1, by omega⟩
  simp only [fComb]
  rw [if_pos h2, comb_nat h]
end Ev

set_option exponentiation.threshold 100000
namespace Ev
open Res
abbrev chD (a b : Nat) : D := .tup [.int (a : Nat), .int (b : Nat)]
/-- a chance and a number of slips -/
structure Cn (a b N : Nat) : Prop where
  le : a ≤ b
  pos : 0 < b
  lt : b < 2 ^ 110
  many : N ≤ 200
  small : b ^ N < 89 ^ 98
theorem ch_pow : ∀ n k, ch n k ≤ 2 ^ n
  | n, 0 => by rw [ch_zero]; exact Nat.pow_pos (by decide)
  | 0, k + 1 => by simp [ch]
  | n + 1, k + 1 => by
    show ch n k + ch n (k + 1) ≤ 2 ^ (n + 1)
    have := ch_pow n k
    have := ch_pow n (k + 1)
    rw [Nat.pow_succ]
    omega
theorem sm_filter (p : Nat → Bool) (f : Nat → Nat) : ∀ m, (((List.range m).filter p).map f).sum = sm (fun j => if p j then f j else 0) m
  | 0 => rfl
  | m + 1 => by
    rw [List.range_succ, List.filter_append, List.map_append, List.sum_append, sm_filter p f m, sm]
    cases h : p m <;> simp [h]
theorem sum_cast : ∀ l : List Nat, (l.map fun x => ((x : Nat) : Int)).sum = ((l.sum : Nat) : Int)
  | [] => rfl
  | x :: l => by rw [List.map_cons, List.sum_cons, List.sum_cons, sum_cast l, Int.natCast_add]
theorem eq_rest (μ : Store) (N j : Nat) : fEq μ (.int ((((N : Nat) : Int) - 2 * (j : Nat)) % 3)) (.int 0) = some (.bl (decide ((N + j) % 3 = 0))) := by
  rw [eq_intX]
  have : ((((N : Nat) : Int) - 2 * (j : Nat)) % 3 == 0) = decide ((N + j) % 3 = 0) := by
    rw [Bool.eq_iff_iff, beq_iff_eq, decide_eq_true_iff]
    omega
  rw [this]
section
variable {P : String → Option FD} {n : Nat} {μ : Store}
theorem is_chance_ok (K : K70 P) {a b N : Nat} (h : Cn a b N) : callD P (n + 3) "is_chance" [chD a b] μ = .ok (.bl true) μ := by
  have hp := h.pos
  have hle := h.le
  have w := fun i : Int => is_whole_int (n := n) (μ := μ) K.whole i
  have t1 : fIsi μ [chD a b, .ty "tuple"] = some (.bl true) := rfl
  have l2 : fLen μ [chD a b] = some (.int 2) := rfl
  have e22 : fEq μ (.int 2) (.int 2) = some (.bl true) := rfl
  have x0 : fIx μ (chD a b) (.int 0) = some (.int (a : Nat)) := rfl
  have x1 : fIx μ (chD a b) (.int 1) = some (.int (b : Nat)) := rfl
  have c2 : 2 ≤ cap := by decide
  have al : fAll μ [.lst [.bl true, .bl true]] = some (.bl true) := rfl
  have tt : callD P (n + 1) "is_tuple_of" [chD a b, .int 2] μ = .ok (.bl true) μ := by
    rw [callD_eq K.isTupleOf rfl]
    simp -implicitDefEqProofs only [Law.d_is_tuple_of, startE, exs_nil, exs_cons, ex_pass, ex_expr, ex_asg, ex_ifs, ex_for, ex_ret, ex_retN, ex_brk, ex_cont, ex_never, ev_var, ev_lit, ev_op1, ev_op2, ev_op3, ev_opN, ev_opM, ev_meth, ev_frz, ev_lst, ev_tup, ev_and, ev_or, ev_not, ev_ite, ev_chain, ev_call, ev_comp, evs_nil, evs_cons, Res.bind_assoc, evT, asgT_name, asgT_sub, asgT_tup, asgTs_nil, asgTs_cons, Res.bind_ok, Res.bind_exc, lift_some, noExc_ok, truth_bl, finish_rt, finish_nx, List.map_cons, List.map_nil, List.length_cons, List.length_nil, List.replicate_zero, List.replicate_succ, List.cons_append, List.nil_append, List.getElem?_cons_zero, List.getElem?_cons_succ, List.set_cons_zero, List.set_cons_succ, Bool.not_true, Bool.not_false, ↓reduceIte, Bool.false_eq_true, Nat.reduceAdd, Nat.reduceSub, Nat.reduceLT, Nat.reduceLeDiff, Nat.zero_add, id_eq, Nat.sub_self, Bool.true_and, Bool.and_true, Bool.false_and, Bool.and_false, Bool.true_or, Bool.or_true, Bool.false_or, Bool.or_false, t1, l2, e22]
  have aw : callD P (n + 2) "are_wholes" [chD a b, .int 2] μ = .ok (.bl true) μ := by
    rw [callD_eq K.areWholes rfl]
    have vt : fVal μ [chD a b] = some [.int (a : Nat), .int (b : Nat)] := rfl
    have m2 := mkL2 μ
    simp -implicitDefEqProofs only [Law.d_are_wholes, startE, exs_nil, exs_cons, ex_pass, ex_expr, ex_asg, ex_ifs, ex_for, ex_ret, ex_retN, ex_brk, ex_cont, ex_never, ev_var, ev_lit, ev_op1, ev_op2, ev_op3, ev_opN, ev_opM, ev_meth, ev_frz, ev_lst, ev_tup, ev_and, ev_or, ev_not, ev_ite, ev_chain, ev_call, ev_comp, evs_nil, evs_cons, Res.bind_assoc, evT, asgT_name, asgT_sub, asgT_tup, asgTs_nil, asgTs_cons, Res.bind_ok, Res.bind_exc, lift_some, noExc_ok, truth_bl, finish_rt, finish_nx, List.map_cons, List.map_nil, List.length_cons, List.length_nil, List.replicate_zero, List.replicate_succ, List.cons_append, List.nil_append, List.getElem?_cons_zero, List.getElem?_cons_succ, List.set_cons_zero, List.set_cons_succ, Bool.not_true, Bool.not_false, ↓reduceIte, Bool.false_eq_true, Nat.reduceAdd, Nat.reduceSub, Nat.reduceLT, Nat.reduceLeDiff, Nat.zero_add, id_eq, Nat.sub_self, Bool.true_and, Bool.and_true, Bool.false_and, Bool.and_false, Bool.true_or, Bool.or_true, Bool.false_or, Bool.or_false, tt, vt, c2, compLoop_cons, compLoop_nil, compStep, forStep, bindT_name, bindT_tup, bindT_str, bindTs_nil, bindTs_cons, wipeE, List.length_set, w, m2, al]
  have g1 : decide ((0 : Int) < (b : Nat)) = true := by rw [decide_eq_true_iff]; omega
  have g2 : decide ((0 : Int) ≤ (a : Nat)) = true := by rw [decide_eq_true_iff]; omega
  have g3 : decide (((a : Nat) : Int) ≤ (b : Nat)) = true := by rw [decide_eq_true_iff]; omega
  rw [callD_eq K.isChance rfl]
  simp -implicitDefEqProofs only [Law.d_is_chance, startE, exs_nil, exs_cons, ex_pass, ex_expr, ex_asg, ex_ifs, ex_for, ex_ret, ex_retN, ex_brk, ex_cont, ex_never, ev_var, ev_lit, ev_op1, ev_op2, ev_op3, ev_opN, ev_opM, ev_meth, ev_frz, ev_lst, ev_tup, ev_and, ev_or, ev_not, ev_ite, ev_chain, ev_call, ev_comp, evs_nil, evs_cons, Res.bind_assoc, evT, asgT_name, asgT_sub, asgT_tup, asgTs_nil, asgTs_cons, Res.bind_ok, Res.bind_exc, lift_some, noExc_ok, truth_bl, finish_rt, finish_nx, List.map_cons, List.map_nil, List.length_cons, List.length_nil, List.replicate_zero, List.replicate_succ, List.cons_append, List.nil_append, List.getElem?_cons_zero, List.getElem?_cons_succ, List.set_cons_zero, List.set_cons_succ, Bool.not_true, Bool.not_false, ↓reduceIte, Bool.false_eq_true, Nat.reduceAdd, Nat.reduceSub, Nat.reduceLT, Nat.reduceLeDiff, Nat.zero_add, id_eq, Nat.sub_self, Bool.true_and, Bool.and_true, Bool.false_and, Bool.and_false, Bool.true_or, Bool.or_true, Bool.false_or, Bool.or_false, aw, x0, x1, gt_int, le_int, g1, g2, g3]
theorem slip_by_ok (K : K70 P) {a b N : Nat} (h : Cn a b N) : callD P (n + 2) "slip_chance_by" [chD a b, .int (N : Nat)] μ = .ok (lowD (Rk a (b - a) N 0) (b ^ N)) μ := by
  have hp := h.pos
  have hle := h.le
  have hN := h.many
  have hb := h.lt
  have ha : a < 2 ^ 110 := Nat.lt_of_le_of_lt hle hb
  have hc : b - a < 2 ^ 110 := Nat.lt_of_le_of_lt (Nat.sub_le _ _) hb
  have c2 : 2 ≤ cap := by decide
  have p1 := fun ν : Store => powers_of_ok (n := n) (μ := ν) K.powersOf (x := a) (k := N) ha hN
  have p2 := fun ν : Store => powers_of_ok (n := n) (μ := ν) K.powersOf (x := b - a) (k := N) hc hN
  have p3 := fun ν : Store => powers_of_ok (n := n) (μ := ν) K.powersOf (x := b) (k := N) hb hN
  rw [show (((b - a : Nat) : Int)) = (b : Nat) - (a : Nat) by omega] at p2
  have rn : fRng1 μ [.int ((N : Nat) + 1)] = some ((List.range (N + 1)).map fun j => .int (j : Nat)) := by
    have := rng1 μ (n := N + 1) (by omega)
    rwa [Int.natCast_add] at this
  have l3 : fLen μ [.str [65, 66, 67]] = some (.int 3) := rfl
  have i3 := pws_last μ b N
  rw [callD_eq K.slipChanceBy rfl]
  have rc : ((List.range (N + 1)).map fun j => D.int (j : Nat)).length ≤ cap := by rw [List.length_map, List.length_range]; exact cap1000 (by omega)
  simp -implicitDefEqProofs only [Law.d_slip_chance_by, startE, exs_nil, exs_cons, ex_pass, ex_expr, ex_asg, ex_ifs, ex_for, ex_ret, ex_retN, ex_brk, ex_cont, ex_never, ev_var, ev_lit, ev_op1, ev_op2, ev_op3, ev_opN, ev_opM, ev_meth, ev_frz, ev_lst, ev_tup, ev_and, ev_or, ev_not, ev_ite, ev_chain, ev_call, ev_comp, evs_nil, evs_cons, Res.bind_assoc, evT, asgT_name, asgT_sub, asgT_tup, asgTs_nil, asgTs_cons, Res.bind_ok, Res.bind_exc, lift_some, noExc_ok, truth_bl, finish_rt, finish_nx, List.map_cons, List.map_nil, List.length_cons, List.length_nil, List.replicate_zero, List.replicate_succ, List.cons_append, List.nil_append, List.getElem?_cons_zero, List.getElem?_cons_succ, List.set_cons_zero, List.set_cons_succ, Bool.not_true, Bool.not_false, ↓reduceIte, Bool.false_eq_true, Nat.reduceAdd, Nat.reduceSub, Nat.reduceLT, Nat.reduceLeDiff, Nat.zero_add, id_eq, Nat.sub_self, Bool.true_and, Bool.and_true, Bool.false_and, Bool.and_false, Bool.true_or, Bool.or_true, Bool.false_or, Bool.or_false, sub_int, p1, p2, c2, add_int, rn, rc]
  rw [compLoop_filter (fun j : Nat => D.int (j : Nat)) (fun j => D.int (j : Nat)) (fun j => decide ((N + j) % 3 = 0))]
  rotate_left
  · intro j hj
    have hj := List.mem_range.mp hj
    have m1 : fMul μ (.int 2) (.int (j : Nat)) = some (.int (2 * (j : Nat))) := mul_l μ _ (by decide)
    have m2 := mod_pos μ (((N : Nat) : Int) - 2 * (j : Nat)) (show (0 : Int) < 3 by decide)
    have e3 := eq_rest μ N j
    cases hq : decide ((N + j) % 3 = 0) <;> (rw [hq] at e3; simp -implicitDefEqProofs only [startE, exs_nil, exs_cons, ex_pass, ex_expr, ex_asg, ex_ifs, ex_for, ex_ret, ex_retN, ex_brk, ex_cont, ex_never, ev_var, ev_lit, ev_op1, ev_op2, ev_op3, ev_opN, ev_opM, ev_meth, ev_frz, ev_lst, ev_tup, ev_and, ev_or, ev_not, ev_ite, ev_chain, ev_call, ev_comp, evs_nil, evs_cons, Res.bind_assoc, evT, asgT_name, asgT_sub, asgT_tup, asgTs_nil, asgTs_cons, Res.bind_ok, Res.bind_exc, lift_some, noExc_ok, truth_bl, finish_rt, finish_nx, List.map_cons, List.map_nil, List.length_cons, List.length_nil, List.replicate_zero, List.replicate_succ, List.cons_append, List.nil_append, List.getElem?_cons_zero, List.getElem?_cons_succ, List.set_cons_zero, List.set_cons_succ, Bool.not_true, Bool.not_false, ↓reduceIte, Bool.false_eq_true, Nat.reduceAdd, Nat.reduceSub, Nat.reduceLT, Nat.reduceLeDiff, Nat.zero_add, id_eq, Nat.sub_self, Bool.true_and, Bool.and_true, Bool.false_and, Bool.and_false, Bool.true_or, Bool.or_true, Bool.false_or, Bool.or_false, compStep, forStep, bindT_name, bindT_tup, bindT_str, bindTs_nil, bindTs_cons, wipeE, List.length_set, m1, sub_int, l3, m2, e3])
  generalize hfl : (List.range (N + 1)).filter (fun j => decide ((N + j) % 3 = 0)) = js
  have hjs : ∀ j ∈ js, j ≤ N := fun j hj => by
    rw [← hfl] at hj
    have := List.mem_range.mp (List.mem_filter.mp hj).1
    omega
  have jl : js.length ≤ 201 := by
    rw [← hfl]
    have := List.length_filter_le (fun j => decide ((N + j) % 3 = 0)) (List.range (N + 1))
    rw [List.length_range] at this
    omega
  have jc : (js.map fun j => D.int (j : Nat)).length ≤ cap := by rw [List.length_map]; exact cap1000 (by omega)
  have vl := val_lst μ (js.map fun j => D.int (j : Nat))
  simp -implicitDefEqProofs only [startE, exs_nil, exs_cons, ex_pass, ex_expr, ex_asg, ex_ifs, ex_for, ex_ret, ex_retN, ex_brk, ex_cont, ex_never, ev_var, ev_lit, ev_op1, ev_op2, ev_op3, ev_opN, ev_opM, ev_meth, ev_frz, ev_lst, ev_tup, ev_and, ev_or, ev_not, ev_ite, ev_chain, ev_call, ev_comp, evs_nil, evs_cons, Res.bind_assoc, evT, asgT_name, asgT_sub, asgT_tup, asgTs_nil, asgTs_cons, Res.bind_ok, Res.bind_exc, lift_some, noExc_ok, truth_bl, finish_rt, finish_nx, List.map_cons, List.map_nil, List.length_cons, List.length_nil, List.replicate_zero, List.replicate_succ, List.cons_append, List.nil_append, List.getElem?_cons_zero, List.getElem?_cons_succ, List.set_cons_zero, List.set_cons_succ, Bool.not_true, Bool.not_false, ↓reduceIte, Bool.false_eq_true, Nat.reduceAdd, Nat.reduceSub, Nat.reduceLT, Nat.reduceLeDiff, Nat.zero_add, id_eq, Nat.sub_self, Bool.true_and, Bool.and_true, Bool.false_and, Bool.and_false, Bool.true_or, Bool.or_true, Bool.false_or, Bool.or_false, mkL_val _ _ jc, vl, jc]
  rw [compLoop_map (fun j : Nat => D.int (j : Nat)) (fun j => D.int ((gp a (b - a) N j : Nat) : Int))]
  rotate_left
  · intro j hj
    have hj := hjs j hj
    have cm := comb_ok μ hj (by omega)
    have i1 := pws_ix μ (x := a) hj
    have i2 := pws_ix μ (x := b - a) (k := N) (j := N - j) (by omega)
    rw [Int.ofNat_sub hj] at i2
    have b1 : ch N j < 2 ^ 201 := Nat.lt_of_le_of_lt (ch_pow N j) (Nat.pow_lt_pow_right (by decide) (by omega))
    have b2 : a ^ j < 2 ^ (110 * 200) := pow_lt ha (by omega)
    have b3 : (b - a) ^ (N - j) < 2 ^ (110 * 200) := pow_lt hc (by omega)
    have b4 : ch N j * a ^ j < 2 ^ (201 + 110 * 200) := by
      rw [Nat.pow_add]
      exact Nat.mul_lt_mul'' b1 b2
    have m1 := mul_nat μ b1 b2 (by decide) (by decide) (by decide)
    have m2 := mul_nat μ b4 b3 (by decide) (by decide) (by decide)
    rw [Nat.mul_assoc] at m2
    simp -implicitDefEqProofs only [startE, exs_nil, exs_cons, ex_pass, ex_expr, ex_asg, ex_ifs, ex_for, ex_ret, ex_retN, ex_brk, ex_cont, ex_never, ev_var, ev_lit, ev_op1, ev_op2, ev_op3, ev_opN, ev_opM, ev_meth, ev_frz, ev_lst, ev_tup, ev_and, ev_or, ev_not, ev_ite, ev_chain, ev_call, ev_comp, evs_nil, evs_cons, Res.bind_assoc, evT, asgT_name, asgT_sub, asgT_tup, asgTs_nil, asgTs_cons, Res.bind_ok, Res.bind_exc, lift_some, noExc_ok, truth_bl, finish_rt, finish_nx, List.map_cons, List.map_nil, List.length_cons, List.length_nil, List.replicate_zero, List.replicate_succ, List.cons_append, List.nil_append, List.getElem?_cons_zero, List.getElem?_cons_succ, List.set_cons_zero, List.set_cons_succ, Bool.not_true, Bool.not_false, ↓reduceIte, Bool.false_eq_true, Nat.reduceAdd, Nat.reduceSub, Nat.reduceLT, Nat.reduceLeDiff, Nat.zero_add, id_eq, Nat.sub_self, Bool.true_and, Bool.and_true, Bool.false_and, Bool.and_false, Bool.true_or, Bool.or_true, Bool.false_or, Bool.or_false, compStep, forStep, bindT_name, bindT_tup, bindT_str, bindTs_nil, bindTs_cons, wipeE, List.length_set, cm, i1, m1, sub_int, i2, m2, gp]
  have gc : (js.map fun j => D.int ((gp a (b - a) N j : Nat) : Int)).length ≤ cap := by rw [List.length_map]; exact cap1000 (by omega)
  have su : fSumD μ [.lst (js.map fun j => D.int ((gp a (b - a) N j : Nat) : Int))] = some (.int ((Rk a (b - a) N 0 : Nat) : Int)) := by
    have := sum_ints μ ((js.map fun j => gp a (b - a) N j).map fun x => ((x : Nat) : Int))
    rw [sum_cast, List.map_map, List.map_map] at this
    show fSumD μ [.lst (js.map ((D.int ∘ fun x => ((x : Nat) : Int)) ∘ fun j => gp a (b - a) N j))] = _
    rw [this, ← hfl, sm_filter]
    simp only [decide_eq_true_eq]
    rfl
  have lo := lowest_ok (n := n) (μ := μ) K.lowest (p := Rk a (b - a) N 0) (q := b ^ N) (m := 98) (Nat.pow_pos hp) h.small (by decide)
  simp -implicitDefEqProofs only [startE, exs_nil, exs_cons, ex_pass, ex_expr, ex_asg, ex_ifs, ex_for, ex_ret, ex_retN, ex_brk, ex_cont, ex_never, ev_var, ev_lit, ev_op1, ev_op2, ev_op3, ev_opN, ev_opM, ev_meth, ev_frz, ev_lst, ev_tup, ev_and, ev_or, ev_not, ev_ite, ev_chain, ev_call, ev_comp, evs_nil, evs_cons, Res.bind_assoc, evT, asgT_name, asgT_sub, asgT_tup, asgTs_nil, asgTs_cons, Res.bind_ok, Res.bind_exc, lift_some, noExc_ok, truth_bl, finish_rt, finish_nx, List.map_cons, List.map_nil, List.length_cons, List.length_nil, List.replicate_zero, List.replicate_succ, List.cons_append, List.nil_append, List.getElem?_cons_zero, List.getElem?_cons_succ, List.set_cons_zero, List.set_cons_succ, Bool.not_true, Bool.not_false, ↓reduceIte, Bool.false_eq_true, Nat.reduceAdd, Nat.reduceSub, Nat.reduceLT, Nat.reduceLeDiff, Nat.zero_add, id_eq, Nat.sub_self, Bool.true_and, Bool.and_true, Bool.false_and, Bool.and_false, Bool.true_or, Bool.or_true, Bool.false_or, Bool.or_false, mkL_val _ _ gc, su, p3, neg_int, i3, lo]
end
end Ev

set_option exponentiation.threshold 100000
namespace Ev
open Res
/-- the answer -/
abbrev due70 (a b N : Nat) : D := lowD (Rk a (b - a) N 0) (b ^ N)
section
variable {P : String → Option FD} {n : Nat} {μ : Store}
theorem slip_ok (K : K70 P) {a b N : Nat} (h : Cn a b N) : callD P (n + 6) "slip_chance" [chD a b, .int (N : Nat)] μ = .ok (due70 a b N) μ := by
  have hN := h.many
  have ic := is_chance_ok (n := n) (μ := μ) K h
  have cc : callD P (n + 4) "check_chance" [chD a b] μ = .ok .non μ := by
    rw [callD_eq K.checkChance rfl]
    simp -implicitDefEqProofs only [Law.d_check_chance, startE, exs_nil, exs_cons, ex_pass, ex_expr, ex_asg, ex_ifs, ex_for, ex_ret, ex_retN, ex_brk, ex_cont, ex_never, ev_var, ev_lit, ev_op1, ev_op2, ev_op3, ev_opN, ev_opM, ev_meth, ev_frz, ev_lst, ev_tup, ev_and, ev_or, ev_not, ev_ite, ev_chain, ev_call, ev_comp, evs_nil, evs_cons, Res.bind_assoc, evT, asgT_name, asgT_sub, asgT_tup, asgTs_nil, asgTs_cons, Res.bind_ok, Res.bind_exc, lift_some, noExc_ok, truth_bl, finish_rt, finish_nx, List.map_cons, List.map_nil, List.length_cons, List.length_nil, List.replicate_zero, List.replicate_succ, List.cons_append, List.nil_append, List.getElem?_cons_zero, List.getElem?_cons_succ, List.set_cons_zero, List.set_cons_succ, Bool.not_true, Bool.not_false, ↓reduceIte, Bool.false_eq_true, Nat.reduceAdd, Nat.reduceSub, Nat.reduceLT, Nat.reduceLeDiff, Nat.zero_add, id_eq, Nat.sub_self, Bool.true_and, Bool.and_true, Bool.false_and, Bool.and_false, Bool.true_or, Bool.or_true, Bool.false_or, Bool.or_false, ic]
  have d1 : decide ((0 : Int) ≤ (N : Nat)) = true := decide_eq_true (Int.natCast_nonneg N)
  have d2 : decide (((N : Nat) : Int) ≤ 200) = true := decide_eq_true (by exact_mod_cast hN)
  have cn : callD P (n + 4) "check_number" [.int (N : Nat), .int 0, .int 200] μ = .ok .non μ := by
    rw [callD_eq K.checkNumber rfl]
    simp -implicitDefEqProofs only [Law.d_check_number, startE, exs_nil, exs_cons, ex_pass, ex_expr, ex_asg, ex_ifs, ex_for, ex_ret, ex_retN, ex_brk, ex_cont, ex_never, ev_var, ev_lit, ev_op1, ev_op2, ev_op3, ev_opN, ev_opM, ev_meth, ev_frz, ev_lst, ev_tup, ev_and, ev_or, ev_not, ev_ite, ev_chain, ev_call, ev_comp, evs_nil, evs_cons, Res.bind_assoc, evT, asgT_name, asgT_sub, asgT_tup, asgTs_nil, asgTs_cons, Res.bind_ok, Res.bind_exc, lift_some, noExc_ok, truth_bl, finish_rt, finish_nx, List.map_cons, List.map_nil, List.length_cons, List.length_nil, List.replicate_zero, List.replicate_succ, List.cons_append, List.nil_append, List.getElem?_cons_zero, List.getElem?_cons_succ, List.set_cons_zero, List.set_cons_succ, Bool.not_true, Bool.not_false, ↓reduceIte, Bool.false_eq_true, Nat.reduceAdd, Nat.reduceSub, Nat.reduceLT, Nat.reduceLeDiff, Nat.zero_add, id_eq, Nat.sub_self, Bool.true_and, Bool.and_true, Bool.false_and, Bool.and_false, Bool.true_or, Bool.or_true, Bool.false_or, Bool.or_false, is_between_int K.between K.whole, d1, d2]
  have ca : callD P (n + 5) "check_apart" [chD a b, .int (N : Nat)] μ = .ok .non μ := by
    rw [callD_eq K.checkApart rfl]
    simp -implicitDefEqProofs only [Law.d_check_apart, startE, exs_nil, exs_cons, ex_pass, ex_expr, ex_asg, ex_ifs, ex_for, ex_ret, ex_retN, ex_brk, ex_cont, ex_never, ev_var, ev_lit, ev_op1, ev_op2, ev_op3, ev_opN, ev_opM, ev_meth, ev_frz, ev_lst, ev_tup, ev_and, ev_or, ev_not, ev_ite, ev_chain, ev_call, ev_comp, evs_nil, evs_cons, Res.bind_assoc, evT, asgT_name, asgT_sub, asgT_tup, asgTs_nil, asgTs_cons, Res.bind_ok, Res.bind_exc, lift_some, noExc_ok, truth_bl, finish_rt, finish_nx, List.map_cons, List.map_nil, List.length_cons, List.length_nil, List.replicate_zero, List.replicate_succ, List.cons_append, List.nil_append, List.getElem?_cons_zero, List.getElem?_cons_succ, List.set_cons_zero, List.set_cons_succ, Bool.not_true, Bool.not_false, ↓reduceIte, Bool.false_eq_true, Nat.reduceAdd, Nat.reduceSub, Nat.reduceLT, Nat.reduceLeDiff, Nat.zero_add, id_eq, Nat.sub_self, Bool.true_and, Bool.and_true, Bool.false_and, Bool.and_false, Bool.true_or, Bool.or_true, Bool.false_or, Bool.or_false, cc, cn]
  have sb := slip_by_ok (n := n + 3) (μ := μ) K h
  rw [callD_eq K.slipChance rfl]
  simp -implicitDefEqProofs only [Law.d_slip_chance, startE, exs_nil, exs_cons, ex_pass, ex_expr, ex_asg, ex_ifs, ex_for, ex_ret, ex_retN, ex_brk, ex_cont, ex_never, ev_var, ev_lit, ev_op1, ev_op2, ev_op3, ev_opN, ev_opM, ev_meth, ev_frz, ev_lst, ev_tup, ev_and, ev_or, ev_not, ev_ite, ev_chain, ev_call, ev_comp, evs_nil, evs_cons, Res.bind_assoc, evT, asgT_name, asgT_sub, asgT_tup, asgTs_nil, asgTs_cons, Res.bind_ok, Res.bind_exc, lift_some, noExc_ok, truth_bl, finish_rt, finish_nx, List.map_cons, List.map_nil, List.length_cons, List.length_nil, List.replicate_zero, List.replicate_succ, List.cons_append, List.nil_append, List.getElem?_cons_zero, List.getElem?_cons_succ, List.set_cons_zero, List.set_cons_succ, Bool.not_true, Bool.not_false, ↓reduceIte, Bool.false_eq_true, Nat.reduceAdd, Nat.reduceSub, Nat.reduceLT, Nat.reduceLeDiff, Nat.zero_add, id_eq, Nat.sub_self, Bool.true_and, Bool.and_true, Bool.false_and, Bool.and_false, Bool.true_or, Bool.or_true, Bool.false_or, Bool.or_false, ca, sb]
end
end Ev

set_option exponentiation.threshold 100000
namespace Ev
open Res
theorem Rk_le (a c n : Nat) {k : Nat} (hk : k < 3) : Rk a c n k ≤ (a + c) ^ n := by
  rw [← Rk_sum a c n]
  rcases (show k = 0 ∨ k = 1 ∨ k = 2 by omega) with rfl | rfl | rfl <;> omega
def rowD (a b i : Nat) : D := .tup [.int ((Rk a (b - a) i 0 : Nat) : Int), .int ((Rk a (b - a) i 1 : Nat) : Int), .int ((Rk a (b - a) i 2 : Nat) : Int)]
section
variable {P : String → Option FD} {n : Nat} {μ : Store}
theorem shares_ok (K : K70 P) {a b N : Nat} (h : Cn a b N) : callD P (n + 1) "_law_shares" [chD a b, .int (N : Nat)] μ = .ok (.tup [rowD a b N, .int ((b ^ N : Nat) : Int)]) μ := by
  have hle := h.le
  have hN := h.many
  have hb := h.lt
  have ha : a < 2 ^ 110 := Nat.lt_of_le_of_lt hle hb
  have hc : b - a < 2 ^ 110 := Nat.lt_of_le_of_lt (Nat.sub_le _ _) hb
  have eab : a + (b - a) = b := Nat.add_sub_cancel' hle
  have c2 : 2 ≤ cap := by decide
  have c3 : 3 ≤ cap := by decide
  have rn := rng1 μ (n := N) (Nat.lt_of_le_of_lt hN (by decide))
  rw [callD_eq K.lShares rfl]
  simp -implicitDefEqProofs only [Law.d__law_shares, startE, exs_nil, exs_cons, ex_pass, ex_expr, ex_asg, ex_ifs, ex_for, ex_ret, ex_retN, ex_brk, ex_cont, ex_never, ev_var, ev_lit, ev_op1, ev_op2, ev_op3, ev_opN, ev_opM, ev_meth, ev_frz, ev_lst, ev_tup, ev_and, ev_or, ev_not, ev_ite, ev_chain, ev_call, ev_comp, evs_nil, evs_cons, Res.bind_assoc, evT, asgT_name, asgT_sub, asgT_tup, asgTs_nil, asgTs_cons, Res.bind_ok, Res.bind_exc, lift_some, noExc_ok, truth_bl, finish_rt, finish_nx, List.map_cons, List.map_nil, List.length_cons, List.length_nil, List.replicate_zero, List.replicate_succ, List.cons_append, List.nil_append, List.getElem?_cons_zero, List.getElem?_cons_succ, List.set_cons_zero, List.set_cons_succ, Bool.not_true, Bool.not_false, ↓reduceIte, Bool.false_eq_true, Nat.reduceAdd, Nat.reduceSub, Nat.reduceLT, Nat.reduceLeDiff, Nat.zero_add, id_eq, Nat.sub_self, Bool.true_and, Bool.and_true, Bool.false_and, Bool.and_false, Bool.true_or, Bool.or_true, Bool.false_or, Bool.or_false, c2, c3, rn]
  generalize hst : forStep _ _ _ = st
  obtain ⟨ρ', μ', e, ⟨o, rfl⟩, rfl⟩ := forLoop_inv (step := st) (fun i ρ μ' => (∃ o : Option D, ρ = [some (chD a b), some (.int (N : Nat)), some (.int (a : Nat)), some (.int (b : Nat)), some (rowD a b i), some (.int ((b ^ i : Nat) : Int)), o, none]) ∧ μ' = μ)
    ((List.range N).map fun j => .int (j : Nat)) 0 [some (chD a b), some (.int (N : Nat)), some (.int (a : Nat)), some (.int (b : Nat)), some (.tup [.int 1, .int 0, .int 0]), some (.int 1), none, none] μ ⟨⟨none, by
      obtain ⟨h0, h1, h2⟩ := Rk_zero a (b - a)
      unfold rowD
      rw [h0, h1, h2, Nat.pow_zero]
      rfl⟩, rfl⟩ (by
      rintro i d ρ μ' hi ⟨⟨o, rfl⟩, rfl⟩
      obtain ⟨hin, rfl⟩ := get_rng0 hi
      rw [Nat.zero_add]
      have bi : b ^ i < 2 ^ (110 * 200) := pow_lt hb (by omega)
      have rb : ∀ k, k < 3 → Rk a (b - a) i k < 2 ^ (110 * 200) := fun k hk => Nat.lt_of_le_of_lt (by have := Rk_le a (b - a) i hk; rw [eab] at this; exact this) bi
      have m := fun k (hk : k < 3) => mul_nat μ' (rb k hk) ha (by decide) (by decide) (by decide)
      have mc := fun k (hk : k < 3) => mul_nat μ' (rb k hk) hc (by decide) (by decide) (by decide)
      have m0 := m 0 (by decide); have m1 := m 1 (by decide); have m2 := m 2 (by decide)
      have q0 := mc 0 (by decide); have q1 := mc 1 (by decide); have q2 := mc 2 (by decide)
      have mb := mul_nat μ' bi hb (by decide) (by decide) (by decide)
      rw [← Nat.pow_succ] at mb
      rw [show (((b - a : Nat) : Int)) = (b : Nat) - (a : Nat) from Int.ofNat_sub hle] at q0 q1 q2
      have x : ∀ k : Nat, k < 3 → fIx μ' (rowD a b i) (.int (k : Nat)) = some (.int ((Rk a (b - a) i k : Nat) : Int)) := fun k hk => by
        rcases (show k = 0 ∨ k = 1 ∨ k = 2 by omega) with rfl | rfl | rfl <;> rfl
      have x0 : fIx μ' (rowD a b i) (.int 0) = _ := x 0 (by decide)
      have x1 : fIx μ' (rowD a b i) (.int 1) = _ := x 1 (by decide)
      have x2 : fIx μ' (rowD a b i) (.int 2) = _ := x 2 (by decide)
      have r3 : fRng1 μ' [.int 3] = some [.int 0, .int 1, .int 2] := rfl
      have d3 : ∀ j : Int, fMod μ' (.int j) (.int 3) = some (.int (j % 3)) := fun j => mod_pos μ' j (by decide)
      have n1 : ((0 : Int) + 1) % 3 = 1 := by decide
      have n2 : ((0 : Int) + 2) % 3 = 2 := by decide
      have n3 : ((1 : Int) + 1) % 3 = 2 := by decide
      have n4 : ((1 : Int) + 2) % 3 = 0 := by decide
      have n5 : ((2 : Int) + 1) % 3 = 0 := by decide
      have n6 : ((2 : Int) + 2) % 3 = 1 := by decide
      have k3 : ∀ x y z : D, mkL false [x, y, z] μ' = .ok (.lst [x, y, z]) μ' := fun x y z => mkL_val _ _ c3
      have tp : ∀ x y z : D, fTuple μ' [.lst [x, y, z]] = some (.tup [x, y, z]) := fun x y z => rfl
      have er : rowD a b (i + 1) = .tup [.int (((Rk a (b - a) i 1 * a : Nat) : Int) + ((Rk a (b - a) i 2 * (b - a) : Nat) : Int)), .int (((Rk a (b - a) i 2 * a : Nat) : Int) + ((Rk a (b - a) i 0 * (b - a) : Nat) : Int)), .int (((Rk a (b - a) i 0 * a : Nat) : Int) + ((Rk a (b - a) i 1 * (b - a) : Nat) : Int))] := by
        unfold rowD
        rw [Rk_step a (b - a) i (by decide : 0 < 3), Rk_step a (b - a) i (by decide : 1 < 3), Rk_step a (b - a) i (by decide : 2 < 3)]
        simp only [Nat.zero_add, Nat.reduceAdd, Nat.reduceMod, Int.natCast_add]
      refine ⟨_, _, ?_, ⟨some (.int (i : Nat)), rfl⟩, rfl⟩
      rw [er]
      subst hst
      simp -implicitDefEqProofs only [startE, exs_nil, exs_cons, ex_pass, ex_expr, ex_asg, ex_ifs, ex_for, ex_ret, ex_retN, ex_brk, ex_cont, ex_never, ev_var, ev_lit, ev_op1, ev_op2, ev_op3, ev_opN, ev_opM, ev_meth, ev_frz, ev_lst, ev_tup, ev_and, ev_or, ev_not, ev_ite, ev_chain, ev_call, ev_comp, evs_nil, evs_cons, Res.bind_assoc, evT, asgT_name, asgT_sub, asgT_tup, asgTs_nil, asgTs_cons, Res.bind_ok, Res.bind_exc, lift_some, noExc_ok, truth_bl, finish_rt, finish_nx, List.map_cons, List.map_nil, List.length_cons, List.length_nil, List.replicate_zero, List.replicate_succ, List.cons_append, List.nil_append, List.getElem?_cons_zero, List.getElem?_cons_succ, List.set_cons_zero, List.set_cons_succ, Bool.not_true, Bool.not_false, ↓reduceIte, Bool.false_eq_true, Nat.reduceAdd, Nat.reduceSub, Nat.reduceLT, Nat.reduceLeDiff, Nat.zero_add, id_eq, Nat.sub_self, Bool.true_and, Bool.and_true, Bool.false_and, Bool.and_false, Bool.true_or, Bool.or_true, Bool.false_or, Bool.or_false, forStep, bindT_name, wipeE, r3, c3, compLoop_cons, compLoop_nil, compStep, add_int, int_int, d3, n1, n2, n3, n4, n5, n6, x0, x1, x2, m0, m1, m2, sub_int, q0, q1, q2, k3, tp, mb])
  rw [Nat.zero_add, List.length_map, List.length_range] at e
  simp -implicitDefEqProofs only [startE, exs_nil, exs_cons, ex_pass, ex_expr, ex_asg, ex_ifs, ex_for, ex_ret, ex_retN, ex_brk, ex_cont, ex_never, ev_var, ev_lit, ev_op1, ev_op2, ev_op3, ev_opN, ev_opM, ev_meth, ev_frz, ev_lst, ev_tup, ev_and, ev_or, ev_not, ev_ite, ev_chain, ev_call, ev_comp, evs_nil, evs_cons, Res.bind_assoc, evT, asgT_name, asgT_sub, asgT_tup, asgTs_nil, asgTs_cons, Res.bind_ok, Res.bind_exc, lift_some, noExc_ok, truth_bl, finish_rt, finish_nx, List.map_cons, List.map_nil, List.length_cons, List.length_nil, List.replicate_zero, List.replicate_succ, List.cons_append, List.nil_append, List.getElem?_cons_zero, List.getElem?_cons_succ, List.set_cons_zero, List.set_cons_succ, Bool.not_true, Bool.not_false, ↓reduceIte, Bool.false_eq_true, Nat.reduceAdd, Nat.reduceSub, Nat.reduceLT, Nat.reduceLeDiff, Nat.zero_add, id_eq, Nat.sub_self, Bool.true_and, Bool.and_true, Bool.false_and, Bool.and_false, Bool.true_or, Bool.or_true, Bool.false_or, Bool.or_false, e, c2]
end
end Ev

set_option exponentiation.threshold 100000
namespace Ev
open Res
theorem ch_next {n j : Nat} : ch n j * (n - j) = ch n (j + 1) * (j + 1) := by
  have h1 := ch_fall n j
  have h2 := ch_fall n (j + 1)
  rw [fallN, ← h1] at h2
  have hp := fc_pos j
  have e : fc j * (ch n j * (n - j)) = fc j * (ch n (j + 1) * (j + 1)) := by
    have h3 : ch n (j + 1) * ((j + 1) * fc j) = ch n j * fc j * (n - j) := h2
    calc fc j * (ch n j * (n - j)) = ch n j * fc j * (n - j) := by ac_rfl
      _ = ch n (j + 1) * ((j + 1) * fc j) := h3.symm
      _ = fc j * (ch n (j + 1) * (j + 1)) := by ac_rfl
  exact Nat.eq_of_mul_eq_mul_left hp e
theorem ch_div (n j : Nat) : ch n j * (n - j) / (j + 1) = ch n (j + 1) := by rw [ch_next, Nat.mul_div_cancel _ (Nat.succ_pos j)]
section
variable {P : String → Option FD} {n : Nat} {μ : Store}
/-- a loop that multiplies -/
theorem mul_loop {st : Env → D → Store → Res Fl} {x y e : Nat} (N : Nat) (mk : D → Option D → Env) (hx : x < 2 ^ 110) (hy : y < 2 ^ e) (he : 0 < e ∧ e ≤ 100000) (hN : N ≤ 200)
    (hst : ∀ (v w : Nat) (j : Nat) (o : Option D), fMul μ (.int (v : Nat)) (.int (x : Nat)) = some (.int ((v * x : Nat) : Int)) → st (mk (.int (v : Nat)) o) (.int (j : Nat)) μ = .ok (.nx (mk (.int ((v * x : Nat) : Int)) (some (.int (j : Nat))))) μ) (o : Option D) :
    ∃ o', forLoop st ((List.range N).map fun j => D.int (j : Nat)) (mk (.int (y : Nat)) o) μ = .ok (.nx (mk (.int ((y * x ^ N : Nat) : Int)) o')) μ := by
  obtain ⟨ρ', μ', e1, ⟨o', rfl⟩, rfl⟩ := forLoop_inv (step := st) (fun i ρ μ' => (∃ o, ρ = mk (.int ((y * x ^ i : Nat) : Int)) o) ∧ μ' = μ) ((List.range N).map fun j => .int (j : Nat)) 0 (mk (.int (y : Nat)) o) μ ⟨⟨o, by rw [Nat.pow_zero, Nat.mul_one]⟩, rfl⟩ (by
    rintro i d ρ μ' hi ⟨⟨o, rfl⟩, rfl⟩
    obtain ⟨hin, rfl⟩ := get_rng0 hi
    rw [Nat.zero_add]
    have b1 : y * x ^ i < 2 ^ (e + 110 * 200) := by
      rw [Nat.pow_add]
      exact Nat.mul_lt_mul'' hy (pow_lt hx (by omega))
    have m := mul_nat μ' b1 hx (by omega) (by decide) (by omega)
    refine ⟨_, _, hst _ 0 i o m, ⟨some (.int (i : Nat)), ?_⟩, rfl⟩
    rw [Nat.mul_assoc, ← Nat.pow_succ])
  rw [Nat.zero_add, List.length_map, List.length_range] at e1
  exact ⟨o', e1⟩
theorem by_sum_ok (K : K70 P) {a b N : Nat} (h : Cn a b N) : callD P (n + 2) "_law_by_sum" [chD a b, .int (N : Nat)] μ = .ok (due70 a b N) μ := by
  have hle := h.le
  have hN := h.many
  have hb := h.lt
  have ha : a < 2 ^ 110 := Nat.lt_of_le_of_lt hle hb
  have hc : b - a < 2 ^ 110 := Nat.lt_of_le_of_lt (Nat.sub_le _ _) hb
  have c2 : 2 ≤ cap := by decide
  have c3 : 3 ≤ cap := by decide
  have rn0 := fun (m : Nat) (hm : m ≤ 201) => rng1 μ (n := m) (Nat.lt_of_le_of_lt hm (by decide))
  have rn : fRng1 μ [.int ((N : Nat) + 1)] = some ((List.range (N + 1)).map fun j => .int (j : Nat)) := by
    have := rn0 (N + 1) (by omega)
    rwa [Int.natCast_add] at this
  rw [callD_eq K.lBySum rfl]
  simp -implicitDefEqProofs only [Law.d__law_by_sum, startE, exs_nil, exs_cons, ex_pass, ex_expr, ex_asg, ex_ifs, ex_for, ex_ret, ex_retN, ex_brk, ex_cont, ex_never, ev_var, ev_lit, ev_op1, ev_op2, ev_op3, ev_opN, ev_opM, ev_meth, ev_frz, ev_lst, ev_tup, ev_and, ev_or, ev_not, ev_ite, ev_chain, ev_call, ev_comp, evs_nil, evs_cons, Res.bind_assoc, evT, asgT_name, asgT_sub, asgT_tup, asgTs_nil, asgTs_cons, Res.bind_ok, Res.bind_exc, lift_some, noExc_ok, truth_bl, finish_rt, finish_nx, List.map_cons, List.map_nil, List.length_cons, List.length_nil, List.replicate_zero, List.replicate_succ, List.cons_append, List.nil_append, List.getElem?_cons_zero, List.getElem?_cons_succ, List.set_cons_zero, List.set_cons_succ, Bool.not_true, Bool.not_false, ↓reduceIte, Bool.false_eq_true, Nat.reduceAdd, Nat.reduceSub, Nat.reduceLT, Nat.reduceLeDiff, Nat.zero_add, id_eq, Nat.sub_self, Bool.true_and, Bool.and_true, Bool.false_and, Bool.and_false, Bool.true_or, Bool.or_true, Bool.false_or, Bool.or_false, c2, c3, add_int, rn]
  generalize hst : forStep _ _ _ = st
  obtain ⟨ρ', μ', e, ⟨o7, o8, o9, rfl⟩, rfl⟩ := forLoop_inv (step := st) (fun i ρ μ' => (∃ o7 o8 o9 : Option D, ρ = [some (chD a b), some (.int (N : Nat)), some (.int (a : Nat)), some (.int (b : Nat)), some (.int ((Tk a (b - a) N 0 i : Nat) : Int)), some (.int ((ch N i : Nat) : Int)), some (.int 1), o7, o8, o9]) ∧ μ' = μ)
    ((List.range (N + 1)).map fun j => .int (j : Nat)) 0 [some (chD a b), some (.int (N : Nat)), some (.int (a : Nat)), some (.int (b : Nat)), some (.int 0), some (.int 1), some (.int 1), none, none, none] μ ⟨⟨none, none, none, by rw [ch_zero]; rfl⟩, rfl⟩ (by
      rintro j d ρ μ' hj ⟨⟨o7, o8, o9, rfl⟩, rfl⟩
      obtain ⟨hjn, rfl⟩ := get_rng0 hj
      rw [Nat.zero_add]
      have hjN : j ≤ N := by omega
      have b1 : ch N j < 2 ^ 201 := Nat.lt_of_le_of_lt (ch_pow N j) (Nat.pow_lt_pow_right (by decide) (by omega))
      have m1 : fMul μ' (.int 2) (.int (j : Nat)) = some (.int (2 * (j : Nat))) := mul_l μ' _ (by decide)
      have m2 := mod_pos μ' (((N : Nat) : Int) - 2 * (j : Nat)) (show (0 : Int) < 3 by decide)
      have e3 := eq_rest μ' N j
      have bn : N - j < 2 ^ 8 := Nat.lt_of_le_of_lt (by omega : N - j ≤ 200) (by decide)
      have w1 := mul_nat μ' b1 bn (by decide) (by decide) (by decide)
      have w2 := div_nat μ' (ch N j * (N - j)) (g := j + 1) (Nat.succ_pos j) (by
        have := lt_log (n := j + 1) (k := 8) (Nat.lt_of_le_of_lt (by omega : j + 1 ≤ 201) (by decide)) (by decide)
        omega)
      rw [ch_div] at w2
      rw [Int.ofNat_sub hjN] at w1
      rw [Int.natCast_add] at w2
      have w2 : fDiv μ' (.int ((ch N j * (N - j) : Nat) : Int)) (.int ((j : Nat) + 1)) = some (.int ((ch N (j + 1) : Nat) : Int)) := w2
      cases hq : decide ((N + j) % 3 = 0) with
      | false =>
        rw [hq] at e3
        have ft : Tk a (b - a) N 0 (j + 1) = Tk a (b - a) N 0 j := by
          unfold Tk
          rw [sm, if_neg (by simpa using hq), Nat.add_zero]
        refine ⟨_, _, ?_, ⟨some (.int (j : Nat)), o8, o9, rfl⟩, rfl⟩
        rw [ft]
        subst hst
        simp -implicitDefEqProofs only [startE, exs_nil, exs_cons, ex_pass, ex_expr, ex_asg, ex_ifs, ex_for, ex_ret, ex_retN, ex_brk, ex_cont, ex_never, ev_var, ev_lit, ev_op1, ev_op2, ev_op3, ev_opN, ev_opM, ev_meth, ev_frz, ev_lst, ev_tup, ev_and, ev_or, ev_not, ev_ite, ev_chain, ev_call, ev_comp, evs_nil, evs_cons, Res.bind_assoc, evT, asgT_name, asgT_sub, asgT_tup, asgTs_nil, asgTs_cons, Res.bind_ok, Res.bind_exc, lift_some, noExc_ok, truth_bl, finish_rt, finish_nx, List.map_cons, List.map_nil, List.length_cons, List.length_nil, List.replicate_zero, List.replicate_succ, List.cons_append, List.nil_append, List.getElem?_cons_zero, List.getElem?_cons_succ, List.set_cons_zero, List.set_cons_succ, Bool.not_true, Bool.not_false, ↓reduceIte, Bool.false_eq_true, Nat.reduceAdd, Nat.reduceSub, Nat.reduceLT, Nat.reduceLeDiff, Nat.zero_add, id_eq, Nat.sub_self, Bool.true_and, Bool.and_true, Bool.false_and, Bool.and_false, Bool.true_or, Bool.or_true, Bool.false_or, Bool.or_false, forStep, bindT_name, wipeE, m1, sub_int, int_int, m2, e3, w1, add_int, w2]
      | true =>
        rw [hq] at e3
        have ft : Tk a (b - a) N 0 (j + 1) = Tk a (b - a) N 0 j + ch N j * a ^ j * (b - a) ^ (N - j) := by
          unfold Tk
          rw [sm, if_pos (by simpa using hq), Nat.mul_assoc]
          rfl
        have r1 := rn0 j (by omega)
        have r2 := rn0 (N - j) (by omega)
        rw [Int.ofNat_sub hjN] at r2
        subst hst
        simp -implicitDefEqProofs only [startE, exs_nil, exs_cons, ex_pass, ex_expr, ex_asg, ex_ifs, ex_for, ex_ret, ex_retN, ex_brk, ex_cont, ex_never, ev_var, ev_lit, ev_op1, ev_op2, ev_op3, ev_opN, ev_opM, ev_meth, ev_frz, ev_lst, ev_tup, ev_and, ev_or, ev_not, ev_ite, ev_chain, ev_call, ev_comp, evs_nil, evs_cons, Res.bind_assoc, evT, asgT_name, asgT_sub, asgT_tup, asgTs_nil, asgTs_cons, Res.bind_ok, Res.bind_exc, lift_some, noExc_ok, truth_bl, finish_rt, finish_nx, List.map_cons, List.map_nil, List.length_cons, List.length_nil, List.replicate_zero, List.replicate_succ, List.cons_append, List.nil_append, List.getElem?_cons_zero, List.getElem?_cons_succ, List.set_cons_zero, List.set_cons_succ, Bool.not_true, Bool.not_false, ↓reduceIte, Bool.false_eq_true, Nat.reduceAdd, Nat.reduceSub, Nat.reduceLT, Nat.reduceLeDiff, Nat.zero_add, id_eq, Nat.sub_self, Bool.true_and, Bool.and_true, Bool.false_and, Bool.and_false, Bool.true_or, Bool.or_true, Bool.false_or, Bool.or_false, forStep, bindT_name, wipeE, m1, sub_int, int_int, m2, e3, r1, r2]
        generalize hs1 : forStep _ _ _ = s1
        obtain ⟨o', e1⟩ := mul_loop (μ := μ') (st := s1) (x := a) (y := ch N j) (e := 201) j (fun v o => [some (chD a b), some (.int (N : Nat)), some (.int (a : Nat)), some (.int (b : Nat)), some (.int ((Tk a (b - a) N 0 j : Nat) : Int)), some (.int ((ch N j : Nat) : Int)), some (.int 1), some (.int (j : Nat)), some v, o]) ha b1 ⟨by decide, by decide⟩ (by omega) (fun v w t o m => by
          subst hs1
          simp -implicitDefEqProofs only [startE, exs_nil, exs_cons, ex_pass, ex_expr, ex_asg, ex_ifs, ex_for, ex_ret, ex_retN, ex_brk, ex_cont, ex_never, ev_var, ev_lit, ev_op1, ev_op2, ev_op3, ev_opN, ev_opM, ev_meth, ev_frz, ev_lst, ev_tup, ev_and, ev_or, ev_not, ev_ite, ev_chain, ev_call, ev_comp, evs_nil, evs_cons, Res.bind_assoc, evT, asgT_name, asgT_sub, asgT_tup, asgTs_nil, asgTs_cons, Res.bind_ok, Res.bind_exc, lift_some, noExc_ok, truth_bl, finish_rt, finish_nx, List.map_cons, List.map_nil, List.length_cons, List.length_nil, List.replicate_zero, List.replicate_succ, List.cons_append, List.nil_append, List.getElem?_cons_zero, List.getElem?_cons_succ, List.set_cons_zero, List.set_cons_succ, Bool.not_true, Bool.not_false, ↓reduceIte, Bool.false_eq_true, Nat.reduceAdd, Nat.reduceSub, Nat.reduceLT, Nat.reduceLeDiff, Nat.zero_add, id_eq, Nat.sub_self, Bool.true_and, Bool.and_true, Bool.false_and, Bool.and_false, Bool.true_or, Bool.or_true, Bool.false_or, Bool.or_false, forStep, bindT_name, wipeE, m]) o9
        have b2 : ch N j * a ^ j < 2 ^ (201 + 110 * 200) := by
          rw [Nat.pow_add]
          exact Nat.mul_lt_mul'' b1 (pow_lt ha (by omega))
        simp -implicitDefEqProofs only [startE, exs_nil, exs_cons, ex_pass, ex_expr, ex_asg, ex_ifs, ex_for, ex_ret, ex_retN, ex_brk, ex_cont, ex_never, ev_var, ev_lit, ev_op1, ev_op2, ev_op3, ev_opN, ev_opM, ev_meth, ev_frz, ev_lst, ev_tup, ev_and, ev_or, ev_not, ev_ite, ev_chain, ev_call, ev_comp, evs_nil, evs_cons, Res.bind_assoc, evT, asgT_name, asgT_sub, asgT_tup, asgTs_nil, asgTs_cons, Res.bind_ok, Res.bind_exc, lift_some, noExc_ok, truth_bl, finish_rt, finish_nx, List.map_cons, List.map_nil, List.length_cons, List.length_nil, List.replicate_zero, List.replicate_succ, List.cons_append, List.nil_append, List.getElem?_cons_zero, List.getElem?_cons_succ, List.set_cons_zero, List.set_cons_succ, Bool.not_true, Bool.not_false, ↓reduceIte, Bool.false_eq_true, Nat.reduceAdd, Nat.reduceSub, Nat.reduceLT, Nat.reduceLeDiff, Nat.zero_add, id_eq, Nat.sub_self, Bool.true_and, Bool.and_true, Bool.false_and, Bool.and_false, Bool.true_or, Bool.or_true, Bool.false_or, Bool.or_false, e1, sub_int, r2]
        generalize hs2 : forStep _ _ _ = s2
        obtain ⟨o'', e2⟩ := mul_loop (μ := μ') (st := s2) (x := b - a) (y := ch N j * a ^ j) (e := 201 + 110 * 200) (N - j) (fun v o => [some (chD a b), some (.int (N : Nat)), some (.int (a : Nat)), some (.int (b : Nat)), some (.int ((Tk a (b - a) N 0 j : Nat) : Int)), some (.int ((ch N j : Nat) : Int)), some (.int 1), some (.int (j : Nat)), some v, o]) hc b2 ⟨by decide, by decide⟩ (by omega) (fun v w t o m => by
          rw [Int.ofNat_sub hle] at m
          subst hs2
          simp -implicitDefEqProofs only [startE, exs_nil, exs_cons, ex_pass, ex_expr, ex_asg, ex_ifs, ex_for, ex_ret, ex_retN, ex_brk, ex_cont, ex_never, ev_var, ev_lit, ev_op1, ev_op2, ev_op3, ev_opN, ev_opM, ev_meth, ev_frz, ev_lst, ev_tup, ev_and, ev_or, ev_not, ev_ite, ev_chain, ev_call, ev_comp, evs_nil, evs_cons, Res.bind_assoc, evT, asgT_name, asgT_sub, asgT_tup, asgTs_nil, asgTs_cons, Res.bind_ok, Res.bind_exc, lift_some, noExc_ok, truth_bl, finish_rt, finish_nx, List.map_cons, List.map_nil, List.length_cons, List.length_nil, List.replicate_zero, List.replicate_succ, List.cons_append, List.nil_append, List.getElem?_cons_zero, List.getElem?_cons_succ, List.set_cons_zero, List.set_cons_succ, Bool.not_true, Bool.not_false, ↓reduceIte, Bool.false_eq_true, Nat.reduceAdd, Nat.reduceSub, Nat.reduceLT, Nat.reduceLeDiff, Nat.zero_add, id_eq, Nat.sub_self, Bool.true_and, Bool.and_true, Bool.false_and, Bool.and_false, Bool.true_or, Bool.or_true, Bool.false_or, Bool.or_false, forStep, bindT_name, wipeE, sub_int, m]) o'
        simp -implicitDefEqProofs only [startE, exs_nil, exs_cons, ex_pass, ex_expr, ex_asg, ex_ifs, ex_for, ex_ret, ex_retN, ex_brk, ex_cont, ex_never, ev_var, ev_lit, ev_op1, ev_op2, ev_op3, ev_opN, ev_opM, ev_meth, ev_frz, ev_lst, ev_tup, ev_and, ev_or, ev_not, ev_ite, ev_chain, ev_call, ev_comp, evs_nil, evs_cons, Res.bind_assoc, evT, asgT_name, asgT_sub, asgT_tup, asgTs_nil, asgTs_cons, Res.bind_ok, Res.bind_exc, lift_some, noExc_ok, truth_bl, finish_rt, finish_nx, List.map_cons, List.map_nil, List.length_cons, List.length_nil, List.replicate_zero, List.replicate_succ, List.cons_append, List.nil_append, List.getElem?_cons_zero, List.getElem?_cons_succ, List.set_cons_zero, List.set_cons_succ, Bool.not_true, Bool.not_false, ↓reduceIte, Bool.false_eq_true, Nat.reduceAdd, Nat.reduceSub, Nat.reduceLT, Nat.reduceLeDiff, Nat.zero_add, id_eq, Nat.sub_self, Bool.true_and, Bool.and_true, Bool.false_and, Bool.and_false, Bool.true_or, Bool.or_true, Bool.false_or, Bool.or_false, e2, add_int, sub_int, w1, w2]
        exact ⟨_, _, rfl, ⟨some (.int (j : Nat)), some (.int ((ch N j * a ^ j * (b - a) ^ (N - j) : Nat) : Int)), o'', by rw [ft, Int.natCast_add]⟩, rfl⟩)
  rw [Nat.zero_add, List.length_map, List.length_range] at e
  simp -implicitDefEqProofs only [startE, exs_nil, exs_cons, ex_pass, ex_expr, ex_asg, ex_ifs, ex_for, ex_ret, ex_retN, ex_brk, ex_cont, ex_never, ev_var, ev_lit, ev_op1, ev_op2, ev_op3, ev_opN, ev_opM, ev_meth, ev_frz, ev_lst, ev_tup, ev_and, ev_or, ev_not, ev_ite, ev_chain, ev_call, ev_comp, evs_nil, evs_cons, Res.bind_assoc, evT, asgT_name, asgT_sub, asgT_tup, asgTs_nil, asgTs_cons, Res.bind_ok, Res.bind_exc, lift_some, noExc_ok, truth_bl, finish_rt, finish_nx, List.map_cons, List.map_nil, List.length_cons, List.length_nil, List.replicate_zero, List.replicate_succ, List.cons_append, List.nil_append, List.getElem?_cons_zero, List.getElem?_cons_succ, List.set_cons_zero, List.set_cons_succ, Bool.not_true, Bool.not_false, ↓reduceIte, Bool.false_eq_true, Nat.reduceAdd, Nat.reduceSub, Nat.reduceLT, Nat.reduceLeDiff, Nat.zero_add, id_eq, Nat.sub_self, Bool.true_and, Bool.and_true, Bool.false_and, Bool.and_false, Bool.true_or, Bool.or_true, Bool.false_or, Bool.or_false, e, rn0 N (by omega)]
  generalize hs3 : forStep _ _ _ = s3
  obtain ⟨o'', e3⟩ := mul_loop (μ := μ') (st := s3) (x := b) (y := 1) (e := 1) N (fun v o => [some (chD a b), some (.int (N : Nat)), some (.int (a : Nat)), some (.int (b : Nat)), some (.int ((Tk a (b - a) N 0 (N + 1) : Nat) : Int)), some (.int ((ch N (N + 1) : Nat) : Int)), some v, o7, o8, o]) hb (by decide) ⟨by decide, by decide⟩ hN (fun v w t o m => by
    subst hs3
    simp -implicitDefEqProofs only [startE, exs_nil, exs_cons, ex_pass, ex_expr, ex_asg, ex_ifs, ex_for, ex_ret, ex_retN, ex_brk, ex_cont, ex_never, ev_var, ev_lit, ev_op1, ev_op2, ev_op3, ev_opN, ev_opM, ev_meth, ev_frz, ev_lst, ev_tup, ev_and, ev_or, ev_not, ev_ite, ev_chain, ev_call, ev_comp, evs_nil, evs_cons, Res.bind_assoc, evT, asgT_name, asgT_sub, asgT_tup, asgTs_nil, asgTs_cons, Res.bind_ok, Res.bind_exc, lift_some, noExc_ok, truth_bl, finish_rt, finish_nx, List.map_cons, List.map_nil, List.length_cons, List.length_nil, List.replicate_zero, List.replicate_succ, List.cons_append, List.nil_append, List.getElem?_cons_zero, List.getElem?_cons_succ, List.set_cons_zero, List.set_cons_succ, Bool.not_true, Bool.not_false, ↓reduceIte, Bool.false_eq_true, Nat.reduceAdd, Nat.reduceSub, Nat.reduceLT, Nat.reduceLeDiff, Nat.zero_add, id_eq, Nat.sub_self, Bool.true_and, Bool.and_true, Bool.false_and, Bool.and_false, Bool.true_or, Bool.or_true, Bool.false_or, Bool.or_false, forStep, bindT_name, wipeE, m]) o9
  rw [Nat.one_mul] at e3
  have e3 : forLoop s3 ((List.range N).map fun j => D.int (j : Nat)) [some (chD a b), some (.int (N : Nat)), some (.int (a : Nat)), some (.int (b : Nat)), some (.int ((Tk a (b - a) N 0 (N + 1) : Nat) : Int)), some (.int ((ch N (N + 1) : Nat) : Int)), some (.int 1), o7, o8, o9] μ' = _ := e3
  have lo := law_lowest_ok (n := n) (μ := μ') K.lLowest (p := Tk a (b - a) N 0 (N + 1)) (q := b ^ N) (Nat.pow_pos h.pos) h.small
  simp -implicitDefEqProofs only [startE, exs_nil, exs_cons, ex_pass, ex_expr, ex_asg, ex_ifs, ex_for, ex_ret, ex_retN, ex_brk, ex_cont, ex_never, ev_var, ev_lit, ev_op1, ev_op2, ev_op3, ev_opN, ev_opM, ev_meth, ev_frz, ev_lst, ev_tup, ev_and, ev_or, ev_not, ev_ite, ev_chain, ev_call, ev_comp, evs_nil, evs_cons, Res.bind_assoc, evT, asgT_name, asgT_sub, asgT_tup, asgTs_nil, asgTs_cons, Res.bind_ok, Res.bind_exc, lift_some, noExc_ok, truth_bl, finish_rt, finish_nx, List.map_cons, List.map_nil, List.length_cons, List.length_nil, List.replicate_zero, List.replicate_succ, List.cons_append, List.nil_append, List.getElem?_cons_zero, List.getElem?_cons_succ, List.set_cons_zero, List.set_cons_succ, Bool.not_true, Bool.not_false, ↓reduceIte, Bool.false_eq_true, Nat.reduceAdd, Nat.reduceSub, Nat.reduceLT, Nat.reduceLeDiff, Nat.zero_add, id_eq, Nat.sub_self, Bool.true_and, Bool.and_true, Bool.false_and, Bool.and_false, Bool.true_or, Bool.or_true, Bool.false_or, Bool.or_false, e3, lo]
  rfl
end
end Ev

set_option exponentiation.threshold 100000
namespace Ev
open Res
/-! ### letters by steps -/
def fur (a c : Nat) : Nat := if c == 43 then 65 + (a - 65 + 1) % 3 else 65 + (a - 65 + 2) % 3
def lay (f : List Nat) : List Nat → List Nat
  | [] => f
  | c :: cs => lay (f ++ [fur (lastD f) c]) cs
def wk (a : Nat) (cs : List Nat) : Nat := cs.foldl fur a
theorem fur_isL (a c : Nat) : isL (fur a c) = true := by
  unfold fur
  have h1 := Nat.mod_lt (a - 65 + 1) (show 0 < 3 by decide)
  have h2 := Nat.mod_lt (a - 65 + 2) (show 0 < 3 by decide)
  split
  · generalize (a - 65 + 1) % 3 = x at *
    have : x = 0 ∨ x = 1 ∨ x = 2 := by omega
    rcases this with rfl | rfl | rfl <;> rfl
  · generalize (a - 65 + 2) % 3 = x at *
    have : x = 0 ∨ x = 1 ∨ x = 2 := by omega
    rcases this with rfl | rfl | rfl <;> rfl
theorem lay_len : ∀ (cs f : List Nat), (lay f cs).length = f.length + cs.length
  | [], f => by simp [lay]
  | c :: cs, f => by rw [lay, lay_len cs, List.length_append, List.length_singleton, List.length_cons]; omega
theorem lay_wk : ∀ (cs f : List Nat), 1 ≤ f.length → (lay f cs).getD (f.length + cs.length - 1) 0 = wk (lastD f) cs
  | [], f, _ => by rw [lay, List.length_nil, Nat.add_zero]; rfl
  | c :: cs, f, h => by
    have ih := lay_wk cs (f ++ [fur (lastD f) c]) (by simp)
    rw [lastD_app, List.length_append, List.length_singleton] at ih
    rw [lay, List.length_cons, show f.length + (cs.length + 1) - 1 = f.length + 1 + cs.length - 1 by omega, ih]
    rfl
theorem wk_isL : ∀ (cs : List Nat) (a : Nat), isL a = true → isL (wk a cs) = true
  | [], a, h => h
  | c :: cs, a, _ => wk_isL cs (fur a c) (fur_isL a c)
theorem wk_app (a c : Nat) (cs : List Nat) : wk a (cs ++ [c]) = fur (wk a cs) c := by unfold wk; rw [List.foldl_append]; rfl
section
variable {P : String → Option FD} {n : Nat} {μ : Store}
theorem worth_ok (hP : P "worth" = some Law.d_worth) {c : Nat} (hc : c < 1114112) : callD P (n + 1) "worth" [.str [c]] μ = .ok (.int (if c == 43 then 1 else -1)) μ := by
  rw [callD_eq hP rfl]
  simp -implicitDefEqProofs only [Law.d_worth, startE, exs_nil, exs_cons, ex_pass, ex_expr, ex_asg, ex_ifs, ex_for, ex_ret, ex_retN, ex_brk, ex_cont, ex_never, ev_var, ev_lit, ev_op1, ev_op2, ev_op3, ev_opN, ev_opM, ev_meth, ev_frz, ev_lst, ev_tup, ev_and, ev_or, ev_not, ev_ite, ev_chain, ev_call, ev_comp, evs_nil, evs_cons, Res.bind_assoc, evT, asgT_name, asgT_sub, asgT_tup, asgTs_nil, asgTs_cons, Res.bind_ok, Res.bind_exc, lift_some, noExc_ok, truth_bl, finish_rt, finish_nx, List.map_cons, List.map_nil, List.length_cons, List.length_nil, List.replicate_zero, List.replicate_succ, List.cons_append, List.nil_append, List.getElem?_cons_zero, List.getElem?_cons_succ, List.set_cons_zero, List.set_cons_succ, Bool.not_true, Bool.not_false, ↓reduceIte, Bool.false_eq_true, Nat.reduceAdd, Nat.reduceSub, Nat.reduceLT, Nat.reduceLeDiff, Nat.zero_add, id_eq, Nat.sub_self, Bool.true_and, Bool.and_true, Bool.false_and, Bool.and_false, Bool.true_or, Bool.or_true, Bool.false_or, Bool.or_false, eq_sign μ c 43 hc (by decide), neg_int]
  cases h : (c == 43) <;> simp -implicitDefEqProofs only [startE, exs_nil, exs_cons, ex_pass, ex_expr, ex_asg, ex_ifs, ex_for, ex_ret, ex_retN, ex_brk, ex_cont, ex_never, ev_var, ev_lit, ev_op1, ev_op2, ev_op3, ev_opN, ev_opM, ev_meth, ev_frz, ev_lst, ev_tup, ev_and, ev_or, ev_not, ev_ite, ev_chain, ev_call, ev_comp, evs_nil, evs_cons, Res.bind_assoc, evT, asgT_name, asgT_sub, asgT_tup, asgTs_nil, asgTs_cons, Res.bind_ok, Res.bind_exc, lift_some, noExc_ok, truth_bl, finish_rt, finish_nx, List.map_cons, List.map_nil, List.length_cons, List.length_nil, List.replicate_zero, List.replicate_succ, List.cons_append, List.nil_append, List.getElem?_cons_zero, List.getElem?_cons_succ, List.set_cons_zero, List.set_cons_succ, Bool.not_true, Bool.not_false, ↓reduceIte, Bool.false_eq_true, Nat.reduceAdd, Nat.reduceSub, Nat.reduceLT, Nat.reduceLeDiff, Nat.zero_add, id_eq, Nat.sub_self, Bool.true_and, Bool.and_true, Bool.false_and, Bool.and_false, Bool.true_or, Bool.or_true, Bool.false_or, Bool.or_false, neg_int]
theorem further_w (K : K70 P) {a c : Nat} (h : isL a = true) : callD P (n + 2) "further" [.str [a], .int (if c == 43 then 1 else -1)] μ = .ok (.str [fur a c]) μ := by
  rw [callD_eq K.fur rfl]
  have abc : fLen μ [.str [65, 66, 67]] = some (.int 3) := rfl
  have m := mod_pos μ ((a : Int) - 65 + (if c == 43 then 1 else -1)) (show (0 : Int) < 3 by decide)
  have x : fIx μ (.str [65, 66, 67]) (.int (((a : Int) - 65 + (if c == 43 then 1 else -1)) % 3)) = some (.str [fur a c]) := by
    unfold fur
    cases hb : (c == 43) <;> rcases isL_cases h with rfl | rfl | rfl <;> rfl
  simp -implicitDefEqProofs only [Law.d_further, startE, exs_nil, exs_cons, ex_pass, ex_expr, ex_asg, ex_ifs, ex_for, ex_ret, ex_retN, ex_brk, ex_cont, ex_never, ev_var, ev_lit, ev_op1, ev_op2, ev_op3, ev_opN, ev_opM, ev_meth, ev_frz, ev_lst, ev_tup, ev_and, ev_or, ev_not, ev_ite, ev_chain, ev_call, ev_comp, evs_nil, evs_cons, Res.bind_assoc, evT, asgT_name, asgT_sub, asgT_tup, asgTs_nil, asgTs_cons, Res.bind_ok, Res.bind_exc, lift_some, noExc_ok, truth_bl, finish_rt, finish_nx, List.map_cons, List.map_nil, List.length_cons, List.length_nil, List.replicate_zero, List.replicate_succ, List.cons_append, List.nil_append, List.getElem?_cons_zero, List.getElem?_cons_succ, List.set_cons_zero, List.set_cons_succ, Bool.not_true, Bool.not_false, ↓reduceIte, Bool.false_eq_true, Nat.reduceAdd, Nat.reduceSub, Nat.reduceLT, Nat.reduceLeDiff, Nat.zero_add, id_eq, Nat.sub_self, Bool.true_and, Bool.and_true, Bool.false_and, Bool.and_false, Bool.true_or, Bool.or_true, Bool.false_or, Bool.or_false, number_of_ok K.num h, add_int, abc, m, x]
theorem led_loop (K : K70 P) {st : Env → D → Store → Res Fl} (a : List Nat) (ss : List Nat) (hst : st = forStep (callD P (n + 2)) (.name 3) [.asg (.name 2) (.op2 fAdd (.var 2) (.call "further" id [.op2 fIx (.var 2) (.op1 fNeg (.lit (.int 1))), .call "worth" id [.var 3]]))]) :
    ∀ (cs f : List Nat) (o : Option D), (∀ c ∈ cs, c < 1114112) → 1 ≤ f.length → f.length + cs.length ≤ 99 → isL (lastD f) = true →
      ∃ o', forLoop st (cs.map fun c => D.str [c]) [some (.str a), some (.str ss), some (.str f), o] μ = .ok (.nx [some (.str a), some (.str ss), some (.str (lay f cs)), o']) μ
  | [], f, o, _, _, _, _ => ⟨o, rfl⟩
  | c :: cs, f, o, hc, h1, hl, hL => by
    rw [List.length_cons] at hl
    have fc : f.length ≤ cap := cap100 (by omega)
    have xl : fIx μ (.str f) (.int (-1)) = some (.str [lastD f]) := ix_strE μ fc (j := 1) (by decide) h1
    have hcc := hc c List.mem_cons_self
    have ad : fAdd μ (.str f) (.str [Ev.fur (lastD f) c]) = some (.str (f ++ [Ev.fur (lastD f) c])) := add_str μ (cap100 (by rw [List.length_singleton]; omega))
    have e : st [some (.str a), some (.str ss), some (.str f), o] (.str [c]) μ = .ok (.nx [some (.str a), some (.str ss), some (.str (f ++ [Ev.fur (lastD f) c])), some (.str [c])]) μ := by
      subst hst
      simp -implicitDefEqProofs only [startE, exs_nil, exs_cons, ex_pass, ex_expr, ex_asg, ex_ifs, ex_for, ex_ret, ex_retN, ex_brk, ex_cont, ex_never, ev_var, ev_lit, ev_op1, ev_op2, ev_op3, ev_opN, ev_opM, ev_meth, ev_frz, ev_lst, ev_tup, ev_and, ev_or, ev_not, ev_ite, ev_chain, ev_call, ev_comp, evs_nil, evs_cons, Res.bind_assoc, evT, asgT_name, asgT_sub, asgT_tup, asgTs_nil, asgTs_cons, Res.bind_ok, Res.bind_exc, lift_some, noExc_ok, truth_bl, finish_rt, finish_nx, List.map_cons, List.map_nil, List.length_cons, List.length_nil, List.replicate_zero, List.replicate_succ, List.cons_append, List.nil_append, List.getElem?_cons_zero, List.getElem?_cons_succ, List.set_cons_zero, List.set_cons_succ, Bool.not_true, Bool.not_false, ↓reduceIte, Bool.false_eq_true, Nat.reduceAdd, Nat.reduceSub, Nat.reduceLT, Nat.reduceLeDiff, Nat.zero_add, id_eq, Nat.sub_self, Bool.true_and, Bool.and_true, Bool.false_and, Bool.and_false, Bool.true_or, Bool.or_true, Bool.false_or, Bool.or_false, compStep, forStep, bindT_name, bindT_tup, bindT_str, bindTs_nil, bindTs_cons, wipeE, List.length_set, neg_int, xl, worth_ok K.worth hcc, further_w K hL, ad]
    obtain ⟨o', e2⟩ := led_loop K a ss hst cs (f ++ [Ev.fur (lastD f) c]) (some (.str [c])) (fun d hd => hc d (List.mem_cons_of_mem _ hd)) (by simp) (by rw [List.length_append, List.length_singleton]; omega) (by rw [lastD_app]; exact fur_isL _ _)
    refine ⟨o', ?_⟩
    rw [List.map_cons, forLoop, e]
    exact e2
theorem led_by_ok (K : K70 P) {a : Nat} (ha : isL a = true) {cs : List Nat} (hc : ∀ c ∈ cs, c < 1114112) (hl : cs.length ≤ 90) : callD P (n + 3) "led_by" [.str [a], .str cs] μ = .ok (.str (lay [a] cs)) μ := by
  rw [callD_eq K.ledBy rfl]
  simp -implicitDefEqProofs only [Law.d_led_by, startE, exs_nil, exs_cons, ex_pass, ex_expr, ex_asg, ex_ifs, ex_for, ex_ret, ex_retN, ex_brk, ex_cont, ex_never, ev_var, ev_lit, ev_op1, ev_op2, ev_op3, ev_opN, ev_opM, ev_meth, ev_frz, ev_lst, ev_tup, ev_and, ev_or, ev_not, ev_ite, ev_chain, ev_call, ev_comp, evs_nil, evs_cons, Res.bind_assoc, evT, asgT_name, asgT_sub, asgT_tup, asgTs_nil, asgTs_cons, Res.bind_ok, Res.bind_exc, lift_some, noExc_ok, truth_bl, finish_rt, finish_nx, List.map_cons, List.map_nil, List.length_cons, List.length_nil, List.replicate_zero, List.replicate_succ, List.cons_append, List.nil_append, List.getElem?_cons_zero, List.getElem?_cons_succ, List.set_cons_zero, List.set_cons_succ, Bool.not_true, Bool.not_false, ↓reduceIte, Bool.false_eq_true, Nat.reduceAdd, Nat.reduceSub, Nat.reduceLT, Nat.reduceLeDiff, Nat.zero_add, id_eq, Nat.sub_self, Bool.true_and, Bool.and_true, Bool.false_and, Bool.and_false, Bool.true_or, Bool.or_true, Bool.false_or, Bool.or_false, val_str]
  generalize hst : forStep _ _ _ = st
  obtain ⟨o', e⟩ := led_loop (n := n) (μ := μ) K [a] cs hst.symm cs [a] none hc (by simp) (by simp; omega) ha
  simp -implicitDefEqProofs only [startE, exs_nil, exs_cons, ex_pass, ex_expr, ex_asg, ex_ifs, ex_for, ex_ret, ex_retN, ex_brk, ex_cont, ex_never, ev_var, ev_lit, ev_op1, ev_op2, ev_op3, ev_opN, ev_opM, ev_meth, ev_frz, ev_lst, ev_tup, ev_and, ev_or, ev_not, ev_ite, ev_chain, ev_call, ev_comp, evs_nil, evs_cons, Res.bind_assoc, evT, asgT_name, asgT_sub, asgT_tup, asgTs_nil, asgTs_cons, Res.bind_ok, Res.bind_exc, lift_some, noExc_ok, truth_bl, finish_rt, finish_nx, List.map_cons, List.map_nil, List.length_cons, List.length_nil, List.replicate_zero, List.replicate_succ, List.cons_append, List.nil_append, List.getElem?_cons_zero, List.getElem?_cons_succ, List.set_cons_zero, List.set_cons_succ, Bool.not_true, Bool.not_false, ↓reduceIte, Bool.false_eq_true, Nat.reduceAdd, Nat.reduceSub, Nat.reduceLT, Nat.reduceLeDiff, Nat.zero_add, id_eq, Nat.sub_self, Bool.true_and, Bool.and_true, Bool.false_and, Bool.and_false, Bool.true_or, Bool.or_true, Bool.false_or, Bool.or_false, e]
theorem is_letter_ok (hP : P "is_letter" = some Law.d_is_letter) {a : Nat} (ha : isL a = true) : callD P (n + 1) "is_letter" [.str [a]] μ = .ok (.bl true) μ := by
  rw [callD_eq hP rfl]
  have l1 : fLen μ [.str [a]] = some (.int 1) := rfl
  have i1 : fIn μ (.str [a]) (.str [65, 66, 67]) = some (.bl true) := by rcases isL_cases ha with rfl | rfl | rfl <;> rfl
  simp -implicitDefEqProofs only [Law.d_is_letter, startE, exs_nil, exs_cons, ex_pass, ex_expr, ex_asg, ex_ifs, ex_for, ex_ret, ex_retN, ex_brk, ex_cont, ex_never, ev_var, ev_lit, ev_op1, ev_op2, ev_op3, ev_opN, ev_opM, ev_meth, ev_frz, ev_lst, ev_tup, ev_and, ev_or, ev_not, ev_ite, ev_chain, ev_call, ev_comp, evs_nil, evs_cons, Res.bind_assoc, evT, asgT_name, asgT_sub, asgT_tup, asgTs_nil, asgTs_cons, Res.bind_ok, Res.bind_exc, lift_some, noExc_ok, truth_bl, finish_rt, finish_nx, List.map_cons, List.map_nil, List.length_cons, List.length_nil, List.replicate_zero, List.replicate_succ, List.cons_append, List.nil_append, List.getElem?_cons_zero, List.getElem?_cons_succ, List.set_cons_zero, List.set_cons_succ, Bool.not_true, Bool.not_false, ↓reduceIte, Bool.false_eq_true, Nat.reduceAdd, Nat.reduceSub, Nat.reduceLT, Nat.reduceLeDiff, Nat.zero_add, id_eq, Nat.sub_self, Bool.true_and, Bool.and_true, Bool.false_and, Bool.and_false, Bool.true_or, Bool.or_true, Bool.false_or, Bool.or_false, isi_str_str, l1, eq_intX, beq_self_eq_true, i1]
theorem check_steps_ok (K : K70 P) {s : List Nat} (hs : ∀ c ∈ s, c = 43 ∨ c = 45) (h1 : 1 ≤ s.length) (hl : s.length ≤ 24) : callD P (n + 5) "check_steps" [.str s] μ = .ok .non μ := by
  have sc : s.length ≤ cap := cap100 (by omega)
  have e1 : callD P (n + 3) "is_text_of" [.str s, .str [43, 45]] μ = .ok (.bl true) μ := by
    rw [is_text_of_str K.text _ _ sc]
    rw [List.all_eq_true.mpr fun c hc => decide_eq_true (by rcases hs c hc with rfl | rfl <;> simp)]
  have e2 := is_layer_number_int (n := n) (μ := μ) K.layer K.between K.whole (s.length : Nat)
  have d1 : decide ((1 : Int) ≤ (s.length : Nat)) = true := decide_eq_true (by omega)
  have d2 : decide (((s.length : Nat) : Int) ≤ 24) = true := decide_eq_true (by omega)
  rw [d1, d2] at e2
  have e3 : callD P (n + 4) "is_stepped" [.str s] μ = .ok (.bl true) μ := by
    rw [callD_eq K.isStepped rfl]
    simp -implicitDefEqProofs only [Law.d_is_stepped, startE, exs_nil, exs_cons, ex_pass, ex_expr, ex_asg, ex_ifs, ex_for, ex_ret, ex_retN, ex_brk, ex_cont, ex_never, ev_var, ev_lit, ev_op1, ev_op2, ev_op3, ev_opN, ev_opM, ev_meth, ev_frz, ev_lst, ev_tup, ev_and, ev_or, ev_not, ev_ite, ev_chain, ev_call, ev_comp, evs_nil, evs_cons, Res.bind_assoc, evT, asgT_name, asgT_sub, asgT_tup, asgTs_nil, asgTs_cons, Res.bind_ok, Res.bind_exc, lift_some, noExc_ok, truth_bl, finish_rt, finish_nx, List.map_cons, List.map_nil, List.length_cons, List.length_nil, List.replicate_zero, List.replicate_succ, List.cons_append, List.nil_append, List.getElem?_cons_zero, List.getElem?_cons_succ, List.set_cons_zero, List.set_cons_succ, Bool.not_true, Bool.not_false, ↓reduceIte, Bool.false_eq_true, Nat.reduceAdd, Nat.reduceSub, Nat.reduceLT, Nat.reduceLeDiff, Nat.zero_add, id_eq, Nat.sub_self, Bool.true_and, Bool.and_true, Bool.false_and, Bool.and_false, Bool.true_or, Bool.or_true, Bool.false_or, Bool.or_false, e1, len_str μ s sc, e2]
  rw [callD_eq K.checkSteps rfl]
  simp -implicitDefEqProofs only [Law.d_check_steps, startE, exs_nil, exs_cons, ex_pass, ex_expr, ex_asg, ex_ifs, ex_for, ex_ret, ex_retN, ex_brk, ex_cont, ex_never, ev_var, ev_lit, ev_op1, ev_op2, ev_op3, ev_opN, ev_opM, ev_meth, ev_frz, ev_lst, ev_tup, ev_and, ev_or, ev_not, ev_ite, ev_chain, ev_call, ev_comp, evs_nil, evs_cons, Res.bind_assoc, evT, asgT_name, asgT_sub, asgT_tup, asgTs_nil, asgTs_cons, Res.bind_ok, Res.bind_exc, lift_some, noExc_ok, truth_bl, finish_rt, finish_nx, List.map_cons, List.map_nil, List.length_cons, List.length_nil, List.replicate_zero, List.replicate_succ, List.cons_append, List.nil_append, List.getElem?_cons_zero, List.getElem?_cons_succ, List.set_cons_zero, List.set_cons_succ, Bool.not_true, Bool.not_false, ↓reduceIte, Bool.false_eq_true, Nat.reduceAdd, Nat.reduceSub, Nat.reduceLT, Nat.reduceLeDiff, Nat.zero_add, id_eq, Nat.sub_self, Bool.true_and, Bool.and_true, Bool.false_and, Bool.and_false, Bool.true_or, Bool.or_true, Bool.false_or, Bool.or_false, e3]
theorem stacking_by_ok (K : K70 P) {a : Nat} (ha : isL a = true) {s : List Nat} (hs : ∀ c ∈ s, c = 43 ∨ c = 45) (hl : s.length ≤ 23) : callD P (n + 6) "stacking_by" [.str [a], .str s] μ = .ok (.str (lay [a] s)) μ := by
  have sc : s.length ≤ cap := cap100 (by omega)
  have su : ∀ c ∈ s, c < 1114112 := fun c hc => by rcases hs c hc with rfl | rfl <;> decide
  have cl : callD P (n + 5) "check_letter" [.str [a]] μ = .ok .non μ := by
    rw [callD_eq K.checkLetter rfl]
    simp -implicitDefEqProofs only [Law.d_check_letter, startE, exs_nil, exs_cons, ex_pass, ex_expr, ex_asg, ex_ifs, ex_for, ex_ret, ex_retN, ex_brk, ex_cont, ex_never, ev_var, ev_lit, ev_op1, ev_op2, ev_op3, ev_opN, ev_opM, ev_meth, ev_frz, ev_lst, ev_tup, ev_and, ev_or, ev_not, ev_ite, ev_chain, ev_call, ev_comp, evs_nil, evs_cons, Res.bind_assoc, evT, asgT_name, asgT_sub, asgT_tup, asgTs_nil, asgTs_cons, Res.bind_ok, Res.bind_exc, lift_some, noExc_ok, truth_bl, finish_rt, finish_nx, List.map_cons, List.map_nil, List.length_cons, List.length_nil, List.replicate_zero, List.replicate_succ, List.cons_append, List.nil_append, List.getElem?_cons_zero, List.getElem?_cons_succ, List.set_cons_zero, List.set_cons_succ, Bool.not_true, Bool.not_false, ↓reduceIte, Bool.false_eq_true, Nat.reduceAdd, Nat.reduceSub, Nat.reduceLT, Nat.reduceLeDiff, Nat.zero_add, id_eq, Nat.sub_self, Bool.true_and, Bool.and_true, Bool.false_and, Bool.and_false, Bool.true_or, Bool.or_true, Bool.false_or, Bool.or_false, is_letter_ok K.isLetter ha]
  have lb := led_by_ok (n := n + 2) (μ := μ) K ha su (by omega)
  have d : decide ((24 : Int) ≤ (s.length : Nat)) = false := decide_eq_false (by omega)
  rw [callD_eq K.stackingBy rfl]
  cases s with
  | nil =>
    have ne : fNe μ (.str []) (.str []) = some (.bl false) := rfl
    have d0 : decide ((24 : Int) ≤ ((0 : Nat) : Int)) = false := rfl
    simp -implicitDefEqProofs only [Law.d_stacking_by, startE, exs_nil, exs_cons, ex_pass, ex_expr, ex_asg, ex_ifs, ex_for, ex_ret, ex_retN, ex_brk, ex_cont, ex_never, ev_var, ev_lit, ev_op1, ev_op2, ev_op3, ev_opN, ev_opM, ev_meth, ev_frz, ev_lst, ev_tup, ev_and, ev_or, ev_not, ev_ite, ev_chain, ev_call, ev_comp, evs_nil, evs_cons, Res.bind_assoc, evT, asgT_name, asgT_sub, asgT_tup, asgTs_nil, asgTs_cons, Res.bind_ok, Res.bind_exc, lift_some, noExc_ok, truth_bl, finish_rt, finish_nx, List.map_cons, List.map_nil, List.length_cons, List.length_nil, List.replicate_zero, List.replicate_succ, List.cons_append, List.nil_append, List.getElem?_cons_zero, List.getElem?_cons_succ, List.set_cons_zero, List.set_cons_succ, Bool.not_true, Bool.not_false, ↓reduceIte, Bool.false_eq_true, Nat.reduceAdd, Nat.reduceSub, Nat.reduceLT, Nat.reduceLeDiff, Nat.zero_add, id_eq, Nat.sub_self, Bool.true_and, Bool.and_true, Bool.false_and, Bool.and_false, Bool.true_or, Bool.or_true, Bool.false_or, Bool.or_false, cl, ne, len_str μ [] sc, ge_int, d0, lb]
  | cons c s =>
    have cs := check_steps_ok (n := n) (μ := μ) K hs (by simp) (by omega)
    have ne : fNe μ (.str (c :: s)) (.str []) = some (.bl true) := by
      have h1 : cmpOk 8 (.str (c :: s)) = true := by unfold cmpOk; exact List.all_eq_true.mpr fun x hx => decide_eq_true (su x hx)
      have h2 : cmpOk 8 (.str []) = true := by unfold cmpOk; rfl
      simp only [fNe, rd, asL, h1, h2, Bool.and_self, ↓reduceIte]
      unfold eqD; rfl
    have ls := len_str μ (c :: s) sc
    simp -implicitDefEqProofs only [List.length_cons] at d ls
    simp -implicitDefEqProofs only [Law.d_stacking_by, startE, exs_nil, exs_cons, ex_pass, ex_expr, ex_asg, ex_ifs, ex_for, ex_ret, ex_retN, ex_brk, ex_cont, ex_never, ev_var, ev_lit, ev_op1, ev_op2, ev_op3, ev_opN, ev_opM, ev_meth, ev_frz, ev_lst, ev_tup, ev_and, ev_or, ev_not, ev_ite, ev_chain, ev_call, ev_comp, evs_nil, evs_cons, Res.bind_assoc, evT, asgT_name, asgT_sub, asgT_tup, asgTs_nil, asgTs_cons, Res.bind_ok, Res.bind_exc, lift_some, noExc_ok, truth_bl, finish_rt, finish_nx, List.map_cons, List.map_nil, List.length_cons, List.length_nil, List.replicate_zero, List.replicate_succ, List.cons_append, List.nil_append, List.getElem?_cons_zero, List.getElem?_cons_succ, List.set_cons_zero, List.set_cons_succ, Bool.not_true, Bool.not_false, ↓reduceIte, Bool.false_eq_true, Nat.reduceAdd, Nat.reduceSub, Nat.reduceLT, Nat.reduceLeDiff, Nat.zero_add, id_eq, Nat.sub_self, Bool.true_and, Bool.and_true, Bool.false_and, Bool.and_false, Bool.true_or, Bool.or_true, Bool.false_or, Bool.or_false, cl, ne, cs, ls, ge_int, d, lb]
end
end Ev

set_option exponentiation.threshold 100000
namespace Ev
open Res
/-! ### all rows -/
def rws (a c : Nat) : Nat → List (List Nat × Nat)
  | 0 => [([], 1)]
  | i + 1 => (rws a c i).map (fun p => (p.1 ++ [43], p.2 * c)) ++ (rws a c i).map (fun p => (p.1 ++ [45], p.2 * a))
abbrev rwD (p : List Nat × Nat) : D := .tup [.str p.1, .int (p.2 : Nat)]
theorem rws_len (a c : Nat) : ∀ i, (rws a c i).length = 2 ^ i
  | 0 => rfl
  | i + 1 => by rw [rws, List.length_append, List.length_map, List.length_map, rws_len a c i, Nat.pow_succ]; omega
theorem rws_mem {a c b : Nat} (ha : a ≤ b) (hc : c ≤ b) : ∀ i, ∀ p ∈ rws a c i, p.1.length = i ∧ (∀ x ∈ p.1, x = 43 ∨ x = 45) ∧ p.2 ≤ b ^ i
  | 0, p, hp => by
    rw [rws, List.mem_singleton] at hp
    subst hp
    exact ⟨rfl, fun x hx => by simp at hx, by simp⟩
  | i + 1, p, hp => by
    rw [rws, List.mem_append] at hp
    rcases hp with hp | hp <;> (
      obtain ⟨q, hq, rfl⟩ := List.mem_map.mp hp
      obtain ⟨h1, h2, h3⟩ := rws_mem ha hc i q hq
      refine ⟨by simp [h1], fun x hx => ?_, ?_⟩
      · rcases List.mem_append.mp hx with z | z
        · exact h2 x z
        · rw [List.mem_singleton.mp z]; simp
      · rw [Nat.pow_succ]
        exact Nat.mul_le_mul h3 (by assumption))
def wsm (k : Nat) (l : List (List Nat × Nat)) : Nat := (l.map fun p => if wk 65 p.1 = 65 + k then p.2 else 0).sum
theorem wsm_map (k m w s : Nat) : ∀ l : List (List Nat × Nat), (∀ p ∈ l, (fur (wk 65 p.1) s = 65 + k) = (wk 65 p.1 = 65 + m)) → wsm k (l.map fun p => (p.1 ++ [s], p.2 * w)) = wsm m l * w
  | [], _ => by simp [wsm]
  | p :: l, h => by
    have ih := wsm_map k m w s l fun q hq => h q (List.mem_cons_of_mem _ hq)
    have h1 := h p List.mem_cons_self
    unfold wsm at ih ⊢
    rw [List.map_cons, List.map_cons, List.sum_cons, ih, List.map_cons, List.sum_cons, Nat.add_mul]
    congr 1
    show (if wk 65 (p.1 ++ [s]) = 65 + k then p.2 * w else 0) = _
    rw [wk_app]
    simp only [h1]
    split <;> simp
theorem wsm_app (k : Nat) (l m : List (List Nat × Nat)) : wsm k (l ++ m) = wsm k l + wsm k m := by unfold wsm; rw [List.map_append, List.sum_append]
theorem wsm_one (p : List Nat × Nat) : wsm 0 [p] = if wk 65 p.1 == 65 then p.2 else 0 := by
  unfold wsm
  rw [List.map_cons, List.map_nil, List.sum_cons, List.sum_nil, Nat.add_zero, Nat.add_zero]
  by_cases h : wk 65 p.1 = 65
  · rw [if_pos h, if_pos (beq_iff_eq.mpr h)]
  · rw [if_neg h, if_neg fun z => h (beq_iff_eq.mp z)]
theorem fur_up3 {x k : Nat} (hx : isL x = true) (hk : k < 3) : (fur x 43 = 65 + k) = (x = 65 + (k + 2) % 3) := by
  have : k = 0 ∨ k = 1 ∨ k = 2 := by omega
  rcases this with rfl | rfl | rfl <;> rcases isL_cases hx with rfl | rfl | rfl <;> simp [fur]
theorem fur_dn3 {x k : Nat} (hx : isL x = true) (hk : k < 3) : (fur x 45 = 65 + k) = (x = 65 + (k + 1) % 3) := by
  have : k = 0 ∨ k = 1 ∨ k = 2 := by omega
  rcases this with rfl | rfl | rfl <;> rcases isL_cases hx with rfl | rfl | rfl <;> simp [fur]
theorem wsm_rws (a c : Nat) : ∀ i k, k < 3 → wsm k (rws a c i) = Rk a c i k
  | 0, k, hk => by
    obtain ⟨h0, h1, h2⟩ := Rk_zero a c
    rcases (show k = 0 ∨ k = 1 ∨ k = 2 by omega) with rfl | rfl | rfl
    · rw [h0]; rfl
    · rw [h1]; rfl
    · rw [h2]; rfl
  | i + 1, k, hk => by
    rw [rws, wsm_app, wsm_map k ((k + 2) % 3) c 43 _ (fun p _ => fur_up3 (wk_isL p.1 65 rfl) hk), wsm_map k ((k + 1) % 3) a 45 _ (fun p _ => fur_dn3 (wk_isL p.1 65 rfl) hk), wsm_rws a c i _ (Nat.mod_lt _ (by decide)), wsm_rws a c i _ (Nat.mod_lt _ (by decide)), Rk_step a c i hk, Nat.add_comm]
theorem pow8 {N : Nat} (h : N ≤ 8) : 2 ^ N ≤ 256 := Nat.le_trans (Nat.pow_le_pow_right (by decide) h) (by decide)
section
variable {P : String → Option FD} {n : Nat} {μ : Store}
theorem by_rows_ok (K : K70 P) {a b N : Nat} (h : Cn a b N) (h8 : N ≤ 8) : callD P (n + 7) "_law_by_rows" [chD a b, .int (N : Nat)] μ = .ok (due70 a b N) μ := by
  have hle := h.le
  have hb := h.lt
  have ha : a < 2 ^ 110 := Nat.lt_of_le_of_lt hle hb
  have hc : b - a < 2 ^ 110 := Nat.lt_of_le_of_lt (Nat.sub_le _ _) hb
  have c1 : 1 ≤ cap := by decide
  have c2 : 2 ≤ cap := by decide
  have c3 : 3 ≤ cap := by decide
  have rn := rng1 μ (n := N) (Nat.lt_of_le_of_lt h8 (by decide))
  have k1 : mkL false [D.tup [.str [], .int 1]] μ = .ok (.lst [.tup [.str [], .int 1]]) μ := mkL1 μ _
  rw [callD_eq K.lByRows rfl]
  simp -implicitDefEqProofs only [Law.d__law_by_rows, startE, exs_nil, exs_cons, ex_pass, ex_expr, ex_asg, ex_ifs, ex_for, ex_ret, ex_retN, ex_brk, ex_cont, ex_never, ev_var, ev_lit, ev_op1, ev_op2, ev_op3, ev_opN, ev_opM, ev_meth, ev_frz, ev_lst, ev_tup, ev_and, ev_or, ev_not, ev_ite, ev_chain, ev_call, ev_comp, evs_nil, evs_cons, Res.bind_assoc, evT, asgT_name, asgT_sub, asgT_tup, asgTs_nil, asgTs_cons, Res.bind_ok, Res.bind_exc, lift_some, noExc_ok, truth_bl, finish_rt, finish_nx, List.map_cons, List.map_nil, List.length_cons, List.length_nil, List.replicate_zero, List.replicate_succ, List.cons_append, List.nil_append, List.getElem?_cons_zero, List.getElem?_cons_succ, List.set_cons_zero, List.set_cons_succ, Bool.not_true, Bool.not_false, ↓reduceIte, Bool.false_eq_true, Nat.reduceAdd, Nat.reduceSub, Nat.reduceLT, Nat.reduceLeDiff, Nat.zero_add, id_eq, Nat.sub_self, Bool.true_and, Bool.and_true, Bool.false_and, Bool.and_false, Bool.true_or, Bool.or_true, Bool.false_or, Bool.or_false, c2, c3, k1, rn]
  generalize hst : forStep _ _ _ = st
  obtain ⟨ρ', μ', e, ⟨o7, rfl⟩, rfl⟩ := forLoop_inv (step := st) (fun i ρ μ' => (∃ o7 : Option D, ρ = [some (chD a b), some (.int (N : Nat)), some (.int (a : Nat)), some (.int (b : Nat)), some (.lst ((rws a (b - a) i).map rwD)), some (.int 0), some (.int ((b ^ i : Nat) : Int)), o7, none, none, none]) ∧ μ' = μ)
    ((List.range N).map fun j => .int (j : Nat)) 0 [some (chD a b), some (.int (N : Nat)), some (.int (a : Nat)), some (.int (b : Nat)), some (.lst [.tup [.str [], .int 1]]), some (.int 0), some (.int 1), none, none, none, none] μ ⟨⟨none, by rw [Nat.pow_zero]; rfl⟩, rfl⟩ (by
      rintro i d ρ μ' hi ⟨⟨o7, rfl⟩, rfl⟩
      obtain ⟨hin, rfl⟩ := get_rng0 hi
      rw [Nat.zero_add]
      have bi : b ^ i < 2 ^ (110 * 200) := pow_lt hb (by omega)
      have mb := mul_nat μ' bi hb (by decide) (by decide) (by decide)
      rw [← Nat.pow_succ] at mb
      have rl := rws_len a (b - a) i
      have r8 := pow8 (show i ≤ 8 by omega)
      have rc : ((rws a (b - a) i).map rwD).length ≤ cap := by rw [List.length_map, rl]; exact cap1000 (by omega)
      have vl := val_lst μ' ((rws a (b - a) i).map rwD)
      refine ⟨_, _, ?_, ⟨some (.int (i : Nat)), rfl⟩, rfl⟩
      have q : ∀ (s w : Nat) (hw : w < 2 ^ 110), ∀ p ∈ rws a (b - a) i, fAdd μ' (.str p.1) (.str [s]) = some (.str (p.1 ++ [s])) ∧ fMul μ' (.int (p.2 : Nat)) (.int (w : Nat)) = some (.int ((p.2 * w : Nat) : Int)) := fun s w hw p hp => by
        obtain ⟨p1, p2, p3⟩ := rws_mem hle (Nat.sub_le b a) i p hp
        exact ⟨add_str μ' (cap100 (by rw [p1, List.length_singleton]; omega)), mul_nat μ' (Nat.lt_of_le_of_lt p3 bi) hw (by decide) (by decide) (by decide)⟩
      have h1 : ∀ (f : List Nat × Nat → List Nat × Nat), ((rws a (b - a) i).map fun p => rwD (f p)).length ≤ cap := fun f => by rw [List.length_map, rl]; exact cap1000 (by omega)
      have er : (rws a (b - a) (i + 1)).map rwD = ((rws a (b - a) i).map fun p => rwD (p.1 ++ [43], p.2 * (b - a))) ++ ((rws a (b - a) i).map fun p => rwD (p.1 ++ [45], p.2 * a)) := by
        rw [rws, List.map_append, List.map_map, List.map_map]; rfl
      have ad : fAdd μ' (.lst ((rws a (b - a) i).map fun p => rwD (p.1 ++ [43], p.2 * (b - a)))) (.lst ((rws a (b - a) i).map fun p => rwD (p.1 ++ [45], p.2 * a))) = some (.lst ((rws a (b - a) (i + 1)).map rwD)) := by
        rw [add_lsts μ' (by rw [List.length_map, List.length_map, rl]; exact cap1000 (by omega)), er]
      subst hst
      simp -implicitDefEqProofs only [startE, exs_nil, exs_cons, ex_pass, ex_expr, ex_asg, ex_ifs, ex_for, ex_ret, ex_retN, ex_brk, ex_cont, ex_never, ev_var, ev_lit, ev_op1, ev_op2, ev_op3, ev_opN, ev_opM, ev_meth, ev_frz, ev_lst, ev_tup, ev_and, ev_or, ev_not, ev_ite, ev_chain, ev_call, ev_comp, evs_nil, evs_cons, Res.bind_assoc, evT, asgT_name, asgT_sub, asgT_tup, asgTs_nil, asgTs_cons, Res.bind_ok, Res.bind_exc, lift_some, noExc_ok, truth_bl, finish_rt, finish_nx, List.map_cons, List.map_nil, List.length_cons, List.length_nil, List.replicate_zero, List.replicate_succ, List.cons_append, List.nil_append, List.getElem?_cons_zero, List.getElem?_cons_succ, List.set_cons_zero, List.set_cons_succ, Bool.not_true, Bool.not_false, ↓reduceIte, Bool.false_eq_true, Nat.reduceAdd, Nat.reduceSub, Nat.reduceLT, Nat.reduceLeDiff, Nat.zero_add, id_eq, Nat.sub_self, Bool.true_and, Bool.and_true, Bool.false_and, Bool.and_false, Bool.true_or, Bool.or_true, Bool.false_or, Bool.or_false, forStep, bindT_name, wipeE, vl, rc]
      rw [compLoop_map rwD (fun p => rwD (p.1 ++ [43], p.2 * (b - a)))]
      · simp -implicitDefEqProofs only [startE, exs_nil, exs_cons, ex_pass, ex_expr, ex_asg, ex_ifs, ex_for, ex_ret, ex_retN, ex_brk, ex_cont, ex_never, ev_var, ev_lit, ev_op1, ev_op2, ev_op3, ev_opN, ev_opM, ev_meth, ev_frz, ev_lst, ev_tup, ev_and, ev_or, ev_not, ev_ite, ev_chain, ev_call, ev_comp, evs_nil, evs_cons, Res.bind_assoc, evT, asgT_name, asgT_sub, asgT_tup, asgTs_nil, asgTs_cons, Res.bind_ok, Res.bind_exc, lift_some, noExc_ok, truth_bl, finish_rt, finish_nx, List.map_cons, List.map_nil, List.length_cons, List.length_nil, List.replicate_zero, List.replicate_succ, List.cons_append, List.nil_append, List.getElem?_cons_zero, List.getElem?_cons_succ, List.set_cons_zero, List.set_cons_succ, Bool.not_true, Bool.not_false, ↓reduceIte, Bool.false_eq_true, Nat.reduceAdd, Nat.reduceSub, Nat.reduceLT, Nat.reduceLeDiff, Nat.zero_add, id_eq, Nat.sub_self, Bool.true_and, Bool.and_true, Bool.false_and, Bool.and_false, Bool.true_or, Bool.or_true, Bool.false_or, Bool.or_false, mkL_val _ _ (h1 _), vl, rc]
        rw [compLoop_map rwD (fun p => rwD (p.1 ++ [45], p.2 * a))]
        · simp -implicitDefEqProofs only [startE, exs_nil, exs_cons, ex_pass, ex_expr, ex_asg, ex_ifs, ex_for, ex_ret, ex_retN, ex_brk, ex_cont, ex_never, ev_var, ev_lit, ev_op1, ev_op2, ev_op3, ev_opN, ev_opM, ev_meth, ev_frz, ev_lst, ev_tup, ev_and, ev_or, ev_not, ev_ite, ev_chain, ev_call, ev_comp, evs_nil, evs_cons, Res.bind_assoc, evT, asgT_name, asgT_sub, asgT_tup, asgTs_nil, asgTs_cons, Res.bind_ok, Res.bind_exc, lift_some, noExc_ok, truth_bl, finish_rt, finish_nx, List.map_cons, List.map_nil, List.length_cons, List.length_nil, List.replicate_zero, List.replicate_succ, List.cons_append, List.nil_append, List.getElem?_cons_zero, List.getElem?_cons_succ, List.set_cons_zero, List.set_cons_succ, Bool.not_true, Bool.not_false, ↓reduceIte, Bool.false_eq_true, Nat.reduceAdd, Nat.reduceSub, Nat.reduceLT, Nat.reduceLeDiff, Nat.zero_add, id_eq, Nat.sub_self, Bool.true_and, Bool.and_true, Bool.false_and, Bool.and_false, Bool.true_or, Bool.or_true, Bool.false_or, Bool.or_false, mkL_val _ _ (h1 _), ad, mb]
        · intro p hp
          obtain ⟨q1, q2⟩ := q 45 a ha p hp
          simp -implicitDefEqProofs only [startE, exs_nil, exs_cons, ex_pass, ex_expr, ex_asg, ex_ifs, ex_for, ex_ret, ex_retN, ex_brk, ex_cont, ex_never, ev_var, ev_lit, ev_op1, ev_op2, ev_op3, ev_opN, ev_opM, ev_meth, ev_frz, ev_lst, ev_tup, ev_and, ev_or, ev_not, ev_ite, ev_chain, ev_call, ev_comp, evs_nil, evs_cons, Res.bind_assoc, evT, asgT_name, asgT_sub, asgT_tup, asgTs_nil, asgTs_cons, Res.bind_ok, Res.bind_exc, lift_some, noExc_ok, truth_bl, finish_rt, finish_nx, List.map_cons, List.map_nil, List.length_cons, List.length_nil, List.replicate_zero, List.replicate_succ, List.cons_append, List.nil_append, List.getElem?_cons_zero, List.getElem?_cons_succ, List.set_cons_zero, List.set_cons_succ, Bool.not_true, Bool.not_false, ↓reduceIte, Bool.false_eq_true, Nat.reduceAdd, Nat.reduceSub, Nat.reduceLT, Nat.reduceLeDiff, Nat.zero_add, id_eq, Nat.sub_self, Bool.true_and, Bool.and_true, Bool.false_and, Bool.and_false, Bool.true_or, Bool.or_true, Bool.false_or, Bool.or_false, compStep, bindT_tup, bindTs_cons, bindTs_nil, bindT_name, q1, q2, c2]
      · intro p hp
        obtain ⟨q1, q2⟩ := q 43 (b - a) hc p hp
        rw [Int.ofNat_sub hle] at q2
        simp -implicitDefEqProofs only [startE, exs_nil, exs_cons, ex_pass, ex_expr, ex_asg, ex_ifs, ex_for, ex_ret, ex_retN, ex_brk, ex_cont, ex_never, ev_var, ev_lit, ev_op1, ev_op2, ev_op3, ev_opN, ev_opM, ev_meth, ev_frz, ev_lst, ev_tup, ev_and, ev_or, ev_not, ev_ite, ev_chain, ev_call, ev_comp, evs_nil, evs_cons, Res.bind_assoc, evT, asgT_name, asgT_sub, asgT_tup, asgTs_nil, asgTs_cons, Res.bind_ok, Res.bind_exc, lift_some, noExc_ok, truth_bl, finish_rt, finish_nx, List.map_cons, List.map_nil, List.length_cons, List.length_nil, List.replicate_zero, List.replicate_succ, List.cons_append, List.nil_append, List.getElem?_cons_zero, List.getElem?_cons_succ, List.set_cons_zero, List.set_cons_succ, Bool.not_true, Bool.not_false, ↓reduceIte, Bool.false_eq_true, Nat.reduceAdd, Nat.reduceSub, Nat.reduceLT, Nat.reduceLeDiff, Nat.zero_add, id_eq, Nat.sub_self, Bool.true_and, Bool.and_true, Bool.false_and, Bool.and_false, Bool.true_or, Bool.or_true, Bool.false_or, Bool.or_false, compStep, bindT_tup, bindTs_cons, bindTs_nil, bindT_name, q1, q2, sub_int, c2])
  rw [Nat.zero_add, List.length_map, List.length_range] at e
  have vl := val_lst μ' ((rws a (b - a) N).map rwD)
  simp -implicitDefEqProofs only [startE, exs_nil, exs_cons, ex_pass, ex_expr, ex_asg, ex_ifs, ex_for, ex_ret, ex_retN, ex_brk, ex_cont, ex_never, ev_var, ev_lit, ev_op1, ev_op2, ev_op3, ev_opN, ev_opM, ev_meth, ev_frz, ev_lst, ev_tup, ev_and, ev_or, ev_not, ev_ite, ev_chain, ev_call, ev_comp, evs_nil, evs_cons, Res.bind_assoc, evT, asgT_name, asgT_sub, asgT_tup, asgTs_nil, asgTs_cons, Res.bind_ok, Res.bind_exc, lift_some, noExc_ok, truth_bl, finish_rt, finish_nx, List.map_cons, List.map_nil, List.length_cons, List.length_nil, List.replicate_zero, List.replicate_succ, List.cons_append, List.nil_append, List.getElem?_cons_zero, List.getElem?_cons_succ, List.set_cons_zero, List.set_cons_succ, Bool.not_true, Bool.not_false, ↓reduceIte, Bool.false_eq_true, Nat.reduceAdd, Nat.reduceSub, Nat.reduceLT, Nat.reduceLeDiff, Nat.zero_add, id_eq, Nat.sub_self, Bool.true_and, Bool.and_true, Bool.false_and, Bool.and_false, Bool.true_or, Bool.or_true, Bool.false_or, Bool.or_false, e, vl]
  generalize hs2 : forStep _ _ _ = s2
  obtain ⟨ρ'', μ'', e2, ⟨o8, o9, o10, rfl⟩, rfl⟩ := forLoop_inv (step := s2) (fun i ρ μ2 => (∃ o8 o9 o10 : Option D, ρ = [some (chD a b), some (.int (N : Nat)), some (.int (a : Nat)), some (.int (b : Nat)), some (.lst ((rws a (b - a) N).map rwD)), some (.int ((wsm 0 ((rws a (b - a) N).take i) : Nat) : Int)), some (.int ((b ^ N : Nat) : Int)), o7, o8, o9, o10]) ∧ μ2 = μ')
    ((rws a (b - a) N).map rwD) 0 [some (chD a b), some (.int (N : Nat)), some (.int (a : Nat)), some (.int (b : Nat)), some (.lst ((rws a (b - a) N).map rwD)), some (.int 0), some (.int ((b ^ N : Nat) : Int)), o7, none, none, none] μ' ⟨⟨none, none, none, rfl⟩, rfl⟩ (by
      rintro i d ρ μ2 hi ⟨⟨o8, o9, o10, rfl⟩, rfl⟩
      rw [Nat.zero_add]
      rw [List.getElem?_map] at hi
      obtain ⟨p, hp, rfl⟩ := Option.map_eq_some_iff.mp hi
      have hm := List.mem_of_getElem? hp
      obtain ⟨p1, p2, p3⟩ := rws_mem hle (Nat.sub_le b a) N p hm
      have sb := stacking_by_ok (n := n) (μ := μ2) K (a := 65) rfl p2 (by omega)
      have ll := lay_len p.1 [65]
      have lw := lay_wk p.1 [65] (by decide)
      have x : fIx μ2 (.str (lay [65] p.1)) (.int (N : Nat)) = some (.str [wk 65 p.1]) := by
        rw [ix_strN μ2 (cap100 (by rw [ll, List.length_singleton]; omega)) (i := N) (by rw [ll, List.length_singleton]; omega)]
        rw [List.length_singleton, p1, show 1 + N - 1 = N by omega] at lw
        rw [lw]
        rfl
      have wl := isL_lt (wk_isL p.1 65 rfl)
      have q := eq_sign μ2 (wk 65 p.1) 65 wl (by decide)
      have tk : wsm 0 ((rws a (b - a) N).take (i + 1)) = wsm 0 ((rws a (b - a) N).take i) + (if wk 65 p.1 == 65 then p.2 else 0) := by
        rw [List.take_add_one, hp, Option.toList_some, wsm_app, wsm_one]
      refine ⟨_, _, ?_, ⟨some (.str p.1), some (.int (p.2 : Nat)), some (.str [wk 65 p.1]), rfl⟩, rfl⟩
      rw [tk, Int.natCast_add]
      subst hs2
      cases hq : wk 65 p.1 == 65 with
      | true =>
        rw [hq] at q
        simp -implicitDefEqProofs only [startE, exs_nil, exs_cons, ex_pass, ex_expr, ex_asg, ex_ifs, ex_for, ex_ret, ex_retN, ex_brk, ex_cont, ex_never, ev_var, ev_lit, ev_op1, ev_op2, ev_op3, ev_opN, ev_opM, ev_meth, ev_frz, ev_lst, ev_tup, ev_and, ev_or, ev_not, ev_ite, ev_chain, ev_call, ev_comp, evs_nil, evs_cons, Res.bind_assoc, evT, asgT_name, asgT_sub, asgT_tup, asgTs_nil, asgTs_cons, Res.bind_ok, Res.bind_exc, lift_some, noExc_ok, truth_bl, finish_rt, finish_nx, List.map_cons, List.map_nil, List.length_cons, List.length_nil, List.replicate_zero, List.replicate_succ, List.cons_append, List.nil_append, List.getElem?_cons_zero, List.getElem?_cons_succ, List.set_cons_zero, List.set_cons_succ, Bool.not_true, Bool.not_false, ↓reduceIte, Bool.false_eq_true, Nat.reduceAdd, Nat.reduceSub, Nat.reduceLT, Nat.reduceLeDiff, Nat.zero_add, id_eq, Nat.sub_self, Bool.true_and, Bool.and_true, Bool.false_and, Bool.and_false, Bool.true_or, Bool.or_true, Bool.false_or, Bool.or_false, forStep, bindT_tup, bindTs_cons, bindTs_nil, bindT_name, sb, x, q, add_int]
      | false =>
        rw [hq] at q
        simp -implicitDefEqProofs only [startE, exs_nil, exs_cons, ex_pass, ex_expr, ex_asg, ex_ifs, ex_for, ex_ret, ex_retN, ex_brk, ex_cont, ex_never, ev_var, ev_lit, ev_op1, ev_op2, ev_op3, ev_opN, ev_opM, ev_meth, ev_frz, ev_lst, ev_tup, ev_and, ev_or, ev_not, ev_ite, ev_chain, ev_call, ev_comp, evs_nil, evs_cons, Res.bind_assoc, evT, asgT_name, asgT_sub, asgT_tup, asgTs_nil, asgTs_cons, Res.bind_ok, Res.bind_exc, lift_some, noExc_ok, truth_bl, finish_rt, finish_nx, List.map_cons, List.map_nil, List.length_cons, List.length_nil, List.replicate_zero, List.replicate_succ, List.cons_append, List.nil_append, List.getElem?_cons_zero, List.getElem?_cons_succ, List.set_cons_zero, List.set_cons_succ, Bool.not_true, Bool.not_false, ↓reduceIte, Bool.false_eq_true, Nat.reduceAdd, Nat.reduceSub, Nat.reduceLT, Nat.reduceLeDiff, Nat.zero_add, id_eq, Nat.sub_self, Bool.true_and, Bool.and_true, Bool.false_and, Bool.and_false, Bool.true_or, Bool.or_true, Bool.false_or, Bool.or_false, forStep, bindT_tup, bindTs_cons, bindTs_nil, bindT_name, sb, x, q, add_int]
        rfl)
  rw [Nat.zero_add, List.length_map, List.take_length, wsm_rws a (b - a) N 0 (by decide)] at e2
  have lo := law_lowest_ok (n := n + 5) (μ := μ'') K.lLowest (p := Rk a (b - a) N 0) (q := b ^ N) (Nat.pow_pos h.pos) h.small
  simp -implicitDefEqProofs only [startE, exs_nil, exs_cons, ex_pass, ex_expr, ex_asg, ex_ifs, ex_for, ex_ret, ex_retN, ex_brk, ex_cont, ex_never, ev_var, ev_lit, ev_op1, ev_op2, ev_op3, ev_opN, ev_opM, ev_meth, ev_frz, ev_lst, ev_tup, ev_and, ev_or, ev_not, ev_ite, ev_chain, ev_call, ev_comp, evs_nil, evs_cons, Res.bind_assoc, evT, asgT_name, asgT_sub, asgT_tup, asgTs_nil, asgTs_cons, Res.bind_ok, Res.bind_exc, lift_some, noExc_ok, truth_bl, finish_rt, finish_nx, List.map_cons, List.map_nil, List.length_cons, List.length_nil, List.replicate_zero, List.replicate_succ, List.cons_append, List.nil_append, List.getElem?_cons_zero, List.getElem?_cons_succ, List.set_cons_zero, List.set_cons_succ, Bool.not_true, Bool.not_false, ↓reduceIte, Bool.false_eq_true, Nat.reduceAdd, Nat.reduceSub, Nat.reduceLT, Nat.reduceLeDiff, Nat.zero_add, id_eq, Nat.sub_self, Bool.true_and, Bool.and_true, Bool.false_and, Bool.and_false, Bool.true_or, Bool.or_true, Bool.false_or, Bool.or_false, e2, lo]
end
end Ev

set_option exponentiation.threshold 100000
namespace Ev
open Res
section
variable {P : String → Option FD} {n : Nat} {μ : Store}
theorem take_big (hP : P "_law_take" = some Law.d__law_take) {w : Nat} (hw : IsW w μ) {many : Int} (h0 : 0 < many) (h1 : many.natAbs.log2 < 9000) :
    ∃ (k : Int) (μ' : Store), 0 ≤ k ∧ k < many ∧ WL w μ μ' ∧ callD P (n + 1) "_law_take" [.ref w, .int many] μ = .ok (.int k) μ' := by
  have hlt := hw.lt
  obtain ⟨a, b, c, hg⟩ := hw
  rw [callD_eq hP rfl]
  have g0 : fIx μ (.ref w) (.int 0) = some (.int a) := by rw [ix_ref hg]; rfl
  have g1 : fIx μ (.ref w) (.int 1) = some (.int b) := by rw [ix_ref hg]; rfl
  have g2 : fIx μ (.ref w) (.int 2) = some (.int c) := by rw [ix_ref hg]; rfl
  simp -implicitDefEqProofs only [Law.d__law_take, startE, exs_nil, exs_cons, ex_pass, ex_expr, ex_asg, ex_ifs, ex_for, ex_ret, ex_retN, ex_brk, ex_cont, ex_never, ev_var, ev_lit, ev_op1, ev_op2, ev_op3, ev_opN, ev_opM, ev_meth, ev_frz, ev_lst, ev_tup, ev_and, ev_or, ev_not, ev_ite, ev_chain, ev_call, ev_comp, evs_nil, evs_cons, Res.bind_assoc, evT, asgT_name, asgT_sub, asgT_tup, asgTs_nil, asgTs_cons, Res.bind_ok, Res.bind_exc, lift_some, noExc_ok, truth_bl, finish_rt, finish_nx, List.map_cons, List.map_nil, List.length_cons, List.length_nil, List.replicate_zero, List.replicate_succ, List.cons_append, List.nil_append, List.getElem?_cons_zero, List.getElem?_cons_succ, List.set_cons_zero, List.set_cons_succ, Bool.not_true, Bool.not_false, ↓reduceIte, Bool.false_eq_true, Nat.reduceAdd, Nat.reduceSub, Nat.reduceLT, Nat.reduceLeDiff, Nat.zero_add, id_eq, Nat.sub_self, Bool.true_and, Bool.and_true, Bool.false_and, Bool.and_false, Bool.true_or, Bool.or_true, Bool.false_or, Bool.or_false, g0, gt_int]
  by_cases ha : 0 < a
  · rw [decide_eq_true ha]
    have hs : setIx (.ref w) (.int 0) (.int (a / many)) μ = some (μ.set w (.lst [.int (a / many), .int b, .int c])) := by
      rw [set_ref hg (j := 0) rfl rfl]; rfl
    have hd : fDivmod μ [.int a, .int many] = some (.tup [.int (a / many), .int (a % many)]) := by
      simp only [fDivmod]
      by_cases q : 0 < many ∧ many < 1073741824
      · rw [if_pos q]
      · rw [if_neg q, if_pos ⟨h0, h1⟩]
    refine ⟨a % many, _, Int.emod_nonneg _ (by omega), Int.emod_lt_of_pos _ h0, ⟨a / many, b, c, rfl⟩, ?_⟩
    simp -implicitDefEqProofs only [startE, exs_nil, exs_cons, ex_pass, ex_expr, ex_asg, ex_ifs, ex_for, ex_ret, ex_retN, ex_brk, ex_cont, ex_never, ev_var, ev_lit, ev_op1, ev_op2, ev_op3, ev_opN, ev_opM, ev_meth, ev_frz, ev_lst, ev_tup, ev_and, ev_or, ev_not, ev_ite, ev_chain, ev_call, ev_comp, evs_nil, evs_cons, Res.bind_assoc, evT, asgT_name, asgT_sub, asgT_tup, asgTs_nil, asgTs_cons, Res.bind_ok, Res.bind_exc, lift_some, noExc_ok, truth_bl, finish_rt, finish_nx, List.map_cons, List.map_nil, List.length_cons, List.length_nil, List.replicate_zero, List.replicate_succ, List.cons_append, List.nil_append, List.getElem?_cons_zero, List.getElem?_cons_succ, List.set_cons_zero, List.set_cons_succ, Bool.not_true, Bool.not_false, ↓reduceIte, Bool.false_eq_true, Nat.reduceAdd, Nat.reduceSub, Nat.reduceLT, Nat.reduceLeDiff, Nat.zero_add, id_eq, Nat.sub_self, Bool.true_and, Bool.and_true, Bool.false_and, Bool.and_false, Bool.true_or, Bool.or_true, Bool.false_or, Bool.or_false, g0, hd, hs]
    exact finish_len _ (List.length_set ..)
  · rw [decide_eq_false ha]
    have s2 : setIx (.ref w) (.int 2) (.int (c + 1)) μ = some (μ.set w (.lst [.int a, .int b, .int (c + 1)])) := by
      rw [set_ref hg (j := 2) rfl rfl]; rfl
    have hg2 : (μ.set w (.lst [.int a, .int b, .int (c + 1)]))[w]? = some (.lst [.int a, .int b, .int (c + 1)]) := List.getElem?_set_self hlt
    have k1 : fIx (μ.set w (.lst [.int a, .int b, .int (c + 1)])) (.ref w) (.int 1) = some (.int b) := by rw [ix_ref hg2]; rfl
    have k2 : fIx (μ.set w (.lst [.int a, .int b, .int (c + 1)])) (.ref w) (.int 2) = some (.int (c + 1)) := by rw [ix_ref hg2]; rfl
    have m1 : ∀ μ : Store, fMod μ (.int b) (.int 28657) = some (.int (b % 28657)) := fun μ => mod_pos μ _ (by decide)
    have hby0 : 0 ≤ b % 28657 := Int.emod_nonneg _ (by decide)
    have hby1 : b % 28657 < 28657 := Int.emod_lt_of_pos _ (by decide)
    generalize hby : b % 28657 = e at *
    have m2 : ∀ μ : Store, fMul μ (.int b) (.int (e + 40009)) = some (.int (b * (e + 40009))) := fun μ => mul_r μ _ (by omega)
    have m3 : ∀ μ : Store, fMul μ (.int 50023) (.int (c + 1)) = some (.int (50023 * (c + 1))) := fun μ => mul_l μ _ (by decide)
    simp -implicitDefEqProofs only [startE, exs_nil, exs_cons, ex_pass, ex_expr, ex_asg, ex_ifs, ex_for, ex_ret, ex_retN, ex_brk, ex_cont, ex_never, ev_var, ev_lit, ev_op1, ev_op2, ev_op3, ev_opN, ev_opM, ev_meth, ev_frz, ev_lst, ev_tup, ev_and, ev_or, ev_not, ev_ite, ev_chain, ev_call, ev_comp, evs_nil, evs_cons, Res.bind_assoc, evT, asgT_name, asgT_sub, asgT_tup, asgTs_nil, asgTs_cons, Res.bind_ok, Res.bind_exc, lift_some, noExc_ok, truth_bl, finish_rt, finish_nx, List.map_cons, List.map_nil, List.length_cons, List.length_nil, List.replicate_zero, List.replicate_succ, List.cons_append, List.nil_append, List.getElem?_cons_zero, List.getElem?_cons_succ, List.set_cons_zero, List.set_cons_succ, Bool.not_true, Bool.not_false, ↓reduceIte, Bool.false_eq_true, Nat.reduceAdd, Nat.reduceSub, Nat.reduceLT, Nat.reduceLeDiff, Nat.zero_add, id_eq, Nat.sub_self, Bool.true_and, Bool.and_true, Bool.false_and, Bool.and_false, Bool.true_or, Bool.or_true, Bool.false_or, Bool.or_false, g2, add_int, s2, k1, k2, int_int, m1, m2, m3]
    have m4 : ∀ (μ : Store) (x : Int), fMod μ (.int x) (.int 2147483563) = some (.int (x % 2147483563)) := fun μ x => mod_pos μ _ (by decide)
    simp -implicitDefEqProofs only [startE, exs_nil, exs_cons, ex_pass, ex_expr, ex_asg, ex_ifs, ex_for, ex_ret, ex_retN, ex_brk, ex_cont, ex_never, ev_var, ev_lit, ev_op1, ev_op2, ev_op3, ev_opN, ev_opM, ev_meth, ev_frz, ev_lst, ev_tup, ev_and, ev_or, ev_not, ev_ite, ev_chain, ev_call, ev_comp, evs_nil, evs_cons, Res.bind_assoc, evT, asgT_name, asgT_sub, asgT_tup, asgTs_nil, asgTs_cons, Res.bind_ok, Res.bind_exc, lift_some, noExc_ok, truth_bl, finish_rt, finish_nx, List.map_cons, List.map_nil, List.length_cons, List.length_nil, List.replicate_zero, List.replicate_succ, List.cons_append, List.nil_append, List.getElem?_cons_zero, List.getElem?_cons_succ, List.set_cons_zero, List.set_cons_succ, Bool.not_true, Bool.not_false, ↓reduceIte, Bool.false_eq_true, Nat.reduceAdd, Nat.reduceSub, Nat.reduceLT, Nat.reduceLeDiff, Nat.zero_add, id_eq, Nat.sub_self, Bool.true_and, Bool.and_true, Bool.false_and, Bool.and_false, Bool.true_or, Bool.or_true, Bool.false_or, Bool.or_false, m4]
    generalize hb' : (b * (e + 40009) + 50023 * (c + 1) + 17) % 2147483563 = b'
    have s1 : setIx (.ref w) (.int 1) (.int b') (μ.set w (.lst [.int a, .int b, .int (c + 1)])) = some (μ.set w (.lst [.int a, .int b', .int (c + 1)])) := by
      rw [set_ref hg2 (j := 1) rfl rfl, List.set_set]; rfl
    have hg3 : (μ.set w (.lst [.int a, .int b', .int (c + 1)]))[w]? = some (.lst [.int a, .int b', .int (c + 1)]) := List.getElem?_set_self hlt
    have k3 : fIx (μ.set w (.lst [.int a, .int b', .int (c + 1)])) (.ref w) (.int 1) = some (.int b') := by rw [ix_ref hg3]; rfl
    have m5 : ∀ μ : Store, fDiv μ (.int b') (.int 83) = some (.int (b' / 83)) := fun μ => div_pos μ _ (by decide) (by decide)
    have m6 : ∀ (μ : Store) (x : Int), fMod μ (.int x) (.int many) = some (.int (x % many)) := fun μ x => mod_pos μ _ h0
    refine ⟨b' / 83 % many, _, Int.emod_nonneg _ (by omega), Int.emod_lt_of_pos _ h0, ⟨a, b', c + 1, rfl⟩, ?_⟩
    simp -implicitDefEqProofs only [startE, exs_nil, exs_cons, ex_pass, ex_expr, ex_asg, ex_ifs, ex_for, ex_ret, ex_retN, ex_brk, ex_cont, ex_never, ev_var, ev_lit, ev_op1, ev_op2, ev_op3, ev_opN, ev_opM, ev_meth, ev_frz, ev_lst, ev_tup, ev_and, ev_or, ev_not, ev_ite, ev_chain, ev_call, ev_comp, evs_nil, evs_cons, Res.bind_assoc, evT, asgT_name, asgT_sub, asgT_tup, asgTs_nil, asgTs_cons, Res.bind_ok, Res.bind_exc, lift_some, noExc_ok, truth_bl, finish_rt, finish_nx, List.map_cons, List.map_nil, List.length_cons, List.length_nil, List.replicate_zero, List.replicate_succ, List.cons_append, List.nil_append, List.getElem?_cons_zero, List.getElem?_cons_succ, List.set_cons_zero, List.set_cons_succ, Bool.not_true, Bool.not_false, ↓reduceIte, Bool.false_eq_true, Nat.reduceAdd, Nat.reduceSub, Nat.reduceLT, Nat.reduceLeDiff, Nat.zero_add, id_eq, Nat.sub_self, Bool.true_and, Bool.and_true, Bool.false_and, Bool.and_false, Bool.true_or, Bool.or_true, Bool.false_or, Bool.or_false, s1, k3, m5, m6, int_int]
    exact finish_len _ (List.length_set ..)
end
/-- a lemma of the pick for many things of one kind -/
theorem log_big {m : Nat} (h : m < 2 ^ 110) : ((m : Nat) : Int).natAbs.log2 < 9000 := by
  rw [Int.natAbs_natCast]
  have := lt_log (n := m) (k := 110) h (by decide)
  omega
section
variable {P : String → Option FD} {n : Nat} {μ : Store}
theorem chance_ok (K : K70 P) {w : Nat} (hw : IsW w μ) : ∃ (a b : Nat) (μ' : Store), a ≤ b ∧ 0 < b ∧ b < 2 ^ 110 ∧ WL w μ μ' ∧ callD P (n + 3) "_law_chance" [.ref w] μ = .ok (chD a b) μ' := by
  have pw : fPow μ (.int 10) (.int 30) = some (.int (10 ^ 30)) := rfl
  have c6 : 6 ≤ cap := by decide
  have c4 : 4 ≤ cap := by decide
  have c2 : 2 ≤ cap := by decide
  obtain ⟨d, μ1, hd, k1, e1⟩ := pick_lst (n := n) (μ := μ) K.take K.pick hw (ds := [.int 1, .int 2, .int 4, .int 12, .int 1000, .int (10 ^ 30)]) (by decide) (by decide)
  obtain ⟨many, rfl, l0, l1⟩ : ∃ many : Nat, d = .int (many : Nat) ∧ 1 ≤ many ∧ many ≤ 10 ^ 30 := by
    simp only [List.mem_cons, List.not_mem_nil, or_false] at hd
    rcases hd with rfl | rfl | rfl | rfl | rfl | rfl
    · exact ⟨1, rfl, by decide, by decide⟩
    · exact ⟨2, rfl, by decide, by decide⟩
    · exact ⟨4, rfl, by decide, by decide⟩
    · exact ⟨12, rfl, by decide, by decide⟩
    · exact ⟨1000, rfl, by decide, by decide⟩
    · exact ⟨10 ^ 30, rfl, by decide, by decide⟩
  have p110 : (10 : Nat) ^ 30 + 1 < 2 ^ 110 := by decide
  have hw1 := k1.isW hw
  obtain ⟨k, μ2, q0, q1, k2, e2⟩ := take_big (n := n + 1) K.take hw1 (many := (many : Nat)) (by omega) (log_big (by omega))
  obtain ⟨k, rfl⟩ : ∃ x : Nat, k = (x : Nat) := ⟨k.toNat, by omega⟩
  have hw2 := k2.isW hw1
  have hb : ((1 : Int) + (k : Nat)) = ((1 + k : Nat) : Int) := by omega
  have hb1 : ((1 + k : Nat) : Int) + 1 = ((1 + k + 1 : Nat) : Int) := by omega
  obtain ⟨x, μ3, x0, x1, k3, e3⟩ := take_big (n := n + 1) K.take hw2 (many := ((1 + k + 1 : Nat) : Int)) (by omega) (log_big (by omega))
  obtain ⟨x, rfl⟩ : ∃ y : Nat, x = (y : Nat) := ⟨x.toNat, by omega⟩
  have hw3 := k3.isW hw2
  obtain ⟨y, μ4, y0, y1, k4, e4⟩ := take_big (n := n + 1) K.take hw3 (many := ((1 + k + 1 : Nat) : Int)) (by omega) (log_big (by omega))
  obtain ⟨y, rfl⟩ : ∃ z : Nat, y = (z : Nat) := ⟨y.toNat, by omega⟩
  have hw4 := k4.isW hw3
  obtain ⟨r, μ5, hr, k5, e5⟩ := pick_lst (n := n) (μ := μ4) K.take K.pick hw4 (ds := [.int 0, .int ((1 + k : Nat) : Int), .int (x : Nat), .int (y : Nat)]) (by show 0 < 4; decide) c4
  obtain ⟨a, rfl, ha⟩ : ∃ a : Nat, r = .int (a : Nat) ∧ a ≤ 1 + k := by
    simp only [List.mem_cons, List.not_mem_nil, or_false] at hr
    rcases hr with rfl | rfl | rfl | rfl
    · exact ⟨0, rfl, by omega⟩
    · exact ⟨1 + k, rfl, by omega⟩
    · exact ⟨x, rfl, by omega⟩
    · exact ⟨y, rfl, by omega⟩
  have kk := ((((k1.trans k2).trans k3).trans k4).trans k5)
  refine ⟨a, 1 + k, μ5, ha, by omega, by omega, kk, ?_⟩
  have m6 : mkL false [.int 1, .int 2, .int 4, .int 12, .int 1000, .int (10 ^ 30)] μ = .ok (.lst [.int 1, .int 2, .int 4, .int 12, .int 1000, .int (10 ^ 30)]) μ := mkL_val _ _ c6
  have m4 : mkL false [.int 0, .int ((1 + k : Nat) : Int), .int (x : Nat), .int (y : Nat)] μ4 = .ok (.lst [.int 0, .int ((1 + k : Nat) : Int), .int (x : Nat), .int (y : Nat)]) μ4 := mkL_val _ _ c4
  rw [callD_eq K.lChance rfl]
  simp -implicitDefEqProofs only [Law.d__law_chance, startE, exs_nil, exs_cons, ex_pass, ex_expr, ex_asg, ex_ifs, ex_for, ex_ret, ex_retN, ex_brk, ex_cont, ex_never, ev_var, ev_lit, ev_op1, ev_op2, ev_op3, ev_opN, ev_opM, ev_meth, ev_frz, ev_lst, ev_tup, ev_and, ev_or, ev_not, ev_ite, ev_chain, ev_call, ev_comp, evs_nil, evs_cons, Res.bind_assoc, evT, asgT_name, asgT_sub, asgT_tup, asgTs_nil, asgTs_cons, Res.bind_ok, Res.bind_exc, lift_some, noExc_ok, truth_bl, finish_rt, finish_nx, List.map_cons, List.map_nil, List.length_cons, List.length_nil, List.replicate_zero, List.replicate_succ, List.cons_append, List.nil_append, List.getElem?_cons_zero, List.getElem?_cons_succ, List.set_cons_zero, List.set_cons_succ, Bool.not_true, Bool.not_false, ↓reduceIte, Bool.false_eq_true, Nat.reduceAdd, Nat.reduceSub, Nat.reduceLT, Nat.reduceLeDiff, Nat.zero_add, id_eq, Nat.sub_self, Bool.true_and, Bool.and_true, Bool.false_and, Bool.and_false, Bool.true_or, Bool.or_true, Bool.false_or, Bool.or_false, pw, m6, e1, e2, add_int, hb, hb1, e3, e4, m4, e5, c2]
  exact finish_len _ kk.len
/-! ### the greatest number of layers -/
theorem most_ok (K : K70 P) {b : Nat} (hb : 0 < b) (hl : b < 2 ^ 110) : ∃ m : Nat, m ≤ 200 ∧ b ^ m < 89 ^ 98 ∧ callD P (n + 1) "_law_most" [.int (b : Nat)] μ = .ok (.int (m : Nat)) μ := by
  have c2 : 2 ≤ cap := by decide
  have pw1 : ∀ ν : Store, fPow ν (.int 10) (.int 45) = some (.int (10 ^ 45)) := fun _ => rfl
  have pw2 : ∀ ν : Store, fPow ν (.int 10) (.int 44) = some (.int (10 ^ 44)) := fun _ => rfl
  have pm : ∀ ν : Store, fMul ν (.int (10 ^ 45)) (.int (10 ^ 44)) = some (.int (10 ^ 89)) := fun _ => rfl
  rw [callD_eq K.lMost rfl]
  have s0 : ex (callD P n) (Law.d__law_most.body.getD 0 .pass) (startE Law.d__law_most [.int (b : Nat)]) μ = .ok (.nx [some (.int (b : Nat)), some (.int (b : Nat)), some (.int 0)]) μ := by
    simp -implicitDefEqProofs only [Law.d__law_most, List.getD_cons_zero, startE, exs_nil, exs_cons, ex_pass, ex_expr, ex_asg, ex_ifs, ex_for, ex_ret, ex_retN, ex_brk, ex_cont, ex_never, ev_var, ev_lit, ev_op1, ev_op2, ev_op3, ev_opN, ev_opM, ev_meth, ev_frz, ev_lst, ev_tup, ev_and, ev_or, ev_not, ev_ite, ev_chain, ev_call, ev_comp, evs_nil, evs_cons, Res.bind_assoc, evT, asgT_name, asgT_sub, asgT_tup, asgTs_nil, asgTs_cons, Res.bind_ok, Res.bind_exc, lift_some, noExc_ok, truth_bl, finish_rt, finish_nx, List.map_cons, List.map_nil, List.length_cons, List.length_nil, List.replicate_zero, List.replicate_succ, List.cons_append, List.nil_append, List.getElem?_cons_zero, List.getElem?_cons_succ, List.set_cons_zero, List.set_cons_succ, Bool.not_true, Bool.not_false, ↓reduceIte, Bool.false_eq_true, Nat.reduceAdd, Nat.reduceSub, Nat.reduceLT, Nat.reduceLeDiff, Nat.zero_add, id_eq, Nat.sub_self, Bool.true_and, Bool.and_true, Bool.false_and, Bool.and_false, Bool.true_or, Bool.or_true, Bool.false_or, Bool.or_false, c2]
  have sp : Law.d__law_most.body = [Law.d__law_most.body.getD 0 .pass, .whil 1000 (.and (.op2 fLt (.var 2) (.lit (.int 200))) (.op2 fLt (.var 1) (.op2 fMul (.op2 fPow (.lit (.int 10)) (.lit (.int 45))) (.op2 fPow (.lit (.int 10)) (.lit (.int 44)))))) [.asg (.tup [.name 1, .name 2]) (.tup [.op2 fMul (.var 1) (.var 0), .op2 fAdd (.var 2) (.lit (.int 1))])], .ret (.var 2)] := rfl
  rw [sp, exs_cons, s0, bind_ok]
  dsimp only
  rw [exs_cons, ex_whil]
  generalize hc : evT _ _ = cond
  generalize hbd : (fun ρ μ => exs (callD P n) [.asg (.tup [.name 1, .name 2]) (.tup [.op2 fMul (.var 1) (.var 0), .op2 fAdd (.var 2) (.lit (.int 1))])] ρ μ) = body
  have step : ∀ k ρ μ', (∃ f : Nat, ρ = [some (.int (b : Nat)), some (.int ((b ^ (f + 1) : Nat) : Int)), some (.int (f : Nat))] ∧ μ' = μ ∧ f ≤ 200 ∧ b ^ f < 10 ^ 89 ∧ 200 - f = k) →
      ∃ t, cond ρ μ' = .ok t μ' ∧ (t = true → ∃ k' ρ' μ2, k' < k ∧ body ρ μ' = .ok (.nx ρ') μ2 ∧ (∃ f : Nat, ρ' = [some (.int (b : Nat)), some (.int ((b ^ (f + 1) : Nat) : Int)), some (.int (f : Nat))] ∧ μ2 = μ ∧ f ≤ 200 ∧ b ^ f < 10 ^ 89 ∧ 200 - f = k')) := by
    rintro k ρ μ' ⟨f, rfl, rfl, hf, hp, hk⟩
    have l1 : fLt μ' (.int (f : Nat)) (.int 200) = some (.bl (decide (((f : Nat) : Int) < 200))) := lt_int _ _ _
    have l2 : fLt μ' (.int ((b ^ (f + 1) : Nat) : Int)) (.int (10 ^ 89)) = some (.bl (decide (((b ^ (f + 1) : Nat) : Int) < 10 ^ 89))) := lt_int _ _ _
    by_cases z : f < 200
    · rw [decide_eq_true (by omega)] at l1
      by_cases y : b ^ (f + 1) < 10 ^ 89
      · rw [decide_eq_true (by exact_mod_cast y)] at l2
        refine ⟨true, ?_, fun _ => ⟨200 - (f + 1), _, μ', by omega, ?_, f + 1, rfl, rfl, by omega, y, rfl⟩⟩
        · subst hc
          simp -implicitDefEqProofs only [startE, exs_nil, exs_cons, ex_pass, ex_expr, ex_asg, ex_ifs, ex_for, ex_ret, ex_retN, ex_brk, ex_cont, ex_never, ev_var, ev_lit, ev_op1, ev_op2, ev_op3, ev_opN, ev_opM, ev_meth, ev_frz, ev_lst, ev_tup, ev_and, ev_or, ev_not, ev_ite, ev_chain, ev_call, ev_comp, evs_nil, evs_cons, Res.bind_assoc, evT, asgT_name, asgT_sub, asgT_tup, asgTs_nil, asgTs_cons, Res.bind_ok, Res.bind_exc, lift_some, noExc_ok, truth_bl, finish_rt, finish_nx, List.map_cons, List.map_nil, List.length_cons, List.length_nil, List.replicate_zero, List.replicate_succ, List.cons_append, List.nil_append, List.getElem?_cons_zero, List.getElem?_cons_succ, List.set_cons_zero, List.set_cons_succ, Bool.not_true, Bool.not_false, ↓reduceIte, Bool.false_eq_true, Nat.reduceAdd, Nat.reduceSub, Nat.reduceLT, Nat.reduceLeDiff, Nat.zero_add, id_eq, Nat.sub_self, Bool.true_and, Bool.and_true, Bool.false_and, Bool.and_false, Bool.true_or, Bool.or_true, Bool.false_or, Bool.or_false, l1, pw1, pw2, pm, l2]
        · have b1 : b ^ (f + 1) < 2 ^ (110 * 200) := pow_lt hl (by omega)
          have m := mul_nat μ' b1 hl (by decide) (by decide) (by decide)
          rw [← Nat.pow_succ] at m
          subst hbd
          simp -implicitDefEqProofs only [startE, exs_nil, exs_cons, ex_pass, ex_expr, ex_asg, ex_ifs, ex_for, ex_ret, ex_retN, ex_brk, ex_cont, ex_never, ev_var, ev_lit, ev_op1, ev_op2, ev_op3, ev_opN, ev_opM, ev_meth, ev_frz, ev_lst, ev_tup, ev_and, ev_or, ev_not, ev_ite, ev_chain, ev_call, ev_comp, evs_nil, evs_cons, Res.bind_assoc, evT, asgT_name, asgT_sub, asgT_tup, asgTs_nil, asgTs_cons, Res.bind_ok, Res.bind_exc, lift_some, noExc_ok, truth_bl, finish_rt, finish_nx, List.map_cons, List.map_nil, List.length_cons, List.length_nil, List.replicate_zero, List.replicate_succ, List.cons_append, List.nil_append, List.getElem?_cons_zero, List.getElem?_cons_succ, List.set_cons_zero, List.set_cons_succ, Bool.not_true, Bool.not_false, ↓reduceIte, Bool.false_eq_true, Nat.reduceAdd, Nat.reduceSub, Nat.reduceLT, Nat.reduceLeDiff, Nat.zero_add, id_eq, Nat.sub_self, Bool.true_and, Bool.and_true, Bool.false_and, Bool.and_false, Bool.true_or, Bool.or_true, Bool.false_or, Bool.or_false, m, add_int, c2, Int.natCast_add]
          rfl
      · rw [decide_eq_false (by exact_mod_cast y)] at l2
        refine ⟨false, ?_, fun w => by cases w⟩
        subst hc
        simp -implicitDefEqProofs only [startE, exs_nil, exs_cons, ex_pass, ex_expr, ex_asg, ex_ifs, ex_for, ex_ret, ex_retN, ex_brk, ex_cont, ex_never, ev_var, ev_lit, ev_op1, ev_op2, ev_op3, ev_opN, ev_opM, ev_meth, ev_frz, ev_lst, ev_tup, ev_and, ev_or, ev_not, ev_ite, ev_chain, ev_call, ev_comp, evs_nil, evs_cons, Res.bind_assoc, evT, asgT_name, asgT_sub, asgT_tup, asgTs_nil, asgTs_cons, Res.bind_ok, Res.bind_exc, lift_some, noExc_ok, truth_bl, finish_rt, finish_nx, List.map_cons, List.map_nil, List.length_cons, List.length_nil, List.replicate_zero, List.replicate_succ, List.cons_append, List.nil_append, List.getElem?_cons_zero, List.getElem?_cons_succ, List.set_cons_zero, List.set_cons_succ, Bool.not_true, Bool.not_false, ↓reduceIte, Bool.false_eq_true, Nat.reduceAdd, Nat.reduceSub, Nat.reduceLT, Nat.reduceLeDiff, Nat.zero_add, id_eq, Nat.sub_self, Bool.true_and, Bool.and_true, Bool.false_and, Bool.and_false, Bool.true_or, Bool.or_true, Bool.false_or, Bool.or_false, l1, pw1, pw2, pm, l2]
    · rw [decide_eq_false (by omega)] at l1
      refine ⟨false, ?_, fun w => by cases w⟩
      subst hc
      simp -implicitDefEqProofs only [startE, exs_nil, exs_cons, ex_pass, ex_expr, ex_asg, ex_ifs, ex_for, ex_ret, ex_retN, ex_brk, ex_cont, ex_never, ev_var, ev_lit, ev_op1, ev_op2, ev_op3, ev_opN, ev_opM, ev_meth, ev_frz, ev_lst, ev_tup, ev_and, ev_or, ev_not, ev_ite, ev_chain, ev_call, ev_comp, evs_nil, evs_cons, Res.bind_assoc, evT, asgT_name, asgT_sub, asgT_tup, asgTs_nil, asgTs_cons, Res.bind_ok, Res.bind_exc, lift_some, noExc_ok, truth_bl, finish_rt, finish_nx, List.map_cons, List.map_nil, List.length_cons, List.length_nil, List.replicate_zero, List.replicate_succ, List.cons_append, List.nil_append, List.getElem?_cons_zero, List.getElem?_cons_succ, List.set_cons_zero, List.set_cons_succ, Bool.not_true, Bool.not_false, ↓reduceIte, Bool.false_eq_true, Nat.reduceAdd, Nat.reduceSub, Nat.reduceLT, Nat.reduceLeDiff, Nat.zero_add, id_eq, Nat.sub_self, Bool.true_and, Bool.and_true, Bool.false_and, Bool.and_false, Bool.true_or, Bool.or_true, Bool.false_or, Bool.or_false, l1]
  obtain ⟨k', ρ', μ2, ew, ⟨f, rfl, rfl, hf, hp, hk⟩, ec⟩ := whileLoop_inv _ step 1000 200 [some (.int (b : Nat)), some (.int (b : Nat)), some (.int 0)] μ (by decide) ⟨0, by rw [Nat.zero_add, Nat.pow_one]; rfl, rfl, by decide, by rw [Nat.pow_zero]; decide, rfl⟩
  refine ⟨f, hf, Nat.lt_of_lt_of_le hp (by decide), ?_⟩
  rw [ew]
  simp -implicitDefEqProofs only [startE, exs_nil, exs_cons, ex_pass, ex_expr, ex_asg, ex_ifs, ex_for, ex_ret, ex_retN, ex_brk, ex_cont, ex_never, ev_var, ev_lit, ev_op1, ev_op2, ev_op3, ev_opN, ev_opM, ev_meth, ev_frz, ev_lst, ev_tup, ev_and, ev_or, ev_not, ev_ite, ev_chain, ev_call, ev_comp, evs_nil, evs_cons, Res.bind_assoc, evT, asgT_name, asgT_sub, asgT_tup, asgTs_nil, asgTs_cons, Res.bind_ok, Res.bind_exc, lift_some, noExc_ok, truth_bl, finish_rt, finish_nx, List.map_cons, List.map_nil, List.length_cons, List.length_nil, List.replicate_zero, List.replicate_succ, List.cons_append, List.nil_append, List.getElem?_cons_zero, List.getElem?_cons_succ, List.set_cons_zero, List.set_cons_succ, Bool.not_true, Bool.not_false, ↓reduceIte, Bool.false_eq_true, Nat.reduceAdd, Nat.reduceSub, Nat.reduceLT, Nat.reduceLeDiff, Nat.zero_add, id_eq, Nat.sub_self, Bool.true_and, Bool.and_true, Bool.false_and, Bool.and_false, Bool.true_or, Bool.or_true, Bool.false_or, Bool.or_false]
end
end Ev

set_option exponentiation.threshold 100000
namespace Ev
open Res
theorem due_flip {a b N : Nat} (h : a ≤ b) : due70 (b - a) b N = due70 a b N := by
  unfold due70
  rw [Nat.sub_sub_self h, (Rk_flip (b - a) a N).1]
theorem Cn.flip {a b N : Nat} (h : Cn a b N) : Cn (b - a) b N := ⟨Nat.sub_le _ _, h.pos, h.lt, h.many, h.small⟩
theorem gd_low (p q : Nat) : gd 1 (lowD p q) = true := by
  unfold lowD gd gds gds gds gd
  rfl
theorem ne_low (μ : Store) (p q : Nat) : fNe μ (lowD p q) (lowD p q) = some (.bl false) := by
  unfold lowD
  generalize ((p / Nat.gcd p q : Nat) : Int) = x
  generalize ((q / Nat.gcd p q : Nat) : Int) = y
  have c1 : cmpOk 8 (.tup [.int x, .int y]) = true := by unfold cmpOk cmpOks cmpOks cmpOks cmpOk; rfl
  have c2 : eqD (.tup [.int x, .int y]) (.tup [.int x, .int y]) = true := by
    unfold eqD eqDs eqDs eqDs eqD
    simp
  simp only [fNe, rd, asL, c1, Bool.and_self, ↓reduceIte, c2]
  rfl
section
variable {P : String → Option FD} {n : Nat} {μ : Store}
theorem asked_ok (K : K70 P) {a b N : Nat} (h : Cn a b N) : callD P (n + 8) "_law_asked" [chD a b, .int (N : Nat)] μ = .ok (.bl true) μ := by
  have hle := h.le
  have c2 : 2 ≤ cap := by decide
  have e1 := shares_ok (n := n + 6) (μ := μ) K h
  have lo := law_lowest_ok (n := n + 6) (μ := μ) K.lLowest (p := Rk a (b - a) N 0) (q := b ^ N) (Nat.pow_pos h.pos) h.small
  have x0 : fIx μ (rowD a b N) (.int 0) = some (.int ((Rk a (b - a) N 0 : Nat) : Int)) := rfl
  have su : fSumD μ [rowD a b N] = some (.int ((b ^ N : Nat) : Int)) := by
    have := Rk_sum a (b - a) N
    rw [Nat.add_sub_cancel' hle] at this
    rw [← this]
    unfold rowD
    simp only [fSumD, intsOf, List.sum_cons, List.sum_nil]
    congr 2
    omega
  have ns := ne_int μ ((b ^ N : Nat) : Int) ((b ^ N : Nat) : Int)
  rw [show (((b ^ N : Nat) : Int) != ((b ^ N : Nat) : Int)) = false from by simp] at ns
  have sl := slip_ok (n := n + 1) (μ := μ) K h
  have sm := same_refl K.same 1 (n + 5) μ (due70 a b N) (gd_low _ _)
  have pl : permL [1, 0] [D.int (N : Nat), chD a b] = [chD a b, D.int (N : Nat)] := rfl
  have bs := by_sum_ok (n := n + 5) (μ := μ) K h
  have ne := ne_low μ (Rk a (b - a) N 0) (b ^ N)
  have sf := slip_ok (n := n + 1) (μ := μ) K h.flip
  rw [due_flip hle] at sf
  have y0 : fIx μ (chD a b) (.int 0) = some (.int (a : Nat)) := rfl
  have y1 : fIx μ (chD a b) (.int 1) = some (.int (b : Nat)) := rfl
  have sb : fSub μ (.int (b : Nat)) (.int (a : Nat)) = some (.int ((b - a : Nat) : Int)) := by rw [sub_int, Int.ofNat_sub hle]
  rw [callD_eq K.lAsked rfl]
  by_cases h8 : N ≤ 8
  · have br := by_rows_ok (n := n) (μ := μ) K h h8
    have d1 : decide (((N : Nat) : Int) < 9) = true := decide_eq_true (by omega)
    have d2 : decide (((N : Nat) : Int) < 40) = true := decide_eq_true (by omega)
    simp -implicitDefEqProofs only [Law.d__law_asked, startE, exs_nil, exs_cons, ex_pass, ex_expr, ex_asg, ex_ifs, ex_for, ex_ret, ex_retN, ex_brk, ex_cont, ex_never, ev_var, ev_lit, ev_op1, ev_op2, ev_op3, ev_opN, ev_opM, ev_meth, ev_frz, ev_lst, ev_tup, ev_and, ev_or, ev_not, ev_ite, ev_chain, ev_call, ev_comp, evs_nil, evs_cons, Res.bind_assoc, evT, asgT_name, asgT_sub, asgT_tup, asgTs_nil, asgTs_cons, Res.bind_ok, Res.bind_exc, lift_some, noExc_ok, truth_bl, finish_rt, finish_nx, List.map_cons, List.map_nil, List.length_cons, List.length_nil, List.replicate_zero, List.replicate_succ, List.cons_append, List.nil_append, List.getElem?_cons_zero, List.getElem?_cons_succ, List.set_cons_zero, List.set_cons_succ, Bool.not_true, Bool.not_false, ↓reduceIte, Bool.false_eq_true, Nat.reduceAdd, Nat.reduceSub, Nat.reduceLT, Nat.reduceLeDiff, Nat.zero_add, id_eq, Nat.sub_self, Bool.true_and, Bool.and_true, Bool.false_and, Bool.and_false, Bool.true_or, Bool.or_true, Bool.false_or, Bool.or_false, e1, x0, lo, su, ns, sl, sm, pl, lt_int, d1, d2, br, bs, ne, y0, y1, sb, c2, sf]
  · have d1 : decide (((N : Nat) : Int) < 9) = false := decide_eq_false (by omega)
    by_cases h40 : N < 40
    · have d2 : decide (((N : Nat) : Int) < 40) = true := decide_eq_true (by omega)
      simp -implicitDefEqProofs only [Law.d__law_asked, startE, exs_nil, exs_cons, ex_pass, ex_expr, ex_asg, ex_ifs, ex_for, ex_ret, ex_retN, ex_brk, ex_cont, ex_never, ev_var, ev_lit, ev_op1, ev_op2, ev_op3, ev_opN, ev_opM, ev_meth, ev_frz, ev_lst, ev_tup, ev_and, ev_or, ev_not, ev_ite, ev_chain, ev_call, ev_comp, evs_nil, evs_cons, Res.bind_assoc, evT, asgT_name, asgT_sub, asgT_tup, asgTs_nil, asgTs_cons, Res.bind_ok, Res.bind_exc, lift_some, noExc_ok, truth_bl, finish_rt, finish_nx, List.map_cons, List.map_nil, List.length_cons, List.length_nil, List.replicate_zero, List.replicate_succ, List.cons_append, List.nil_append, List.getElem?_cons_zero, List.getElem?_cons_succ, List.set_cons_zero, List.set_cons_succ, Bool.not_true, Bool.not_false, ↓reduceIte, Bool.false_eq_true, Nat.reduceAdd, Nat.reduceSub, Nat.reduceLT, Nat.reduceLeDiff, Nat.zero_add, id_eq, Nat.sub_self, Bool.true_and, Bool.and_true, Bool.false_and, Bool.and_false, Bool.true_or, Bool.or_true, Bool.false_or, Bool.or_false, e1, x0, lo, su, ns, sl, sm, pl, lt_int, d1, d2, bs, ne, y0, y1, sb, c2, sf]
    · have d2 : decide (((N : Nat) : Int) < 40) = false := decide_eq_false (by omega)
      simp -implicitDefEqProofs only [Law.d__law_asked, startE, exs_nil, exs_cons, ex_pass, ex_expr, ex_asg, ex_ifs, ex_for, ex_ret, ex_retN, ex_brk, ex_cont, ex_never, ev_var, ev_lit, ev_op1, ev_op2, ev_op3, ev_opN, ev_opM, ev_meth, ev_frz, ev_lst, ev_tup, ev_and, ev_or, ev_not, ev_ite, ev_chain, ev_call, ev_comp, evs_nil, evs_cons, Res.bind_assoc, evT, asgT_name, asgT_sub, asgT_tup, asgTs_nil, asgTs_cons, Res.bind_ok, Res.bind_exc, lift_some, noExc_ok, truth_bl, finish_rt, finish_nx, List.map_cons, List.map_nil, List.length_cons, List.length_nil, List.replicate_zero, List.replicate_succ, List.cons_append, List.nil_append, List.getElem?_cons_zero, List.getElem?_cons_succ, List.set_cons_zero, List.set_cons_succ, Bool.not_true, Bool.not_false, ↓reduceIte, Bool.false_eq_true, Nat.reduceAdd, Nat.reduceSub, Nat.reduceLT, Nat.reduceLeDiff, Nat.zero_add, id_eq, Nat.sub_self, Bool.true_and, Bool.and_true, Bool.false_and, Bool.and_false, Bool.true_or, Bool.or_true, Bool.false_or, Bool.or_false, e1, x0, lo, su, ns, sl, sm, pl, lt_int, d1, d2, y0, y1, sb, c2, sf]
end
/-! ### none down -/
theorem Rk_none (c : Nat) : ∀ N k, k < 3 → Rk 0 c N k = if N % 3 = k then c ^ N else 0
  | 0, k, hk => by
    obtain ⟨h0, h1, h2⟩ := Rk_zero 0 c
    rcases (show k = 0 ∨ k = 1 ∨ k = 2 by omega) with rfl | rfl | rfl
    · rw [h0]; rfl
    · rw [h1]; rfl
    · rw [h2]; rfl
  | N + 1, k, hk => by
    rw [Rk_step 0 c N hk, Nat.mul_zero, Nat.zero_add, Rk_none c N _ (Nat.mod_lt _ (by decide))]
    by_cases q : (N + 1) % 3 = k
    · rw [if_pos (by omega), if_pos q, Nat.pow_succ]
    · rw [if_neg (by omega), if_neg q, Nat.zero_mul]
theorem due_none {c N : Nat} (hc : 0 < c) : due70 0 c N = .tup [.int (if N % 3 = 0 then 1 else 0), .int 1] := by
  have hp : 0 < c ^ N := Nat.pow_pos hc
  unfold due70 lowD
  rw [Nat.sub_zero, Rk_none c N 0 (by decide)]
  by_cases q : N % 3 = 0
  · rw [if_pos q, if_pos q, Nat.gcd_self, Nat.div_self hp]; rfl
  · rw [if_neg q, if_neg q, Nat.gcd_zero_left, Nat.zero_div, Nat.div_self hp]; rfl
section
variable {P : String → Option FD} {n : Nat} {μ : Store}
theorem sum_rep1 : ∀ N : Nat, (List.replicate N (1 : Int)).sum = N
  | 0 => rfl
  | k + 1 => by rw [List.replicate_succ, List.sum_cons, sum_rep1 k]; omega
theorem goes_round_ok (K : K70 P) {N : Nat} (h1 : 1 ≤ N) (hN : N ≤ 24) : callD P (n + 6) "goes_round" [.str (List.replicate N 43)] μ = .ok (.bl (decide (N % 3 = 0))) μ := by
  have cs := check_steps_ok (n := n) (μ := μ) K (s := List.replicate N 43) (fun c hc => .inl (List.eq_of_mem_replicate hc)) (by simp; omega) (by simp; omega)
  have rc : ((List.replicate N 43).map fun c => D.str [c]).length ≤ cap := by rw [List.length_map, List.length_replicate]; exact cap100 (by omega)
  have abc : fLen μ [.str [65, 66, 67]] = some (.int 3) := rfl
  have m := mod_pos μ ((N : Nat) : Int) (show (0 : Int) < 3 by decide)
  have e : ((((N : Nat) : Int) % 3) == 0) = decide (N % 3 = 0) := by rw [Bool.eq_iff_iff, beq_iff_eq, decide_eq_true_iff]; omega
  have so : callD P (n + 4) "sum_of" [.str (List.replicate N 43)] μ = .ok (.int (N : Nat)) μ := by
    have w := worth_ok (n := n + 2) (μ := μ) K.worth (c := 43) (by decide)
    rw [callD_eq K.sumOf rfl]
    have su : fSumD μ [.lst ((List.replicate N 43).map fun _ => D.int 1)] = some (.int (N : Nat)) := by
      have := sum_ints μ (List.replicate N 1)
      rw [List.map_replicate] at this
      rw [List.map_replicate, this, sum_rep1]
    have rc2 : ((List.replicate N 43).map fun _ => D.int 1).length ≤ cap := by rw [List.length_map, List.length_replicate]; exact cap100 (by omega)
    have hmem : ∀ c ∈ List.replicate N 43, c = 43 := fun c hc => List.eq_of_mem_replicate hc
    generalize List.replicate N 43 = s at *
    simp -implicitDefEqProofs only [Law.d_sum_of, startE, exs_nil, exs_cons, ex_pass, ex_expr, ex_asg, ex_ifs, ex_for, ex_ret, ex_retN, ex_brk, ex_cont, ex_never, ev_var, ev_lit, ev_op1, ev_op2, ev_op3, ev_opN, ev_opM, ev_meth, ev_frz, ev_lst, ev_tup, ev_and, ev_or, ev_not, ev_ite, ev_chain, ev_call, ev_comp, evs_nil, evs_cons, Res.bind_assoc, evT, asgT_name, asgT_sub, asgT_tup, asgTs_nil, asgTs_cons, Res.bind_ok, Res.bind_exc, lift_some, noExc_ok, truth_bl, finish_rt, finish_nx, List.map_cons, List.map_nil, List.length_cons, List.length_nil, List.replicate_zero, List.replicate_succ, List.cons_append, List.nil_append, List.getElem?_cons_zero, List.getElem?_cons_succ, List.set_cons_zero, List.set_cons_succ, Bool.not_true, Bool.not_false, ↓reduceIte, Bool.false_eq_true, Nat.reduceAdd, Nat.reduceSub, Nat.reduceLT, Nat.reduceLeDiff, Nat.zero_add, id_eq, Nat.sub_self, Bool.true_and, Bool.and_true, Bool.false_and, Bool.and_false, Bool.true_or, Bool.or_true, Bool.false_or, Bool.or_false, val_str, rc]
    rw [compLoop_map (fun c => D.str [c]) (fun _ => .int 1)]
    · simp -implicitDefEqProofs only [startE, exs_nil, exs_cons, ex_pass, ex_expr, ex_asg, ex_ifs, ex_for, ex_ret, ex_retN, ex_brk, ex_cont, ex_never, ev_var, ev_lit, ev_op1, ev_op2, ev_op3, ev_opN, ev_opM, ev_meth, ev_frz, ev_lst, ev_tup, ev_and, ev_or, ev_not, ev_ite, ev_chain, ev_call, ev_comp, evs_nil, evs_cons, Res.bind_assoc, evT, asgT_name, asgT_sub, asgT_tup, asgTs_nil, asgTs_cons, Res.bind_ok, Res.bind_exc, lift_some, noExc_ok, truth_bl, finish_rt, finish_nx, List.map_cons, List.map_nil, List.length_cons, List.length_nil, List.replicate_zero, List.replicate_succ, List.cons_append, List.nil_append, List.getElem?_cons_zero, List.getElem?_cons_succ, List.set_cons_zero, List.set_cons_succ, Bool.not_true, Bool.not_false, ↓reduceIte, Bool.false_eq_true, Nat.reduceAdd, Nat.reduceSub, Nat.reduceLT, Nat.reduceLeDiff, Nat.zero_add, id_eq, Nat.sub_self, Bool.true_and, Bool.and_true, Bool.false_and, Bool.and_false, Bool.true_or, Bool.or_true, Bool.false_or, Bool.or_false, mkL_val _ _ rc2, su]
    · intro c hc
      rw [hmem c hc]
      have w : callD P (n + 3) "worth" [.str [43]] μ = .ok (.int 1) μ := w
      simp -implicitDefEqProofs only [startE, exs_nil, exs_cons, ex_pass, ex_expr, ex_asg, ex_ifs, ex_for, ex_ret, ex_retN, ex_brk, ex_cont, ex_never, ev_var, ev_lit, ev_op1, ev_op2, ev_op3, ev_opN, ev_opM, ev_meth, ev_frz, ev_lst, ev_tup, ev_and, ev_or, ev_not, ev_ite, ev_chain, ev_call, ev_comp, evs_nil, evs_cons, Res.bind_assoc, evT, asgT_name, asgT_sub, asgT_tup, asgTs_nil, asgTs_cons, Res.bind_ok, Res.bind_exc, lift_some, noExc_ok, truth_bl, finish_rt, finish_nx, List.map_cons, List.map_nil, List.length_cons, List.length_nil, List.replicate_zero, List.replicate_succ, List.cons_append, List.nil_append, List.getElem?_cons_zero, List.getElem?_cons_succ, List.set_cons_zero, List.set_cons_succ, Bool.not_true, Bool.not_false, ↓reduceIte, Bool.false_eq_true, Nat.reduceAdd, Nat.reduceSub, Nat.reduceLT, Nat.reduceLeDiff, Nat.zero_add, id_eq, Nat.sub_self, Bool.true_and, Bool.and_true, Bool.false_and, Bool.and_false, Bool.true_or, Bool.or_true, Bool.false_or, Bool.or_false, compStep, forStep, bindT_name, bindT_tup, bindT_str, bindTs_nil, bindTs_cons, wipeE, List.length_set, w]
  have dg : callD P (n + 5) "do_go_round" [.str (List.replicate N 43)] μ = .ok (.bl (decide (N % 3 = 0))) μ := by
    rw [callD_eq K.doGoRound rfl]
    generalize List.replicate N 43 = s at *
    simp -implicitDefEqProofs only [Law.d_do_go_round, startE, exs_nil, exs_cons, ex_pass, ex_expr, ex_asg, ex_ifs, ex_for, ex_ret, ex_retN, ex_brk, ex_cont, ex_never, ev_var, ev_lit, ev_op1, ev_op2, ev_op3, ev_opN, ev_opM, ev_meth, ev_frz, ev_lst, ev_tup, ev_and, ev_or, ev_not, ev_ite, ev_chain, ev_call, ev_comp, evs_nil, evs_cons, Res.bind_assoc, evT, asgT_name, asgT_sub, asgT_tup, asgTs_nil, asgTs_cons, Res.bind_ok, Res.bind_exc, lift_some, noExc_ok, truth_bl, finish_rt, finish_nx, List.map_cons, List.map_nil, List.length_cons, List.length_nil, List.replicate_zero, List.replicate_succ, List.cons_append, List.nil_append, List.getElem?_cons_zero, List.getElem?_cons_succ, List.set_cons_zero, List.set_cons_succ, Bool.not_true, Bool.not_false, ↓reduceIte, Bool.false_eq_true, Nat.reduceAdd, Nat.reduceSub, Nat.reduceLT, Nat.reduceLeDiff, Nat.zero_add, id_eq, Nat.sub_self, Bool.true_and, Bool.and_true, Bool.false_and, Bool.and_false, Bool.true_or, Bool.or_true, Bool.false_or, Bool.or_false, so, abc, m, eq_intX, e]
  rw [callD_eq K.goesRound rfl]
  generalize List.replicate N 43 = s at *
  simp -implicitDefEqProofs only [Law.d_goes_round, startE, exs_nil, exs_cons, ex_pass, ex_expr, ex_asg, ex_ifs, ex_for, ex_ret, ex_retN, ex_brk, ex_cont, ex_never, ev_var, ev_lit, ev_op1, ev_op2, ev_op3, ev_opN, ev_opM, ev_meth, ev_frz, ev_lst, ev_tup, ev_and, ev_or, ev_not, ev_ite, ev_chain, ev_call, ev_comp, evs_nil, evs_cons, Res.bind_assoc, evT, asgT_name, asgT_sub, asgT_tup, asgTs_nil, asgTs_cons, Res.bind_ok, Res.bind_exc, lift_some, noExc_ok, truth_bl, finish_rt, finish_nx, List.map_cons, List.map_nil, List.length_cons, List.length_nil, List.replicate_zero, List.replicate_succ, List.cons_append, List.nil_append, List.getElem?_cons_zero, List.getElem?_cons_succ, List.set_cons_zero, List.set_cons_succ, Bool.not_true, Bool.not_false, ↓reduceIte, Bool.false_eq_true, Nat.reduceAdd, Nat.reduceSub, Nat.reduceLT, Nat.reduceLeDiff, Nat.zero_add, id_eq, Nat.sub_self, Bool.true_and, Bool.and_true, Bool.false_and, Bool.and_false, Bool.true_or, Bool.or_true, Bool.false_or, Bool.or_false, cs, dg]
end
end Ev

set_option exponentiation.threshold 100000
namespace Ev
open Res
theorem min_nat (μ : Store) (m x : Nat) : ∃ y : Nat, y ≤ m ∧ fMinD μ [.int (m : Nat), .int (x : Nat)] = some (.int (y : Nat)) := by
  by_cases h : ((x : Nat) : Int) < (m : Nat)
  · refine ⟨x, by omega, ?_⟩
    show some (D.int (if ((x : Nat) : Int) < (m : Nat) then _ else _)) = _
    rw [if_pos h]
  · refine ⟨m, Nat.le_refl _, ?_⟩
    show some (D.int (if ((x : Nat) : Int) < (m : Nat) then _ else _)) = _
    rw [if_neg h]
section
variable {P : String → Option FD} {n : Nat} {μ : Store}
theorem turn_ok (K : K70 P) {w : Nat} (hw : IsW w μ) : ∃ μ', callD P (n + 9) "_law_turn" [.ref w] μ = .ok (.bl true) μ' := by
  obtain ⟨a, b, μ1, hab, hb, hbl, k1, e1⟩ := chance_ok (n := n + 5) K hw
  have hw1 := k1.isW hw
  obtain ⟨m, hm, hs, e2⟩ := most_ok (n := n + 7) (μ := μ1) K hb hbl
  obtain ⟨x, μ2, x0, x1, k2, e3⟩ := take_ok (n := n + 7) K.take hw1 (many := 5) (by decide) (by decide)
  obtain ⟨x, rfl⟩ : ∃ z : Nat, x = (z : Nat) := ⟨x.toNat, by omega⟩
  have hw2 := k2.isW hw1
  obtain ⟨y, μ3, y0, y1, k3, e4⟩ := take_ok (n := n + 7) K.take hw2 (many := 30) (by decide) (by decide)
  obtain ⟨y, rfl⟩ : ∃ z : Nat, y = (z : Nat) := ⟨y.toNat, by omega⟩
  have hw3 := k3.isW hw2
  obtain ⟨N, μ4, N0, N1, k4, e5⟩ := take_ok (n := n + 7) K.take hw3 (many := 201) (by decide) (by decide)
  obtain ⟨N, rfl⟩ : ∃ z : Nat, N = (z : Nat) := ⟨N.toNat, by omega⟩
  have hw4 := k4.isW hw3
  obtain ⟨t, μ5, t0, t1, k5, e6⟩ := take_ok (n := n + 7) K.take hw4 (many := 4) (by decide) (by decide)
  obtain ⟨t, rfl⟩ : ∃ z : Nat, t = (z : Nat) := ⟨t.toNat, by omega⟩
  have c2 : 2 ≤ cap := by decide
  have c6 : 6 ≤ cap := by decide
  have hN : N ≤ 200 := by omega
  have ask : ∀ z : Nat, ∃ y : Nat, fMinD μ3 [.int (m : Nat), .int (z : Nat)] = some (.int (y : Nat)) ∧ callD P (n + 8) "_law_asked" [chD a b, .int (y : Nat)] μ3 = .ok (.bl true) μ3 := fun z => by
    obtain ⟨y, hy, e⟩ := min_nat μ3 m z
    exact ⟨y, e, asked_ok (n := n) K ⟨hab, hb, hbl, by omega, Nat.lt_of_le_of_lt (Nat.pow_le_pow_right hb hy) hs⟩⟩
  have x1' : fIx μ1 (chD a b) (.int 1) = some (.int (b : Nat)) := rfl
  have a4 : ((4 : Int) + (x : Nat)) = ((4 + x : Nat) : Int) := by omega
  have a9 : ((9 : Int) + (y : Nat)) = ((9 + y : Nat) : Int) := by omega
  have cn : ∀ {p q : Nat}, p ≤ q → 0 < q → q ≤ 7 → Cn p q N := fun {p q} h1 h2 h3 => ⟨h1, h2, Nat.lt_of_le_of_lt h3 (by decide), hN, Nat.lt_of_le_of_lt (Nat.le_trans (Nat.pow_le_pow_left h3 N) (Nat.pow_le_pow_right (by decide) hN)) (by decide : 7 ^ 200 < 89 ^ 98)⟩
  have ak := asked_ok (n := n) (μ := μ5) K (cn (p := t) (q := 3) (by omega) (by decide) (by decide))
  have s7 := slip_ok (n := n + 2) (μ := μ5) K (cn (p := 0) (q := 7) (by decide) (by decide) (by decide))
  have s1 := slip_ok (n := n + 2) (μ := μ5) K (cn (p := 0) (q := 1) (by decide) (by decide) (by decide))
  rw [due_none (by decide)] at s7 s1
  have s7 : callD P (n + 8) "slip_chance" [.tup [.int 0, .int 7], .int (N : Nat)] μ5 = .ok (.tup [.int (if N % 3 = 0 then 1 else 0), .int 1]) μ5 := s7
  have s1 : callD P (n + 8) "slip_chance" [.tup [.int 0, .int 1], .int (N : Nat)] μ5 = .ok (.tup [.int (if N % 3 = 0 then 1 else 0), .int 1]) μ5 := s1
  have ak : callD P (n + 8) "_law_asked" [.tup [.int (t : Nat), .int 3], .int (N : Nat)] μ5 = .ok (.bl true) μ5 := ak
  have vl := val_lst μ3 [.int ((0 : Nat) : Int), .int ((1 : Nat) : Int), .int ((2 : Nat) : Int), .int ((3 : Nat) : Int), .int ((4 + x : Nat) : Int), .int ((9 + y : Nat) : Int)]
  have m6 : mkL false [.int 0, .int 1, .int 2, .int 3, .int ((4 + x : Nat) : Int), .int ((9 + y : Nat) : Int)] μ3 = .ok (.lst [.int 0, .int 1, .int 2, .int 3, .int ((4 + x : Nat) : Int), .int ((9 + y : Nat) : Int)]) μ3 := mkL_val _ _ c6
  have vl : fVal μ3 [.lst [.int 0, .int 1, .int 2, .int 3, .int ((4 + x : Nat) : Int), .int ((9 + y : Nat) : Int)]] = some [.int 0, .int 1, .int 2, .int 3, .int ((4 + x : Nat) : Int), .int ((9 + y : Nat) : Int)] := vl
  obtain ⟨q0, f0, g0⟩ := ask 0
  obtain ⟨q1, f1, g1⟩ := ask 1
  obtain ⟨q2, f2, g2⟩ := ask 2
  obtain ⟨q3, f3, g3⟩ := ask 3
  obtain ⟨q4, f4, g4⟩ := ask (4 + x)
  obtain ⟨q5, f5, g5⟩ := ask (9 + y)
  have f0 : fMinD μ3 [.int (m : Nat), .int 0] = _ := f0
  have f1 : fMinD μ3 [.int (m : Nat), .int 1] = _ := f1
  have f2 : fMinD μ3 [.int (m : Nat), .int 2] = _ := f2
  have f3 : fMinD μ3 [.int (m : Nat), .int 3] = _ := f3
  have mb : mkL false [.bl true, .bl true, .bl true, .bl true, .bl true, .bl true] μ3 = .ok (.lst [.bl true, .bl true, .bl true, .bl true, .bl true, .bl true]) μ3 := mkL_val _ _ c6
  have al : fAll μ3 [.lst [.bl true, .bl true, .bl true, .bl true, .bl true, .bl true]] = some (.bl true) := rfl
  have m3 := mod_pos μ5 ((N : Nat) : Int) (show (0 : Int) < 3 by decide)
  have q0' : fEq μ5 (.int (N : Nat)) (.int 0) = some (.bl (decide (N = 0))) := by
    rw [eq_intX]
    congr 2
    rw [Bool.eq_iff_iff, beq_iff_eq, decide_eq_true_iff]; omega
  have q3' : fEq μ5 (.int (((N : Nat) : Int) % 3)) (.int 0) = some (.bl (decide (N % 3 = 0))) := by
    rw [eq_intX]
    congr 2
    rw [Bool.eq_iff_iff, beq_iff_eq, decide_eq_true_iff]; omega
  have sm : ∀ v : Int, callD P (n + 8) "_law_same" [.tup [.int v, .int 1], .tup [.int v, .int 1]] μ5 = .ok (.bl true) μ5 := fun v => same_refl K.same 1 (n + 6) μ5 _ (by unfold gd gds gds gds gd; rfl)
  have kk := k1.trans (k2.trans (k3.trans (k4.trans k5)))
  have ll := kk.len
  have q24 : fGt μ5 (.int (N : Nat)) (.int 24) = some (.bl (decide ((24 : Int) < (N : Nat)))) := gt_int _ _ _
  refine ⟨μ5, ?_⟩
  rw [callD_eq K.lTurn rfl]
  by_cases z0 : N = 0
  · subst z0
    simp -implicitDefEqProofs only [Law.d__law_turn, startE, exs_nil, exs_cons, ex_pass, ex_expr, ex_asg, ex_ifs, ex_for, ex_ret, ex_retN, ex_brk, ex_cont, ex_never, ev_var, ev_lit, ev_op1, ev_op2, ev_op3, ev_opN, ev_opM, ev_meth, ev_frz, ev_lst, ev_tup, ev_and, ev_or, ev_not, ev_ite, ev_chain, ev_call, ev_comp, evs_nil, evs_cons, Res.bind_assoc, evT, asgT_name, asgT_sub, asgT_tup, asgTs_nil, asgTs_cons, Res.bind_ok, Res.bind_exc, lift_some, noExc_ok, truth_bl, finish_rt, finish_nx, List.map_cons, List.map_nil, List.length_cons, List.length_nil, List.replicate_zero, List.replicate_succ, List.cons_append, List.nil_append, List.getElem?_cons_zero, List.getElem?_cons_succ, List.set_cons_zero, List.set_cons_succ, Bool.not_true, Bool.not_false, ↓reduceIte, Bool.false_eq_true, Nat.reduceAdd, Nat.reduceSub, Nat.reduceLT, Nat.reduceLeDiff, Nat.zero_add, id_eq, Nat.sub_self, Bool.true_and, Bool.and_true, Bool.false_and, Bool.and_false, Bool.true_or, Bool.or_true, Bool.false_or, Bool.or_false, e1, x1', e2, e3, e4, add_int, a4, a9, m6, vl, c6, compLoop_cons, compLoop_nil, compStep, forStep, bindT_name, bindT_tup, bindT_str, bindTs_nil, bindTs_cons, wipeE, List.length_set, f0, f1, f2, f3, f4, f5, g0, g1, g2, g3, g4, g5, mb, al, e5, e6, c2, ak, s7, q0', decide_true, Nat.zero_mod, sm]
    exact finish_len _ ll
  · rw [decide_eq_false z0] at q0'
    cases hq : decide (N % 3 = 0) with
    | true =>
      rw [hq] at q3'
      rw [if_pos (of_decide_eq_true hq)] at s7 s1
      by_cases z24 : (24 : Int) < (N : Nat)
      · rw [decide_eq_true z24] at q24
        simp -implicitDefEqProofs only [Law.d__law_turn, startE, exs_nil, exs_cons, ex_pass, ex_expr, ex_asg, ex_ifs, ex_for, ex_ret, ex_retN, ex_brk, ex_cont, ex_never, ev_var, ev_lit, ev_op1, ev_op2, ev_op3, ev_opN, ev_opM, ev_meth, ev_frz, ev_lst, ev_tup, ev_and, ev_or, ev_not, ev_ite, ev_chain, ev_call, ev_comp, evs_nil, evs_cons, Res.bind_assoc, evT, asgT_name, asgT_sub, asgT_tup, asgTs_nil, asgTs_cons, Res.bind_ok, Res.bind_exc, lift_some, noExc_ok, truth_bl, finish_rt, finish_nx, List.map_cons, List.map_nil, List.length_cons, List.length_nil, List.replicate_zero, List.replicate_succ, List.cons_append, List.nil_append, List.getElem?_cons_zero, List.getElem?_cons_succ, List.set_cons_zero, List.set_cons_succ, Bool.not_true, Bool.not_false, ↓reduceIte, Bool.false_eq_true, Nat.reduceAdd, Nat.reduceSub, Nat.reduceLT, Nat.reduceLeDiff, Nat.zero_add, id_eq, Nat.sub_self, Bool.true_and, Bool.and_true, Bool.false_and, Bool.and_false, Bool.true_or, Bool.or_true, Bool.false_or, Bool.or_false, e1, x1', e2, e3, e4, add_int, a4, a9, m6, vl, c6, compLoop_cons, compLoop_nil, compStep, forStep, bindT_name, bindT_tup, bindT_str, bindTs_nil, bindTs_cons, wipeE, List.length_set, f0, f1, f2, f3, f4, f5, g0, g1, g2, g3, g4, g5, mb, al, e5, e6, c2, ak, s7, q0', int_int, m3, q3', sm, q24]
        exact finish_len _ ll
      · rw [decide_eq_false z24] at q24
        have gr := goes_round_ok (n := n + 2) (μ := μ5) K (N := N) (by omega) (by omega)
        rw [hq] at gr
        have ml : fMul μ5 (.str [43]) (.int (N : Nat)) = some (.str (List.replicate N 43)) := by
          rw [mul_s μ5 [43] N (by decide) (by omega)]
          simp
        have ee : fEq μ5 (.tup [.int 1, .int 1]) (.tup [.int 1, .int 1]) = some (.bl true) := rfl
        have i1 : fIs μ5 (.bl true) (.bl true) = some (.bl true) := rfl
        have e2b : fEq μ5 (.bl true) (.bl true) = some (.bl true) := rfl
        generalize List.replicate N 43 = sN at *
        simp -implicitDefEqProofs only [Law.d__law_turn, startE, exs_nil, exs_cons, ex_pass, ex_expr, ex_asg, ex_ifs, ex_for, ex_ret, ex_retN, ex_brk, ex_cont, ex_never, ev_var, ev_lit, ev_op1, ev_op2, ev_op3, ev_opN, ev_opM, ev_meth, ev_frz, ev_lst, ev_tup, ev_and, ev_or, ev_not, ev_ite, ev_chain, ev_call, ev_comp, evs_nil, evs_cons, Res.bind_assoc, evT, asgT_name, asgT_sub, asgT_tup, asgTs_nil, asgTs_cons, Res.bind_ok, Res.bind_exc, lift_some, noExc_ok, truth_bl, finish_rt, finish_nx, List.map_cons, List.map_nil, List.length_cons, List.length_nil, List.replicate_zero, List.replicate_succ, List.cons_append, List.nil_append, List.getElem?_cons_zero, List.getElem?_cons_succ, List.set_cons_zero, List.set_cons_succ, Bool.not_true, Bool.not_false, ↓reduceIte, Bool.false_eq_true, Nat.reduceAdd, Nat.reduceSub, Nat.reduceLT, Nat.reduceLeDiff, Nat.zero_add, id_eq, Nat.sub_self, Bool.true_and, Bool.and_true, Bool.false_and, Bool.and_false, Bool.true_or, Bool.or_true, Bool.false_or, Bool.or_false, e1, x1', e2, e3, e4, add_int, a4, a9, m6, vl, c6, compLoop_cons, compLoop_nil, compStep, forStep, bindT_name, bindT_tup, bindT_str, bindTs_nil, bindTs_cons, wipeE, List.length_set, f0, f1, f2, f3, f4, f5, g0, g1, g2, g3, g4, g5, mb, al, e5, e6, c2, ak, s7, q0', int_int, m3, q3', sm, q24, s1, ml, gr, ee, i1, e2b]
        exact finish_len _ ll
    | false =>
      rw [hq] at q3'
      rw [if_neg (of_decide_eq_false hq)] at s7 s1
      by_cases z24 : (24 : Int) < (N : Nat)
      · rw [decide_eq_true z24] at q24
        simp -implicitDefEqProofs only [Law.d__law_turn, startE, exs_nil, exs_cons, ex_pass, ex_expr, ex_asg, ex_ifs, ex_for, ex_ret, ex_retN, ex_brk, ex_cont, ex_never, ev_var, ev_lit, ev_op1, ev_op2, ev_op3, ev_opN, ev_opM, ev_meth, ev_frz, ev_lst, ev_tup, ev_and, ev_or, ev_not, ev_ite, ev_chain, ev_call, ev_comp, evs_nil, evs_cons, Res.bind_assoc, evT, asgT_name, asgT_sub, asgT_tup, asgTs_nil, asgTs_cons, Res.bind_ok, Res.bind_exc, lift_some, noExc_ok, truth_bl, finish_rt, finish_nx, List.map_cons, List.map_nil, List.length_cons, List.length_nil, List.replicate_zero, List.replicate_succ, List.cons_append, List.nil_append, List.getElem?_cons_zero, List.getElem?_cons_succ, List.set_cons_zero, List.set_cons_succ, Bool.not_true, Bool.not_false, ↓reduceIte, Bool.false_eq_true, Nat.reduceAdd, Nat.reduceSub, Nat.reduceLT, Nat.reduceLeDiff, Nat.zero_add, id_eq, Nat.sub_self, Bool.true_and, Bool.and_true, Bool.false_and, Bool.and_false, Bool.true_or, Bool.or_true, Bool.false_or, Bool.or_false, e1, x1', e2, e3, e4, add_int, a4, a9, m6, vl, c6, compLoop_cons, compLoop_nil, compStep, forStep, bindT_name, bindT_tup, bindT_str, bindTs_nil, bindTs_cons, wipeE, List.length_set, f0, f1, f2, f3, f4, f5, g0, g1, g2, g3, g4, g5, mb, al, e5, e6, c2, ak, s7, q0', int_int, m3, q3', sm, q24]
        exact finish_len _ ll
      · rw [decide_eq_false z24] at q24
        have gr := goes_round_ok (n := n + 2) (μ := μ5) K (N := N) (by omega) (by omega)
        rw [hq] at gr
        have ml : fMul μ5 (.str [43]) (.int (N : Nat)) = some (.str (List.replicate N 43)) := by
          rw [mul_s μ5 [43] N (by decide) (by omega)]
          simp
        have ee : fEq μ5 (.tup [.int 0, .int 1]) (.tup [.int 1, .int 1]) = some (.bl false) := rfl
        have i1 : fIs μ5 (.bl false) (.bl true) = some (.bl false) := rfl
        have e2b : fEq μ5 (.bl false) (.bl false) = some (.bl true) := rfl
        generalize List.replicate N 43 = sN at *
        simp -implicitDefEqProofs only [Law.d__law_turn, startE, exs_nil, exs_cons, ex_pass, ex_expr, ex_asg, ex_ifs, ex_for, ex_ret, ex_retN, ex_brk, ex_cont, ex_never, ev_var, ev_lit, ev_op1, ev_op2, ev_op3, ev_opN, ev_opM, ev_meth, ev_frz, ev_lst, ev_tup, ev_and, ev_or, ev_not, ev_ite, ev_chain, ev_call, ev_comp, evs_nil, evs_cons, Res.bind_assoc, evT, asgT_name, asgT_sub, asgT_tup, asgTs_nil, asgTs_cons, Res.bind_ok, Res.bind_exc, lift_some, noExc_ok, truth_bl, finish_rt, finish_nx, List.map_cons, List.map_nil, List.length_cons, List.length_nil, List.replicate_zero, List.replicate_succ, List.cons_append, List.nil_append, List.getElem?_cons_zero, List.getElem?_cons_succ, List.set_cons_zero, List.set_cons_succ, Bool.not_true, Bool.not_false, ↓reduceIte, Bool.false_eq_true, Nat.reduceAdd, Nat.reduceSub, Nat.reduceLT, Nat.reduceLeDiff, Nat.zero_add, id_eq, Nat.sub_self, Bool.true_and, Bool.and_true, Bool.false_and, Bool.and_false, Bool.true_or, Bool.or_true, Bool.false_or, Bool.or_false, e1, x1', e2, e3, e4, add_int, a4, a9, m6, vl, c6, compLoop_cons, compLoop_nil, compStep, forStep, bindT_name, bindT_tup, bindT_str, bindTs_nil, bindTs_cons, wipeE, List.length_set, f0, f1, f2, f3, f4, f5, g0, g1, g2, g3, g4, g5, mb, al, e5, e6, c2, ak, s7, q0', int_int, m3, q3', sm, q24, s1, ml, gr, ee, i1, e2b]
        exact finish_len _ ll
theorem rng_max7 (μ : Store) (k : Nat) : ∃ j : Nat, j ≤ 7 ∧ fMinD μ [.int k, .int 7] = some (.int (if (7 : Int) < k then 7 else k)) ∧ fMax μ [.int 4, .int (if (7 : Int) < k then 7 else (k : Int))] = some (.int j) := by
  by_cases h : (7 : Int) < k
  · refine ⟨7, by omega, rfl, ?_⟩
    rw [if_pos h]; rfl
  · refine ⟨if (k : Int) > 4 then k else 4, by split <;> omega, rfl, ?_⟩
    rw [if_neg h]
    show some (D.int (if (k : Int) > 4 then (k : Int) else 4)) = _
    by_cases h2 : (k : Int) > 4
    · rw [if_pos h2, if_pos h2]
    · rw [if_neg h2, if_neg h2]; rfl
theorem law_ok (K : K70 P) (ns : List Int) (hns : ns.length ≤ 63) : ∃ μ', callD P (n + 10) "law" [.scr ns] μ = .ok (.bl true) μ' := by
  obtain ⟨j, hj, mn, mx⟩ := rng_max7 μ ns.length
  have r1 : fRng1 μ [.int j] = some ((List.range j).map fun k => .int (k : Nat)) := rng1 μ (by omega)
  rw [callD_eq K.law rfl]
  simp -implicitDefEqProofs only [Law.d_law, startE, exs_nil, exs_cons, ex_pass, ex_expr, ex_asg, ex_ifs, ex_for, ex_ret, ex_retN, ex_brk, ex_cont, ex_never, ev_var, ev_lit, ev_op1, ev_op2, ev_op3, ev_opN, ev_opM, ev_meth, ev_frz, ev_lst, ev_tup, ev_and, ev_or, ev_not, ev_ite, ev_chain, ev_call, ev_comp, evs_nil, evs_cons, Res.bind_assoc, evT, asgT_name, asgT_sub, asgT_tup, asgTs_nil, asgTs_cons, Res.bind_ok, Res.bind_exc, lift_some, noExc_ok, truth_bl, finish_rt, finish_nx, List.map_cons, List.map_nil, List.length_cons, List.length_nil, List.replicate_zero, List.replicate_succ, List.cons_append, List.nil_append, List.getElem?_cons_zero, List.getElem?_cons_succ, List.set_cons_zero, List.set_cons_succ, Bool.not_true, Bool.not_false, ↓reduceIte, Bool.false_eq_true, Nat.reduceAdd, Nat.reduceSub, Nat.reduceLT, Nat.reduceLeDiff, Nat.zero_add, id_eq, Nat.sub_self, Bool.true_and, Bool.and_true, Bool.false_and, Bool.and_false, Bool.true_or, Bool.or_true, Bool.false_or, Bool.or_false, len_scr, mn, mx, r1]
  generalize hst : forStep _ _ _ = st
  obtain ⟨ρ', μ', e, o, rfl⟩ := forLoop_inv (step := st) (fun _ ρ μ' => ∃ o : Option D, ρ = [some (.scr ns), o])
    ((List.range j).map fun k => .int (k : Nat)) 0 [some (.scr ns), none] μ ⟨none, rfl⟩ (by
      rintro i d ρ μ' hi ⟨o, rfl⟩
      obtain ⟨hin, rfl⟩ := get_rng0 hi
      obtain ⟨a, b, c, ew⟩ := law_well_ok (n := n + 8) (μ := μ') K.well ns i hns
      have hw : IsW μ'.length (μ' ++ [.lst [.int a, .int b, .int c]]) := ⟨a, b, c, get_mid μ' _ []⟩
      obtain ⟨μ1, e1⟩ := turn_ok (n := n) K hw
      refine ⟨_, μ1, ?_, some (.int (i : Nat)), rfl⟩
      subst hst
      simp -implicitDefEqProofs only [startE, exs_nil, exs_cons, ex_pass, ex_expr, ex_asg, ex_ifs, ex_for, ex_ret, ex_retN, ex_brk, ex_cont, ex_never, ev_var, ev_lit, ev_op1, ev_op2, ev_op3, ev_opN, ev_opM, ev_meth, ev_frz, ev_lst, ev_tup, ev_and, ev_or, ev_not, ev_ite, ev_chain, ev_call, ev_comp, evs_nil, evs_cons, Res.bind_assoc, evT, asgT_name, asgT_sub, asgT_tup, asgTs_nil, asgTs_cons, Res.bind_ok, Res.bind_exc, lift_some, noExc_ok, truth_bl, finish_rt, finish_nx, List.map_cons, List.map_nil, List.length_cons, List.length_nil, List.replicate_zero, List.replicate_succ, List.cons_append, List.nil_append, List.getElem?_cons_zero, List.getElem?_cons_succ, List.set_cons_zero, List.set_cons_succ, Bool.not_true, Bool.not_false, ↓reduceIte, Bool.false_eq_true, Nat.reduceAdd, Nat.reduceSub, Nat.reduceLT, Nat.reduceLeDiff, Nat.zero_add, id_eq, Nat.sub_self, Bool.true_and, Bool.and_true, Bool.false_and, Bool.and_false, Bool.true_or, Bool.or_true, Bool.false_or, Bool.or_false, compStep, forStep, bindT_name, bindT_tup, bindT_str, bindTs_nil, bindTs_cons, wipeE, List.length_set, ew, e1])
  simp -implicitDefEqProofs only [startE, exs_nil, exs_cons, ex_pass, ex_expr, ex_asg, ex_ifs, ex_for, ex_ret, ex_retN, ex_brk, ex_cont, ex_never, ev_var, ev_lit, ev_op1, ev_op2, ev_op3, ev_opN, ev_opM, ev_meth, ev_frz, ev_lst, ev_tup, ev_and, ev_or, ev_not, ev_ite, ev_chain, ev_call, ev_comp, evs_nil, evs_cons, Res.bind_assoc, evT, asgT_name, asgT_sub, asgT_tup, asgTs_nil, asgTs_cons, Res.bind_ok, Res.bind_exc, lift_some, noExc_ok, truth_bl, finish_rt, finish_nx, List.map_cons, List.map_nil, List.length_cons, List.length_nil, List.replicate_zero, List.replicate_succ, List.cons_append, List.nil_append, List.getElem?_cons_zero, List.getElem?_cons_succ, List.set_cons_zero, List.set_cons_succ, Bool.not_true, Bool.not_false, ↓reduceIte, Bool.false_eq_true, Nat.reduceAdd, Nat.reduceSub, Nat.reduceLT, Nat.reduceLeDiff, Nat.zero_add, id_eq, Nat.sub_self, Bool.true_and, Bool.and_true, Bool.false_and, Bool.and_false, Bool.true_or, Bool.or_true, Bool.false_or, Bool.or_false, e]
  exact ⟨_, rfl⟩
end
end Ev

namespace Law
open PySem PySem.Spec L2 Ev Res
def top (i : Nat) : Stmt := PySem.Challenge.pw_layerballs_k70_whole_slipped_growth.main.body.getD i (.Pass ⟨0, 0, 0, 0⟩)
abbrev s_is_whole : Stmt := top 2
abbrev s_is_between : Stmt := top 3
abbrev s_is_tuple_of : Stmt := top 4
abbrev s_are_wholes : Stmt := top 5
abbrev s_is_text_of : Stmt := top 6
abbrev s_lowest : Stmt := top 7
abbrev s_is_layer_number : Stmt := top 13
abbrev s_is_letter : Stmt := top 14
abbrev s_is_stepped : Stmt := top 15
abbrev s_number_of : Stmt := top 16
abbrev s_further : Stmt := top 17
abbrev s_worth : Stmt := top 18
abbrev s_sum_of : Stmt := top 19
abbrev s_led_by : Stmt := top 20
abbrev s_do_go_round : Stmt := top 21
abbrev s_check_number : Stmt := top 30
abbrev s_check_steps : Stmt := top 31
abbrev s_check_letter : Stmt := top 32
abbrev s_is_chance : Stmt := top 34
abbrev s_powers_of : Stmt := top 35
abbrev s_slip_chance_by : Stmt := top 36
abbrev s_check_chance : Stmt := top 39
abbrev s_check_apart : Stmt := top 40
abbrev s_slip_chance : Stmt := top 42
abbrev s_stacking_by : Stmt := top 44
abbrev s_goes_round : Stmt := top 45
abbrev s__law_well : Stmt := top 47
abbrev s__law_take : Stmt := top 48
abbrev s__law_pick : Stmt := top 49
abbrev s__law_same : Stmt := top 50
abbrev s__law_lowest : Stmt := top 51
abbrev s__law_shares : Stmt := top 52
abbrev s__law_by_rows : Stmt := top 53
abbrev s__law_by_sum : Stmt := top 54
abbrev s__law_asked : Stmt := top 55
abbrev s__law_chance : Stmt := top 56
abbrev s__law_most : Stmt := top 57
abbrev s__law_turn : Stmt := top 58
abbrev s_law : Stmt := top 59
def gc (K : PySem.W.Frag) : GC := ⟨K, fun _ => none, none⟩
structure Txt (K : PySem.W.Frag) (mg : Str → Option Value) (fa : Nat → Addr) (fdd : Nat → FuncData) : Prop where
  d_is_whole : Df K mg "is_whole" s_is_whole ["value"] (fa 0) (fdd 0)
  d_is_between : Df K mg "is_between" s_is_between ["value", "low", "high"] (fa 1) (fdd 1)
  d_is_tuple_of : Df K mg "is_tuple_of" s_is_tuple_of ["value", "many"] (fa 2) (fdd 2)
  d_are_wholes : Df K mg "are_wholes" s_are_wholes ["value", "many"] (fa 3) (fdd 3)
  d_is_text_of : Df K mg "is_text_of" s_is_text_of ["value", "signs"] (fa 4) (fdd 4)
  d_lowest : Df K mg "lowest" s_lowest ["top", "low"] (fa 5) (fdd 5)
  d_is_layer_number : Df K mg "is_layer_number" s_is_layer_number ["value"] (fa 6) (fdd 6)
  d_is_letter : Df K mg "is_letter" s_is_letter ["value"] (fa 7) (fdd 7)
  d_is_stepped : Df K mg "is_stepped" s_is_stepped ["value"] (fa 8) (fdd 8)
  d_number_of : Df K mg "number_of" s_number_of ["letter"] (fa 9) (fdd 9)
  d_further : Df K mg "further" s_further ["letter", "number"] (fa 10) (fdd 10)
  d_worth : Df K mg "worth" s_worth ["step"] (fa 11) (fdd 11)
  d_sum_of : Df K mg "sum_of" s_sum_of ["steps"] (fa 12) (fdd 12)
  d_led_by : Df K mg "led_by" s_led_by ["letter", "steps"] (fa 13) (fdd 13)
  d_do_go_round : Df K mg "do_go_round" s_do_go_round ["steps"] (fa 14) (fdd 14)
  d_check_number : Df K mg "check_number" s_check_number ["value", "low", "high"] (fa 15) (fdd 15)
  d_check_steps : Df K mg "check_steps" s_check_steps ["steps"] (fa 16) (fdd 16)
  d_check_letter : Df K mg "check_letter" s_check_letter ["letter"] (fa 17) (fdd 17)
  d_is_chance : Df K mg "is_chance" s_is_chance ["value"] (fa 18) (fdd 18)
  d_powers_of : Df K mg "powers_of" s_powers_of ["number", "many"] (fa 19) (fdd 19)
  d_slip_chance_by : Df K mg "slip_chance_by" s_slip_chance_by ["chance", "number"] (fa 20) (fdd 20)
  d_check_chance : Df K mg "check_chance" s_check_chance ["chance"] (fa 21) (fdd 21)
  d_check_apart : Df K mg "check_apart" s_check_apart ["chance", "number"] (fa 22) (fdd 22)
  d_slip_chance : Df K mg "slip_chance" s_slip_chance ["chance", "number"] (fa 23) (fdd 23)
  d_stacking_by : Df K mg "stacking_by" s_stacking_by ["letter", "steps"] (fa 24) (fdd 24)
  d_goes_round : Df K mg "goes_round" s_goes_round ["steps"] (fa 25) (fdd 25)
  d__law_well : Df K mg "_law_well" s__law_well ["script", "turn"] (fa 26) (fdd 26)
  d__law_take : Df K mg "_law_take" s__law_take ["well", "many"] (fa 27) (fdd 27)
  d__law_pick : Df K mg "_law_pick" s__law_pick ["well", "some"] (fa 28) (fdd 28)
  d__law_same : Df K mg "_law_same" s__law_same ["told", "due"] (fa 29) (fdd 29)
  d__law_lowest : Df K mg "_law_lowest" s__law_lowest ["above", "below"] (fa 30) (fdd 30)
  d__law_shares : Df K mg "_law_shares" s__law_shares ["chance", "number"] (fa 31) (fdd 31)
  d__law_by_rows : Df K mg "_law_by_rows" s__law_by_rows ["chance", "number"] (fa 32) (fdd 32)
  d__law_by_sum : Df K mg "_law_by_sum" s__law_by_sum ["chance", "number"] (fa 33) (fdd 33)
  d__law_asked : Df K mg "_law_asked" s__law_asked ["chance", "number"] (fa 34) (fdd 34)
  d__law_chance : Df K mg "_law_chance" s__law_chance ["well"] (fa 35) (fdd 35)
  d__law_most : Df K mg "_law_most" s__law_most ["below"] (fa 36) (fdd 36)
  d__law_turn : Df K mg "_law_turn" s__law_turn ["well"] (fa 37) (fdd 37)
  d_law : Df K mg "law" s_law ["script"] (fa 38) (fdd 38)
  n_abs : mg "abs" = none
  n_all : mg "all" = none
  n_bool : mg "bool" = none
  n_divmod : mg "divmod" = none
  n_int : mg "int" = none
  n_isinstance : mg "isinstance" = none
  n_len : mg "len" = none
  n_list : mg "list" = none
  n_max : mg "max" = none
  n_min : mg "min" = none
  n_range : mg "range" = none
  n_str : mg "str" = none
  n_sum : mg "sum" = none
  n_tuple : mg "tuple" = none
  v_LETTERS : ∃ u : Tok, mg "LETTERS" = some (.str "ABC" u)
  v_MOST_APART : ∃ u : Tok, mg "MOST_APART" = some (.int 200 u)
  v_MOST_LAYERS : ∃ u : Tok, mg "MOST_LAYERS" = some (.int 24 u)
  v_STEPS : ∃ u : Tok, mg "STEPS" = some (.str "+-" u)
  v_UP : ∃ u : Tok, mg "UP" = some (.str "+" u)
  m_comb : mg "comb" = some (.builtin "math.comb")
  m_gcd : mg "gcd" = some (.builtin "math.gcd")
structure All (P : Program) (w : World) (K : PySem.W.Frag) (mg : Str → Option Value) (base : Heap) (fa : Nat → Addr) (fdd : Nat → FuncData) (n : Nat) : Prop where
  c_is_whole : FnOk P w K mg base (L2.CX P w) (n + 2) (fa 0) (fdd 0) ["value"] (spF (gc K) 1 (callD prg n "is_whole"))
  c_is_between : FnOk P w K mg base (L2.CX P w) (n + 2) (fa 1) (fdd 1) ["value", "low", "high"] (spF (gc K) 3 (callD prg n "is_between"))
  c_is_tuple_of : FnOk P w K mg base (L2.CX P w) (n + 2) (fa 2) (fdd 2) ["value", "many"] (spF (gc K) 2 (callD prg n "is_tuple_of"))
  c_are_wholes : FnOk P w K mg base (L2.CX P w) (n + 2) (fa 3) (fdd 3) ["value", "many"] (spF (gc K) 2 (callD prg n "are_wholes"))
  c_is_text_of : FnOk P w K mg base (L2.CX P w) (n + 2) (fa 4) (fdd 4) ["value", "signs"] (spF (gc K) 2 (callD prg n "is_text_of"))
  c_lowest : FnOk P w K mg base (L2.CX P w) (n + 2) (fa 5) (fdd 5) ["top", "low"] (spF (gc K) 2 (callD prg n "lowest"))
  c_is_layer_number : FnOk P w K mg base (L2.CX P w) (n + 2) (fa 6) (fdd 6) ["value"] (spF (gc K) 1 (callD prg n "is_layer_number"))
  c_is_letter : FnOk P w K mg base (L2.CX P w) (n + 2) (fa 7) (fdd 7) ["value"] (spF (gc K) 1 (callD prg n "is_letter"))
  c_is_stepped : FnOk P w K mg base (L2.CX P w) (n + 2) (fa 8) (fdd 8) ["value"] (spF (gc K) 1 (callD prg n "is_stepped"))
  c_number_of : FnOk P w K mg base (L2.CX P w) (n + 2) (fa 9) (fdd 9) ["letter"] (spF (gc K) 1 (callD prg n "number_of"))
  c_further : FnOk P w K mg base (L2.CX P w) (n + 2) (fa 10) (fdd 10) ["letter", "number"] (spF (gc K) 2 (callD prg n "further"))
  c_worth : FnOk P w K mg base (L2.CX P w) (n + 2) (fa 11) (fdd 11) ["step"] (spF (gc K) 1 (callD prg n "worth"))
  c_sum_of : FnOk P w K mg base (L2.CX P w) (n + 2) (fa 12) (fdd 12) ["steps"] (spF (gc K) 1 (callD prg n "sum_of"))
  c_led_by : FnOk P w K mg base (L2.CX P w) (n + 2) (fa 13) (fdd 13) ["letter", "steps"] (spF (gc K) 2 (callD prg n "led_by"))
  c_do_go_round : FnOk P w K mg base (L2.CX P w) (n + 2) (fa 14) (fdd 14) ["steps"] (spF (gc K) 1 (callD prg n "do_go_round"))
  c_check_number : FnOk P w K mg base (L2.CX P w) (n + 2) (fa 15) (fdd 15) ["value", "low", "high"] (spF (gc K) 3 (callD prg n "check_number"))
  c_check_steps : FnOk P w K mg base (L2.CX P w) (n + 2) (fa 16) (fdd 16) ["steps"] (spF (gc K) 1 (callD prg n "check_steps"))
  c_check_letter : FnOk P w K mg base (L2.CX P w) (n + 2) (fa 17) (fdd 17) ["letter"] (spF (gc K) 1 (callD prg n "check_letter"))
  c_is_chance : FnOk P w K mg base (L2.CX P w) (n + 2) (fa 18) (fdd 18) ["value"] (spF (gc K) 1 (callD prg n "is_chance"))
  c_powers_of : FnOk P w K mg base (L2.CX P w) (n + 2) (fa 19) (fdd 19) ["number", "many"] (spF (gc K) 2 (callD prg n "powers_of"))
  c_slip_chance_by : FnOk P w K mg base (L2.CX P w) (n + 2) (fa 20) (fdd 20) ["chance", "number"] (spF (gc K) 2 (callD prg n "slip_chance_by"))
  c_check_chance : FnOk P w K mg base (L2.CX P w) (n + 2) (fa 21) (fdd 21) ["chance"] (spF (gc K) 1 (callD prg n "check_chance"))
  c_check_apart : FnOk P w K mg base (L2.CX P w) (n + 2) (fa 22) (fdd 22) ["chance", "number"] (spF (gc K) 2 (callD prg n "check_apart"))
  c_slip_chance : FnOk P w K mg base (L2.CX P w) (n + 2) (fa 23) (fdd 23) ["chance", "number"] (spF (gc K) 2 (callD prg n "slip_chance"))
  c_stacking_by : FnOk P w K mg base (L2.CX P w) (n + 2) (fa 24) (fdd 24) ["letter", "steps"] (spF (gc K) 2 (callD prg n "stacking_by"))
  c_goes_round : FnOk P w K mg base (L2.CX P w) (n + 2) (fa 25) (fdd 25) ["steps"] (spF (gc K) 1 (callD prg n "goes_round"))
  c__law_well : FnOk P w K mg base (L2.CX P w) (n + 2) (fa 26) (fdd 26) ["script", "turn"] (spF (gc K) 2 (callD prg n "_law_well"))
  c__law_take : FnOk P w K mg base (L2.CX P w) (n + 2) (fa 27) (fdd 27) ["well", "many"] (spF (gc K) 2 (callD prg n "_law_take"))
  c__law_pick : FnOk P w K mg base (L2.CX P w) (n + 2) (fa 28) (fdd 28) ["well", "some"] (spF (gc K) 2 (callD prg n "_law_pick"))
  c__law_same : FnOk P w K mg base (L2.CX P w) (n + 2) (fa 29) (fdd 29) ["told", "due"] (spF (gc K) 2 (callD prg n "_law_same"))
  c__law_lowest : FnOk P w K mg base (L2.CX P w) (n + 2) (fa 30) (fdd 30) ["above", "below"] (spF (gc K) 2 (callD prg n "_law_lowest"))
  c__law_shares : FnOk P w K mg base (L2.CX P w) (n + 2) (fa 31) (fdd 31) ["chance", "number"] (spF (gc K) 2 (callD prg n "_law_shares"))
  c__law_by_rows : FnOk P w K mg base (L2.CX P w) (n + 2) (fa 32) (fdd 32) ["chance", "number"] (spF (gc K) 2 (callD prg n "_law_by_rows"))
  c__law_by_sum : FnOk P w K mg base (L2.CX P w) (n + 2) (fa 33) (fdd 33) ["chance", "number"] (spF (gc K) 2 (callD prg n "_law_by_sum"))
  c__law_asked : FnOk P w K mg base (L2.CX P w) (n + 2) (fa 34) (fdd 34) ["chance", "number"] (spF (gc K) 2 (callD prg n "_law_asked"))
  c__law_chance : FnOk P w K mg base (L2.CX P w) (n + 2) (fa 35) (fdd 35) ["well"] (spF (gc K) 1 (callD prg n "_law_chance"))
  c__law_most : FnOk P w K mg base (L2.CX P w) (n + 2) (fa 36) (fdd 36) ["below"] (spF (gc K) 1 (callD prg n "_law_most"))
  c__law_turn : FnOk P w K mg base (L2.CX P w) (n + 2) (fa 37) (fdd 37) ["well"] (spF (gc K) 1 (callD prg n "_law_turn"))
  c_law : FnOk P w K mg base (L2.CX P w) (n + 2) (fa 38) (fdd 38) ["script"] (spF (gc K) 1 (callD prg n "law"))
section
variable {P : Program} {w : World} {K : PySem.W.Frag} {mg : Str → Option Value} {base : Heap} {fa : Nat → Addr} {fdd : Nat → FuncData} {n : Nat}
theorem sc_is_whole : FnScope ["value"] ["value"] (defScope s_is_whole) := ⟨rfl, rfl, rfl, by decide +kernel, rfl, by decide +kernel, by decide +kernel⟩
theorem ok_is_whole (T : Txt K mg fa fdd) (A : All P w K mg base fa fdd n) : FnOk P w K mg base (L2.CX P w) (n + 3) (fa 0) (fdd 0) ["value"] (spF (gc K) 1 (callD prg (n + 1) "is_whole")) := by
  refine fun_ok (ps := ["value"]) (N := ["value"]) (body := d_is_whole.body) (cf := callD prg n) T.d_is_whole.F sc_is_whole (fun ds μ hl => ?_) (fun cdv A' outer s H E hr => ?_)
  · show (if ds.length = 1 then _ else _) = _
    rw [if_pos (show ds.length = 1 from hl)]; rfl
  · have hu := hr.units
    have nd := sc_is_whole.nd
    exact (sss_cons (ss_ret (se_and rfl (se_blt (b_isi rfl) rfl T.n_isinstance bt_isinstance (sa_cons (se_var 0) (sa_cons (se_ty rfl T.n_int bt_int) sa_nil))) (se_one (se_not rfl (se_blt (b_isi rfl) rfl T.n_isinstance bt_isinstance (sa_cons (se_var 0) (sa_cons (se_ty rfl T.n_bool bt_bool) sa_nil)))))))
      sss_nil)
theorem sc_is_between : FnScope ["value", "low", "high"] ["value", "low", "high"] (defScope s_is_between) := ⟨rfl, rfl, rfl, by decide +kernel, rfl, by decide +kernel, by decide +kernel⟩
theorem ok_is_between (T : Txt K mg fa fdd) (A : All P w K mg base fa fdd n) : FnOk P w K mg base (L2.CX P w) (n + 3) (fa 1) (fdd 1) ["value", "low", "high"] (spF (gc K) 3 (callD prg (n + 1) "is_between")) := by
  refine fun_ok (ps := ["value", "low", "high"]) (N := ["value", "low", "high"]) (body := d_is_between.body) (cf := callD prg n) T.d_is_between.F sc_is_between (fun ds μ hl => ?_) (fun cdv A' outer s H E hr => ?_)
  · show (if ds.length = 3 then _ else _) = _
    rw [if_pos (show ds.length = 3 from hl)]; rfl
  · have hu := hr.units
    have nd := sc_is_between.nd
    exact (sss_cons (ss_ret (se_and rfl (se_call A.c_is_whole hr rfl T.d_is_whole.g T.d_is_whole.k T.d_is_whole.b (takes_of rfl rfl rfl rfl) (sa_cons (se_var 0) sa_nil) rfl) (se_one (se_chain (o_le) (o_le) (se_var 1) (se_var 0) (se_var 2)))))
      sss_nil)
theorem sc_is_tuple_of : FnScope ["value", "many"] ["value", "many"] (defScope s_is_tuple_of) := ⟨rfl, rfl, rfl, by decide +kernel, rfl, by decide +kernel, by decide +kernel⟩
theorem ok_is_tuple_of (T : Txt K mg fa fdd) (A : All P w K mg base fa fdd n) : FnOk P w K mg base (L2.CX P w) (n + 3) (fa 2) (fdd 2) ["value", "many"] (spF (gc K) 2 (callD prg (n + 1) "is_tuple_of")) := by
  refine fun_ok (ps := ["value", "many"]) (N := ["value", "many"]) (body := d_is_tuple_of.body) (cf := callD prg n) T.d_is_tuple_of.F sc_is_tuple_of (fun ds μ hl => ?_) (fun cdv A' outer s H E hr => ?_)
  · show (if ds.length = 2 then _ else _) = _
    rw [if_pos (show ds.length = 2 from hl)]; rfl
  · have hu := hr.units
    have nd := sc_is_tuple_of.nd
    exact (sss_cons (ss_ret (se_and rfl (se_blt (b_isi rfl) rfl T.n_isinstance bt_isinstance (sa_cons (se_var 0) (sa_cons (se_ty rfl T.n_tuple bt_tuple) sa_nil))) (se_one (se_cmp (o_eq rfl hu) (se_blt (b_len rfl) rfl T.n_len bt_len (sa_cons (se_var 0) sa_nil)) (se_var 1) (nomark _)))))
      sss_nil)
theorem sc_are_wholes : FnScope ["value", "many", "each"] ["value", "many"] (defScope s_are_wholes) := ⟨rfl, rfl, rfl, by decide +kernel, rfl, by decide +kernel, by decide +kernel⟩
theorem ok_are_wholes (T : Txt K mg fa fdd) (A : All P w K mg base fa fdd n) : FnOk P w K mg base (L2.CX P w) (n + 3) (fa 3) (fdd 3) ["value", "many"] (spF (gc K) 2 (callD prg (n + 1) "are_wholes")) := by
  refine fun_ok (ps := ["value", "many"]) (N := ["value", "many", "each"]) (body := d_are_wholes.body) (cf := callD prg n) T.d_are_wholes.F sc_are_wholes (fun ds μ hl => ?_) (fun cdv A' outer s H E hr => ?_)
  · show (if ds.length = 2 then _ else _) = _
    rw [if_pos (show ds.length = 2 from hl)]; rfl
  · have hu := hr.units
    have nd := sc_are_wholes.nd
    exact (sss_cons (ss_ret (se_and rfl (se_call A.c_is_tuple_of hr rfl T.d_is_tuple_of.g T.d_is_tuple_of.k T.d_is_tuple_of.b (takes_of rfl rfl rfl rfl) (sa_cons (se_var 0) (sa_cons (se_var 1) sa_nil)) rfl) (se_one (se_blt (b_all rfl) rfl T.n_all bt_all (sa_cons (se_comp (own := [("each", 2)]) rfl nd rfl (si_val rfl (se_var 0)) rfl (fun _ _ _ _ _ => sg_name 2 nd) (fun _ _ _ _ _ => se_call A.c_is_whole hr rfl T.d_is_whole.g T.d_is_whole.k T.d_is_whole.b takes0 (sa_cons (se_var 2) sa_nil) rfl)) sa_nil)))))
      sss_nil)
theorem sc_is_text_of : FnScope ["value", "signs", "sign"] ["value", "signs"] (defScope s_is_text_of) := ⟨rfl, rfl, rfl, by decide +kernel, rfl, by decide +kernel, by decide +kernel⟩
theorem ok_is_text_of (T : Txt K mg fa fdd) (A : All P w K mg base fa fdd n) : FnOk P w K mg base (L2.CX P w) (n + 3) (fa 4) (fdd 4) ["value", "signs"] (spF (gc K) 2 (callD prg (n + 1) "is_text_of")) := by
  refine fun_ok (ps := ["value", "signs"]) (N := ["value", "signs", "sign"]) (body := d_is_text_of.body) (cf := callD prg n) T.d_is_text_of.F sc_is_text_of (fun ds μ hl => ?_) (fun cdv A' outer s H E hr => ?_)
  · show (if ds.length = 2 then _ else _) = _
    rw [if_pos (show ds.length = 2 from hl)]; rfl
  · have hu := hr.units
    have nd := sc_is_text_of.nd
    exact (sss_cons (ss_ret (se_and rfl (se_blt (b_isi rfl) rfl T.n_isinstance bt_isinstance (sa_cons (se_var 0) (sa_cons (se_ty rfl T.n_str bt_str) sa_nil))) (se_one (se_blt (b_all rfl) rfl T.n_all bt_all (sa_cons (se_comp (own := [("sign", 2)]) rfl nd rfl (si_val rfl (se_var 0)) rfl (fun _ _ _ _ _ => sg_name 2 nd) (fun _ _ _ _ _ => se_cmp (o_in rfl) (se_var 2) (se_var 1) (by with_unfolding_all rfl))) sa_nil)))))
      sss_nil)
theorem sc_lowest : FnScope ["top", "low", "common"] ["top", "low"] (defScope s_lowest) := ⟨rfl, rfl, rfl, by decide +kernel, rfl, by decide +kernel, by decide +kernel⟩
theorem ok_lowest (T : Txt K mg fa fdd) (A : All P w K mg base fa fdd n) : FnOk P w K mg base (L2.CX P w) (n + 3) (fa 5) (fdd 5) ["top", "low"] (spF (gc K) 2 (callD prg (n + 1) "lowest")) := by
  refine fun_ok (ps := ["top", "low"]) (N := ["top", "low", "common"]) (body := d_lowest.body) (cf := callD prg n) T.d_lowest.F sc_lowest (fun ds μ hl => ?_) (fun cdv A' outer s H E hr => ?_)
  · show (if ds.length = 2 then _ else _) = _
    rw [if_pos (show ds.length = 2 from hl)]; rfl
  · have hu := hr.units
    have nd := sc_lowest.nd
    exact (sss_cons (ss_asg (se_bfun b_gcd rfl T.m_gcd (sa_cons (se_var 0) (sa_cons (se_var 1) sa_nil))) (sa_name 2 nd))
      (sss_cons (ss_ret (se_tup (sa_cons (se_bin (o_div) (se_var 0) (se_var 2)) (sa_cons (se_bin (o_div) (se_var 1) (se_var 2)) sa_nil))))
      sss_nil))
theorem sc_is_layer_number : FnScope ["value"] ["value"] (defScope s_is_layer_number) := ⟨rfl, rfl, rfl, by decide +kernel, rfl, by decide +kernel, by decide +kernel⟩
theorem ok_is_layer_number (T : Txt K mg fa fdd) (A : All P w K mg base fa fdd n) : FnOk P w K mg base (L2.CX P w) (n + 3) (fa 6) (fdd 6) ["value"] (spF (gc K) 1 (callD prg (n + 1) "is_layer_number")) := by
  refine fun_ok (ps := ["value"]) (N := ["value"]) (body := d_is_layer_number.body) (cf := callD prg n) T.d_is_layer_number.F sc_is_layer_number (fun ds μ hl => ?_) (fun cdv A' outer s H E hr => ?_)
  · show (if ds.length = 1 then _ else _) = _
    rw [if_pos (show ds.length = 1 from hl)]; rfl
  · have hu := hr.units
    have nd := sc_is_layer_number.nd
    exact (sss_cons (ss_ret (se_call A.c_is_between hr rfl T.d_is_between.g T.d_is_between.k T.d_is_between.b (takes_of rfl rfl rfl rfl) (sa_cons (se_var 0) (sa_cons (se_int) (sa_cons (se_gint rfl T.v_MOST_LAYERS.choose_spec) sa_nil))) rfl))
      sss_nil)
theorem sc_is_letter : FnScope ["value"] ["value"] (defScope s_is_letter) := ⟨rfl, rfl, rfl, by decide +kernel, rfl, by decide +kernel, by decide +kernel⟩
theorem ok_is_letter (T : Txt K mg fa fdd) (A : All P w K mg base fa fdd n) : FnOk P w K mg base (L2.CX P w) (n + 3) (fa 7) (fdd 7) ["value"] (spF (gc K) 1 (callD prg (n + 1) "is_letter")) := by
  refine fun_ok (ps := ["value"]) (N := ["value"]) (body := d_is_letter.body) (cf := callD prg n) T.d_is_letter.F sc_is_letter (fun ds μ hl => ?_) (fun cdv A' outer s H E hr => ?_)
  · show (if ds.length = 1 then _ else _) = _
    rw [if_pos (show ds.length = 1 from hl)]; rfl
  · have hu := hr.units
    have nd := sc_is_letter.nd
    exact (sss_cons (ss_ret (se_and rfl (se_blt (b_isi rfl) rfl T.n_isinstance bt_isinstance (sa_cons (se_var 0) (sa_cons (se_ty rfl T.n_str bt_str) sa_nil))) (se_and rfl (se_cmp (o_eq rfl hu) (se_blt (b_len rfl) rfl T.n_len bt_len (sa_cons (se_var 0) sa_nil)) (se_int) (nomark _)) (se_one (se_cmp (o_in rfl) (se_var 0) (se_gstr rfl T.v_LETTERS.choose_spec rfl) (by with_unfolding_all rfl))))))
      sss_nil)
theorem sc_is_stepped : FnScope ["value"] ["value"] (defScope s_is_stepped) := ⟨rfl, rfl, rfl, by decide +kernel, rfl, by decide +kernel, by decide +kernel⟩
theorem ok_is_stepped (T : Txt K mg fa fdd) (A : All P w K mg base fa fdd n) : FnOk P w K mg base (L2.CX P w) (n + 3) (fa 8) (fdd 8) ["value"] (spF (gc K) 1 (callD prg (n + 1) "is_stepped")) := by
  refine fun_ok (ps := ["value"]) (N := ["value"]) (body := d_is_stepped.body) (cf := callD prg n) T.d_is_stepped.F sc_is_stepped (fun ds μ hl => ?_) (fun cdv A' outer s H E hr => ?_)
  · show (if ds.length = 1 then _ else _) = _
    rw [if_pos (show ds.length = 1 from hl)]; rfl
  · have hu := hr.units
    have nd := sc_is_stepped.nd
    exact (sss_cons (ss_ret (se_and rfl (se_call A.c_is_text_of hr rfl T.d_is_text_of.g T.d_is_text_of.k T.d_is_text_of.b (takes_of rfl rfl rfl rfl) (sa_cons (se_var 0) (sa_cons (se_gstr rfl T.v_STEPS.choose_spec rfl) sa_nil)) rfl) (se_one (se_call A.c_is_layer_number hr rfl T.d_is_layer_number.g T.d_is_layer_number.k T.d_is_layer_number.b (takes_of rfl rfl rfl rfl) (sa_cons (se_blt (b_len rfl) rfl T.n_len bt_len (sa_cons (se_var 0) sa_nil)) sa_nil) rfl))))
      sss_nil)
theorem sc_number_of : FnScope ["letter"] ["letter"] (defScope s_number_of) := ⟨rfl, rfl, rfl, by decide +kernel, rfl, by decide +kernel, by decide +kernel⟩
theorem ok_number_of (T : Txt K mg fa fdd) (A : All P w K mg base fa fdd n) : FnOk P w K mg base (L2.CX P w) (n + 3) (fa 9) (fdd 9) ["letter"] (spF (gc K) 1 (callD prg (n + 1) "number_of")) := by
  refine fun_ok (ps := ["letter"]) (N := ["letter"]) (body := d_number_of.body) (cf := callD prg n) T.d_number_of.F sc_number_of (fun ds μ hl => ?_) (fun cdv A' outer s H E hr => ?_)
  · show (if ds.length = 1 then _ else _) = _
    rw [if_pos (show ds.length = 1 from hl)]; rfl
  · have hu := hr.units
    have nd := sc_number_of.nd
    exact (sss_cons (ss_ret (se_meth F.plainAttrs_str F.slot_str_index F.type_str_index (m_index) isStr_ok (se_gstr rfl T.v_LETTERS.choose_spec rfl) (sa_cons (se_var 0) sa_nil)))
      sss_nil)
theorem sc_further : FnScope ["letter", "number"] ["letter", "number"] (defScope s_further) := ⟨rfl, rfl, rfl, by decide +kernel, rfl, by decide +kernel, by decide +kernel⟩
theorem ok_further (T : Txt K mg fa fdd) (A : All P w K mg base fa fdd n) : FnOk P w K mg base (L2.CX P w) (n + 3) (fa 10) (fdd 10) ["letter", "number"] (spF (gc K) 2 (callD prg (n + 1) "further")) := by
  refine fun_ok (ps := ["letter", "number"]) (N := ["letter", "number"]) (body := d_further.body) (cf := callD prg n) T.d_further.F sc_further (fun ds μ hl => ?_) (fun cdv A' outer s H E hr => ?_)
  · show (if ds.length = 2 then _ else _) = _
    rw [if_pos (show ds.length = 2 from hl)]; rfl
  · have hu := hr.units
    have nd := sc_further.nd
    exact (sss_cons (ss_ret (se_ix (o_ix rfl) (se_gstr rfl T.v_LETTERS.choose_spec rfl) (se_bin (o_mod) (se_bin (o_add rfl) (se_call A.c_number_of hr rfl T.d_number_of.g T.d_number_of.k T.d_number_of.b (takes_of rfl rfl rfl rfl) (sa_cons (se_var 0) sa_nil) rfl) (se_var 1)) (se_blt (b_len rfl) rfl T.n_len bt_len (sa_cons (se_gstr rfl T.v_LETTERS.choose_spec rfl) sa_nil))) (fun _ _ => rfl)))
      sss_nil)
theorem sc_worth : FnScope ["step"] ["step"] (defScope s_worth) := ⟨rfl, rfl, rfl, by decide +kernel, rfl, by decide +kernel, by decide +kernel⟩
theorem ok_worth (T : Txt K mg fa fdd) (A : All P w K mg base fa fdd n) : FnOk P w K mg base (L2.CX P w) (n + 3) (fa 11) (fdd 11) ["step"] (spF (gc K) 1 (callD prg (n + 1) "worth")) := by
  refine fun_ok (ps := ["step"]) (N := ["step"]) (body := d_worth.body) (cf := callD prg n) T.d_worth.F sc_worth (fun ds μ hl => ?_) (fun cdv A' outer s H E hr => ?_)
  · show (if ds.length = 1 then _ else _) = _
    rw [if_pos (show ds.length = 1 from hl)]; rfl
  · have hu := hr.units
    have nd := sc_worth.nd
    exact (sss_cons (ss_ret (st_ite (st_cmp (o_eq rfl hu) bl_fEq (se_var 0) (se_gstr rfl T.v_UP.choose_spec rfl) (nomark _)) (se_int) (se_un o_neg (se_int))))
      sss_nil)
theorem sc_sum_of : FnScope ["steps", "step"] ["steps"] (defScope s_sum_of) := ⟨rfl, rfl, rfl, by decide +kernel, rfl, by decide +kernel, by decide +kernel⟩
theorem ok_sum_of (T : Txt K mg fa fdd) (A : All P w K mg base fa fdd n) : FnOk P w K mg base (L2.CX P w) (n + 3) (fa 12) (fdd 12) ["steps"] (spF (gc K) 1 (callD prg (n + 1) "sum_of")) := by
  refine fun_ok (ps := ["steps"]) (N := ["steps", "step"]) (body := d_sum_of.body) (cf := callD prg n) T.d_sum_of.F sc_sum_of (fun ds μ hl => ?_) (fun cdv A' outer s H E hr => ?_)
  · show (if ds.length = 1 then _ else _) = _
    rw [if_pos (show ds.length = 1 from hl)]; rfl
  · have hu := hr.units
    have nd := sc_sum_of.nd
    exact (sss_cons (ss_ret (se_blt (b_sumD rfl rfl) rfl T.n_sum bt_sum (sa_cons (se_comp (own := [("step", 1)]) rfl nd rfl (si_val rfl (se_var 0)) rfl (fun _ _ _ _ _ => sg_name 1 nd) (fun _ _ _ _ _ => se_call A.c_worth hr rfl T.d_worth.g T.d_worth.k T.d_worth.b takes0 (sa_cons (se_var 1) sa_nil) rfl)) sa_nil)))
      sss_nil)
theorem sc_led_by : FnScope ["letter", "steps", "found", "step"] ["letter", "steps"] (defScope s_led_by) := ⟨rfl, rfl, rfl, by decide +kernel, rfl, by decide +kernel, by decide +kernel⟩
theorem ok_led_by (T : Txt K mg fa fdd) (A : All P w K mg base fa fdd n) : FnOk P w K mg base (L2.CX P w) (n + 3) (fa 13) (fdd 13) ["letter", "steps"] (spF (gc K) 2 (callD prg (n + 1) "led_by")) := by
  refine fun_ok (ps := ["letter", "steps"]) (N := ["letter", "steps", "found", "step"]) (body := d_led_by.body) (cf := callD prg n) T.d_led_by.F sc_led_by (fun ds μ hl => ?_) (fun cdv A' outer s H E hr => ?_)
  · show (if ds.length = 2 then _ else _) = _
    rw [if_pos (show ds.length = 2 from hl)]; rfl
  · have hu := hr.units
    have nd := sc_led_by.nd
    exact (sss_cons (ss_asg (se_var 0) (sa_name 2 nd))
      (sss_cons (ss_for (passes_of rfl) rfl (si_val rfl (se_var 1)) (sg_name 3 nd) (sss_cons (ss_asg (se_bin (o_add rfl) (se_var 2) (se_call A.c_further hr rfl T.d_further.g T.d_further.k T.d_further.b (takes_of rfl rfl rfl rfl) (sa_cons (se_ix (o_ix rfl) (se_var 2) (se_un o_neg (se_int)) (fun _ _ => rfl)) (sa_cons (se_call A.c_worth hr rfl T.d_worth.g T.d_worth.k T.d_worth.b (takes_of rfl rfl rfl rfl) (sa_cons (se_var 3) sa_nil) rfl) sa_nil)) rfl)) (sa_name 2 nd)) sss_nil))
      (sss_cons (ss_ret (se_var 2))
      sss_nil)))
theorem sc_do_go_round : FnScope ["steps"] ["steps"] (defScope s_do_go_round) := ⟨rfl, rfl, rfl, by decide +kernel, rfl, by decide +kernel, by decide +kernel⟩
theorem ok_do_go_round (T : Txt K mg fa fdd) (A : All P w K mg base fa fdd n) : FnOk P w K mg base (L2.CX P w) (n + 3) (fa 14) (fdd 14) ["steps"] (spF (gc K) 1 (callD prg (n + 1) "do_go_round")) := by
  refine fun_ok (ps := ["steps"]) (N := ["steps"]) (body := d_do_go_round.body) (cf := callD prg n) T.d_do_go_round.F sc_do_go_round (fun ds μ hl => ?_) (fun cdv A' outer s H E hr => ?_)
  · show (if ds.length = 1 then _ else _) = _
    rw [if_pos (show ds.length = 1 from hl)]; rfl
  · have hu := hr.units
    have nd := sc_do_go_round.nd
    exact (sss_cons (ss_ret (se_cmp (o_eq rfl hu) (se_bin (o_mod) (se_call A.c_sum_of hr rfl T.d_sum_of.g T.d_sum_of.k T.d_sum_of.b (takes_of rfl rfl rfl rfl) (sa_cons (se_var 0) sa_nil) rfl) (se_blt (b_len rfl) rfl T.n_len bt_len (sa_cons (se_gstr rfl T.v_LETTERS.choose_spec rfl) sa_nil))) (se_int) (nomark _)))
      sss_nil)
theorem sc_check_number : FnScope ["value", "low", "high"] ["value", "low", "high"] (defScope s_check_number) := ⟨rfl, rfl, rfl, by decide +kernel, rfl, by decide +kernel, by decide +kernel⟩
theorem ok_check_number (T : Txt K mg fa fdd) (A : All P w K mg base fa fdd n) : FnOk P w K mg base (L2.CX P w) (n + 3) (fa 15) (fdd 15) ["value", "low", "high"] (spF (gc K) 3 (callD prg (n + 1) "check_number")) := by
  refine fun_ok (ps := ["value", "low", "high"]) (N := ["value", "low", "high"]) (body := d_check_number.body) (cf := callD prg n) T.d_check_number.F sc_check_number (fun ds μ hl => ?_) (fun cdv A' outer s H E hr => ?_)
  · show (if ds.length = 3 then _ else _) = _
    rw [if_pos (show ds.length = 3 from hl)]; rfl
  · have hu := hr.units
    have nd := sc_check_number.nd
    exact (sss_cons (ss_if (st_not (st_truth rfl (se_call A.c_is_between hr rfl T.d_is_between.g T.d_is_between.k T.d_is_between.b (takes_of rfl rfl rfl rfl) (sa_cons (se_var 0) (sa_cons (se_var 1) (sa_cons (se_var 2) sa_nil))) rfl) (fun _ => rfl))) (sss_cons (ss_never) sss_nil) sss_nil)
      sss_nil)
theorem sc_check_steps : FnScope ["steps"] ["steps"] (defScope s_check_steps) := ⟨rfl, rfl, rfl, by decide +kernel, rfl, by decide +kernel, by decide +kernel⟩
theorem ok_check_steps (T : Txt K mg fa fdd) (A : All P w K mg base fa fdd n) : FnOk P w K mg base (L2.CX P w) (n + 3) (fa 16) (fdd 16) ["steps"] (spF (gc K) 1 (callD prg (n + 1) "check_steps")) := by
  refine fun_ok (ps := ["steps"]) (N := ["steps"]) (body := d_check_steps.body) (cf := callD prg n) T.d_check_steps.F sc_check_steps (fun ds μ hl => ?_) (fun cdv A' outer s H E hr => ?_)
  · show (if ds.length = 1 then _ else _) = _
    rw [if_pos (show ds.length = 1 from hl)]; rfl
  · have hu := hr.units
    have nd := sc_check_steps.nd
    exact (sss_cons (ss_if (st_not (st_truth rfl (se_call A.c_is_stepped hr rfl T.d_is_stepped.g T.d_is_stepped.k T.d_is_stepped.b (takes_of rfl rfl rfl rfl) (sa_cons (se_var 0) sa_nil) rfl) (fun _ => rfl))) (sss_cons (ss_never) sss_nil) sss_nil)
      sss_nil)
theorem sc_check_letter : FnScope ["letter"] ["letter"] (defScope s_check_letter) := ⟨rfl, rfl, rfl, by decide +kernel, rfl, by decide +kernel, by decide +kernel⟩
theorem ok_check_letter (T : Txt K mg fa fdd) (A : All P w K mg base fa fdd n) : FnOk P w K mg base (L2.CX P w) (n + 3) (fa 17) (fdd 17) ["letter"] (spF (gc K) 1 (callD prg (n + 1) "check_letter")) := by
  refine fun_ok (ps := ["letter"]) (N := ["letter"]) (body := d_check_letter.body) (cf := callD prg n) T.d_check_letter.F sc_check_letter (fun ds μ hl => ?_) (fun cdv A' outer s H E hr => ?_)
  · show (if ds.length = 1 then _ else _) = _
    rw [if_pos (show ds.length = 1 from hl)]; rfl
  · have hu := hr.units
    have nd := sc_check_letter.nd
    exact (sss_cons (ss_if (st_not (st_truth rfl (se_call A.c_is_letter hr rfl T.d_is_letter.g T.d_is_letter.k T.d_is_letter.b (takes_of rfl rfl rfl rfl) (sa_cons (se_var 0) sa_nil) rfl) (fun _ => rfl))) (sss_cons (ss_never) sss_nil) sss_nil)
      sss_nil)
theorem sc_is_chance : FnScope ["value"] ["value"] (defScope s_is_chance) := ⟨rfl, rfl, rfl, by decide +kernel, rfl, by decide +kernel, by decide +kernel⟩
theorem ok_is_chance (T : Txt K mg fa fdd) (A : All P w K mg base fa fdd n) : FnOk P w K mg base (L2.CX P w) (n + 3) (fa 18) (fdd 18) ["value"] (spF (gc K) 1 (callD prg (n + 1) "is_chance")) := by
  refine fun_ok (ps := ["value"]) (N := ["value"]) (body := d_is_chance.body) (cf := callD prg n) T.d_is_chance.F sc_is_chance (fun ds μ hl => ?_) (fun cdv A' outer s H E hr => ?_)
  · show (if ds.length = 1 then _ else _) = _
    rw [if_pos (show ds.length = 1 from hl)]; rfl
  · have hu := hr.units
    have nd := sc_is_chance.nd
    exact (sss_cons (ss_ret (se_and rfl (se_call A.c_are_wholes hr rfl T.d_are_wholes.g T.d_are_wholes.k T.d_are_wholes.b (takes_of rfl rfl rfl rfl) (sa_cons (se_var 0) (sa_cons (se_int) sa_nil)) rfl) (se_and rfl (se_cmp (o_gt) (se_ix (o_ix rfl) (se_var 0) (se_int) (fun _ _ => rfl)) (se_int) (nomark _)) (se_one (se_chain (o_le) (o_le) (se_int) (se_ix (o_ix rfl) (se_var 0) (se_int) (fun _ _ => rfl)) (se_ix (o_ix rfl) (se_var 0) (se_int) (fun _ _ => rfl)))))))
      sss_nil)
theorem sc_powers_of : FnScope ["number", "many", "found", "_"] ["number", "many"] (defScope s_powers_of) := ⟨rfl, rfl, rfl, by decide +kernel, rfl, by decide +kernel, by decide +kernel⟩
theorem ok_powers_of (T : Txt K mg fa fdd) (A : All P w K mg base fa fdd n) : FnOk P w K mg base (L2.CX P w) (n + 3) (fa 19) (fdd 19) ["number", "many"] (spF (gc K) 2 (callD prg (n + 1) "powers_of")) := by
  refine fun_ok (ps := ["number", "many"]) (N := ["number", "many", "found", "_"]) (body := d_powers_of.body) (cf := callD prg n) T.d_powers_of.F sc_powers_of (fun ds μ hl => ?_) (fun cdv A' outer s H E hr => ?_)
  · show (if ds.length = 2 then _ else _) = _
    rw [if_pos (show ds.length = 2 from hl)]; rfl
  · have hu := hr.units
    have nd := sc_powers_of.nd
    exact (sss_cons (ss_asg (se_lst (sa_cons (se_int) sa_nil)) (sa_name 2 nd))
      (sss_cons (ss_for (passes_of rfl) rfl (si_rng1 rfl T.n_range (se_var 1)) (sg_name 3 nd) (sss_cons (ss_expr (se_meth F.plainAttrs_list F.slot_list_append F.type_list_append (m_append) isLst_ok (se_var 2) (sa_cons (se_bin (o_mul) (se_ix (o_ix rfl) (se_var 2) (se_un o_neg (se_int)) (fun _ _ => rfl)) (se_var 0)) sa_nil))) sss_nil))
      (sss_cons (ss_ret (se_frz (se_var 2)))
      sss_nil)))
theorem sc_slip_chance_by : FnScope ["chance", "number", "top", "low", "downs", "ups", "some", "found", "down"] ["chance", "number"] (defScope s_slip_chance_by) := ⟨rfl, rfl, rfl, by decide +kernel, rfl, by decide +kernel, by decide +kernel⟩
theorem ok_slip_chance_by (T : Txt K mg fa fdd) (A : All P w K mg base fa fdd n) : FnOk P w K mg base (L2.CX P w) (n + 3) (fa 20) (fdd 20) ["chance", "number"] (spF (gc K) 2 (callD prg (n + 1) "slip_chance_by")) := by
  refine fun_ok (ps := ["chance", "number"]) (N := ["chance", "number", "top", "low", "downs", "ups", "some", "found", "down"]) (body := d_slip_chance_by.body) (cf := callD prg n) T.d_slip_chance_by.F sc_slip_chance_by (fun ds μ hl => ?_) (fun cdv A' outer s H E hr => ?_)
  · show (if ds.length = 2 then _ else _) = _
    rw [if_pos (show ds.length = 2 from hl)]; rfl
  · have hu := hr.units
    have nd := sc_slip_chance_by.nd
    exact (sss_cons (ss_asg (se_var 0) (sa_tup rfl rfl (sas_cons (sa_name 2 nd) (sas_cons (sa_name 3 nd) sas_nil))))
      (sss_cons (ss_asg (se_tup (sa_cons (se_call A.c_powers_of hr rfl T.d_powers_of.g T.d_powers_of.k T.d_powers_of.b (takes_of rfl rfl rfl rfl) (sa_cons (se_var 2) (sa_cons (se_var 1) sa_nil)) rfl) (sa_cons (se_call A.c_powers_of hr rfl T.d_powers_of.g T.d_powers_of.k T.d_powers_of.b (takes_of rfl rfl rfl rfl) (sa_cons (se_bin (o_sub) (se_var 3) (se_var 2)) (sa_cons (se_var 1) sa_nil)) rfl) sa_nil))) (sa_tup rfl rfl (sas_cons (sa_name 4 nd) (sas_cons (sa_name 5 nd) sas_nil))))
      (sss_cons (ss_setLcif (i := 6) (own := [("down", 8)]) rfl nd rfl rfl rfl rfl (si_rng1 rfl T.n_range (se_bin (o_add rfl) (se_var 1) (se_int))) rfl (fun _ _ _ _ _ => sg_name 8 nd) (fun _ _ _ _ _ => st_cmp (o_eq rfl hu) bl_fEq (se_bin (o_mod) (se_bin (o_sub) (se_var 1) (se_bin (o_mul) (se_int) (se_var 8))) (se_blt (b_len rfl) rfl T.n_len bt_len (sa_cons (se_gstr rfl T.v_LETTERS.choose_spec rfl) sa_nil))) (se_int) (nomark _)) (fun _ _ _ _ _ => se_var 8))
      (sss_cons (ss_asg (se_blt (b_sumD rfl rfl) rfl T.n_sum bt_sum (sa_cons (se_comp (own := [("down", 8)]) rfl nd rfl (si_val rfl (se_var 6)) rfl (fun _ _ _ _ _ => sg_name 8 nd) (fun _ _ _ _ _ => se_bin (o_mul) (se_bin (o_mul) (se_bfun b_comb rfl T.m_comb (sa_cons (se_var 1) (sa_cons (se_var 8) sa_nil))) (se_ix (o_ix rfl) (se_var 4) (se_var 8) (fun _ _ => rfl))) (se_ix (o_ix rfl) (se_var 5) (se_bin (o_sub) (se_var 1) (se_var 8)) (fun _ _ => rfl)))) sa_nil)) (sa_name 7 nd))
      (sss_cons (ss_ret (se_call A.c_lowest hr rfl T.d_lowest.g T.d_lowest.k T.d_lowest.b (takes_of rfl rfl rfl rfl) (sa_cons (se_var 7) (sa_cons (se_ix (o_ix rfl) (se_call A.c_powers_of hr rfl T.d_powers_of.g T.d_powers_of.k T.d_powers_of.b (takes_of rfl rfl rfl rfl) (sa_cons (se_var 3) (sa_cons (se_var 1) sa_nil)) rfl) (se_un o_neg (se_int)) (fun _ _ => rfl)) sa_nil)) rfl))
      sss_nil)))))
theorem sc_check_chance : FnScope ["chance"] ["chance"] (defScope s_check_chance) := ⟨rfl, rfl, rfl, by decide +kernel, rfl, by decide +kernel, by decide +kernel⟩
theorem ok_check_chance (T : Txt K mg fa fdd) (A : All P w K mg base fa fdd n) : FnOk P w K mg base (L2.CX P w) (n + 3) (fa 21) (fdd 21) ["chance"] (spF (gc K) 1 (callD prg (n + 1) "check_chance")) := by
  refine fun_ok (ps := ["chance"]) (N := ["chance"]) (body := d_check_chance.body) (cf := callD prg n) T.d_check_chance.F sc_check_chance (fun ds μ hl => ?_) (fun cdv A' outer s H E hr => ?_)
  · show (if ds.length = 1 then _ else _) = _
    rw [if_pos (show ds.length = 1 from hl)]; rfl
  · have hu := hr.units
    have nd := sc_check_chance.nd
    exact (sss_cons (ss_if (st_not (st_truth rfl (se_call A.c_is_chance hr rfl T.d_is_chance.g T.d_is_chance.k T.d_is_chance.b (takes_of rfl rfl rfl rfl) (sa_cons (se_var 0) sa_nil) rfl) (fun _ => rfl))) (sss_cons (ss_never) sss_nil) sss_nil)
      sss_nil)
theorem sc_check_apart : FnScope ["chance", "number"] ["chance", "number"] (defScope s_check_apart) := ⟨rfl, rfl, rfl, by decide +kernel, rfl, by decide +kernel, by decide +kernel⟩
theorem ok_check_apart (T : Txt K mg fa fdd) (A : All P w K mg base fa fdd n) : FnOk P w K mg base (L2.CX P w) (n + 3) (fa 22) (fdd 22) ["chance", "number"] (spF (gc K) 2 (callD prg (n + 1) "check_apart")) := by
  refine fun_ok (ps := ["chance", "number"]) (N := ["chance", "number"]) (body := d_check_apart.body) (cf := callD prg n) T.d_check_apart.F sc_check_apart (fun ds μ hl => ?_) (fun cdv A' outer s H E hr => ?_)
  · show (if ds.length = 2 then _ else _) = _
    rw [if_pos (show ds.length = 2 from hl)]; rfl
  · have hu := hr.units
    have nd := sc_check_apart.nd
    exact (sss_cons (ss_expr (se_call A.c_check_chance hr rfl T.d_check_chance.g T.d_check_chance.k T.d_check_chance.b (takes_of rfl rfl rfl rfl) (sa_cons (se_var 0) sa_nil) rfl))
      (sss_cons (ss_expr (se_call A.c_check_number hr rfl T.d_check_number.g T.d_check_number.k T.d_check_number.b (takes_of rfl rfl rfl rfl) (sa_cons (se_var 1) (sa_cons (se_int) (sa_cons (se_gint rfl T.v_MOST_APART.choose_spec) sa_nil))) rfl))
      sss_nil))
theorem sc_slip_chance : FnScope ["chance", "number"] ["chance", "number"] (defScope s_slip_chance) := ⟨rfl, rfl, rfl, by decide +kernel, rfl, by decide +kernel, by decide +kernel⟩
theorem ok_slip_chance (T : Txt K mg fa fdd) (A : All P w K mg base fa fdd n) : FnOk P w K mg base (L2.CX P w) (n + 3) (fa 23) (fdd 23) ["chance", "number"] (spF (gc K) 2 (callD prg (n + 1) "slip_chance")) := by
  refine fun_ok (ps := ["chance", "number"]) (N := ["chance", "number"]) (body := d_slip_chance.body) (cf := callD prg n) T.d_slip_chance.F sc_slip_chance (fun ds μ hl => ?_) (fun cdv A' outer s H E hr => ?_)
  · show (if ds.length = 2 then _ else _) = _
    rw [if_pos (show ds.length = 2 from hl)]; rfl
  · have hu := hr.units
    have nd := sc_slip_chance.nd
    exact (sss_cons (ss_expr (se_call A.c_check_apart hr rfl T.d_check_apart.g T.d_check_apart.k T.d_check_apart.b (takes_of rfl rfl rfl rfl) (sa_cons (se_var 0) (sa_cons (se_var 1) sa_nil)) rfl))
      (sss_cons (ss_ret (se_call A.c_slip_chance_by hr rfl T.d_slip_chance_by.g T.d_slip_chance_by.k T.d_slip_chance_by.b (takes_of rfl rfl rfl rfl) (sa_cons (se_var 0) (sa_cons (se_var 1) sa_nil)) rfl))
      sss_nil))
theorem sc_stacking_by : FnScope ["letter", "steps"] ["letter", "steps"] (defScope s_stacking_by) := ⟨rfl, rfl, rfl, by decide +kernel, rfl, by decide +kernel, by decide +kernel⟩
theorem ok_stacking_by (T : Txt K mg fa fdd) (A : All P w K mg base fa fdd n) : FnOk P w K mg base (L2.CX P w) (n + 3) (fa 24) (fdd 24) ["letter", "steps"] (spF (gc K) 2 (callD prg (n + 1) "stacking_by")) := by
  refine fun_ok (ps := ["letter", "steps"]) (N := ["letter", "steps"]) (body := d_stacking_by.body) (cf := callD prg n) T.d_stacking_by.F sc_stacking_by (fun ds μ hl => ?_) (fun cdv A' outer s H E hr => ?_)
  · show (if ds.length = 2 then _ else _) = _
    rw [if_pos (show ds.length = 2 from hl)]; rfl
  · have hu := hr.units
    have nd := sc_stacking_by.nd
    exact (sss_cons (ss_expr (se_call A.c_check_letter hr rfl T.d_check_letter.g T.d_check_letter.k T.d_check_letter.b (takes_of rfl rfl rfl rfl) (sa_cons (se_var 0) sa_nil) rfl))
      (sss_cons (ss_if (st_cmp (o_ne rfl hu) bl_fNe (se_var 1) (se_str rfl) (nomark _)) (sss_cons (ss_expr (se_call A.c_check_steps hr rfl T.d_check_steps.g T.d_check_steps.k T.d_check_steps.b (takes_of rfl rfl rfl rfl) (sa_cons (se_var 1) sa_nil) rfl)) sss_nil) sss_nil)
      (sss_cons (ss_if (st_cmp (o_ge) bl_fGe (se_blt (b_len rfl) rfl T.n_len bt_len (sa_cons (se_var 1) sa_nil)) (se_gint rfl T.v_MOST_LAYERS.choose_spec) (nomark _)) (sss_cons (ss_never) sss_nil) sss_nil)
      (sss_cons (ss_ret (se_call A.c_led_by hr rfl T.d_led_by.g T.d_led_by.k T.d_led_by.b (takes_of rfl rfl rfl rfl) (sa_cons (se_var 0) (sa_cons (se_var 1) sa_nil)) rfl))
      sss_nil))))
theorem sc_goes_round : FnScope ["steps"] ["steps"] (defScope s_goes_round) := ⟨rfl, rfl, rfl, by decide +kernel, rfl, by decide +kernel, by decide +kernel⟩
theorem ok_goes_round (T : Txt K mg fa fdd) (A : All P w K mg base fa fdd n) : FnOk P w K mg base (L2.CX P w) (n + 3) (fa 25) (fdd 25) ["steps"] (spF (gc K) 1 (callD prg (n + 1) "goes_round")) := by
  refine fun_ok (ps := ["steps"]) (N := ["steps"]) (body := d_goes_round.body) (cf := callD prg n) T.d_goes_round.F sc_goes_round (fun ds μ hl => ?_) (fun cdv A' outer s H E hr => ?_)
  · show (if ds.length = 1 then _ else _) = _
    rw [if_pos (show ds.length = 1 from hl)]; rfl
  · have hu := hr.units
    have nd := sc_goes_round.nd
    exact (sss_cons (ss_expr (se_call A.c_check_steps hr rfl T.d_check_steps.g T.d_check_steps.k T.d_check_steps.b (takes_of rfl rfl rfl rfl) (sa_cons (se_var 0) sa_nil) rfl))
      (sss_cons (ss_ret (se_call A.c_do_go_round hr rfl T.d_do_go_round.g T.d_do_go_round.k T.d_do_go_round.b (takes_of rfl rfl rfl rfl) (sa_cons (se_var 0) sa_nil) rfl))
      sss_nil))
theorem sc__law_well : FnScope ["script", "turn", "own", "stir", "cell"] ["script", "turn"] (defScope s__law_well) := ⟨rfl, rfl, rfl, by decide +kernel, rfl, by decide +kernel, by decide +kernel⟩
theorem ok__law_well (T : Txt K mg fa fdd) (A : All P w K mg base fa fdd n) : FnOk P w K mg base (L2.CX P w) (n + 3) (fa 26) (fdd 26) ["script", "turn"] (spF (gc K) 2 (callD prg (n + 1) "_law_well")) := by
  refine fun_ok (ps := ["script", "turn"]) (N := ["script", "turn", "own", "stir", "cell"]) (body := d__law_well.body) (cf := callD prg n) T.d__law_well.F sc__law_well (fun ds μ hl => ?_) (fun cdv A' outer s H E hr => ?_)
  · show (if ds.length = 2 then _ else _) = _
    rw [if_pos (show ds.length = 2 from hl)]; rfl
  · have hu := hr.units
    have nd := sc__law_well.nd
    exact (sss_cons (ss_asg (st_ite (st_cmp (o_lt) bl_fLt (se_var 1) (se_blt (b_len rfl) rfl T.n_len bt_len (sa_cons (se_var 0) sa_nil)) (nomark _)) (se_bty (b_int) rfl T.n_int bt_int (sa_cons (se_ix (o_ix rfl) (se_var 0) (se_var 1) (fun _ _ => rfl)) sa_nil)) (se_bin (o_add rfl) (se_bin (o_add rfl) (se_bin (o_mul) (se_int) (se_var 1)) (se_bin (o_mod) (se_bty (b_int) rfl T.n_int bt_int (sa_cons (se_blt (b_sumD rfl rfl) rfl T.n_sum bt_sum (sa_cons (se_sl rfl (se_var 0) (so_none) (so_some (se_int))) sa_nil)) sa_nil)) (se_int))) (se_int))) (sa_name 2 nd))
      (sss_cons (ss_asg (se_bin (o_add rfl) (se_int) (se_bin (o_mul) (se_int) (se_var 1))) (sa_name 3 nd))
      (sss_cons (ss_for (passes_of rfl) rfl (si_val rfl (se_bin (o_add rfl) (se_sl rfl (se_var 0) (so_none) (so_some (se_int))) (se_lst (sa_cons (se_var 2) sa_nil)))) (sg_name 4 nd) (sss_cons (ss_asg (se_bin (o_mod) (se_bty (b_int) rfl T.n_int bt_int (sa_cons (se_bin (o_add rfl) (se_bin (o_add rfl) (se_bin (o_mul) (se_var 3) (se_int)) (se_bin (o_mod) (se_bty (b_int) rfl T.n_int bt_int (sa_cons (se_var 4) sa_nil)) (se_int))) (se_int)) sa_nil)) (se_int)) (sa_name 3 nd)) sss_nil))
      (sss_cons (ss_ret (se_lst (sa_cons (st_ite (PW.pt (sw_or (st_cmp (o_lt) bl_fLt (se_var 2) (se_int) (nomark _)) (sw_one_or (st_cmp (o_ge) bl_fGe (se_var 2) (se_bin (o_pow) (se_int) (se_int)) (nomark _))))) (se_blt (b_abs) rfl T.n_abs bt_abs (sa_cons (se_var 2) sa_nil)) (se_int)) (sa_cons (se_var 3) (sa_cons (se_int) sa_nil)))))
      sss_nil))))
theorem sc__law_take : FnScope ["well", "many", "figure", "by"] ["well", "many"] (defScope s__law_take) := ⟨rfl, rfl, rfl, by decide +kernel, rfl, by decide +kernel, by decide +kernel⟩
theorem ok__law_take (T : Txt K mg fa fdd) (A : All P w K mg base fa fdd n) : FnOk P w K mg base (L2.CX P w) (n + 3) (fa 27) (fdd 27) ["well", "many"] (spF (gc K) 2 (callD prg (n + 1) "_law_take")) := by
  refine fun_ok (ps := ["well", "many"]) (N := ["well", "many", "figure", "by"]) (body := d__law_take.body) (cf := callD prg n) T.d__law_take.F sc__law_take (fun ds μ hl => ?_) (fun cdv A' outer s H E hr => ?_)
  · show (if ds.length = 2 then _ else _) = _
    rw [if_pos (show ds.length = 2 from hl)]; rfl
  · have hu := hr.units
    have nd := sc__law_take.nd
    exact (sss_cons (ss_if (st_cmp (o_gt) bl_fGt (se_ix (o_ix rfl) (se_var 0) (se_int) (fun _ _ => rfl)) (se_int) (nomark _)) (sss_cons (ss_asg (se_blt (b_divmod) rfl T.n_divmod bt_divmod (sa_cons (se_ix (o_ix rfl) (se_var 0) (se_int) (fun _ _ => rfl)) (sa_cons (se_var 1) sa_nil))) (sa_tup rfl rfl (sas_cons (sa_sub (se_var 0) (se_int)) (sas_cons (sa_name 2 nd) sas_nil)))) (sss_cons (ss_ret (se_var 2)) sss_nil)) sss_nil)
      (sss_cons (ss_asg (se_bin (o_add rfl) (se_ix (o_ix rfl) (se_var 0) (se_int) (fun _ _ => rfl)) (se_int)) (sa_sub (se_var 0) (se_int)))
      (sss_cons (ss_asg (se_bin (o_add rfl) (se_bin (o_mod) (se_bty (b_int) rfl T.n_int bt_int (sa_cons (se_ix (o_ix rfl) (se_var 0) (se_int) (fun _ _ => rfl)) sa_nil)) (se_int)) (se_int)) (sa_name 3 nd))
      (sss_cons (ss_asg (se_bin (o_mod) (se_bty (b_int) rfl T.n_int bt_int (sa_cons (se_bin (o_add rfl) (se_bin (o_add rfl) (se_bin (o_mul) (se_ix (o_ix rfl) (se_var 0) (se_int) (fun _ _ => rfl)) (se_var 3)) (se_bin (o_mul) (se_int) (se_ix (o_ix rfl) (se_var 0) (se_int) (fun _ _ => rfl)))) (se_int)) sa_nil)) (se_int)) (sa_sub (se_var 0) (se_int)))
      (sss_cons (ss_ret (se_bin (o_mod) (se_bty (b_int) rfl T.n_int bt_int (sa_cons (se_bin (o_div) (se_ix (o_ix rfl) (se_var 0) (se_int) (fun _ _ => rfl)) (se_int)) sa_nil)) (se_var 1)))
      sss_nil)))))
theorem sc__law_pick : FnScope ["well", "some"] ["well", "some"] (defScope s__law_pick) := ⟨rfl, rfl, rfl, by decide +kernel, rfl, by decide +kernel, by decide +kernel⟩
theorem ok__law_pick (T : Txt K mg fa fdd) (A : All P w K mg base fa fdd n) : FnOk P w K mg base (L2.CX P w) (n + 3) (fa 28) (fdd 28) ["well", "some"] (spF (gc K) 2 (callD prg (n + 1) "_law_pick")) := by
  refine fun_ok (ps := ["well", "some"]) (N := ["well", "some"]) (body := d__law_pick.body) (cf := callD prg n) T.d__law_pick.F sc__law_pick (fun ds μ hl => ?_) (fun cdv A' outer s H E hr => ?_)
  · show (if ds.length = 2 then _ else _) = _
    rw [if_pos (show ds.length = 2 from hl)]; rfl
  · have hu := hr.units
    have nd := sc__law_pick.nd
    exact (sss_cons (ss_ret (se_ix (o_ix rfl) (se_var 1) (se_call A.c__law_take hr rfl T.d__law_take.g T.d__law_take.k T.d__law_take.b (takes_of rfl rfl rfl rfl) (sa_cons (se_var 0) (sa_cons (se_blt (b_len rfl) rfl T.n_len bt_len (sa_cons (se_var 1) sa_nil)) sa_nil)) rfl) (fun _ _ => rfl)))
      sss_nil)
theorem sc__law_same : FnScope ["told", "due", "k"] ["told", "due"] (defScope s__law_same) := ⟨rfl, rfl, rfl, by decide +kernel, rfl, by decide +kernel, by decide +kernel⟩
theorem ok__law_same (T : Txt K mg fa fdd) (A : All P w K mg base fa fdd n) : FnOk P w K mg base (L2.CX P w) (n + 3) (fa 29) (fdd 29) ["told", "due"] (spF (gc K) 2 (callD prg (n + 1) "_law_same")) := by
  refine fun_ok (ps := ["told", "due"]) (N := ["told", "due", "k"]) (body := d__law_same.body) (cf := callD prg n) T.d__law_same.F sc__law_same (fun ds μ hl => ?_) (fun cdv A' outer s H E hr => ?_)
  · show (if ds.length = 2 then _ else _) = _
    rw [if_pos (show ds.length = 2 from hl)]; rfl
  · have hu := hr.units
    have nd := sc__law_same.nd
    exact (sss_cons (ss_if (st_truth rfl (se_blt (b_isi rfl) rfl T.n_isinstance bt_isinstance (sa_cons (se_var 1) (sa_cons (se_ty rfl T.n_tuple bt_tuple) sa_nil))) (fun _ => rfl)) (sss_cons (ss_ret (se_and rfl (se_blt (b_isi rfl) rfl T.n_isinstance bt_isinstance (sa_cons (se_var 0) (sa_cons (se_ty rfl T.n_tuple bt_tuple) sa_nil))) (se_and rfl (se_cmp (o_eq rfl hu) (se_blt (b_len rfl) rfl T.n_len bt_len (sa_cons (se_var 0) sa_nil)) (se_blt (b_len rfl) rfl T.n_len bt_len (sa_cons (se_var 1) sa_nil)) (nomark _)) (se_one (se_blt (b_all rfl) rfl T.n_all bt_all (sa_cons (se_comp (own := [("k", 2)]) rfl nd rfl (si_rng1 rfl T.n_range (se_blt (b_len rfl) rfl T.n_len bt_len (sa_cons (se_var 1) sa_nil))) rfl (fun _ _ _ _ _ => sg_name 2 nd) (fun _ _ _ _ _ => se_call A.c__law_same hr rfl T.d__law_same.g T.d__law_same.k T.d__law_same.b takes0 (sa_cons (se_ix (o_ix rfl) (se_var 0) (se_var 2) (fun _ _ => rfl)) (sa_cons (se_ix (o_ix rfl) (se_var 1) (se_var 2) (fun _ _ => rfl)) sa_nil)) rfl)) sa_nil)))))) sss_nil) sss_nil)
      (sss_cons (ss_if (st_truth rfl (se_blt (b_isi rfl) rfl T.n_isinstance bt_isinstance (sa_cons (se_var 1) (sa_cons (se_ty rfl T.n_list bt_list) sa_nil))) (fun _ => rfl)) (sss_cons (ss_ret (se_and rfl (se_blt (b_isi rfl) rfl T.n_isinstance bt_isinstance (sa_cons (se_var 0) (sa_cons (se_ty rfl T.n_list bt_list) sa_nil))) (se_and rfl (se_cmp (o_eq rfl hu) (se_blt (b_len rfl) rfl T.n_len bt_len (sa_cons (se_var 0) sa_nil)) (se_blt (b_len rfl) rfl T.n_len bt_len (sa_cons (se_var 1) sa_nil)) (nomark _)) (se_one (se_blt (b_all rfl) rfl T.n_all bt_all (sa_cons (se_comp (own := [("k", 2)]) rfl nd rfl (si_rng1 rfl T.n_range (se_blt (b_len rfl) rfl T.n_len bt_len (sa_cons (se_var 1) sa_nil))) rfl (fun _ _ _ _ _ => sg_name 2 nd) (fun _ _ _ _ _ => se_call A.c__law_same hr rfl T.d__law_same.g T.d__law_same.k T.d__law_same.b takes0 (sa_cons (se_ix (o_ix rfl) (se_var 0) (se_var 2) (fun _ _ => rfl)) (sa_cons (se_ix (o_ix rfl) (se_var 1) (se_var 2) (fun _ _ => rfl)) sa_nil)) rfl)) sa_nil)))))) sss_nil) sss_nil)
      (sss_cons (ss_if (st_cmp (o_is) bl_fIs (se_var 1) (se_non) (nomark _)) (sss_cons (ss_ret (se_cmp (o_is) (se_var 0) (se_non) (nomark _))) sss_nil) sss_nil)
      (sss_cons (ss_if (st_truth rfl (se_blt (b_isi rfl) rfl T.n_isinstance bt_isinstance (sa_cons (se_var 1) (sa_cons (se_ty rfl T.n_bool bt_bool) sa_nil))) (fun _ => rfl)) (sss_cons (ss_ret (se_and rfl (se_blt (b_isi rfl) rfl T.n_isinstance bt_isinstance (sa_cons (se_var 0) (sa_cons (se_ty rfl T.n_bool bt_bool) sa_nil))) (se_one (se_cmp (o_eq rfl hu) (se_var 0) (se_var 1) (nomark _))))) sss_nil) sss_nil)
      (sss_cons (ss_if (st_truth rfl (se_blt (b_isi rfl) rfl T.n_isinstance bt_isinstance (sa_cons (se_var 1) (sa_cons (se_ty rfl T.n_int bt_int) sa_nil))) (fun _ => rfl)) (sss_cons (ss_ret (se_and rfl (se_blt (b_isi rfl) rfl T.n_isinstance bt_isinstance (sa_cons (se_var 0) (sa_cons (se_ty rfl T.n_int bt_int) sa_nil))) (se_and rfl (se_not rfl (se_blt (b_isi rfl) rfl T.n_isinstance bt_isinstance (sa_cons (se_var 0) (sa_cons (se_ty rfl T.n_bool bt_bool) sa_nil)))) (se_one (se_cmp (o_eq rfl hu) (se_var 0) (se_var 1) (nomark _)))))) sss_nil) sss_nil)
      (sss_cons (ss_if (st_truth rfl (se_blt (b_isi rfl) rfl T.n_isinstance bt_isinstance (sa_cons (se_var 1) (sa_cons (se_ty rfl T.n_str bt_str) sa_nil))) (fun _ => rfl)) (sss_cons (ss_ret (se_and rfl (se_blt (b_isi rfl) rfl T.n_isinstance bt_isinstance (sa_cons (se_var 0) (sa_cons (se_ty rfl T.n_str bt_str) sa_nil))) (se_one (se_cmp (o_eq rfl hu) (se_var 0) (se_var 1) (nomark _))))) sss_nil) sss_nil)
      (sss_cons (ss_ret (se_cmp (o_eq rfl hu) (se_var 0) (se_var 1) (nomark _)))
      sss_nil)))))))
theorem sc__law_lowest : FnScope ["above", "below", "one", "two"] ["above", "below"] (defScope s__law_lowest) := ⟨rfl, rfl, rfl, by decide +kernel, rfl, by decide +kernel, by decide +kernel⟩
theorem ok__law_lowest (T : Txt K mg fa fdd) (A : All P w K mg base fa fdd n) : FnOk P w K mg base (L2.CX P w) (n + 3) (fa 30) (fdd 30) ["above", "below"] (spF (gc K) 2 (callD prg (n + 1) "_law_lowest")) := by
  refine fun_ok (ps := ["above", "below"]) (N := ["above", "below", "one", "two"]) (body := d__law_lowest.body) (cf := callD prg n) T.d__law_lowest.F sc__law_lowest (fun ds μ hl => ?_) (fun cdv A' outer s H E hr => ?_)
  · show (if ds.length = 2 then _ else _) = _
    rw [if_pos (show ds.length = 2 from hl)]; rfl
  · have hu := hr.units
    have nd := sc__law_lowest.nd
    exact (sss_cons (ss_par (i := 2) (j := 3) rfl nd rfl rfl (by decide) rfl rfl (sa_cons (se_var 0) (sa_cons (se_var 1) sa_nil)) rfl)
      (sss_cons (ss_while (passes_of rfl) (st_cmp (o_gt) bl_fGt (se_var 3) (se_int) (nomark _)) (sss_cons (ss_par (i := 2) (j := 3) rfl nd rfl rfl (by decide) rfl rfl (sa_cons (se_var 3) (sa_cons (se_bin (o_mod) (se_bty (b_int) rfl T.n_int bt_int (sa_cons (se_var 2) sa_nil)) (se_var 3)) sa_nil)) rfl) sss_nil))
      (sss_cons (ss_ret (se_tup (sa_cons (se_bin (o_div) (se_var 0) (se_var 2)) (sa_cons (se_bin (o_div) (se_var 1) (se_var 2)) sa_nil))))
      sss_nil)))
theorem sc__law_shares : FnScope ["chance", "number", "a", "b", "rows", "whole", "turn", "k"] ["chance", "number"] (defScope s__law_shares) := ⟨rfl, rfl, rfl, by decide +kernel, rfl, by decide +kernel, by decide +kernel⟩
theorem ok__law_shares (T : Txt K mg fa fdd) (A : All P w K mg base fa fdd n) : FnOk P w K mg base (L2.CX P w) (n + 3) (fa 31) (fdd 31) ["chance", "number"] (spF (gc K) 2 (callD prg (n + 1) "_law_shares")) := by
  refine fun_ok (ps := ["chance", "number"]) (N := ["chance", "number", "a", "b", "rows", "whole", "turn", "k"]) (body := d__law_shares.body) (cf := callD prg n) T.d__law_shares.F sc__law_shares (fun ds μ hl => ?_) (fun cdv A' outer s H E hr => ?_)
  · show (if ds.length = 2 then _ else _) = _
    rw [if_pos (show ds.length = 2 from hl)]; rfl
  · have hu := hr.units
    have nd := sc__law_shares.nd
    exact (sss_cons (ss_asg (se_var 0) (sa_tup rfl rfl (sas_cons (sa_name 2 nd) (sas_cons (sa_name 3 nd) sas_nil))))
      (sss_cons (ss_asg (se_tup (sa_cons (se_tup (sa_cons (se_int) (sa_cons (se_int) (sa_cons (se_int) sa_nil)))) (sa_cons (se_int) sa_nil))) (sa_tup rfl rfl (sas_cons (sa_name 4 nd) (sas_cons (sa_name 5 nd) sas_nil))))
      (sss_cons (ss_for (passes_of rfl) rfl (si_rng1 rfl T.n_range (se_var 1)) (sg_name 6 nd) (sss_cons (ss_asg (se_bty (b_tuple rfl) rfl T.n_tuple bt_tuple (sa_cons (se_comp (own := [("k", 7)]) rfl nd rfl (si_rng1 rfl T.n_range (se_int)) rfl (fun _ _ _ _ _ => sg_name 7 nd) (fun _ _ _ _ _ => se_bin (o_add rfl) (se_bin (o_mul) (se_ix (o_ix rfl) (se_var 4) (se_bin (o_mod) (se_bty (b_int) rfl T.n_int bt_int (sa_cons (se_bin (o_add rfl) (se_var 7) (se_int)) sa_nil)) (se_int)) (fun _ _ => rfl)) (se_var 2)) (se_bin (o_mul) (se_ix (o_ix rfl) (se_var 4) (se_bin (o_mod) (se_bty (b_int) rfl T.n_int bt_int (sa_cons (se_bin (o_add rfl) (se_var 7) (se_int)) sa_nil)) (se_int)) (fun _ _ => rfl)) (se_bin (o_sub) (se_var 3) (se_var 2))))) sa_nil)) (sa_name 4 nd)) (sss_cons (ss_asg (se_bin (o_mul) (se_var 5) (se_var 3)) (sa_name 5 nd)) sss_nil)))
      (sss_cons (ss_ret (se_tup (sa_cons (se_var 4) (sa_cons (se_var 5) sa_nil))))
      sss_nil))))
theorem sc__law_by_rows : FnScope ["chance", "number", "a", "b", "rows", "above", "whole", "turn", "row", "worth_v", "letter"] ["chance", "number"] (defScope s__law_by_rows) := ⟨rfl, rfl, rfl, by decide +kernel, rfl, by decide +kernel, by decide +kernel⟩
theorem ok__law_by_rows (T : Txt K mg fa fdd) (A : All P w K mg base fa fdd n) : FnOk P w K mg base (L2.CX P w) (n + 3) (fa 32) (fdd 32) ["chance", "number"] (spF (gc K) 2 (callD prg (n + 1) "_law_by_rows")) := by
  refine fun_ok (ps := ["chance", "number"]) (N := ["chance", "number", "a", "b", "rows", "above", "whole", "turn", "row", "worth_v", "letter"]) (body := d__law_by_rows.body) (cf := callD prg n) T.d__law_by_rows.F sc__law_by_rows (fun ds μ hl => ?_) (fun cdv A' outer s H E hr => ?_)
  · show (if ds.length = 2 then _ else _) = _
    rw [if_pos (show ds.length = 2 from hl)]; rfl
  · have hu := hr.units
    have nd := sc__law_by_rows.nd
    exact (sss_cons (ss_asg (se_var 0) (sa_tup rfl rfl (sas_cons (sa_name 2 nd) (sas_cons (sa_name 3 nd) sas_nil))))
      (sss_cons (ss_par3 (i := 4) (j := 5) (l := 6) rfl nd rfl rfl rfl (by decide) (by decide) (by decide) rfl rfl rfl (sa_cons (se_lst (sa_cons (se_tup (sa_cons (se_str rfl) (sa_cons (se_int) sa_nil))) sa_nil)) (sa_cons (se_int) (sa_cons (se_int) sa_nil))) rfl)
      (sss_cons (ss_for (passes_of rfl) rfl (si_rng1 rfl T.n_range (se_var 1)) (sg_name 7 nd) (sss_cons (ss_asg (se_bin (o_add rfl) (se_comp (own := [("row", 8), ("worth_v", 9)]) rfl nd rfl (si_val rfl (se_var 4)) rfl (fun _ _ _ _ _ => sg_tup rfl rfl (sgs_cons (sg_name 8 nd) (sgs_cons (sg_name 9 nd) sgs_nil))) (fun _ _ _ _ _ => se_tup (sa_cons (se_bin (o_add rfl) (se_var 8) (se_str rfl)) (sa_cons (se_bin (o_mul) (se_var 9) (se_bin (o_sub) (se_var 3) (se_var 2))) sa_nil)))) (se_comp (own := [("row", 8), ("worth_v", 9)]) rfl nd rfl (si_val rfl (se_var 4)) rfl (fun _ _ _ _ _ => sg_tup rfl rfl (sgs_cons (sg_name 8 nd) (sgs_cons (sg_name 9 nd) sgs_nil))) (fun _ _ _ _ _ => se_tup (sa_cons (se_bin (o_add rfl) (se_var 8) (se_str rfl)) (sa_cons (se_bin (o_mul) (se_var 9) (se_var 2)) sa_nil))))) (sa_name 4 nd)) (sss_cons (ss_asg (se_bin (o_mul) (se_var 6) (se_var 3)) (sa_name 6 nd)) sss_nil)))
      (sss_cons (ss_for (passes_of rfl) rfl (si_val rfl (se_var 4)) (sg_tup rfl rfl (sgs_cons (sg_name 8 nd) (sgs_cons (sg_name 9 nd) sgs_nil))) (sss_cons (ss_asg (se_ix (o_ix rfl) (se_call A.c_stacking_by hr rfl T.d_stacking_by.g T.d_stacking_by.k T.d_stacking_by.b (takes_of rfl rfl rfl rfl) (sa_cons (se_str rfl) (sa_cons (se_var 8) sa_nil)) rfl) (se_var 1) (fun _ _ => rfl)) (sa_name 10 nd)) (sss_cons (ss_asg (se_bin (o_add rfl) (se_var 5) (st_ite (st_cmp (o_eq rfl hu) bl_fEq (se_var 10) (se_str rfl) (nomark _)) (se_var 9) (se_int))) (sa_name 5 nd)) sss_nil)))
      (sss_cons (ss_ret (se_call A.c__law_lowest hr rfl T.d__law_lowest.g T.d__law_lowest.k T.d__law_lowest.b (takes_of rfl rfl rfl rfl) (sa_cons (se_var 5) (sa_cons (se_var 6) sa_nil)) rfl))
      sss_nil)))))
theorem sc__law_by_sum : FnScope ["chance", "number", "a", "b", "found", "ways", "whole", "j", "part", "turn"] ["chance", "number"] (defScope s__law_by_sum) := ⟨rfl, rfl, rfl, by decide +kernel, rfl, by decide +kernel, by decide +kernel⟩
theorem ok__law_by_sum (T : Txt K mg fa fdd) (A : All P w K mg base fa fdd n) : FnOk P w K mg base (L2.CX P w) (n + 3) (fa 33) (fdd 33) ["chance", "number"] (spF (gc K) 2 (callD prg (n + 1) "_law_by_sum")) := by
  refine fun_ok (ps := ["chance", "number"]) (N := ["chance", "number", "a", "b", "found", "ways", "whole", "j", "part", "turn"]) (body := d__law_by_sum.body) (cf := callD prg n) T.d__law_by_sum.F sc__law_by_sum (fun ds μ hl => ?_) (fun cdv A' outer s H E hr => ?_)
  · show (if ds.length = 2 then _ else _) = _
    rw [if_pos (show ds.length = 2 from hl)]; rfl
  · have hu := hr.units
    have nd := sc__law_by_sum.nd
    exact (sss_cons (ss_asg (se_var 0) (sa_tup rfl rfl (sas_cons (sa_name 2 nd) (sas_cons (sa_name 3 nd) sas_nil))))
      (sss_cons (ss_asg (se_tup (sa_cons (se_int) (sa_cons (se_int) (sa_cons (se_int) sa_nil)))) (sa_tup rfl rfl (sas_cons (sa_name 4 nd) (sas_cons (sa_name 5 nd) (sas_cons (sa_name 6 nd) sas_nil)))))
      (sss_cons (ss_for (passes_of rfl) rfl (si_rng1 rfl T.n_range (se_bin (o_add rfl) (se_var 1) (se_int))) (sg_name 7 nd) (sss_cons (ss_if (st_cmp (o_eq rfl hu) bl_fEq (se_bin (o_mod) (se_bty (b_int) rfl T.n_int bt_int (sa_cons (se_bin (o_sub) (se_var 1) (se_bin (o_mul) (se_int) (se_var 7))) sa_nil)) (se_int)) (se_int) (nomark _)) (sss_cons (ss_asg (se_var 5) (sa_name 8 nd)) (sss_cons (ss_for (passes_of rfl) rfl (si_rng1 rfl T.n_range (se_var 7)) (sg_name 9 nd) (sss_cons (ss_asg (se_bin (o_mul) (se_var 8) (se_var 2)) (sa_name 8 nd)) sss_nil)) (sss_cons (ss_for (passes_of rfl) rfl (si_rng1 rfl T.n_range (se_bin (o_sub) (se_var 1) (se_var 7))) (sg_name 9 nd) (sss_cons (ss_asg (se_bin (o_mul) (se_var 8) (se_bin (o_sub) (se_var 3) (se_var 2))) (sa_name 8 nd)) sss_nil)) (sss_cons (ss_asg (se_bin (o_add rfl) (se_var 4) (se_var 8)) (sa_name 4 nd)) sss_nil)))) sss_nil) (sss_cons (ss_asg (se_bin (o_div) (se_bin (o_mul) (se_var 5) (se_bin (o_sub) (se_var 1) (se_var 7))) (se_bin (o_add rfl) (se_var 7) (se_int))) (sa_name 5 nd)) sss_nil)))
      (sss_cons (ss_for (passes_of rfl) rfl (si_rng1 rfl T.n_range (se_var 1)) (sg_name 9 nd) (sss_cons (ss_asg (se_bin (o_mul) (se_var 6) (se_var 3)) (sa_name 6 nd)) sss_nil))
      (sss_cons (ss_ret (se_call A.c__law_lowest hr rfl T.d__law_lowest.g T.d__law_lowest.k T.d__law_lowest.b (takes_of rfl rfl rfl rfl) (sa_cons (se_var 4) (sa_cons (se_var 6) sa_nil)) rfl))
      sss_nil)))))
theorem sc__law_asked : FnScope ["chance", "number", "rows", "whole", "due"] ["chance", "number"] (defScope s__law_asked) := ⟨rfl, rfl, rfl, by decide +kernel, rfl, by decide +kernel, by decide +kernel⟩
theorem ok__law_asked (T : Txt K mg fa fdd) (A : All P w K mg base fa fdd n) : FnOk P w K mg base (L2.CX P w) (n + 3) (fa 34) (fdd 34) ["chance", "number"] (spF (gc K) 2 (callD prg (n + 1) "_law_asked")) := by
  refine fun_ok (ps := ["chance", "number"]) (N := ["chance", "number", "rows", "whole", "due"]) (body := d__law_asked.body) (cf := callD prg n) T.d__law_asked.F sc__law_asked (fun ds μ hl => ?_) (fun cdv A' outer s H E hr => ?_)
  · show (if ds.length = 2 then _ else _) = _
    rw [if_pos (show ds.length = 2 from hl)]; rfl
  · have hu := hr.units
    have nd := sc__law_asked.nd
    exact (sss_cons (ss_asg (se_call A.c__law_shares hr rfl T.d__law_shares.g T.d__law_shares.k T.d__law_shares.b (takes_of rfl rfl rfl rfl) (sa_cons (se_var 0) (sa_cons (se_var 1) sa_nil)) rfl) (sa_tup rfl rfl (sas_cons (sa_name 2 nd) (sas_cons (sa_name 3 nd) sas_nil))))
      (sss_cons (ss_asg (se_call A.c__law_lowest hr rfl T.d__law_lowest.g T.d__law_lowest.k T.d__law_lowest.b (takes_of rfl rfl rfl rfl) (sa_cons (se_ix (o_ix rfl) (se_var 2) (se_int) (fun _ _ => rfl)) (sa_cons (se_var 3) sa_nil)) rfl) (sa_name 4 nd))
      (sss_cons (ss_if (PW.pt (sw_or (st_cmp (o_ne rfl hu) bl_fNe (se_blt (b_sumD rfl rfl) rfl T.n_sum bt_sum (sa_cons (se_var 2) sa_nil)) (se_var 3) (nomark _)) (sw_or (st_not (st_truth rfl (se_call A.c__law_same hr rfl T.d__law_same.g T.d__law_same.k T.d__law_same.b (takes_of rfl rfl rfl rfl) (sa_cons (se_call A.c_slip_chance hr rfl T.d_slip_chance.g T.d_slip_chance.k T.d_slip_chance.b (takes_of rfl rfl rfl rfl) (sa_cons (se_var 0) (sa_cons (se_var 1) sa_nil)) rfl) (sa_cons (se_var 4) sa_nil)) rfl) (fun _ => rfl))) (sw_one_or (st_not (st_truth rfl (se_call A.c__law_same hr rfl T.d__law_same.g T.d__law_same.k T.d__law_same.b (takes_of rfl rfl rfl rfl) (sa_cons (se_callK0 (pl := [1, 0]) (ks := ["number", "chance"]) A.c_slip_chance hr rfl T.d_slip_chance.g T.d_slip_chance.k (takes_of rfl rfl rfl rfl) (T.d_slip_chance.kw0 (m := 2) (ks := ["number", "chance"]) (pl := [1, 0]) (fun _ _ _ _ _ _ ws h2 => match ws, h2 with | [_, _], _ => rfl)) (fun vs h => match vs, h with | [_, _], _ => rfl) (sk_cons (se_var 1) (sk_cons (se_var 0) sk_nil))) (sa_cons (se_var 4) sa_nil)) rfl) (fun _ => rfl))))))) (sss_cons (ss_ret (se_bl)) sss_nil) sss_nil)
      (sss_cons (ss_if (PW.pt (sw_or (PW.pt (sw_and (st_cmp (o_lt) bl_fLt (se_var 1) (se_int) (nomark _)) (sw_one_and (st_cmp (o_ne rfl hu) bl_fNe (se_call A.c__law_by_rows hr rfl T.d__law_by_rows.g T.d__law_by_rows.k T.d__law_by_rows.b (takes_of rfl rfl rfl rfl) (sa_cons (se_var 0) (sa_cons (se_var 1) sa_nil)) rfl) (se_var 4) (nomark _))))) (sw_one_or (PW.pt (sw_and (st_cmp (o_lt) bl_fLt (se_var 1) (se_int) (nomark _)) (sw_one_and (st_cmp (o_ne rfl hu) bl_fNe (se_call A.c__law_by_sum hr rfl T.d__law_by_sum.g T.d__law_by_sum.k T.d__law_by_sum.b (takes_of rfl rfl rfl rfl) (sa_cons (se_var 0) (sa_cons (se_var 1) sa_nil)) rfl) (se_var 4) (nomark _)))))))) (sss_cons (ss_ret (se_bl)) sss_nil) sss_nil)
      (sss_cons (ss_ret (se_call A.c__law_same hr rfl T.d__law_same.g T.d__law_same.k T.d__law_same.b (takes_of rfl rfl rfl rfl) (sa_cons (se_call A.c_slip_chance hr rfl T.d_slip_chance.g T.d_slip_chance.k T.d_slip_chance.b (takes_of rfl rfl rfl rfl) (sa_cons (se_tup (sa_cons (se_bin (o_sub) (se_ix (o_ix rfl) (se_var 0) (se_int) (fun _ _ => rfl)) (se_ix (o_ix rfl) (se_var 0) (se_int) (fun _ _ => rfl))) (sa_cons (se_ix (o_ix rfl) (se_var 0) (se_int) (fun _ _ => rfl)) sa_nil))) (sa_cons (se_var 1) sa_nil)) rfl) (sa_cons (se_var 4) sa_nil)) rfl))
      sss_nil)))))
theorem sc__law_chance : FnScope ["well", "below"] ["well"] (defScope s__law_chance) := ⟨rfl, rfl, rfl, by decide +kernel, rfl, by decide +kernel, by decide +kernel⟩
theorem ok__law_chance (T : Txt K mg fa fdd) (A : All P w K mg base fa fdd n) : FnOk P w K mg base (L2.CX P w) (n + 3) (fa 35) (fdd 35) ["well"] (spF (gc K) 1 (callD prg (n + 1) "_law_chance")) := by
  refine fun_ok (ps := ["well"]) (N := ["well", "below"]) (body := d__law_chance.body) (cf := callD prg n) T.d__law_chance.F sc__law_chance (fun ds μ hl => ?_) (fun cdv A' outer s H E hr => ?_)
  · show (if ds.length = 1 then _ else _) = _
    rw [if_pos (show ds.length = 1 from hl)]; rfl
  · have hu := hr.units
    have nd := sc__law_chance.nd
    exact (sss_cons (ss_asg (se_bin (o_add rfl) (se_int) (se_call A.c__law_take hr rfl T.d__law_take.g T.d__law_take.k T.d__law_take.b (takes_of rfl rfl rfl rfl) (sa_cons (se_var 0) (sa_cons (se_call A.c__law_pick hr rfl T.d__law_pick.g T.d__law_pick.k T.d__law_pick.b (takes_of rfl rfl rfl rfl) (sa_cons (se_var 0) (sa_cons (se_lst (sa_cons (se_int) (sa_cons (se_int) (sa_cons (se_int) (sa_cons (se_int) (sa_cons (se_int) (sa_cons (se_bin (o_pow) (se_int) (se_int)) sa_nil))))))) sa_nil)) rfl) sa_nil)) rfl)) (sa_name 1 nd))
      (sss_cons (ss_ret (se_tup (sa_cons (se_call A.c__law_pick hr rfl T.d__law_pick.g T.d__law_pick.k T.d__law_pick.b (takes_of rfl rfl rfl rfl) (sa_cons (se_var 0) (sa_cons (se_lst (sa_cons (se_int) (sa_cons (se_var 1) (sa_cons (se_call A.c__law_take hr rfl T.d__law_take.g T.d__law_take.k T.d__law_take.b (takes_of rfl rfl rfl rfl) (sa_cons (se_var 0) (sa_cons (se_bin (o_add rfl) (se_var 1) (se_int)) sa_nil)) rfl) (sa_cons (se_call A.c__law_take hr rfl T.d__law_take.g T.d__law_take.k T.d__law_take.b (takes_of rfl rfl rfl rfl) (sa_cons (se_var 0) (sa_cons (se_bin (o_add rfl) (se_var 1) (se_int)) sa_nil)) rfl) sa_nil))))) sa_nil)) rfl) (sa_cons (se_var 1) sa_nil))))
      sss_nil))
theorem sc__law_most : FnScope ["below", "size", "found"] ["below"] (defScope s__law_most) := ⟨rfl, rfl, rfl, by decide +kernel, rfl, by decide +kernel, by decide +kernel⟩
theorem ok__law_most (T : Txt K mg fa fdd) (A : All P w K mg base fa fdd n) : FnOk P w K mg base (L2.CX P w) (n + 3) (fa 36) (fdd 36) ["below"] (spF (gc K) 1 (callD prg (n + 1) "_law_most")) := by
  refine fun_ok (ps := ["below"]) (N := ["below", "size", "found"]) (body := d__law_most.body) (cf := callD prg n) T.d__law_most.F sc__law_most (fun ds μ hl => ?_) (fun cdv A' outer s H E hr => ?_)
  · show (if ds.length = 1 then _ else _) = _
    rw [if_pos (show ds.length = 1 from hl)]; rfl
  · have hu := hr.units
    have nd := sc__law_most.nd
    exact (sss_cons (ss_par (i := 1) (j := 2) rfl nd rfl rfl (by decide) rfl rfl (sa_cons (se_var 0) (sa_cons (se_int) sa_nil)) rfl)
      (sss_cons (ss_while (passes_of rfl) (PW.pt (sw_and (st_cmp (o_lt) bl_fLt (se_var 2) (se_int) (nomark _)) (sw_one_and (st_cmp (o_lt) bl_fLt (se_var 1) (se_bin (o_mul) (se_bin (o_pow) (se_int) (se_int)) (se_bin (o_pow) (se_int) (se_int))) (nomark _))))) (sss_cons (ss_par (i := 1) (j := 2) rfl nd rfl rfl (by decide) rfl rfl (sa_cons (se_bin (o_mul) (se_var 1) (se_var 0)) (sa_cons (se_bin (o_add rfl) (se_var 2) (se_int)) sa_nil)) rfl) sss_nil))
      (sss_cons (ss_ret (se_var 2))
      sss_nil)))
theorem sc__law_turn : FnScope ["well", "chance", "most", "some", "number"] ["well"] (defScope s__law_turn) := ⟨rfl, rfl, rfl, by decide +kernel, rfl, by decide +kernel, by decide +kernel⟩
theorem ok__law_turn (T : Txt K mg fa fdd) (A : All P w K mg base fa fdd n) : FnOk P w K mg base (L2.CX P w) (n + 3) (fa 37) (fdd 37) ["well"] (spF (gc K) 1 (callD prg (n + 1) "_law_turn")) := by
  refine fun_ok (ps := ["well"]) (N := ["well", "chance", "most", "some", "number"]) (body := d__law_turn.body) (cf := callD prg n) T.d__law_turn.F sc__law_turn (fun ds μ hl => ?_) (fun cdv A' outer s H E hr => ?_)
  · show (if ds.length = 1 then _ else _) = _
    rw [if_pos (show ds.length = 1 from hl)]; rfl
  · have hu := hr.units
    have nd := sc__law_turn.nd
    exact (sss_cons (ss_asg (se_call A.c__law_chance hr rfl T.d__law_chance.g T.d__law_chance.k T.d__law_chance.b (takes_of rfl rfl rfl rfl) (sa_cons (se_var 0) sa_nil) rfl) (sa_name 1 nd))
      (sss_cons (ss_asg (se_call A.c__law_most hr rfl T.d__law_most.g T.d__law_most.k T.d__law_most.b (takes_of rfl rfl rfl rfl) (sa_cons (se_ix (o_ix rfl) (se_var 1) (se_int) (fun _ _ => rfl)) sa_nil) rfl) (sa_name 2 nd))
      (sss_cons (ss_if (st_not (st_truth rfl (se_blt (b_all rfl) rfl T.n_all bt_all (sa_cons (se_comp (own := [("number", 4)]) rfl nd rfl (si_val rfl (se_lst (sa_cons (se_int) (sa_cons (se_int) (sa_cons (se_int) (sa_cons (se_int) (sa_cons (se_bin (o_add rfl) (se_int) (se_call A.c__law_take hr rfl T.d__law_take.g T.d__law_take.k T.d__law_take.b (takes_of rfl rfl rfl rfl) (sa_cons (se_var 0) (sa_cons (se_int) sa_nil)) rfl)) (sa_cons (se_bin (o_add rfl) (se_int) (se_call A.c__law_take hr rfl T.d__law_take.g T.d__law_take.k T.d__law_take.b (takes_of rfl rfl rfl rfl) (sa_cons (se_var 0) (sa_cons (se_int) sa_nil)) rfl)) sa_nil)))))))) rfl (fun _ _ _ _ _ => sg_name 4 nd) (fun _ _ _ _ _ => se_call A.c__law_asked hr rfl T.d__law_asked.g T.d__law_asked.k T.d__law_asked.b takes0 (sa_cons (se_var 1) (sa_cons (se_blt (b_minD rfl rfl) rfl T.n_min bt_min (sa_cons (se_var 2) (sa_cons (se_var 4) sa_nil))) sa_nil)) rfl)) sa_nil)) (fun _ => rfl))) (sss_cons (ss_ret (se_bl)) sss_nil) sss_nil)
      (sss_cons (ss_asg (se_call A.c__law_take hr rfl T.d__law_take.g T.d__law_take.k T.d__law_take.b (takes_of rfl rfl rfl rfl) (sa_cons (se_var 0) (sa_cons (se_int) sa_nil)) rfl) (sa_name 3 nd))
      (sss_cons (ss_if (PW.pt (sw_or (st_not (st_truth rfl (se_call A.c__law_asked hr rfl T.d__law_asked.g T.d__law_asked.k T.d__law_asked.b (takes_of rfl rfl rfl rfl) (sa_cons (se_tup (sa_cons (se_call A.c__law_take hr rfl T.d__law_take.g T.d__law_take.k T.d__law_take.b (takes_of rfl rfl rfl rfl) (sa_cons (se_var 0) (sa_cons (se_int) sa_nil)) rfl) (sa_cons (se_int) sa_nil))) (sa_cons (se_var 3) sa_nil)) rfl) (fun _ => rfl))) (sw_one_or (st_not (st_truth rfl (se_call A.c__law_same hr rfl T.d__law_same.g T.d__law_same.k T.d__law_same.b (takes_of rfl rfl rfl rfl) (sa_cons (se_call A.c_slip_chance hr rfl T.d_slip_chance.g T.d_slip_chance.k T.d_slip_chance.b (takes_of rfl rfl rfl rfl) (sa_cons (se_tup (sa_cons (se_int) (sa_cons (se_int) sa_nil))) (sa_cons (se_var 3) sa_nil)) rfl) (sa_cons (se_tup (sa_cons (st_ite (PW.pt (sw_or (st_cmp (o_eq rfl hu) bl_fEq (se_var 3) (se_int) (nomark _)) (sw_one_or (st_cmp (o_eq rfl hu) bl_fEq (se_bin (o_mod) (se_bty (b_int) rfl T.n_int bt_int (sa_cons (se_var 3) sa_nil)) (se_int)) (se_int) (nomark _))))) (se_int) (se_int)) (sa_cons (se_int) sa_nil))) sa_nil)) rfl) (fun _ => rfl)))))) (sss_cons (ss_ret (se_bl)) sss_nil) sss_nil)
      (sss_cons (ss_ret (se_or rfl (se_cmp (o_eq rfl hu) (se_var 3) (se_int) (nomark _)) (se_or rfl (se_cmp (o_gt) (se_var 3) (se_int) (nomark _)) (se_one (se_cmp (o_eq rfl hu) (se_cmp (o_eq rfl hu) (se_call A.c_slip_chance hr rfl T.d_slip_chance.g T.d_slip_chance.k T.d_slip_chance.b (takes_of rfl rfl rfl rfl) (sa_cons (se_tup (sa_cons (se_int) (sa_cons (se_int) sa_nil))) (sa_cons (se_var 3) sa_nil)) rfl) (se_tup (sa_cons (se_int) (sa_cons (se_int) sa_nil))) (nomark _)) (se_cmp (o_is) (se_call A.c_goes_round hr rfl T.d_goes_round.g T.d_goes_round.k T.d_goes_round.b (takes_of rfl rfl rfl rfl) (sa_cons (se_bin (o_mul) (se_str rfl) (se_var 3)) sa_nil) rfl) (se_bl) (nomark _)) (nomark _))))))
      sss_nil))))))
theorem sc_law : FnScope ["script", "turn"] ["script"] (defScope s_law) := ⟨rfl, rfl, rfl, by decide +kernel, rfl, by decide +kernel, by decide +kernel⟩
theorem ok_law (T : Txt K mg fa fdd) (A : All P w K mg base fa fdd n) : FnOk P w K mg base (L2.CX P w) (n + 3) (fa 38) (fdd 38) ["script"] (spF (gc K) 1 (callD prg (n + 1) "law")) := by
  refine fun_ok (ps := ["script"]) (N := ["script", "turn"]) (body := d_law.body) (cf := callD prg n) T.d_law.F sc_law (fun ds μ hl => ?_) (fun cdv A' outer s H E hr => ?_)
  · show (if ds.length = 1 then _ else _) = _
    rw [if_pos (show ds.length = 1 from hl)]; rfl
  · have hu := hr.units
    have nd := sc_law.nd
    exact (sss_cons (ss_for (passes_of rfl) rfl (si_rng1 rfl T.n_range (se_blt (b_max rfl) rfl T.n_max bt_max (sa_cons (se_int) (sa_cons (se_blt (b_minD rfl rfl) rfl T.n_min bt_min (sa_cons (se_blt (b_len rfl) rfl T.n_len bt_len (sa_cons (se_var 0) sa_nil)) (sa_cons (se_int) sa_nil))) sa_nil)))) (sg_name 1 nd) (sss_cons (ss_if (st_not (st_truth rfl (se_call A.c__law_turn hr rfl T.d__law_turn.g T.d__law_turn.k T.d__law_turn.b (takes_of rfl rfl rfl rfl) (sa_cons (se_call A.c__law_well hr rfl T.d__law_well.g T.d__law_well.k T.d__law_well.b (takes_of rfl rfl rfl rfl) (sa_cons (se_var 0) (sa_cons (se_var 1) sa_nil)) rfl) sa_nil) rfl) (fun _ => rfl))) (sss_cons (ss_ret (se_bl)) sss_nil) sss_nil) sss_nil))
      (sss_cons (ss_ret (se_bl))
      sss_nil))
theorem all_zero : All P w K mg base fa fdd 0 := ⟨fn_zero fun _ _ => rfl, fn_zero fun _ _ => rfl, fn_zero fun _ _ => rfl, fn_zero fun _ _ => rfl, fn_zero fun _ _ => rfl, fn_zero fun _ _ => rfl, fn_zero fun _ _ => rfl, fn_zero fun _ _ => rfl, fn_zero fun _ _ => rfl, fn_zero fun _ _ => rfl, fn_zero fun _ _ => rfl, fn_zero fun _ _ => rfl, fn_zero fun _ _ => rfl, fn_zero fun _ _ => rfl, fn_zero fun _ _ => rfl, fn_zero fun _ _ => rfl, fn_zero fun _ _ => rfl, fn_zero fun _ _ => rfl, fn_zero fun _ _ => rfl, fn_zero fun _ _ => rfl, fn_zero fun _ _ => rfl, fn_zero fun _ _ => rfl, fn_zero fun _ _ => rfl, fn_zero fun _ _ => rfl, fn_zero fun _ _ => rfl, fn_zero fun _ _ => rfl, fn_zero fun _ _ => rfl, fn_zero fun _ _ => rfl, fn_zero fun _ _ => rfl, fn_zero fun _ _ => rfl, fn_zero fun _ _ => rfl, fn_zero fun _ _ => rfl, fn_zero fun _ _ => rfl, fn_zero fun _ _ => rfl, fn_zero fun _ _ => rfl, fn_zero fun _ _ => rfl, fn_zero fun _ _ => rfl, fn_zero fun _ _ => rfl, fn_zero fun _ _ => rfl⟩
theorem all_n (T : Txt K mg fa fdd) : ∀ n, All P w K mg base fa fdd n
  | 0 => all_zero
  | n + 1 => ⟨ok_is_whole T (all_n T n), ok_is_between T (all_n T n), ok_is_tuple_of T (all_n T n), ok_are_wholes T (all_n T n), ok_is_text_of T (all_n T n), ok_lowest T (all_n T n), ok_is_layer_number T (all_n T n), ok_is_letter T (all_n T n), ok_is_stepped T (all_n T n), ok_number_of T (all_n T n), ok_further T (all_n T n), ok_worth T (all_n T n), ok_sum_of T (all_n T n), ok_led_by T (all_n T n), ok_do_go_round T (all_n T n), ok_check_number T (all_n T n), ok_check_steps T (all_n T n), ok_check_letter T (all_n T n), ok_is_chance T (all_n T n), ok_powers_of T (all_n T n), ok_slip_chance_by T (all_n T n), ok_check_chance T (all_n T n), ok_check_apart T (all_n T n), ok_slip_chance T (all_n T n), ok_stacking_by T (all_n T n), ok_goes_round T (all_n T n), ok__law_well T (all_n T n), ok__law_take T (all_n T n), ok__law_pick T (all_n T n), ok__law_same T (all_n T n), ok__law_lowest T (all_n T n), ok__law_shares T (all_n T n), ok__law_by_rows T (all_n T n), ok__law_by_sum T (all_n T n), ok__law_asked T (all_n T n), ok__law_chance T (all_n T n), ok__law_most T (all_n T n), ok__law_turn T (all_n T n), ok_law T (all_n T n)⟩
end
end Law

namespace Law
open Ev
theorem k70 : K70 prg where
  whole := rfl
  between := rfl
  text := rfl
  layer := rfl
  isTupleOf := rfl
  areWholes := rfl
  lowest := rfl
  isLetter := rfl
  isStepped := rfl
  num := rfl
  fur := rfl
  worth := rfl
  sumOf := rfl
  ledBy := rfl
  doGoRound := rfl
  checkNumber := rfl
  checkSteps := rfl
  checkLetter := rfl
  isChance := rfl
  powersOf := rfl
  slipChanceBy := rfl
  checkChance := rfl
  checkApart := rfl
  slipChance := rfl
  stackingBy := rfl
  goesRound := rfl
  well := rfl
  take := rfl
  pick := rfl
  same := rfl
  lLowest := rfl
  lShares := rfl
  lByRows := rfl
  lBySum := rfl
  lAsked := rfl
  lChance := rfl
  lMost := rfl
  lTurn := rfl
  law := rfl
theorem law_true : ∀ ns : List Int, ns.length ≤ 63 → ∃ μ, callD prg 20 "law" [.scr ns] [] = .ok (.bl true) μ := fun ns h => law_ok (n := 10) (μ := []) k70 ns h
end Law

open PySem PySem.W PyProof.Rows Ev
set_option maxRecDepth 100000 in
set_option maxHeartbeats 0 in
theorem PySem.Challenge.cw_layerballs_k70_whole_slipped_growth_holds : PySem.Challenge.rw_layerballs_k70_whole_slipped_growth.Holds := by
  w_on; o_law; k_head; (case hw => w_witness2)
  k_fill
  refine Ev.walk_law (l := PySem.Challenge.rw_layerballs_k70_whole_slipped_growth) (x := "script") (k := 20 + 2) rfl rfl ⟨rfl, by decide, by decide⟩ (fun w h Y => PySem.W.kIn_of Y) ?F
  case F =>
    intro w mg fa h KX G hmg
    obtain ⟨f0, fd0, D0⟩ : ∃ f fd, Ev.Df _ mg "is_whole" Law.s_is_whole ["value"] f fd := by
      refine' ⟨_, _, Ev.df_mk KX G ?a0 ?l0 ?c0 ?k0 (fun _ _ _ _ _ _ us hl => match us, hl with | [_], _ => rfl)⟩
      (case a0 => k_is); (case l0 => k_is); (case c0 => k_is); (case k0 => k_is)
    obtain ⟨f1, fd1, D1⟩ : ∃ f fd, Ev.Df _ mg "is_between" Law.s_is_between ["value", "low", "high"] f fd := by
      refine' ⟨_, _, Ev.df_mk KX G ?a1 ?l1 ?c1 ?k1 (fun _ _ _ _ _ _ us hl => match us, hl with | [_, _, _], _ => rfl)⟩
      (case a1 => k_is); (case l1 => k_is); (case c1 => k_is); (case k1 => k_is)
    obtain ⟨f2, fd2, D2⟩ : ∃ f fd, Ev.Df _ mg "is_tuple_of" Law.s_is_tuple_of ["value", "many"] f fd := by
      refine' ⟨_, _, Ev.df_mk KX G ?a2 ?l2 ?c2 ?k2 (fun _ _ _ _ _ _ us hl => match us, hl with | [_, _], _ => rfl)⟩
      (case a2 => k_is); (case l2 => k_is); (case c2 => k_is); (case k2 => k_is)
    obtain ⟨f3, fd3, D3⟩ : ∃ f fd, Ev.Df _ mg "are_wholes" Law.s_are_wholes ["value", "many"] f fd := by
      refine' ⟨_, _, Ev.df_mk KX G ?a3 ?l3 ?c3 ?k3 (fun _ _ _ _ _ _ us hl => match us, hl with | [_, _], _ => rfl)⟩
      (case a3 => k_is); (case l3 => k_is); (case c3 => k_is); (case k3 => k_is)
    obtain ⟨f4, fd4, D4⟩ : ∃ f fd, Ev.Df _ mg "is_text_of" Law.s_is_text_of ["value", "signs"] f fd := by
      refine' ⟨_, _, Ev.df_mk KX G ?a4 ?l4 ?c4 ?k4 (fun _ _ _ _ _ _ us hl => match us, hl with | [_, _], _ => rfl)⟩
      (case a4 => k_is); (case l4 => k_is); (case c4 => k_is); (case k4 => k_is)
    obtain ⟨f5, fd5, D5⟩ : ∃ f fd, Ev.Df _ mg "lowest" Law.s_lowest ["top", "low"] f fd := by
      refine' ⟨_, _, Ev.df_mk KX G ?a5 ?l5 ?c5 ?k5 (fun _ _ _ _ _ _ us hl => match us, hl with | [_, _], _ => rfl)⟩
      (case a5 => k_is); (case l5 => k_is); (case c5 => k_is); (case k5 => k_is)
    obtain ⟨f6, fd6, D6⟩ : ∃ f fd, Ev.Df _ mg "is_layer_number" Law.s_is_layer_number ["value"] f fd := by
      refine' ⟨_, _, Ev.df_mk KX G ?a6 ?l6 ?c6 ?k6 (fun _ _ _ _ _ _ us hl => match us, hl with | [_], _ => rfl)⟩
      (case a6 => k_is); (case l6 => k_is); (case c6 => k_is); (case k6 => k_is)
    obtain ⟨f7, fd7, D7⟩ : ∃ f fd, Ev.Df _ mg "is_letter" Law.s_is_letter ["value"] f fd := by
      refine' ⟨_, _, Ev.df_mk KX G ?a7 ?l7 ?c7 ?k7 (fun _ _ _ _ _ _ us hl => match us, hl with | [_], _ => rfl)⟩
      (case a7 => k_is); (case l7 => k_is); (case c7 => k_is); (case k7 => k_is)
    obtain ⟨f8, fd8, D8⟩ : ∃ f fd, Ev.Df _ mg "is_stepped" Law.s_is_stepped ["value"] f fd := by
      refine' ⟨_, _, Ev.df_mk KX G ?a8 ?l8 ?c8 ?k8 (fun _ _ _ _ _ _ us hl => match us, hl with | [_], _ => rfl)⟩
      (case a8 => k_is); (case l8 => k_is); (case c8 => k_is); (case k8 => k_is)
    obtain ⟨f9, fd9, D9⟩ : ∃ f fd, Ev.Df _ mg "number_of" Law.s_number_of ["letter"] f fd := by
      refine' ⟨_, _, Ev.df_mk KX G ?a9 ?l9 ?c9 ?k9 (fun _ _ _ _ _ _ us hl => match us, hl with | [_], _ => rfl)⟩
      (case a9 => k_is); (case l9 => k_is); (case c9 => k_is); (case k9 => k_is)
    obtain ⟨f10, fd10, D10⟩ : ∃ f fd, Ev.Df _ mg "further" Law.s_further ["letter", "number"] f fd := by
      refine' ⟨_, _, Ev.df_mk KX G ?a10 ?l10 ?c10 ?k10 (fun _ _ _ _ _ _ us hl => match us, hl with | [_, _], _ => rfl)⟩
      (case a10 => k_is); (case l10 => k_is); (case c10 => k_is); (case k10 => k_is)
    obtain ⟨f11, fd11, D11⟩ : ∃ f fd, Ev.Df _ mg "worth" Law.s_worth ["step"] f fd := by
      refine' ⟨_, _, Ev.df_mk KX G ?a11 ?l11 ?c11 ?k11 (fun _ _ _ _ _ _ us hl => match us, hl with | [_], _ => rfl)⟩
      (case a11 => k_is); (case l11 => k_is); (case c11 => k_is); (case k11 => k_is)
    obtain ⟨f12, fd12, D12⟩ : ∃ f fd, Ev.Df _ mg "sum_of" Law.s_sum_of ["steps"] f fd := by
      refine' ⟨_, _, Ev.df_mk KX G ?a12 ?l12 ?c12 ?k12 (fun _ _ _ _ _ _ us hl => match us, hl with | [_], _ => rfl)⟩
      (case a12 => k_is); (case l12 => k_is); (case c12 => k_is); (case k12 => k_is)
    obtain ⟨f13, fd13, D13⟩ : ∃ f fd, Ev.Df _ mg "led_by" Law.s_led_by ["letter", "steps"] f fd := by
      refine' ⟨_, _, Ev.df_mk KX G ?a13 ?l13 ?c13 ?k13 (fun _ _ _ _ _ _ us hl => match us, hl with | [_, _], _ => rfl)⟩
      (case a13 => k_is); (case l13 => k_is); (case c13 => k_is); (case k13 => k_is)
    obtain ⟨f14, fd14, D14⟩ : ∃ f fd, Ev.Df _ mg "do_go_round" Law.s_do_go_round ["steps"] f fd := by
      refine' ⟨_, _, Ev.df_mk KX G ?a14 ?l14 ?c14 ?k14 (fun _ _ _ _ _ _ us hl => match us, hl with | [_], _ => rfl)⟩
      (case a14 => k_is); (case l14 => k_is); (case c14 => k_is); (case k14 => k_is)
    obtain ⟨f15, fd15, D15⟩ : ∃ f fd, Ev.Df _ mg "check_number" Law.s_check_number ["value", "low", "high"] f fd := by
      refine' ⟨_, _, Ev.df_mk KX G ?a15 ?l15 ?c15 ?k15 (fun _ _ _ _ _ _ us hl => match us, hl with | [_, _, _], _ => rfl)⟩
      (case a15 => k_is); (case l15 => k_is); (case c15 => k_is); (case k15 => k_is)
    obtain ⟨f16, fd16, D16⟩ : ∃ f fd, Ev.Df _ mg "check_steps" Law.s_check_steps ["steps"] f fd := by
      refine' ⟨_, _, Ev.df_mk KX G ?a16 ?l16 ?c16 ?k16 (fun _ _ _ _ _ _ us hl => match us, hl with | [_], _ => rfl)⟩
      (case a16 => k_is); (case l16 => k_is); (case c16 => k_is); (case k16 => k_is)
    obtain ⟨f17, fd17, D17⟩ : ∃ f fd, Ev.Df _ mg "check_letter" Law.s_check_letter ["letter"] f fd := by
      refine' ⟨_, _, Ev.df_mk KX G ?a17 ?l17 ?c17 ?k17 (fun _ _ _ _ _ _ us hl => match us, hl with | [_], _ => rfl)⟩
      (case a17 => k_is); (case l17 => k_is); (case c17 => k_is); (case k17 => k_is)
    obtain ⟨f18, fd18, D18⟩ : ∃ f fd, Ev.Df _ mg "is_chance" Law.s_is_chance ["value"] f fd := by
      refine' ⟨_, _, Ev.df_mk KX G ?a18 ?l18 ?c18 ?k18 (fun _ _ _ _ _ _ us hl => match us, hl with | [_], _ => rfl)⟩
      (case a18 => k_is); (case l18 => k_is); (case c18 => k_is); (case k18 => k_is)
    obtain ⟨f19, fd19, D19⟩ : ∃ f fd, Ev.Df _ mg "powers_of" Law.s_powers_of ["number", "many"] f fd := by
      refine' ⟨_, _, Ev.df_mk KX G ?a19 ?l19 ?c19 ?k19 (fun _ _ _ _ _ _ us hl => match us, hl with | [_, _], _ => rfl)⟩
      (case a19 => k_is); (case l19 => k_is); (case c19 => k_is); (case k19 => k_is)
    obtain ⟨f20, fd20, D20⟩ : ∃ f fd, Ev.Df _ mg "slip_chance_by" Law.s_slip_chance_by ["chance", "number"] f fd := by
      refine' ⟨_, _, Ev.df_mk KX G ?a20 ?l20 ?c20 ?k20 (fun _ _ _ _ _ _ us hl => match us, hl with | [_, _], _ => rfl)⟩
      (case a20 => k_is); (case l20 => k_is); (case c20 => k_is); (case k20 => k_is)
    obtain ⟨f21, fd21, D21⟩ : ∃ f fd, Ev.Df _ mg "check_chance" Law.s_check_chance ["chance"] f fd := by
      refine' ⟨_, _, Ev.df_mk KX G ?a21 ?l21 ?c21 ?k21 (fun _ _ _ _ _ _ us hl => match us, hl with | [_], _ => rfl)⟩
      (case a21 => k_is); (case l21 => k_is); (case c21 => k_is); (case k21 => k_is)
    obtain ⟨f22, fd22, D22⟩ : ∃ f fd, Ev.Df _ mg "check_apart" Law.s_check_apart ["chance", "number"] f fd := by
      refine' ⟨_, _, Ev.df_mk KX G ?a22 ?l22 ?c22 ?k22 (fun _ _ _ _ _ _ us hl => match us, hl with | [_, _], _ => rfl)⟩
      (case a22 => k_is); (case l22 => k_is); (case c22 => k_is); (case k22 => k_is)
    obtain ⟨f23, fd23, D23⟩ : ∃ f fd, Ev.Df _ mg "slip_chance" Law.s_slip_chance ["chance", "number"] f fd := by
      refine' ⟨_, _, Ev.df_mk KX G ?a23 ?l23 ?c23 ?k23 (fun _ _ _ _ _ _ us hl => match us, hl with | [_, _], _ => rfl)⟩
      (case a23 => k_is); (case l23 => k_is); (case c23 => k_is); (case k23 => k_is)
    obtain ⟨f24, fd24, D24⟩ : ∃ f fd, Ev.Df _ mg "stacking_by" Law.s_stacking_by ["letter", "steps"] f fd := by
      refine' ⟨_, _, Ev.df_mk KX G ?a24 ?l24 ?c24 ?k24 (fun _ _ _ _ _ _ us hl => match us, hl with | [_, _], _ => rfl)⟩
      (case a24 => k_is); (case l24 => k_is); (case c24 => k_is); (case k24 => k_is)
    obtain ⟨f25, fd25, D25⟩ : ∃ f fd, Ev.Df _ mg "goes_round" Law.s_goes_round ["steps"] f fd := by
      refine' ⟨_, _, Ev.df_mk KX G ?a25 ?l25 ?c25 ?k25 (fun _ _ _ _ _ _ us hl => match us, hl with | [_], _ => rfl)⟩
      (case a25 => k_is); (case l25 => k_is); (case c25 => k_is); (case k25 => k_is)
    obtain ⟨f26, fd26, D26⟩ : ∃ f fd, Ev.Df _ mg "_law_well" Law.s__law_well ["script", "turn"] f fd := by
      refine' ⟨_, _, Ev.df_mk KX G ?a26 ?l26 ?c26 ?k26 (fun _ _ _ _ _ _ us hl => match us, hl with | [_, _], _ => rfl)⟩
      (case a26 => k_is); (case l26 => k_is); (case c26 => k_is); (case k26 => k_is)
    obtain ⟨f27, fd27, D27⟩ : ∃ f fd, Ev.Df _ mg "_law_take" Law.s__law_take ["well", "many"] f fd := by
      refine' ⟨_, _, Ev.df_mk KX G ?a27 ?l27 ?c27 ?k27 (fun _ _ _ _ _ _ us hl => match us, hl with | [_, _], _ => rfl)⟩
      (case a27 => k_is); (case l27 => k_is); (case c27 => k_is); (case k27 => k_is)
    obtain ⟨f28, fd28, D28⟩ : ∃ f fd, Ev.Df _ mg "_law_pick" Law.s__law_pick ["well", "some"] f fd := by
      refine' ⟨_, _, Ev.df_mk KX G ?a28 ?l28 ?c28 ?k28 (fun _ _ _ _ _ _ us hl => match us, hl with | [_, _], _ => rfl)⟩
      (case a28 => k_is); (case l28 => k_is); (case c28 => k_is); (case k28 => k_is)
    obtain ⟨f29, fd29, D29⟩ : ∃ f fd, Ev.Df _ mg "_law_same" Law.s__law_same ["told", "due"] f fd := by
      refine' ⟨_, _, Ev.df_mk KX G ?a29 ?l29 ?c29 ?k29 (fun _ _ _ _ _ _ us hl => match us, hl with | [_, _], _ => rfl)⟩
      (case a29 => k_is); (case l29 => k_is); (case c29 => k_is); (case k29 => k_is)
    obtain ⟨f30, fd30, D30⟩ : ∃ f fd, Ev.Df _ mg "_law_lowest" Law.s__law_lowest ["above", "below"] f fd := by
      refine' ⟨_, _, Ev.df_mk KX G ?a30 ?l30 ?c30 ?k30 (fun _ _ _ _ _ _ us hl => match us, hl with | [_, _], _ => rfl)⟩
      (case a30 => k_is); (case l30 => k_is); (case c30 => k_is); (case k30 => k_is)
    obtain ⟨f31, fd31, D31⟩ : ∃ f fd, Ev.Df _ mg "_law_shares" Law.s__law_shares ["chance", "number"] f fd := by
      refine' ⟨_, _, Ev.df_mk KX G ?a31 ?l31 ?c31 ?k31 (fun _ _ _ _ _ _ us hl => match us, hl with | [_, _], _ => rfl)⟩
      (case a31 => k_is); (case l31 => k_is); (case c31 => k_is); (case k31 => k_is)
    obtain ⟨f32, fd32, D32⟩ : ∃ f fd, Ev.Df _ mg "_law_by_rows" Law.s__law_by_rows ["chance", "number"] f fd := by
      refine' ⟨_, _, Ev.df_mk KX G ?a32 ?l32 ?c32 ?k32 (fun _ _ _ _ _ _ us hl => match us, hl with | [_, _], _ => rfl)⟩
      (case a32 => k_is); (case l32 => k_is); (case c32 => k_is); (case k32 => k_is)
    obtain ⟨f33, fd33, D33⟩ : ∃ f fd, Ev.Df _ mg "_law_by_sum" Law.s__law_by_sum ["chance", "number"] f fd := by
      refine' ⟨_, _, Ev.df_mk KX G ?a33 ?l33 ?c33 ?k33 (fun _ _ _ _ _ _ us hl => match us, hl with | [_, _], _ => rfl)⟩
      (case a33 => k_is); (case l33 => k_is); (case c33 => k_is); (case k33 => k_is)
    obtain ⟨f34, fd34, D34⟩ : ∃ f fd, Ev.Df _ mg "_law_asked" Law.s__law_asked ["chance", "number"] f fd := by
      refine' ⟨_, _, Ev.df_mk KX G ?a34 ?l34 ?c34 ?k34 (fun _ _ _ _ _ _ us hl => match us, hl with | [_, _], _ => rfl)⟩
      (case a34 => k_is); (case l34 => k_is); (case c34 => k_is); (case k34 => k_is)
    obtain ⟨f35, fd35, D35⟩ : ∃ f fd, Ev.Df _ mg "_law_chance" Law.s__law_chance ["well"] f fd := by
      refine' ⟨_, _, Ev.df_mk KX G ?a35 ?l35 ?c35 ?k35 (fun _ _ _ _ _ _ us hl => match us, hl with | [_], _ => rfl)⟩
      (case a35 => k_is); (case l35 => k_is); (case c35 => k_is); (case k35 => k_is)
    obtain ⟨f36, fd36, D36⟩ : ∃ f fd, Ev.Df _ mg "_law_most" Law.s__law_most ["below"] f fd := by
      refine' ⟨_, _, Ev.df_mk KX G ?a36 ?l36 ?c36 ?k36 (fun _ _ _ _ _ _ us hl => match us, hl with | [_], _ => rfl)⟩
      (case a36 => k_is); (case l36 => k_is); (case c36 => k_is); (case k36 => k_is)
    obtain ⟨f37, fd37, D37⟩ : ∃ f fd, Ev.Df _ mg "_law_turn" Law.s__law_turn ["well"] f fd := by
      refine' ⟨_, _, Ev.df_mk KX G ?a37 ?l37 ?c37 ?k37 (fun _ _ _ _ _ _ us hl => match us, hl with | [_], _ => rfl)⟩
      (case a37 => k_is); (case l37 => k_is); (case c37 => k_is); (case k37 => k_is)
    obtain ⟨f38, fd38, D38⟩ : ∃ f fd, Ev.Df _ mg "law" Law.s_law ["script"] f fd := by
      refine' ⟨_, _, Ev.df_mk KX G ?a38 ?l38 ?c38 ?k38 (fun _ _ _ _ _ _ us hl => match us, hl with | [_], _ => rfl)⟩
      (case a38 => k_is); (case l38 => k_is); (case c38 => k_is); (case k38 => k_is)
    have n_abs : mg "abs" = none := by refine' PySem.W.mg_none_of KX G ?zn_abs; (case zn_abs => k_is)
    have n_all : mg "all" = none := by refine' PySem.W.mg_none_of KX G ?zn_all; (case zn_all => k_is)
    have n_bool : mg "bool" = none := by refine' PySem.W.mg_none_of KX G ?zn_bool; (case zn_bool => k_is)
    have n_divmod : mg "divmod" = none := by refine' PySem.W.mg_none_of KX G ?zn_divmod; (case zn_divmod => k_is)
    have n_int : mg "int" = none := by refine' PySem.W.mg_none_of KX G ?zn_int; (case zn_int => k_is)
    have n_isinstance : mg "isinstance" = none := by refine' PySem.W.mg_none_of KX G ?zn_isinstance; (case zn_isinstance => k_is)
    have n_len : mg "len" = none := by refine' PySem.W.mg_none_of KX G ?zn_len; (case zn_len => k_is)
    have n_list : mg "list" = none := by refine' PySem.W.mg_none_of KX G ?zn_list; (case zn_list => k_is)
    have n_max : mg "max" = none := by refine' PySem.W.mg_none_of KX G ?zn_max; (case zn_max => k_is)
    have n_min : mg "min" = none := by refine' PySem.W.mg_none_of KX G ?zn_min; (case zn_min => k_is)
    have n_range : mg "range" = none := by refine' PySem.W.mg_none_of KX G ?zn_range; (case zn_range => k_is)
    have n_str : mg "str" = none := by refine' PySem.W.mg_none_of KX G ?zn_str; (case zn_str => k_is)
    have n_sum : mg "sum" = none := by refine' PySem.W.mg_none_of KX G ?zn_sum; (case zn_sum => k_is)
    have n_tuple : mg "tuple" = none := by refine' PySem.W.mg_none_of KX G ?zn_tuple; (case zn_tuple => k_is)
    have m_comb : mg "comb" = some (.builtin "math.comb") := by refine' (PySem.W.mg_of KX G ?zm_comb).trans ?zn_comb; (case zm_comb => k_is); (case zn_comb => exact rfl)
    have m_gcd : mg "gcd" = some (.builtin "math.gcd") := by refine' (PySem.W.mg_of KX G ?zm_gcd).trans ?zn_gcd; (case zm_gcd => k_is); (case zn_gcd => exact rfl)
    have v_LETTERS : ∃ u : Tok, mg "LETTERS" = some (.str "ABC" u) := by refine' ⟨_, (PySem.W.mg_of KX G ?zv_LETTERS).trans ?zw_LETTERS⟩; (case zv_LETTERS => k_is); (case zw_LETTERS => exact rfl)
    have v_MOST_APART : ∃ u : Tok, mg "MOST_APART" = some (.int 200 u) := by refine' ⟨_, (PySem.W.mg_of KX G ?zv_MOST_APART).trans ?zw_MOST_APART⟩; (case zv_MOST_APART => k_is); (case zw_MOST_APART => exact rfl)
    have v_MOST_LAYERS : ∃ u : Tok, mg "MOST_LAYERS" = some (.int 24 u) := by refine' ⟨_, (PySem.W.mg_of KX G ?zv_MOST_LAYERS).trans ?zw_MOST_LAYERS⟩; (case zv_MOST_LAYERS => k_is); (case zw_MOST_LAYERS => exact rfl)
    have v_STEPS : ∃ u : Tok, mg "STEPS" = some (.str "+-" u) := by refine' ⟨_, (PySem.W.mg_of KX G ?zv_STEPS).trans ?zw_STEPS⟩; (case zv_STEPS => k_is); (case zw_STEPS => exact rfl)
    have v_UP : ∃ u : Tok, mg "UP" = some (.str "+" u) := by refine' ⟨_, (PySem.W.mg_of KX G ?zv_UP).trans ?zw_UP⟩; (case zv_UP => k_is); (case zw_UP => exact rfl)
    have T : Law.Txt _ mg (fun i => [f0, f1, f2, f3, f4, f5, f6, f7, f8, f9, f10, f11, f12, f13, f14, f15, f16, f17, f18, f19, f20, f21, f22, f23, f24, f25, f26, f27, f28, f29, f30, f31, f32, f33, f34, f35, f36, f37, f38].getD i 0) (fun i => [fd0, fd1, fd2, fd3, fd4, fd5, fd6, fd7, fd8, fd9, fd10, fd11, fd12, fd13, fd14, fd15, fd16, fd17, fd18, fd19, fd20, fd21, fd22, fd23, fd24, fd25, fd26, fd27, fd28, fd29, fd30, fd31, fd32, fd33, fd34, fd35, fd36, fd37, fd38].getD i fd0) := ⟨D0, D1, D2, D3, D4, D5, D6, D7, D8, D9, D10, D11, D12, D13, D14, D15, D16, D17, D18, D19, D20, D21, D22, D23, D24, D25, D26, D27, D28, D29, D30, D31, D32, D33, D34, D35, D36, D37, D38, n_abs, n_all, n_bool, n_divmod, n_int, n_isinstance, n_len, n_list, n_max, n_min, n_range, n_str, n_sum, n_tuple, v_LETTERS, v_MOST_APART, v_MOST_LAYERS, v_STEPS, v_UP, m_comb, m_gcd⟩
    have e : fa = f38 := by have := hmg.symm.trans D38.g; exact Value.ref.inj (Option.some.inj this)
    subst e
    exact ⟨_, D38.one fun _ _ _ _ _ _ _ => rfl, fun base _ _ => Ev.law_fn (Law.all_n T 20).c_law rfl Law.law_true⟩
