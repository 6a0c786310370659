import PyProof.Rows.All
import Wide.All
import OpenK.AllK
import Wide.FinOn
import HandS.ForMost
import HandS.IsInst
import HandS.Style
import HandS.Flow
import HandS.Replace
import HandS.Wide
import HandS.Zip
import HandS.Rev
import HandS.Exc
import HandS.ExcOwn
import HandS.WordsExc
import KE.GoesEnum
import KE.GoesMore
import KE.GoesZip
import KE.KUnpack
import PyProof.StrWalks
import PyProof.CollectStr
import HandS.TupAny
import HandS.TupMul
import HandS.SortInts
import PyProof.StrLawsFirst
import PyProof.SliceStr2
import HandS.SetFor
import HandS.WideBits
import HandS.ExcValue
import KE.KDictZip
import HandS.Dict
import HandS.Small
import HandS.WordsDict
import HandS.SortRule
import HandS.Gcd
import HandS.RaiseMore
import HandS.StrMore
import KE.KMathGC
import HandS.Conv
import HandS.Text
import PyProof.StrLawsChain
import PyProof.StrLawsTight
import HandS.ExcInit
import HandS.ExcField
import HandS.ExcIs
import KE.KExcIs
import KE.KTryMore
import PyProof.TupleOfStr
import HandS.ReplaceLit
import PyProof.Rows.StrStrike
import HandS.Strs
import HandS.CallLocal
import PySem.Challenge.RW_layerballs_k96_whole_own_claims
set_option Elab.async false
set_option linter.all false
set_option maxRecDepth 100000
set_option maxHeartbeats 4000000
namespace Ev
/-- data as the law sees it; lists that are never changed stand by value, changed ones by their number in the store -/
abbrev DK := Sum Int (List Nat)
inductive D where
  | non | bl (b : Bool) | int (i : Int) | str (s : List Nat) | tup (ds : List D) | lst (ds : List D) | ref (n : Nat) | gl (x : String) | ty (n : String) | scr (ns : List Int)
  /-- a dict that is not changed any more -/
  | dcv (ks : List DK) (vs : List D)
  /-- an error that was caught: its class, the name of its field, what it keeps -/
  | exv (x f : String) (d : D)
  deriving Inhabited
inductive MO where
  | lst (ds : List D)
  | dct (kvs : List (DK × D))
  | dead
abbrev Store := List MO
abbrev Env := List (Option D)
inductive Res (α : Type) where
  | ok (a : α) (μ : Store)
  | exc (x : String) (d : D) (μ : Store)
  | stuck
namespace Res
variable {α β γ : Type}
def bind (r : Res α) (f : α → Store → Res β) : Res β := match r with
  | .ok a μ => f a μ
  | .exc x d μ => .exc x d μ
  | .stuck => .stuck
@[simp] theorem bind_ok (a : α) (μ : Store) (f : α → Store → Res β) : (Res.ok a μ).bind f = f a μ := rfl
@[simp] theorem bind_exc (x : String) (d : D) (μ : Store) (f : α → Store → Res β) : (Res.exc x d μ : Res α).bind f = .exc x d μ := rfl
@[simp] theorem bind_stuck (f : α → Store → Res β) : (Res.stuck : Res α).bind f = .stuck := rfl
theorem bind_assoc (r : Res α) (f : α → Store → Res β) (g : β → Store → Res γ) : (r.bind f).bind g = r.bind fun a μ => (f a μ).bind g := by
  cases r <;> rfl
def Out (r : Res α) (k : α → Store → Prop) (e : String → D → Store → Prop) : Prop := match r with
  | .ok a μ => k a μ
  | .exc x d μ => e x d μ
  | .stuck => False
@[simp] theorem Out_ok (a : α) (μ : Store) (k : α → Store → Prop) (e : String → D → Store → Prop) : Out (.ok a μ) k e = k a μ := rfl
theorem Out.bind {r : Res α} {f : α → Store → Res β} {k : β → Store → Prop} {e : String → D → Store → Prop} (h : Out (r.bind f) k e) : Out r (fun a μ => Out (f a μ) k e) e := by
  cases r <;> exact h
theorem Out.mono {r : Res α} {k k' : α → Store → Prop} {e e' : String → D → Store → Prop} (h : Out r k e) (hk : ∀ a μ, k a μ → k' a μ) (he : ∀ x d μ, e x d μ → e' x d μ) : Out r k' e' := by
  cases r with
  | ok a μ => exact hk a μ h
  | exc x d μ => exact he x d μ h
  | stuck => exact h
end Res
open Res
mutual
def noRef : D → Bool
  | .ref _ => false
  | .tup ds => noRefs ds
  | .lst ds => noRefs ds
  | .dcv _ vs => noRefs vs
  | .exv _ _ d => noRef d
  | _ => true
def noRefs : List D → Bool
  | [] => true
  | d :: ds => noRef d && noRefs ds
end
mutual
/-- no list within -/
def noLst : D → Bool
  | .ref _ => false
  | .tup ds => noLsts ds
  | .lst _ => false
  | .scr _ => false
  | .dcv _ _ => false
  | .exv _ _ _ => false
  | _ => true
def noLsts : List D → Bool
  | [] => true
  | d :: ds => noLst d && noLsts ds
end
mutual
/-- no caught error within -/
def noX : D → Bool
  | .exv _ _ _ => false
  | .tup ds => noXs ds
  | .lst ds => noXs ds
  | .dcv _ vs => noXs vs
  | _ => true
def noXs : List D → Bool
  | [] => true
  | d :: ds => noX d && noXs ds
end
/-- no caught error in a name -/
def noXE : Env → Bool
  | [] => true
  | some d :: ρ => noX d && noXE ρ
  | none :: ρ => noXE ρ
/-- the most that a list or a text may hold here -/
def cap : Nat := 1000000
def lift {α : Type} (o : Option α) (μ : Store) : Res α := match o with
  | some a => .ok a μ
  | none => .stuck
@[simp] theorem lift_some {α : Type} (a : α) (μ : Store) : lift (some a) μ = .ok a μ := rfl
@[simp] theorem lift_none {α : Type} (μ : Store) : lift (none : Option α) μ = .stuck := rfl
/-- a list is made: by value, or in the store -/
def mkL (m : Bool) (ds : List D) (μ : Store) : Res D :=
  if ds.length ≤ cap then (if m then (if noLsts ds then .ok (.ref μ.length) (μ ++ [.lst ds]) else .stuck) else .ok (.lst ds) μ) else .stuck
/-- a list of the store is not changed any more: it stands by value from here on -/
def freeze (d : D) (μ : Store) : Res D := match d with
  | .ref n => match μ[n]? with
    | some (.lst ds) => .ok (.lst ds) (μ.set n .dead)
    | _ => .stuck
  | d => .ok d μ
/-- the dict that name i holds stands by value from here on -/
def ghE (i : Nat) (ρ : Env) (μ : Store) : Option (Env × Store) := match ρ[i]? with
  | some (some (.ref n)) => match μ[n]? with
    | some (.dct kvs) => some (ρ.set i (some (.dcv (kvs.map (·.1)) (kvs.map (·.2)))), μ.set n .dead)
    | _ => none
  | _ => none
def truth (μ : Store) (d : D) : Option Bool := match d with
  | .non => some false
  | .bl b => some b
  | .int i => some (i != 0)
  | .str s => if s.length ≤ cap then some (!s.isEmpty) else none
  | .tup ds => some (!ds.isEmpty)
  | .lst ds => some (!ds.isEmpty)
  | .ref n => match μ[n]? with
    | some (.lst ds) => some (!ds.isEmpty)
    | _ => none
  | _ => none
inductive CT where
  | name (i : Nat)
  | tup (ts : List CT)
mutual
def bindT : CT → D → Env → Option Env
  | .name i, d, ρ => if i < ρ.length then some (ρ.set i (some d)) else none
  | .tup ts, .tup ds, ρ => bindTs ts ds ρ
  | .tup ts, .str s, ρ => bindTs ts (s.map fun c => .str [c]) ρ
  | .tup _, _, _ => none
def bindTs : List CT → List D → Env → Option Env
  | [], [], ρ => some ρ
  | t :: ts, d :: ds, ρ => match bindT t d ρ with
    | some ρ' => bindTs ts ds ρ'
    | none => none
  | _, _, _ => none
end
def wipeE (ρ : Env) : List Nat → Env
  | [] => ρ
  | i :: is => (wipeE ρ is).set i none
/-- what is walked: from the values of some expressions the items -/
abbrev Itf := Store → List D → Option (List D)
inductive CE where
  | var (i : Nat)
  | lit (d : D)
  | op1 (f : Store → D → Option D) (a : CE)
  | op2 (f : Store → D → D → Option D) (a b : CE)
  | op3 (f : Store → D → D → D → Option D) (a b c : CE)
  | opN (f : Store → List D → Option D) (as : List CE)
  | opM (f : List D → Store → Res D) (as : List CE)
  | meth (chk : Store → D → Bool) (f : List D → Store → Res D) (o : CE) (as : List CE)
  | frz (a : CE)
  | lst (m : Bool) (as : List CE)
  | tup (as : List CE)
  | and (a b : CE)
  | or (a b : CE)
  | not (a : CE)
  | ite (c a b : CE)
  | chain (f g : Store → D → D → Option D) (a b c : CE)
  | call (x : String) (g : List D → List D) (as : List CE)
  | comp (m : Bool) (elt : CE) (tg : CT) (f : Itf) (as : List CE) (cond : CE) (own : List Nat)
  /-- two clauses -/
  | comp2 (m : Bool) (elt : CE) (tg : CT) (f : Itf) (as : List CE) (cond : CE) (own : List Nat) (tg1 : CT) (f1 : Itf) (as1 : List CE) (cond1 : CE) (own1 : List Nat)
/-- an exception within a comprehension is not followed -/
def noExc {α : Type} (r : Res α) : Res α := match r with
  | .exc _ _ _ => .stuck
  | r => r
@[simp] theorem noExc_ok {α : Type} (a : α) (μ : Store) : noExc (.ok a μ) = .ok a μ := rfl
@[simp] theorem noExc_stuck {α : Type} : noExc (.stuck : Res α) = .stuck := rfl
def compLoop (step : D → Store → Res (Option D)) : List D → Store → Res (List D)
  | [], μ => .ok [] μ
  | d :: ds, μ => (noExc (step d μ)).bind fun o μ1 => (compLoop step ds μ1).bind fun r μ2 => .ok (match o with | some y => y :: r | none => r) μ2
def compLoop2 (step : D → Store → Res (List D)) : List D → Store → Res (List D)
  | [], μ => .ok [] μ
  | d :: ds, μ => (noExc (step d μ)).bind fun r μ1 => (compLoop2 step ds μ1).bind fun rs μ2 => .ok (r ++ rs) μ2
section
variable (cf : String → List D → Store → Res D)
mutual
def ev : CE → Env → Store → Res D
  | .var i, ρ, μ => match ρ[i]? with
    | some (some d) => .ok d μ
    | _ => .stuck
  | .lit d, _, μ => .ok d μ
  | .op1 f a, ρ, μ => (ev a ρ μ).bind fun x μ1 => lift (f μ1 x) μ1
  | .op2 f a b, ρ, μ => (ev a ρ μ).bind fun x μ1 => (ev b ρ μ1).bind fun y μ2 => lift (f μ2 x y) μ2
  | .op3 f a b c, ρ, μ => (ev a ρ μ).bind fun x μ1 => (ev b ρ μ1).bind fun y μ2 => (ev c ρ μ2).bind fun z μ3 => lift (f μ3 x y z) μ3
  | .opN f as, ρ, μ => (evs as ρ μ).bind fun ds μ1 => lift (f μ1 ds) μ1
  | .opM f as, ρ, μ => (evs as ρ μ).bind fun ds μ1 => noExc (f ds μ1)
  | .meth chk f o as, ρ, μ => (ev o ρ μ).bind fun x μ1 => if chk μ1 x then (evs as ρ μ1).bind fun xs μ2 => noExc (f (x :: xs) μ2) else .stuck
  | .frz a, ρ, μ => (ev a ρ μ).bind freeze
  | .lst m as, ρ, μ => (evs as ρ μ).bind fun ds μ1 => mkL m ds μ1
  | .tup as, ρ, μ => (evs as ρ μ).bind fun ds μ1 => if ds.length ≤ cap then .ok (.tup ds) μ1 else .stuck
  | .and a b, ρ, μ => (ev a ρ μ).bind fun x μ1 => (lift (truth μ1 x) μ1).bind fun t μ2 => if t then ev b ρ μ2 else .ok x μ2
  | .or a b, ρ, μ => (ev a ρ μ).bind fun x μ1 => (lift (truth μ1 x) μ1).bind fun t μ2 => if t then .ok x μ2 else ev b ρ μ2
  | .not a, ρ, μ => (ev a ρ μ).bind fun x μ1 => (lift (truth μ1 x) μ1).bind fun t μ2 => .ok (.bl (!t)) μ2
  | .ite c a b, ρ, μ => (ev c ρ μ).bind fun x μ1 => (lift (truth μ1 x) μ1).bind fun t μ2 => if t then ev a ρ μ2 else ev b ρ μ2
  | .chain f g a b c, ρ, μ => (ev a ρ μ).bind fun x μ1 => (ev b ρ μ1).bind fun y μ2 => (lift (f μ2 x y) μ2).bind fun z μ3 => match z with
    | .bl true => (ev c ρ μ3).bind fun w μ4 => lift (g μ4 y w) μ4
    | .bl false => .ok (.bl false) μ3
    | _ => .stuck
  | .call x g as, ρ, μ => (evs as ρ μ).bind fun ds μ1 => cf x (g ds) μ1
  | .comp m elt tg f as cond own, ρ, μ => (evs as ρ μ).bind fun ds μ1 => (lift (f μ1 ds) μ1).bind fun items μ2 =>
      if items.length ≤ cap then (compLoop (fun d μ => match bindT tg d (wipeE ρ own) with
        | none => .stuck
        | some ρ1 => (ev cond ρ1 μ).bind fun x μ1 => (lift (truth μ1 x) μ1).bind fun t μ2 => if t then (ev elt ρ1 μ2).bind fun y μ3 => .ok (some y) μ3 else .ok none μ2) items μ2).bind fun out μ3 => mkL m out μ3 else .stuck
  | .comp2 m elt tg f as cond own tg1 f1 as1 cond1 own1, ρ, μ => (evs as ρ μ).bind fun ds μ1 => (lift (f μ1 ds) μ1).bind fun items μ2 =>
      if items.length ≤ cap then (compLoop2 (fun d μ => match bindT tg d (wipeE ρ own) with
        | none => .stuck
        | some ρ1 => (ev cond ρ1 μ).bind fun x μ1 => (lift (truth μ1 x) μ1).bind fun t μ2 => if t then (evs as1 ρ1 μ2).bind fun ds1 μ3 => (lift (f1 μ3 ds1) μ3).bind fun items1 μ4 =>
            if items1.length ≤ cap then compLoop (fun d μ => match bindT tg1 d (wipeE ρ1 own1) with
              | none => .stuck
              | some ρ2 => (ev cond1 ρ2 μ).bind fun x μ1 => (lift (truth μ1 x) μ1).bind fun t μ2 => if t then (ev elt ρ2 μ2).bind fun y μ3 => .ok (some y) μ3 else .ok none μ2) items1 μ4 else .stuck
          else .ok [] μ2) items μ2).bind fun out μ3 => mkL m out μ3 else .stuck
def evs : List CE → Env → Store → Res (List D)
  | [], _, μ => .ok [] μ
  | a :: as, ρ, μ => (ev a ρ μ).bind fun x μ1 => (evs as ρ μ1).bind fun xs μ2 => .ok (x :: xs) μ2
end
end
inductive AT where
  | name (i : Nat)
  | sub (o i : CE)
  | key (o i : CE)
  | tup (ts : List AT)
/-- the one statement of a try -/
inductive TK where
  | ret
  | expr
  | asg (t : AT)
inductive CS where
  | pass
  | expr (e : CE)
  | asg (t : AT) (e : CE)
  | ifs (c : CE) (a b : List CS)
  | for (t : CT) (f : Itf) (as : List CE) (body : List CS)
  | whil (fuel : Nat) (c : CE) (body : List CS)
  | ret (e : CE)
  | retN
  | brk
  | cont
  | never
  /-- the dict that name i holds is not changed any more; then the statement -/
  | gh (i : Nat) (c : CS)
  /-- raise x(e), e kept as f -/
  | rse (x f : String) (e : CE)
  /-- try: one statement; except a class that p tells, as name i: hd -/
  | tr (k : TK) (e : CE) (p : String → Bool) (i : Nat) (hd : List CS)
inductive Fl where
  | nx (ρ : Env) | rt (d : D) | bk (ρ : Env) | ct (ρ : Env)
/-- a[i] for an index of any sign -/
def ixOf (n : Nat) (i : Int) : Option Nat := if 0 ≤ i then (if i < n then some i.toNat else none) else if -(n : Int) ≤ i then some (i + n).toNat else none
def setIx (o i d : D) (μ : Store) : Option Store := match o, i with
  | .ref n, .int i => match μ[n]? with
    | some (.lst ds) => match ixOf ds.length i with
      | some j => if noLst d then some (μ.set n (.lst (ds.set j d))) else none
      | none => none
    | _ => none
  | _, _ => none
def keyD : D → Option DK
  | .int i => some (.inl i)
  | .str s => some (.inr s)
  | _ => none
def putD (kvs : List (DK × D)) (k : DK) (d : D) : List (DK × D) :=
  if (kvs.any fun kv => decide (kv.1 = k)) = true then kvs.map (fun kv => if kv.1 = k then (kv.1, d) else kv) else kvs ++ [(k, d)]
def dctOf (μ : Store) : D → Option (Nat × List (DK × D))
  | .ref n => match μ[n]? with
    | some (.dct kvs) => some (n, kvs)
    | _ => none
  | _ => none
/-- d[k] = v -/
def putIx (o i d : D) (μ : Store) : Option Store := match dctOf μ o, keyD i with
  | some (n, kvs), some k => if noLst d = true ∧ kvs.length < cap then some (μ.set n (.dct (putD kvs k d))) else none
  | _, _ => none
def forLoop (step : Env → D → Store → Res Fl) : List D → Env → Store → Res Fl
  | [], ρ, μ => .ok (.nx ρ) μ
  | d :: ds, ρ, μ => (step ρ d μ).bind fun fl μ1 => match fl with
    | .nx ρ1 => forLoop step ds ρ1 μ1
    | .ct ρ1 => forLoop step ds ρ1 μ1
    | .bk ρ1 => .ok (.nx ρ1) μ1
    | .rt d => .ok (.rt d) μ1
def whileLoop (cond : Env → Store → Res Bool) (body : Env → Store → Res Fl) : Nat → Env → Store → Res Fl
  | 0, _, _ => .stuck
  | n + 1, ρ, μ => (cond ρ μ).bind fun t μ1 => if t then (body ρ μ1).bind fun fl μ2 => match fl with
    | .nx ρ1 => whileLoop cond body n ρ1 μ2
    | .ct ρ1 => whileLoop cond body n ρ1 μ2
    | .bk ρ1 => .ok (.nx ρ1) μ2
    | .rt d => .ok (.rt d) μ2 else .ok (.nx ρ) μ1
section
variable (cf : String → List D → Store → Res D)
mutual
def asgT : AT → D → Env → Store → Res Env
  | .name i, d, ρ, μ => if i < ρ.length then .ok (ρ.set i (some d)) μ else .stuck
  | .sub o i, d, ρ, μ => (noExc (ev cf o ρ μ)).bind fun x μ1 => (noExc (ev cf i ρ μ1)).bind fun y μ2 => match setIx x y d μ2 with
    | some μ3 => .ok ρ μ3
    | none => .stuck
  | .key o i, d, ρ, μ => (noExc (ev cf o ρ μ)).bind fun x μ1 => (noExc (ev cf i ρ μ1)).bind fun y μ2 => match putIx x y d μ2 with
    | some μ3 => .ok ρ μ3
    | none => .stuck
  | .tup ts, .tup ds, ρ, μ => asgTs ts ds ρ μ
  | .tup ts, .str s, ρ, μ => asgTs ts (s.map fun c => .str [c]) ρ μ
  | .tup _, _, _, _ => .stuck
def asgTs : List AT → List D → Env → Store → Res Env
  | [], [], ρ, μ => .ok ρ μ
  | t :: ts, d :: ds, ρ, μ => (asgT t d ρ μ).bind fun ρ1 μ1 => asgTs ts ds ρ1 μ1
  | _, _, _, _ => .stuck
end
def evT (c : CE) (ρ : Env) (μ : Store) : Res Bool := (ev cf c ρ μ).bind fun x μ1 => lift (truth μ1 x) μ1
mutual
def ex : CS → Env → Store → Res Fl
  | .pass, ρ, μ => .ok (.nx ρ) μ
  | .expr e, ρ, μ => (ev cf e ρ μ).bind fun _ μ1 => .ok (.nx ρ) μ1
  | .asg t e, ρ, μ => (ev cf e ρ μ).bind fun d μ1 => (asgT cf t d ρ μ1).bind fun ρ1 μ2 => .ok (.nx ρ1) μ2
  | .ifs c a b, ρ, μ => (evT cf c ρ μ).bind fun t μ1 => if t then exs a ρ μ1 else exs b ρ μ1
  | .for t f as body, ρ, μ => (evs cf as ρ μ).bind fun ds μ1 => (lift (f μ1 ds) μ1).bind fun items μ2 => forLoop (fun ρ d μ => match bindT t d ρ with
      | none => .stuck
      | some ρ1 => exs body ρ1 μ) items ρ μ2
  | .whil n c body, ρ, μ => whileLoop (evT cf c) (fun ρ μ => exs body ρ μ) n ρ μ
  | .ret e, ρ, μ => (ev cf e ρ μ).bind fun d μ1 => .ok (.rt d) μ1
  | .retN, _, μ => .ok (.rt .non) μ
  | .brk, ρ, μ => .ok (.bk ρ) μ
  | .cont, ρ, μ => .ok (.ct ρ) μ
  | .never, _, _ => .stuck
  | .gh i c, ρ, μ => match ghE i ρ μ with
    | some (ρ1, μ1) => ex c ρ1 μ1
    | none => .stuck
  | .rse x f e, ρ, μ => (ev cf e ρ μ).bind fun d μ1 => .exc x (.exv x f d) μ1
  | .tr k e p i hd, ρ, μ => match ev cf e ρ μ with
    | .stuck => .stuck
    | .exc x d μ1 => if p x then (if i < ρ.length then (noExc (exs hd (ρ.set i (some d)) μ1)).bind fun fl μ2 => match fl with
        | .rt r => if noX r then .ok (.rt r) μ2 else .stuck
        | .nx ρ2 => if noXE (ρ2.set i none) then .ok (.nx (ρ2.set i none)) μ2 else .stuck
        | .ct ρ2 => if noXE (ρ2.set i none) then .ok (.ct (ρ2.set i none)) μ2 else .stuck
        | .bk ρ2 => if noXE (ρ2.set i none) then .ok (.bk (ρ2.set i none)) μ2 else .stuck else .stuck) else .stuck
    | .ok d μ1 => match k with
      | .ret => .ok (.rt d) μ1
      | .expr => .ok (.nx ρ) μ1
      | .asg t => (asgT cf t d ρ μ1).bind fun ρ1 μ2 => .ok (.nx ρ1) μ2
def exs : List CS → Env → Store → Res Fl
  | [], ρ, μ => .ok (.nx ρ) μ
  | c :: cs, ρ, μ => (ex c ρ μ).bind fun fl μ1 => match fl with
    | .nx ρ1 => exs cs ρ1 μ1
    | fl => .ok fl μ1
end
end
structure FD where
  np : Nat
  nl : Nat
  body : List CS
def trunc (μ : Store) (d : D) (μ' : Store) : Res D := if noRef d then .ok d (μ'.take μ.length) else .ok d μ'
def finish (μ : Store) (fl : Fl) (μ' : Store) : Res D := match fl with
  | .rt d => trunc μ d μ'
  | .nx _ => trunc μ .non μ'
  | _ => .stuck
def startE (fd : FD) (ds : List D) : Env := ds.map some ++ List.replicate (fd.nl - ds.length) none
def callD (P : String → Option FD) : Nat → String → List D → Store → Res D
  | 0, _, _, _ => .stuck
  | n + 1, x, ds, μ => match P x with
    | none => .stuck
    | some fd => if ds.length = fd.np then (exs (callD P n) fd.body (startE fd ds) μ).bind (finish μ) else .stuck
end Ev
namespace Ev
open PySem PySem.Spec L2
structure AM where
  /-- the store's lists by number; none: held by value from here on -/
  l : List (Option Addr)
  /-- lists that are being made -/
  x : List Addr
def AM.has (m : AM) (a : Addr) : Prop := some a ∈ m.l ∨ a ∈ m.x
structure GC where
  K : PySem.W.Frag
  FA : String → Option Addr
  /-- the error that is held here, its dict, its class -/
  XA : Option (Addr × Addr × Addr) := none
abbrev toS (s : List Nat) : Str := ⟨s.toArray⟩
def toKey : DK → Key
  | .inl i => .inl i
  | .inr s => .inr (toS s)
mutual
def Rep (G : GC) (m : AM) (H : Hp) : D → V → Prop
  | .non, v => v = .non
  | .bl b, v => v = .bl b
  | .int i, v => v = .int i
  | .str s, v => v = .str (toS s)
  | .tup ds, v => ∃ a xs, v = .ref a ∧ SqT G.K H a xs ∧ Reps G m H ds xs
  | .lst ds, v => ∃ a xs, v = .ref a ∧ ¬ m.has a ∧ Rd H a (.lst xs) ∧ Reps G m H ds xs
  | .ref n, v => ∃ a, v = .ref a ∧ (m.l[n]? = some (some a) ∨ m.l[n]? = some none)
  | .gl x, v => ∃ a, v = .ref a ∧ G.FA x = some a
  | .ty n, v => v = .ty n
  | .dcv ks ds, v => ∃ a xs od, v = .ref a ∧ ¬ m.has a ∧ H a = some (.frz od (.dK ((ks.map toKey).zip xs))) ∧ ks.length = ds.length ∧ Reps G m H ds xs
  | .exv x f d, v => ∃ a dd C fs w, v = .ref a ∧ G.XA = some (a, dd, C) ∧ G.FA x = some C ∧ H dd = some (.xd fs) ∧ fs.lookup (Str.ofString f) = some w ∧ Rep G m H d w
  | .scr ns, v => ∃ a, v = .ref a ∧ ((¬ m.has a ∧ Rd H a (.lst (ns.map V.int))) ∨ ∀ H' : Hp, SqL G.K H' a (ns.map V.int))
def Reps (G : GC) (m : AM) (H : Hp) : List D → List V → Prop
  | [], xs => xs = []
  | d :: ds, xs => ∃ v vs, xs = v :: vs ∧ Rep G m H d v ∧ Reps G m H ds vs
end
/-- an error in flight: of the class x, with its dict -/
def GC.EA (G : GC) (x : String) (d : D) (cls : Value) (dd : Option Addr) (m : AM) (H : Hp) : Prop :=
  ∃ C a f d0 fs w, d = .exv x f d0 ∧ G.FA x = some C ∧ cls = .ref C ∧ dd = some a ∧ H a = some (.xd fs) ∧ fs.lookup (Str.ofString f) = some w ∧ Rep G m H d0 w
/-- what may change: lists, dicts -/
def MutO : HO → Prop
  | .lst _ => True
  | .dK _ => True
  | _ => False
/-- the data of an object of the store; the tracked object with values xs -/
def moD : MO → Option (List D)
  | .lst ds => some ds
  | .dct kvs => some (kvs.map (·.2))
  | .dead => none
def moH : MO → List V → HO
  | .lst _, xs => .lst xs
  | .dct kvs, xs => .dK ((kvs.map fun kv => toKey kv.1).zip xs)
  | .dead, xs => .lst xs
structure Ext (m : AM) (H : Hp) (m' : AM) (H' : Hp) : Prop where
  len : m.l.length ≤ m'.l.length
  pre : ∀ i, i < m.l.length → m'.l[i]? = m.l[i]? ∨ m'.l[i]? = some none
  fresh : ∀ a, m'.has a → ¬ m.has a → H a = none
  keep : ∀ a o, H a = some o → ¬ m.has a → H' a = some o
  xeq : m'.x = m.x
  keepx : ∀ a ∈ m.x, H' a = H a
theorem Ext.refl (m : AM) (H : Hp) : Ext m H m H := ⟨Nat.le_refl _, fun _ _ => .inl rfl, fun _ h h' => absurd h h', fun _ _ h _ => h, rfl, fun _ _ => rfl⟩
theorem Ext.nm {m m' : AM} {H H' : Hp} (e : Ext m H m' H') {a : Addr} {o : HO} (h : H a = some o) (n : ¬ m.has a) : ¬ m'.has a := fun z => by
  have := e.fresh a z n
  rw [h] at this; cases this
theorem Ext.trans {m m1 m2 : AM} {H H1 H2 : Hp} (a : Ext m H m1 H1) (b : Ext m1 H1 m2 H2) : Ext m H m2 H2 where
  len := Nat.le_trans a.len b.len
  pre := fun i hi => by
    rcases b.pre i (Nat.lt_of_lt_of_le hi a.len) with q | q
    · rw [q]; exact a.pre i hi
    · exact .inr q
  fresh := fun c h h' => by
    by_cases q : m1.has c
    · exact a.fresh c q h'
    · have z := b.fresh c h q
      cases e : H c with
      | none => rfl
      | some o =>
        have := a.keep c o e h'
        rw [z] at this; cases this
  keep := fun c o h h' => b.keep c o (a.keep c o h h') (a.nm h h')
  xeq := b.xeq.trans a.xeq
  keepx := fun c h => (b.keepx c (by rw [a.xeq]; exact h)).trans (a.keepx c h)
/-- a new object beside the store -/
theorem Ext.new {m : AM} {H : Hp} {p : Addr} {o : HO} (L : ∀ a, m.has a → ∃ o, MutO o ∧ H a = some o) (h : H p = none) : Ext m H m (upd H p o) :=
  ⟨Nat.le_refl _, fun _ _ => .inl rfl, fun _ h h' => absurd h h', fun a u q _ => by rw [upd_ne (ne_of_none q h)]; exact q, rfl, fun a ha => by
    obtain ⟨xs, _, q⟩ := L a (.inr ha)
    rw [upd_ne (ne_of_none q h)]⟩
/-- what data lean on -/
structure Mon (m : AM) (H : Hp) (m' : AM) (H' : Hp) : Prop where
  pre : ∀ i, i < m.l.length → m'.l[i]? = m.l[i]? ∨ m'.l[i]? = some none
  keep : ∀ a o, H a = some o → ¬ m.has a → H' a = some o ∧ ¬ m'.has a
theorem Ext.mon {m m' : AM} {H H' : Hp} (e : Ext m H m' H') : Mon m H m' H' := ⟨e.pre, fun a o h n => ⟨e.keep a o h n, e.nm h n⟩⟩
theorem Mon.trans {m m1 m2 : AM} {H H1 H2 : Hp} (a : Mon m H m1 H1) (b : Mon m1 H1 m2 H2) : Mon m H m2 H2 where
  pre := fun i hi => by
    have h1 : i < m1.l.length := by
      rcases a.pre i hi with q | q
      · rw [List.getElem?_eq_getElem hi] at q
        exact (List.getElem?_eq_some_iff.mp q).1
      · exact (List.getElem?_eq_some_iff.mp q).1
    rcases b.pre i h1 with q | q
    · rw [q]; exact a.pre i hi
    · exact .inr q
  keep := fun c o h n => b.keep c o (a.keep c o h n).1 (a.keep c o h n).2
theorem Mon.new {m : AM} {H : Hp} {p : Addr} {o : HO} (h : H p = none) : Mon m H m (upd H p o) := ⟨fun _ _ => .inl rfl, fun a u q n => ⟨by rw [upd_ne (ne_of_none q h)]; exact q, n⟩⟩
theorem Mon.refl (m : AM) (H : Hp) : Mon m H m H := ⟨fun _ _ => .inl rfl, fun _ _ q n => ⟨q, n⟩⟩
theorem Rd.mon {m m' : AM} {H H' : Hp} (e : Mon m H m' H') {a : Addr} {u : HO} (h : Rd H a u) (n : ¬ m.has a) : Rd H' a u ∧ ¬ m'.has a := by
  rcases h with h | ⟨o, h⟩
  · exact ⟨.inl (e.keep _ _ h n).1, (e.keep _ _ h n).2⟩
  · exact ⟨.inr ⟨o, (e.keep _ _ h n).1⟩, (e.keep _ _ h n).2⟩
theorem Rd.ext {m m' : AM} {H H' : Hp} (e : Ext m H m' H') {a : Addr} {u : HO} (h : Rd H a u) (n : ¬ m.has a) : Rd H' a u ∧ ¬ m'.has a := Rd.mon e.mon h n
structure StOk (G : GC) (μ : Store) (m : AM) (H : Hp) : Prop where
  len : m.l.length = μ.length
  inj : ∀ (i j : Nat) (a : Addr), m.l[i]? = some (some a) → m.l[j]? = some (some a) → i = j
  apart : ∀ a, some a ∈ m.l → a ∈ m.x → False
  obj : ∀ (n : Nat) (o : MO) (ds : List D), μ[n]? = some o → moD o = some ds → noLsts ds = true ∧ ∃ a xs, m.l[n]? = some (some a) ∧ H a = some (moH o xs) ∧ Reps G m H ds xs
  dead : ∀ (n : Nat), μ[n]? = some .dead → m.l[n]? = some none
  live : ∀ a, m.has a → ∃ o, MutO o ∧ H a = some o
theorem StOk.lst {G : GC} {μ : Store} {m : AM} {H : Hp} (S : StOk G μ m H) (n : Nat) (ds : List D) (h : μ[n]? = some (.lst ds)) : noLsts ds = true ∧ ∃ a xs, m.l[n]? = some (some a) ∧ H a = some (.lst xs) ∧ Reps G m H ds xs := S.obj n _ ds h rfl
theorem SqT.mon {G : GC} {m m' : AM} {H H' : Hp} {a : Addr} {xs : List V} (S : ∀ a, m.has a → ∃ o, MutO o ∧ H a = some o) (e : Mon m H m' H') (h : SqT G.K H a xs) : SqT G.K H' a xs := by
  rcases h with (h | ⟨o, h⟩) | h
  · refine .inl (.inl (e.keep _ _ h fun z => ?_).1)
    obtain ⟨ys, mu, q⟩ := S a z
    rw [h] at q; cases q; exact mu.elim
  · refine .inl (.inr ⟨o, (e.keep _ _ h fun z => ?_).1⟩)
    obtain ⟨ys, mu, q⟩ := S a z
    rw [h] at q; cases q; exact mu.elim
  · exact .inr h
section
variable {G : GC} {m m' : AM} {H H' : Hp}
mutual
theorem Rep.mon (S : ∀ a, m.has a → ∃ o, MutO o ∧ H a = some o) (e : Mon m H m' H') : ∀ (d : D) (v : V), Rep G m H d v → Rep G m' H' d v
  | .non, _, h => by unfold Rep at h ⊢; exact h
  | .bl _, _, h => by unfold Rep at h ⊢; exact h
  | .int _, _, h => by unfold Rep at h ⊢; exact h
  | .str _, _, h => by unfold Rep at h ⊢; exact h
  | .tup ds, v, h => by
    unfold Rep at h ⊢
    obtain ⟨a, xs, e1, hs, r⟩ := h
    exact ⟨a, xs, e1, SqT.mon S e hs, Reps.mon S e ds xs r⟩
  | .lst ds, v, h => by
    unfold Rep at h ⊢
    obtain ⟨a, xs, e1, n, hs, r⟩ := h
    obtain ⟨q1, q2⟩ := Rd.mon e hs n
    exact ⟨a, xs, e1, q2, q1, Reps.mon S e ds xs r⟩
  | .ref n, _, h => by
    unfold Rep at h ⊢
    obtain ⟨a, e1, h⟩ := h
    refine ⟨a, e1, ?_⟩
    have hn : n < m.l.length := by
      rcases h with h | h
      · exact (List.getElem?_eq_some_iff.mp h).1
      · exact (List.getElem?_eq_some_iff.mp h).1
    rcases e.pre n hn with q | q
    · rw [q]; exact h
    · exact .inr q
  | .gl _, _, h => by unfold Rep at h ⊢; exact h
  | .ty _, _, h => by unfold Rep at h ⊢; exact h
  | .dcv ks ds, v, h => by
    unfold Rep at h ⊢
    obtain ⟨a, xs, od, e1, n, hs, hl, r⟩ := h
    obtain ⟨q1, q2⟩ := e.keep _ _ hs n
    exact ⟨a, xs, od, e1, q2, q1, hl, Reps.mon S e ds xs r⟩
  | .exv x f d, v, h => by
    unfold Rep at h ⊢
    obtain ⟨a, dd, C, fs, w, e1, hx, hf, hd, hl, r⟩ := h
    refine ⟨a, dd, C, fs, w, e1, hx, hf, (e.keep _ _ hd fun z => ?_).1, hl, Rep.mon S e d w r⟩
    obtain ⟨o, mu, q⟩ := S dd z
    rw [hd] at q; cases q; exact mu.elim
  | .scr _, _, h => by
    unfold Rep at h ⊢
    obtain ⟨a, e1, h⟩ := h
    rcases h with ⟨n, h⟩ | h
    · exact ⟨a, e1, .inl ⟨(Rd.mon e h n).2, (Rd.mon e h n).1⟩⟩
    · exact ⟨a, e1, .inr h⟩
theorem Reps.mon (S : ∀ a, m.has a → ∃ o, MutO o ∧ H a = some o) (e : Mon m H m' H') : ∀ (ds : List D) (vs : List V), Reps G m H ds vs → Reps G m' H' ds vs
  | [], _, h => by unfold Reps at h ⊢; exact h
  | d :: ds, vs, h => by
    unfold Reps at h ⊢
    obtain ⟨w, ws, e1, r1, r2⟩ := h
    exact ⟨w, ws, e1, Rep.mon S e d w r1, Reps.mon S e ds ws r2⟩
end
theorem SqT.ext (S : ∀ a, m.has a → ∃ o, MutO o ∧ H a = some o) (e : Ext m H m' H') {a : Addr} {xs : List V} (h : SqT G.K H a xs) : SqT G.K H' a xs := SqT.mon S e.mon h
theorem Rep.ext (S : ∀ a, m.has a → ∃ o, MutO o ∧ H a = some o) (e : Ext m H m' H') (d : D) (v : V) (h : Rep G m H d v) : Rep G m' H' d v := Rep.mon S e.mon d v h
theorem Reps.ext (S : ∀ a, m.has a → ∃ o, MutO o ∧ H a = some o) (e : Ext m H m' H') (ds : List D) (vs : List V) (h : Reps G m H ds vs) : Reps G m' H' ds vs := Reps.mon S e.mon ds vs h
mutual
theorem Rep.flat : ∀ (d : D) (v : V), noLst d = true → Rep G m H d v → Rep G m' H d v
  | .non, _, _, h => by unfold Rep at h ⊢; exact h
  | .bl _, _, _, h => by unfold Rep at h ⊢; exact h
  | .int _, _, _, h => by unfold Rep at h ⊢; exact h
  | .str _, _, _, h => by unfold Rep at h ⊢; exact h
  | .tup ds, v, n, h => by
    unfold Rep at h ⊢
    obtain ⟨a, xs, e1, hs, r⟩ := h
    exact ⟨a, xs, e1, hs, Reps.flat ds xs (by unfold noLst at n; exact n) r⟩
  | .lst ds, v, n, h => by unfold noLst at n; cases n
  | .ref n, _, n', h => by unfold noLst at n'; cases n'
  | .gl _, _, _, h => by unfold Rep at h ⊢; exact h
  | .ty _, _, _, h => by unfold Rep at h ⊢; exact h
  | .scr _, _, n, h => by unfold noLst at n; cases n
  | .dcv _ _, _, n, h => by unfold noLst at n; cases n
  | .exv _ _ _, _, n, h => by unfold noLst at n; cases n
theorem Reps.flat : ∀ (ds : List D) (vs : List V), noLsts ds = true → Reps G m H ds vs → Reps G m' H ds vs
  | [], _, _, h => by unfold Reps at h ⊢; exact h
  | d :: ds, vs, n, h => by
    unfold noLsts at n
    obtain ⟨n1, n2⟩ := Bool.and_eq_true_iff.mp n
    unfold Reps at h ⊢
    obtain ⟨w, ws, e1, r1, r2⟩ := h
    exact ⟨w, ws, e1, Rep.flat d w n1 r1, Reps.flat ds ws n2 r2⟩
end
mutual
/-- what bears no number of the store stands over the older store too -/
theorem Rep.back (hm : ∀ a : Addr, m.has a → m'.has a) : ∀ (d : D) (v : V), noRef d = true → Rep G m' H d v → Rep G m H d v
  | .non, _, _, h => by unfold Rep at h ⊢; exact h
  | .bl _, _, _, h => by unfold Rep at h ⊢; exact h
  | .int _, _, _, h => by unfold Rep at h ⊢; exact h
  | .str _, _, _, h => by unfold Rep at h ⊢; exact h
  | .tup ds, v, n, h => by
    unfold Rep at h ⊢
    obtain ⟨a, xs, e1, hs, r⟩ := h
    exact ⟨a, xs, e1, hs, Reps.back hm ds xs (by unfold noRef at n; exact n) r⟩
  | .lst ds, v, n, h => by
    unfold Rep at h ⊢
    obtain ⟨a, xs, e1, nm, hs, r⟩ := h
    exact ⟨a, xs, e1, fun z => nm (hm a z), hs, Reps.back hm ds xs (by unfold noRef at n; exact n) r⟩
  | .ref n, _, n', h => by unfold noRef at n'; cases n'
  | .gl _, _, _, h => by unfold Rep at h ⊢; exact h
  | .ty _, _, _, h => by unfold Rep at h ⊢; exact h
  | .dcv ks ds, v, n, h => by
    unfold Rep at h ⊢
    obtain ⟨a, xs, od, e1, nm, hs, hl, r⟩ := h
    exact ⟨a, xs, od, e1, fun z => nm (hm a z), hs, hl, Reps.back hm ds xs (by unfold noRef at n; exact n) r⟩
  | .exv x f d, v, n, h => by
    unfold Rep at h ⊢
    obtain ⟨a, dd, C, fs, w, e1, hx, hf, hd, hl, r⟩ := h
    exact ⟨a, dd, C, fs, w, e1, hx, hf, hd, hl, Rep.back hm d w (by unfold noRef at n; exact n) r⟩
  | .scr _, _, n, h => by
    unfold Rep at h ⊢
    obtain ⟨a, e1, h⟩ := h
    rcases h with ⟨n, h⟩ | h
    · exact ⟨a, e1, .inl ⟨fun z => n (hm a z), h⟩⟩
    · exact ⟨a, e1, .inr h⟩
theorem Reps.back (hm : ∀ a : Addr, m.has a → m'.has a) : ∀ (ds : List D) (vs : List V), noRefs ds = true → Reps G m' H ds vs → Reps G m H ds vs
  | [], _, _, h => by unfold Reps at h ⊢; exact h
  | d :: ds, vs, n, h => by
    unfold noRefs at n
    obtain ⟨n1, n2⟩ := Bool.and_eq_true_iff.mp n
    unfold Reps at h ⊢
    obtain ⟨w, ws, e1, r1, r2⟩ := h
    exact ⟨w, ws, e1, Rep.back hm d w n1 r1, Reps.back hm ds ws n2 r2⟩
end
theorem Reps.length : ∀ {ds : List D} {vs : List V}, Reps G m H ds vs → ds.length = vs.length
  | [], vs, h => by unfold Reps at h; rw [h]; rfl
  | d :: ds, vs, h => by
    unfold Reps at h
    obtain ⟨w, ws, e1, r1, r2⟩ := h
    rw [e1, List.length_cons, List.length_cons, Reps.length r2]
theorem Reps.get : ∀ {ds : List D} {vs : List V} {i : Nat} {d : D}, Reps G m H ds vs → ds[i]? = some d → ∃ v, vs[i]? = some v ∧ Rep G m H d v
  | [], _, _, _, _, e => by simp at e
  | d :: ds, vs, 0, d', h, e => by
    unfold Reps at h
    obtain ⟨w, ws, e1, r1, r2⟩ := h
    have e2 : d = d' := by simpa using e
    subst e2
    exact ⟨w, by rw [e1]; rfl, r1⟩
  | d :: ds, vs, i + 1, d', h, e => by
    unfold Reps at h
    obtain ⟨w, ws, e1, r1, r2⟩ := h
    obtain ⟨v, q1, q2⟩ := Reps.get (i := i) r2 (by simpa using e)
    exact ⟨v, by rw [e1]; simpa using q1, q2⟩
theorem Reps.nil : Reps G m H [] [] := by unfold Reps; rfl
theorem Reps.cons {d : D} {v : V} {ds : List D} {vs : List V} (h : Rep G m H d v) (t : Reps G m H ds vs) : Reps G m H (d :: ds) (v :: vs) := by
  unfold Reps; exact ⟨v, vs, rfl, h, t⟩
theorem Reps.uncons {d : D} {ds : List D} {vs : List V} (h : Reps G m H (d :: ds) vs) : ∃ w ws, vs = w :: ws ∧ Rep G m H d w ∧ Reps G m H ds ws := by
  unfold Reps at h; exact h
theorem Reps.isnil {vs : List V} (h : Reps G m H [] vs) : vs = [] := by unfold Reps at h; exact h
theorem Reps.append : ∀ {ds es : List D} {vs ws : List V}, Reps G m H ds vs → Reps G m H es ws → Reps G m H (ds ++ es) (vs ++ ws)
  | [], _, _, _, h, k => by rw [h.isnil]; exact k
  | d :: ds, es, vs, ws, h, k => by
    obtain ⟨w, us, e1, r1, r2⟩ := h.uncons
    rw [e1]
    exact .cons r1 (Reps.append r2 k)
theorem Reps.take : ∀ {ds : List D} {vs : List V} (n : Nat), Reps G m H ds vs → Reps G m H (ds.take n) (vs.take n)
  | _, _, 0, _ => by simpa using Reps.nil
  | [], _, _ + 1, h => by rw [h.isnil]; exact Reps.nil
  | d :: ds, vs, n + 1, h => by
    obtain ⟨w, us, e1, r1, r2⟩ := h.uncons
    rw [e1]
    exact .cons r1 (Reps.take n r2)
theorem Reps.drop : ∀ {ds : List D} {vs : List V} (n : Nat), Reps G m H ds vs → Reps G m H (ds.drop n) (vs.drop n)
  | _, _, 0, h => h
  | [], _, _ + 1, h => by rw [h.isnil]; exact Reps.nil
  | d :: ds, vs, n + 1, h => by
    obtain ⟨w, us, e1, r1, r2⟩ := h.uncons
    rw [e1]
    exact Reps.drop n r2
theorem Reps.set : ∀ {ds : List D} {vs : List V} {d : D} {v : V} (i : Nat), Reps G m H ds vs → Rep G m H d v → Reps G m H (ds.set i d) (vs.set i v)
  | [], _, _, _, _, h, _ => by rw [h.isnil]; exact Reps.nil
  | d :: ds, vs, _, _, 0, h, k => by
    obtain ⟨w, us, e1, r1, r2⟩ := h.uncons
    rw [e1]
    exact .cons k r2
  | d :: ds, vs, _, _, n + 1, h, k => by
    obtain ⟨w, us, e1, r1, r2⟩ := h.uncons
    rw [e1]
    exact .cons r1 (Reps.set n r2 k)
theorem reps_ints : ∀ (ns : List Int), Reps G m H (ns.map D.int) (ns.map V.int)
  | [] => .nil
  | n :: ns => .cons (by unfold Rep; rfl) (reps_ints ns)
end
/-- the state -/
structure SR (G : GC) (ρ : Env) (μ : Store) (m : AM) (σ : St) (H : Hp) : Prop where
  len : ρ.length = σ.length
  env : ∀ (i : Nat) (d : D), ρ[i]? = some (some d) → ∃ v, σ[i]? = some (some v) ∧ Rep G m H d v
  st : StOk G μ m H
section
variable {G : GC} {ρ : Env} {μ μ' : Store} {m m' : AM} {σ : St} {H H' : Hp}
theorem SR.ext (S : SR G ρ μ m σ H) (e : Ext m H m' H') (st : StOk G μ' m' H') : SR G ρ μ' m' σ H' :=
  ⟨S.len, fun i d h => by
    obtain ⟨v, h1, h2⟩ := S.env i d h
    exact ⟨v, h1, Rep.ext S.st.live e d v h2⟩, st⟩
/-- a new tracked object leaves the store as it is -/
theorem StOk.ext0 (S : StOk G μ m H) (e : Ext m H m H') (k : ∀ a, m.has a → H' a = H a) : StOk G μ m H' where
  len := S.len
  inj := S.inj
  apart := S.apart
  obj := fun n o ds h hd => by
    obtain ⟨h0, a, xs, h1, h2, h3⟩ := S.obj n o ds h hd
    exact ⟨h0, a, xs, h1, by rw [k a (.inl (List.mem_of_getElem? h1))]; exact h2, Reps.ext S.live e ds xs h3⟩
  dead := S.dead
  live := fun a h => by
    obtain ⟨xs, mu, q⟩ := S.live a h
    exact ⟨xs, mu, by rw [k a h]; exact q⟩
theorem StOk.new (S : StOk G μ m H) {p : Addr} {o : HO} (h : H p = none) : StOk G μ m (upd H p o) :=
  S.ext0 (.new S.live h) fun a ha => by
    obtain ⟨xs, _, q⟩ := S.live a ha
    rw [upd_ne (ne_of_none q h)]
theorem SR.set (S : SR G ρ μ m σ H) {i : Nat} {d : D} {v : V} (hi : i < ρ.length) (r : Rep G m H d v) : SR G (ρ.set i (some d)) μ m (σ.set i (some v)) H where
  len := by rw [List.length_set, List.length_set]; exact S.len
  env := fun j e h => by
    by_cases hj : i = j
    · subst hj
      rw [List.getElem?_set_self hi] at h
      have e1 : d = e := by simpa using h
      subst e1
      exact ⟨v, by rw [List.getElem?_set_self (by rw [← S.len]; exact hi)], r⟩
    · rw [List.getElem?_set_ne hj] at h
      obtain ⟨w, h1, h2⟩ := S.env j e h
      exact ⟨w, by rw [List.getElem?_set_ne hj]; exact h1, h2⟩
  st := S.st
theorem SR.wipe (S : SR G ρ μ m σ H) : ∀ own : List Nat, SR G (wipeE ρ own) μ m (wipe σ own) H
  | [] => S
  | i :: is => by
    have ih := SR.wipe S is
    unfold wipeE L2.wipe
    refine ⟨by rw [List.length_set, List.length_set]; exact ih.len, fun j d h => ?_, ih.st⟩
    by_cases hj : i = j
    · subst hj
      by_cases hv : i < (wipeE ρ is).length
      · rw [List.getElem?_set_self hv] at h; cases h
      · rw [List.getElem?_eq_none (by simpa using hv)] at h; cases h
    · rw [List.getElem?_set_ne hj] at h
      obtain ⟨w, h1, h2⟩ := ih.env j d h
      exact ⟨w, by rw [List.getElem?_set_ne hj]; exact h1, h2⟩
end
end Ev
namespace Ev
open PySem PySem.Spec L2 Res
def ExK (G : GC) (W : WX) (m : AM) (H : Hp) (σ : St) : String → D → Store → Prop := fun x d μ' =>
  ∀ cls dd H' m', Ext m H m' H' → StOk G μ' m' H' → G.EA x d cls dd m' H' → W cls dd σ H'
theorem ExK.step {G : GC} {W : WX} {m m1 : AM} {H H1 : Hp} {σ : St} {x : String} {d : D} {μ' : Store} (h : ExK G W m H σ x d μ') (e : Ext m H m1 H1) : ExK G W m1 H1 σ x d μ' :=
  fun cls dd H' m' e' s ea => h cls dd H' m' (e.trans e') s ea
section
variable (G : GC) (W : WX) (cf : String → List D → Store → Res D)
def tE (c : CE) : TE := fun σ H Q => ∃ ρ μ m, SR G ρ μ m σ H ∧ Out (ev cf c ρ μ) (fun d μ' => ∀ v H' m', Ext m H m' H' → SR G ρ μ' m' σ H' → Rep G m' H' d v → Q v H') (ExK G W m H σ)
def tT (c : CE) : TT := fun σ H Q => ∃ ρ μ m, SR G ρ μ m σ H ∧ Out (evT cf c ρ μ) (fun b μ' => ∀ H' m', Ext m H m' H' → SR G ρ μ' m' σ H' → Q b H') (ExK G W m H σ)
def tA (cs : List CE) : TA := fun σ H Q => ∃ ρ μ m, SR G ρ μ m σ H ∧ Out (evs cf cs ρ μ) (fun ds μ' => ∀ vs H' m', Ext m H m' H' → SR G ρ μ' m' σ H' → Reps G m' H' ds vs → Q vs H') (ExK G W m H σ)
end
theorem pe_of {X : Cx} {e : Expr} {t t' : TE} (h : PE X e t) (k : ∀ σ H Q, t' σ H Q → t σ H Q) : PE X e t' := ⟨fun pins s σ H Q I q => h.run pins s σ H Q I (k σ H Q q)⟩
theorem pt_of {X : Cx} {e : Expr} {t t' : TT} (h : PT X e t) (k : ∀ σ H Q, t' σ H Q → t σ H Q) : PT X e t' := ⟨fun pins s σ H Q I q => h.run pins s σ H Q I (k σ H Q q)⟩
theorem pw_of {X : Cx} {e : Expr} {t t' : TT} (h : PW X e t) (k : ∀ σ H Q, t' σ H Q → t σ H Q) : PW X e t' := ⟨fun wh pins s σ H Q I q => h.run wh pins s σ H Q I (k σ H Q q)⟩
theorem pa_of {X : Cx} {es : List Expr} {t t' : TA} (h : PA X es t) (k : ∀ σ H Q, t' σ H Q → t σ H Q) : PA X es t' := ⟨fun pos pins s σ H Q I q => h.run pos pins s σ H Q I (k σ H Q q)⟩
section
variable {G : GC} {W : WX} {cf : String → List D → Store → Res D} {X : Cx} {ρ : Env} {μ : Store} {m m0 : AM} {σ : St} {H H0 : Hp}
variable {a b c e : Expr} {ca cb cc ce : CE} {pos : Pos}
theorem tE_sub {k : D → Store → Prop} {R : VK} (S : SR G ρ μ m σ H) (h : Out (ev cf ca ρ μ) k (ExK G W m0 H0 σ)) (e0 : Ext m0 H0 m H)
    (hk : ∀ d μ1 v H1 m1, k d μ1 → Ext m H m1 H1 → SR G ρ μ1 m1 σ H1 → Rep G m1 H1 d v → R v H1) : tE G W cf ca σ H R :=
  ⟨ρ, μ, m, S, h.mono (fun d μ1 q v H1 m1 e s r => hk d μ1 v H1 m1 q e s r) fun _ _ _ z => z.step e0⟩
theorem tA_sub {cs : List CE} {k : List D → Store → Prop} {R : List V → Hp → Prop} (S : SR G ρ μ m σ H) (h : Out (evs cf cs ρ μ) k (ExK G W m0 H0 σ)) (e0 : Ext m0 H0 m H)
    (hk : ∀ ds μ1 vs H1 m1, k ds μ1 → Ext m H m1 H1 → SR G ρ μ1 m1 σ H1 → Reps G m1 H1 ds vs → R vs H1) : tA G W cf cs σ H R :=
  ⟨ρ, μ, m, S, h.mono (fun d μ1 q v H1 m1 e s r => hk d μ1 v H1 m1 q e s r) fun _ _ _ z => z.step e0⟩
theorem tT_sub {k : Bool → Store → Prop} {R : Bool → Hp → Prop} (S : SR G ρ μ m σ H) (h : Out (evT cf ca ρ μ) k (ExK G W m0 H0 σ)) (e0 : Ext m0 H0 m H)
    (hk : ∀ t μ1 H1 m1, k t μ1 → Ext m H m1 H1 → SR G ρ μ1 m1 σ H1 → R t H1) : tT G W cf ca σ H R :=
  ⟨ρ, μ, m, S, h.mono (fun d μ1 q H1 m1 e s => hk d μ1 H1 m1 q e s) fun _ _ _ z => z.step e0⟩
theorem out_lift {α : Type} {o : Option α} {μ : Store} {k : α → Store → Prop} {e : String → D → Store → Prop} (h : Out (lift o μ) k e) : ∃ r, o = some r ∧ k r μ := by
  cases o with
  | none => exact h.elim
  | some r => exact ⟨r, rfl, h⟩
theorem out_noExc {α : Type} {r : Res α} {k : α → Store → Prop} {e : String → D → Store → Prop} (h : Out (noExc r) k e) : ∃ d μ, r = .ok d μ ∧ k d μ := by
  cases r with
  | ok d μ => exact ⟨d, μ, rfl, h⟩
  | exc x d μ => exact h.elim
  | stuck => exact h.elim
/-! ### names and constants -/
theorem se_var (i : Nat) {x : Str} {pos : Pos} (hN : X.N[i]? = some x := by rfl) (hv : Vis X.env.scope x := by first | exact Or.inl rfl | exact Or.inr (Or.inl rfl) | exact Or.inr (Or.inr rfl)) (hd : (x == ("__debug__" : Str)) = false := by decide)
    (hcd : (x == ("__classdict__" : Str)) = false := by decide) : PE X (.Name x pos) (tE G W cf (.var i)) :=
  pe_of (pe_var hN hv hd hcd) fun σ H Q ⟨ρ, μ, m, S, h⟩ => by
    unfold ev at h
    cases q : ρ[i]? with
    | none => rw [q] at h; exact h.elim
    | some o =>
      cases o with
      | none => rw [q] at h; exact h.elim
      | some d =>
        rw [q] at h
        obtain ⟨v, h1, h2⟩ := S.env i d q
        exact ⟨v, h1, h v H m (.refl _ _) S h2⟩
theorem se_lit {v : V} {d : D} (h : PE X e (tC v)) (r : ∀ m H, Rep G m H d v) : PE X e (tE G W cf (.lit d)) :=
  pe_of h fun σ H Q ⟨ρ, μ, m, S, k⟩ => by
    unfold ev at k
    exact k v H m (.refl _ _) S (r m H)
theorem se_int {i : Int} {j : Nat} {pos : Pos} : PE X (.Constant (.int i) j pos) (tE G W cf (.lit (.int i))) := se_lit pe_int fun _ _ => by unfold Rep; rfl
theorem se_bl {b : Bool} {j : Nat} {pos : Pos} : PE X (.Constant (.bool b) j pos) (tE G W cf (.lit (.bl b))) := se_lit pe_bl fun _ _ => by unfold Rep; rfl
theorem se_non {j : Nat} {pos : Pos} : PE X (.Constant .none j pos) (tE G W cf (.lit .non)) := se_lit pe_non fun _ _ => by unfold Rep; rfl
theorem se_str {x : Str} {s : List Nat} {j : Nat} {pos : Pos} (h : x = toS s) : PE X (.Constant (.str x) j pos) (tE G W cf (.lit (.str s))) := se_lit pe_str fun _ _ => by unfold Rep; rw [h]
theorem se_gstr {x : Str} {y : Str} {u : Tok} {s : List Nat} {pos : Pos} (hg : Gl X x) (hm : X.mg x = some (.str y u)) (h : y = toS s) (hd : (x == ("__debug__" : Str)) = false := by decide) : PE X (.Name x pos) (tE G W cf (.lit (.str s))) :=
  se_lit (pe_glob (v := .str y) hg hm ⟨_, rfl⟩ hd) fun _ _ => by unfold Rep; rw [h]
theorem se_gint {x : Str} {i : Int} {u : Tok} {pos : Pos} (hg : Gl X x) (hm : X.mg x = some (.int i u)) (hd : (x == ("__debug__" : Str)) = false := by decide) : PE X (.Name x pos) (tE G W cf (.lit (.int i))) :=
  se_lit (pe_glob (v := .int i) hg hm ⟨_, rfl⟩ hd) fun _ _ => by unfold Rep; rfl
theorem se_ty {x : Str} {n : String} {pos : Pos} (hg : Gl X x) (hm : X.mg x = none) (hv : bootBuiltins x = some (.type n)) (hn : x ≠ "__name__" := by decide) (hd : (x == ("__debug__" : Str)) = false := by decide) : PE X (.Name x pos) (tE G W cf (.lit (.ty n))) :=
  se_lit (pe_bltn (v := .ty n) hg hm hv rfl hn hd) fun _ _ => by unfold Rep; rfl
/-! ### operators -/
/-- what is asked of an operator that reads -/
def r1 (G : GC) (f : Store → D → Option D) : V → Hp → VK → Prop := fun x H Q => ∃ d μ m r, StOk G μ m H ∧ Rep G m H d x ∧ f μ d = some r ∧ ∀ v H', Ext m H m H' → StOk G μ m H' → Rep G m H' r v → Q v H'
def r2 (G : GC) (f : Store → D → D → Option D) : R2 := fun x y H Q => ∃ d e μ m r, StOk G μ m H ∧ Rep G m H d x ∧ Rep G m H e y ∧ f μ d e = some r ∧ ∀ v H', Ext m H m H' → StOk G μ m H' → Rep G m H' r v → Q v H'
def rN (G : GC) (f : Store → List D → Option D) : List V → Hp → VK → Prop := fun xs H Q => ∃ ds μ m r, StOk G μ m H ∧ Reps G m H ds xs ∧ f μ ds = some r ∧ ∀ v H', Ext m H m H' → StOk G μ m H' → Rep G m H' r v → Q v H'
def rM (G : GC) (f : List D → Store → Res D) : List V → Hp → VK → Prop := fun xs H Q => ∃ ds μ m r μ', StOk G μ m H ∧ Reps G m H ds xs ∧ f ds μ = .ok r μ' ∧ ∀ v H' m', Ext m H m' H' → StOk G μ' m' H' → Rep G m' H' r v → Q v H'
theorem se_un {op : UnaryOp} {f : Store → D → Option D} (ho : UnR X (unaryOp op) (r1 G f)) (ha : PE X a (tE G W cf ca)) : PE X (.UnaryOp op a pos) (tE G W cf (.op1 f ca)) :=
  pe_of (pe_un ho ha) fun σ H Q ⟨ρ, μ, m, S, h⟩ => by
    unfold ev at h
    refine tE_sub S h.bind (.refl _ _) fun d μ1 v H1 m1 q e1 s1 rv => ?_
    obtain ⟨r, hr, q⟩ := out_lift q
    exact ⟨d, μ1, m1, r, s1.st, rv, hr, fun w H2 e2 st2 rw' => q w H2 m1 (e1.trans e2) (s1.ext e2 st2) rw'⟩
theorem tE_two {f : Store → D → D → Option D} {Q : VK} (S : SR G ρ μ m σ H) (h : Out (ev cf (.op2 f ca cb) ρ μ) (fun d μ' => ∀ v H' m', Ext m H m' H' → SR G ρ μ' m' σ H' → Rep G m' H' d v → Q v H') (ExK G W m H σ)) : tOp (r2 G f) (tE G W cf ca) (tE G W cf cb) σ H Q := by
  unfold ev at h
  refine tE_sub S h.bind (.refl _ _) fun d μ1 v H1 m1 q e1 s1 rv => ?_
  refine tE_sub s1 q.bind e1 fun d2 μ2 v2 H2 m2 q e2 s2 rv2 => ?_
  obtain ⟨r, hr, q⟩ := out_lift q
  exact ⟨d, d2, μ2, m2, r, s2.st, Rep.ext s1.st.live e2 _ _ rv, rv2, hr, fun w H3 e3 st3 rw' => q w H3 m2 ((e1.trans e2).trans e3) (s2.ext e3 st3) rw'⟩
theorem se_bin {op : Operator} {f : Store → D → D → Option D} (ho : OpR X (binaryOp op) (r2 G f)) (ha : PE X a (tE G W cf ca)) (hb : PE X b (tE G W cf cb)) : PE X (.BinOp a op b pos) (tE G W cf (.op2 f ca cb)) :=
  pe_of (pe_op ho ha hb) fun σ H Q ⟨ρ, μ, m, S, h⟩ => tE_two S h
theorem se_cmp {op : CmpOp} {f : Store → D → D → Option D} (ho : OpR X (compareOp op) (r2 G f)) (ha : PE X a (tE G W cf ca)) (hb : PE X b (tE G W cf cb)) (hm : behindInMarks op b = false) : PE X (.Compare a [op] [b] pos) (tE G W cf (.op2 f ca cb)) :=
  pe_of (pe_cmpR ho ha hb hm) fun σ H Q ⟨ρ, μ, m, S, h⟩ => tE_two S h
theorem se_ix {f : Store → D → D → Option D} (ho : IxR X (r2 G f)) (ha : PE X a (tE G W cf ca)) (hb : PE X b (tE G W cf cb)) (hs : PlainIx b) : PE X (.Subscript a b pos) (tE G W cf (.op2 f ca cb)) :=
  pe_of (pe_ix ho ha hb hs) fun σ H Q ⟨ρ, μ, m, S, h⟩ => tE_two S h
theorem se_chain {op op' : CmpOp} {f g : Store → D → D → Option D} (ho : OpR X (compareOp op) (r2 G f)) (ho' : OpR X (compareOp op') (r2 G g)) (ha : PE X a (tE G W cf ca)) (hb : PE X b (tE G W cf cb)) (hc : PE X c (tE G W cf cc))
    (h1 : lastMarks [op, op'] [b, c] = false := by rfl) : PE X (.Compare a [op, op'] [b, c] pos) (tE G W cf (.chain f g ca cb cc)) :=
  pe_of (pe_chain ho ho' ha hb hc h1) fun σ H Q ⟨ρ, μ, m, S, h⟩ => by
    unfold ev at h
    refine tE_sub S h.bind (.refl _ _) fun d μ1 v H1 m1 q e1 s1 rv => ?_
    refine tE_sub s1 q.bind e1 fun d2 μ2 v2 H2 m2 q e2 s2 rv2 => ?_
    obtain ⟨r, hr, q⟩ := out_lift q.bind
    refine ⟨d, d2, μ2, m2, r, s2.st, Rep.ext s1.st.live e2 _ _ rv, rv2, hr, fun w H3 e3 st3 rw' => ?_⟩
    have s3 := s2.ext e3 st3
    have e03 := (e1.trans e2).trans e3
    cases r with
    | bl t =>
      unfold Rep at rw'
      refine ⟨t, rw', ?_⟩
      cases t with
      | false =>
        rw [if_neg Bool.false_ne_true]
        exact q (.bl false) H3 m2 e03 s3 (by unfold Rep; rfl)
      | true =>
        rw [if_pos rfl]
        refine tE_sub s3 q.bind e03 fun d4 μ4 v4 H4 m4 q e4 s4 rv4 => ?_
        obtain ⟨r, hr, q⟩ := out_lift q
        exact ⟨d2, d4, μ4, m4, r, s4.st, Rep.ext s2.st.live (e3.trans e4) _ _ rv2, rv4, hr, fun w H5 e5 st5 rw' => q w H5 m4 ((e03.trans e4).trans e5) (s4.ext e5 st5) rw'⟩
    | _ => exact q.elim
/-! ### argument lists -/
theorem sa_nil : PA X [] (tA G W cf []) := pa_of pa_nil fun σ H Q ⟨ρ, μ, m, S, h⟩ => by
  unfold evs at h
  exact h [] H m (.refl _ _) S .nil
theorem sa_cons {es : List Expr} {cs : List CE} (ha : PE X e (tE G W cf ce)) (hr : PA X es (tA G W cf cs)) (hs : starEach (e :: es) X.env = (false, eval e X.env) :: starEach es X.env := by rfl) : PA X (e :: es) (tA G W cf (ce :: cs)) :=
  pa_of (pa_cons ha hr hs) fun σ H Q ⟨ρ, μ, m, S, h⟩ => by
    unfold evs at h
    refine tE_sub S h.bind (.refl _ _) fun d μ1 v H1 m1 q e1 s1 rv => ?_
    refine tA_sub s1 q.bind e1 fun ds μ2 vs H2 m2 q e2 s2 rvs => ?_
    exact q (v :: vs) H2 m2 (e1.trans e2) s2 (.cons (Rep.ext s1.st.live e2 _ _ rv) rvs)
theorem se_tup {es : List Expr} {cs : List CE} {k : Nat} (h : PA X es (tA G W cf cs)) : PE X (.Tuple es k pos) (tE G W cf (.tup cs)) :=
  pe_of (pe_tup h) fun σ H Q ⟨ρ, μ, m, S, h⟩ => by
    unfold ev at h
    refine tA_sub S h.bind (.refl _ _) fun ds μ1 vs H1 m1 q e1 s1 rv => ?_
    by_cases hl : ds.length ≤ cap
    · rw [if_pos hl] at q
      have hl' : vs.length ≤ cap := by rw [← rv.length]; exact hl
      refine ⟨Nat.le_trans hl' (by decide), fun p np => ?_⟩
      exact q (.ref p) _ m1 (e1.trans (.new s1.st.live np)) (s1.ext (.new s1.st.live np) (s1.st.new np)) (by
        unfold Rep
        exact ⟨p, vs, rfl, .inl (.inl upd_same), Reps.ext s1.st.live (.new s1.st.live np) _ _ rv⟩)
    · rw [if_neg hl] at q; exact q.elim
/-- a list that was just laid, taken into the store or held by value -/
theorem mkL_new {M : Bool} {ds : List D} {vs : List V} {m1 : AM} {H1 : Hp} {μ1 : Store} {p : Addr} {k : D → Store → Prop} {ee : String → D → Store → Prop} (h : Out (mkL M ds μ1) k ee) (e : Ext m H m1 H1) (st : StOk G μ1 m1 H1)
    (np : H p = none) (hp : H1 p = some (.lst vs)) (nm : ¬ m1.has p) (r : Reps G m1 H1 ds vs) : ∃ d μ2 m2, k d μ2 ∧ Ext m H m2 H1 ∧ Rep G m2 H1 d (.ref p) ∧ StOk G μ2 m2 H1 := by
  unfold mkL at h
  by_cases hl : ds.length ≤ cap
  · rw [if_pos hl] at h
    cases M with
    | false =>
      rw [if_neg Bool.false_ne_true] at h
      exact ⟨_, _, m1, h, e, by unfold Rep; exact ⟨p, vs, rfl, nm, .inl hp, r⟩, st⟩
    | true =>
      rw [if_pos rfl] at h
      by_cases hn : noLsts ds = true
      · rw [if_pos hn] at h
        have hlen := st.len
        have old : ∀ {i : Nat} {o : Option Addr}, m1.l[i]? = some o → (m1.l ++ [some p])[i]? = some o := fun {i o} q => by
          rw [List.getElem?_append_left (List.getElem?_eq_some_iff.mp q).1]; exact q
        have cases' : ∀ {i : Nat} {o : Option Addr}, (m1.l ++ [some p])[i]? = some o → m1.l[i]? = some o ∨ (i = m1.l.length ∧ o = some p) := fun {i o} q => by
          by_cases hi : i < m1.l.length
          · rw [List.getElem?_append_left hi] at q; exact .inl q
          · rw [List.getElem?_append_right (by omega)] at q
            have hz : i - m1.l.length = 0 := by
              have := (List.getElem?_eq_some_iff.mp q).1
              simp at this; omega
            rw [hz] at q
            exact .inr ⟨by omega, by simpa using q.symm⟩
        have memm : ∀ {a : Addr}, some a ∈ m1.l ++ [some p] → some a ∈ m1.l ∨ a = p := fun {a} z => by
          rcases List.mem_append.mp z with q | q
          · exact .inl q
          · exact .inr (by simpa using q)
        refine ⟨_, _, ⟨m1.l ++ [some p], m1.x⟩, h, ⟨by simp; have := e.len; omega, fun i hi => ?_, fun a ha hna => ?_, e.keep, e.xeq, e.keepx⟩, ?_, ⟨by simp [hlen], fun i j a h1 h2 => ?_, fun a h1 h2 => ?_, fun n o es h1 h1d => ?_, fun n h1 => ?_, fun a ha => ?_⟩⟩
        · show (m1.l ++ [some p])[i]? = _ ∨ (m1.l ++ [some p])[i]? = _
          rw [List.getElem?_append_left (Nat.lt_of_lt_of_le hi e.len)]
          exact e.pre i hi
        · rcases ha with ha | ha
          · rcases memm ha with q | q
            · exact e.fresh a (.inl q) hna
            · rw [q]; exact np
          · exact e.fresh a (.inr ha) hna
        · unfold Rep
          exact ⟨p, rfl, .inl (by show (m1.l ++ [some p])[μ1.length]? = _; rw [← hlen, List.getElem?_append_right (Nat.le_refl _)]; simp)⟩
        · rcases cases' h1 with q1 | ⟨q1, q1'⟩ <;> rcases cases' h2 with q2 | ⟨q2, q2'⟩
          · exact st.inj i j a q1 q2
          · cases q2'; exact absurd (.inl (List.mem_of_getElem? q1)) nm
          · cases q1'; exact absurd (.inl (List.mem_of_getElem? q2)) nm
          · omega
        · rcases memm h1 with q | q
          · exact st.apart a q h2
          · rw [q] at h2; exact nm (.inr h2)
        · by_cases hi : n < μ1.length
          · rw [List.getElem?_append_left hi] at h1
            obtain ⟨h0, a, xs, q1, q2, q3⟩ := st.obj n o es h1 h1d
            exact ⟨h0, a, xs, old q1, q2, Reps.flat _ _ h0 q3⟩
          · rw [List.getElem?_append_right (by omega)] at h1
            have hz : n - μ1.length = 0 := by
              have := (List.getElem?_eq_some_iff.mp h1).1
              simp at this; omega
            rw [hz] at h1
            have e0 : MO.lst ds = o := by simpa using h1
            subst e0
            have e1 : ds = es := Option.some.inj h1d
            subst e1
            exact ⟨hn, p, vs, by show (m1.l ++ [some p])[n]? = _; rw [List.getElem?_append_right (by omega)]; simp [show n - m1.l.length = 0 by omega], hp, Reps.flat _ _ hn r⟩
        · by_cases hi : n < μ1.length
          · rw [List.getElem?_append_left hi] at h1
            exact old (st.dead n h1)
          · rw [List.getElem?_append_right (by omega)] at h1
            have hz : n - μ1.length = 0 := by
              have := (List.getElem?_eq_some_iff.mp h1).1
              simp at this; omega
            rw [hz] at h1
            simp at h1
        · rcases ha with ha | ha
          · rcases memm ha with q | q
            · exact st.live a (.inl q)
            · rw [q]; exact ⟨.lst vs, trivial, hp⟩
          · exact st.live a (.inr ha)
      · rw [if_neg hn] at h; exact h.elim
  · rw [if_neg hl] at h; exact h.elim
theorem se_lst {M : Bool} {es : List Expr} {cs : List CE} (h : PA X es (tA G W cf cs)) : PE X (.List es pos) (tE G W cf (.lst M cs)) :=
  pe_of (pe_lst h) fun σ H Q ⟨ρ, μ, m, S, h⟩ => by
    unfold ev at h
    refine tA_sub S h.bind (.refl _ _) fun ds μ1 vs H1 m1 q e1 s1 rv => ?_
    have hl : ds.length ≤ cap := by
      unfold mkL at q
      by_cases hl : ds.length ≤ cap
      · exact hl
      · rw [if_neg hl] at q; exact q.elim
    refine ⟨Nat.le_trans (by rw [← rv.length]; exact hl) (by decide : cap ≤ sizeLine), fun p np => ?_⟩
    have e2 : Ext m1 H1 m1 (upd H1 p (.lst vs)) := .new s1.st.live np
    have nm : ¬ m1.has p := fun z => by
      obtain ⟨xs, _, q⟩ := s1.st.live p z
      rw [np] at q; cases q
    obtain ⟨d, μ2, m2, k, e3, r, st⟩ := mkL_new q e2 (s1.st.new np) np upd_same nm (Reps.ext s1.st.live e2 _ _ rv)
    exact k (.ref p) _ m2 (e1.trans e3) (s1.ext e3 st) r
/-! ### a list of the store is held by value from here on -/
end
end Ev
namespace Ev
open PySem PySem.Spec L2 Res
section
variable {G : GC} {W : WX} {cf : String → List D → Store → Res D} {X : Cx} {ρ : Env} {μ : Store} {m m0 : AM} {σ : St} {H H0 : Hp}
variable {a b c e : Expr} {ca cb cc ce : CE} {pos : Pos}
/-! ### truth -/
theorem truth_ok (hK : X.K = G.K) {d : D} {v : V} {t : Bool} (st : StOk G μ m H) (r : Rep G m H d v) (h : truth μ d = some t) : TruV X.K v H t := by
  cases d with
  | non => unfold Rep at r; subst r; simp only [truth, Option.some.injEq] at h; subst h; rfl
  | bl b => unfold Rep at r; subst r; simp only [truth, Option.some.injEq] at h; subst h; rfl
  | int i => unfold Rep at r; subst r; simp only [truth, Option.some.injEq] at h; subst h; rfl
  | str s =>
    unfold Rep at r; subst r
    simp only [truth] at h
    have hl : (toS s).length = s.length := by simp [toS, Str.length]
    by_cases h1 : s.length ≤ cap
    · rw [if_pos h1] at h
      simp only [Option.some.injEq] at h
      subst h
      refine ⟨?_, ?_⟩
      · show (toS s).length ≤ sizeLine
        rw [hl]; exact Nat.le_trans h1 (by decide)
      · rw [hl]
        cases s <;> rfl
    · rw [if_neg h1] at h; cases h
  | tup ds =>
    unfold Rep at r
    obtain ⟨p, xs, rfl, hs, rr⟩ := r
    simp only [truth, Option.some.injEq] at h
    subst h
    refine .inr (.inl ⟨xs, by rw [hK]; exact hs, ?_⟩)
    have := rr.length
    cases ds <;> cases xs <;> simp_all
  | lst ds =>
    unfold Rep at r
    obtain ⟨p, xs, rfl, nm, hs, rr⟩ := r
    simp only [truth, Option.some.injEq] at h
    subst h
    refine .inl ⟨xs, .inl hs, ?_⟩
    have := rr.length
    cases ds <;> cases xs <;> simp_all
  | ref n =>
    unfold Rep at r
    obtain ⟨p, rfl, hp⟩ := r
    simp only [truth] at h
    cases q : μ[n]? with
    | none => rw [q] at h; cases h
    | some o =>
      rw [q] at h
      cases o with
      | dead => cases h
      | dct _ => cases h
      | lst ds =>
        obtain ⟨h0, p', xs, q1, q2, q3⟩ := st.lst n ds q
        have e1 : p' = p := by
          rw [q1] at hp
          rcases hp with hp | hp
          · simpa using hp
          · simp at hp
        subst e1
        simp only [Option.some.injEq] at h
        subst h
        refine .inl ⟨xs, .of q2, ?_⟩
        have := q3.length
        cases ds <;> cases xs <;> simp_all
  | gl x => simp only [truth] at h; cases h
  | ty n => simp only [truth] at h; cases h
  | scr n => simp only [truth] at h; cases h
  | dcv a b => simp only [truth] at h; cases h
  | exv a b c => simp only [truth] at h; cases h
theorem st_truth (hK : X.K = G.K) (ha : PE X a (tE G W cf ca)) (he : ∀ whole, isTrue a X.env whole = (do let v ← whole; standAt a.pos; holding [v] (truthy v))) : PT X a (tT G W cf ca) :=
  pt_of (pt_truth ha he) fun σ H Q ⟨ρ, μ, m, S, h⟩ => by
    unfold evT at h
    refine tE_sub S h.bind (.refl _ _) fun d μ1 v H1 m1 q e1 s1 rv => ?_
    obtain ⟨t, ht, q⟩ := out_lift q
    exact ⟨t, truth_ok hK s1.st rv ht, q H1 m1 e1 s1⟩
theorem st_cmp {op : CmpOp} {f : Store → D → D → Option D} (ho : OpR X (compareOp op) (r2 G f)) (hb' : ∀ μ x y r, f μ x y = some r → ∃ t, r = .bl t) (ha : PE X a (tE G W cf ca)) (hb : PE X b (tE G W cf cb)) (hm : behindInMarks op b = false) : PT X (.Compare a [op] [b] pos) (tT G W cf (.op2 f ca cb)) :=
  pt_of (pt_cmpR ho ha hb hm) fun σ H Q ⟨ρ, μ, m, S, h⟩ => by
    unfold evT ev at h
    rw [Res.bind_assoc] at h
    refine tE_sub S h.bind (.refl _ _) fun d μ1 v H1 m1 q e1 s1 rv => ?_
    rw [Res.bind_assoc] at q
    refine tE_sub s1 q.bind e1 fun d2 μ2 v2 H2 m2 q e2 s2 rv2 => ?_
    obtain ⟨r, hr, q⟩ := out_lift q.bind
    obtain ⟨t, rfl⟩ := hb' _ _ _ _ hr
    refine ⟨d, d2, μ2, m2, _, s2.st, Rep.ext s1.st.live e2 _ _ rv, rv2, hr, fun w H3 e3 st3 rw' => ?_⟩
    unfold Rep at rw'
    obtain ⟨t', ht, q⟩ := out_lift q
    simp [truth] at ht
    subst ht
    exact ⟨t, rw', q H3 m2 ((e1.trans e2).trans e3) (s2.ext e3 st3)⟩
theorem st_chain {op op' : CmpOp} {f g : Store → D → D → Option D} (ho : OpR X (compareOp op) (r2 G f)) (ho' : OpR X (compareOp op') (r2 G g)) (hf : ∀ μ x y r, f μ x y = some r → ∃ t, r = .bl t) (hg : ∀ μ x y r, g μ x y = some r → ∃ t, r = .bl t)
    (ha : PE X a (tE G W cf ca)) (hb : PE X b (tE G W cf cb)) (hc : PE X c (tE G W cf cc)) (h1 : lastMarks [op, op'] [b, c] = false := by rfl) : PT X (.Compare a [op, op'] [b, c] pos) (tT G W cf (.chain f g ca cb cc)) :=
  pt_of (pt_chain ho ho' ha hb hc h1) fun σ H Q ⟨ρ, μ, m, S, h⟩ => by
    unfold evT ev at h
    rw [Res.bind_assoc] at h
    refine tE_sub S h.bind (.refl _ _) fun d μ1 v H1 m1 q e1 s1 rv => ?_
    rw [Res.bind_assoc] at q
    refine tE_sub s1 q.bind e1 fun d2 μ2 v2 H2 m2 q e2 s2 rv2 => ?_
    rw [Res.bind_assoc] at q
    obtain ⟨r, hr, q⟩ := out_lift q.bind
    obtain ⟨t, rfl⟩ := hf _ _ _ _ hr
    refine ⟨d, d2, μ2, m2, _, s2.st, Rep.ext s1.st.live e2 _ _ rv, rv2, hr, fun w H3 e3 st3 rw' => ?_⟩
    have s3 := s2.ext e3 st3
    have e03 := (e1.trans e2).trans e3
    unfold Rep at rw'
    refine ⟨t, rw', ?_⟩
    cases t with
    | false =>
      rw [if_neg Bool.false_ne_true]
      simp only [bind_ok] at q
      obtain ⟨t', ht, q⟩ := out_lift q
      simp [truth] at ht
      subst ht
      exact ⟨false, rfl, q H3 m2 e03 s3⟩
    | true =>
      rw [if_pos rfl]
      simp only [Res.bind_assoc] at q
      refine tE_sub (ca := cc) s3 q.bind e03 fun d4 μ4 v4 H4 m4 q e4 s4 rv4 => ?_
      obtain ⟨r, hr, q⟩ := out_lift q.bind
      obtain ⟨t', rfl⟩ := hg _ _ _ _ hr
      obtain ⟨t', ht, q⟩ := out_lift q
      simp [truth] at ht
      subst ht
      refine ⟨d2, d4, μ4, m4, _, s4.st, Rep.ext s2.st.live (e3.trans e4) _ _ rv2, rv4, hr, fun w H5 e5 st5 rw' => ?_⟩
      unfold Rep at rw'
      exact ⟨_, rw', q H5 m4 ((e03.trans e4).trans e5) (s4.ext e5 st5)⟩
/-! ### not, and, or, if else -/
theorem st_not (ha : PT X a (tT G W cf ca)) : PT X (.UnaryOp .Not a pos) (tT G W cf (.not ca)) :=
  pt_of (pt_not ha) fun σ H Q ⟨ρ, μ, m, S, h⟩ => by
    unfold evT ev at h
    rw [Res.bind_assoc] at h
    simp only [Res.bind_assoc] at h
    refine tT_sub S (k := fun t μ1 => ∀ H' m', Ext m H m' H' → SR G ρ μ1 m' σ H' → Q (!t) H') ?_ (.refl _ _) fun t μ1 H1 m1 q e1 s1 => q H1 m1 e1 s1
    unfold evT
    revert h
    cases ev cf ca ρ μ with
    | ok d μ1 =>
      intro h
      simp only [bind_ok] at h ⊢
      cases q : truth μ1 d with
      | none => rw [q] at h; exact h.elim
      | some t =>
        rw [q] at h
        simp only [lift_some, bind_ok, truth] at h
        exact h
    | exc x d μ1 => intro h; exact h
    | stuck => intro h; exact h
theorem se_not (hK : X.K = G.K) (ha : PE X a (tE G W cf ca)) : PE X (.UnaryOp .Not a pos) (tE G W cf (.not ca)) :=
  pe_of (pe_notT ha) fun σ H Q ⟨ρ, μ, m, S, h⟩ => by
    unfold ev at h
    refine tE_sub S h.bind (.refl _ _) fun d μ1 v H1 m1 q e1 s1 rv => ?_
    obtain ⟨t, ht, q⟩ := out_lift q.bind
    exact ⟨t, truth_ok hK s1.st rv ht, q (.bl (!t)) H1 m1 e1 s1 (by unfold Rep; rfl)⟩
theorem se_one {op : BoolOp} (h : PE X a (tE G W cf ca)) : PE X (.BoolOp op [a] pos) (tE G W cf ca) := pe_one h
theorem se_and {rest : List Expr} (hK : X.K = G.K) (ha : PE X a (tE G W cf ca)) (hb : PE X (.BoolOp .And (b :: rest) pos) (tE G W cf cb)) : PE X (.BoolOp .And (a :: b :: rest) pos) (tE G W cf (.and ca cb)) :=
  pe_of (pe_andT ha hb) fun σ H Q ⟨ρ, μ, m, S, h⟩ => by
    unfold ev at h
    refine tE_sub S h.bind (.refl _ _) fun d μ1 v H1 m1 q e1 s1 rv => ?_
    obtain ⟨t, ht, q⟩ := out_lift q.bind
    refine ⟨t, truth_ok hK s1.st rv ht, ?_⟩
    cases t with
    | true =>
      rw [if_pos rfl]
      rw [if_pos rfl] at q
      exact tE_sub s1 q e1 fun d2 μ2 v2 H2 m2 q e2 s2 rv2 => q v2 H2 m2 (e1.trans e2) s2 rv2
    | false =>
      rw [if_neg Bool.false_ne_true]
      rw [if_neg Bool.false_ne_true] at q
      exact q v H1 m1 e1 s1 rv
theorem se_or {rest : List Expr} (hK : X.K = G.K) (ha : PE X a (tE G W cf ca)) (hb : PE X (.BoolOp .Or (b :: rest) pos) (tE G W cf cb)) : PE X (.BoolOp .Or (a :: b :: rest) pos) (tE G W cf (.or ca cb)) :=
  pe_of (pe_orT ha hb) fun σ H Q ⟨ρ, μ, m, S, h⟩ => by
    unfold ev at h
    refine tE_sub S h.bind (.refl _ _) fun d μ1 v H1 m1 q e1 s1 rv => ?_
    obtain ⟨t, ht, q⟩ := out_lift q.bind
    refine ⟨t, truth_ok hK s1.st rv ht, ?_⟩
    cases t with
    | false =>
      rw [if_neg Bool.false_ne_true]
      rw [if_neg Bool.false_ne_true] at q
      exact tE_sub s1 q e1 fun d2 μ2 v2 H2 m2 q e2 s2 rv2 => q v2 H2 m2 (e1.trans e2) s2 rv2
    | true =>
      rw [if_pos rfl]
      rw [if_pos rfl] at q
      exact q v H1 m1 e1 s1 rv
theorem sw_one_and (h : PT X a (tT G W cf ca)) : PW X (.BoolOp .And [a] pos) (tT G W cf ca) := pw_and1 h
theorem sw_one_or (h : PT X a (tT G W cf ca)) : PW X (.BoolOp .Or [a] pos) (tT G W cf ca) := pw_or1 h
theorem evT_and {k : Bool → Store → Prop} {ee : String → D → Store → Prop} (h : Out (evT cf (.and ca cb) ρ μ) k ee) : Out (evT cf ca ρ μ) (fun t μ1 => if t = true then Out (evT cf cb ρ μ1) k ee else k false μ1) ee := by
  unfold evT ev at h
  unfold evT
  simp only [Res.bind_assoc] at h
  revert h
  cases ev cf ca ρ μ with
  | ok d μ1 =>
    intro h
    simp only [bind_ok] at h ⊢
    cases q : truth μ1 d with
    | none => rw [q] at h; exact h.elim
    | some t =>
      rw [q] at h
      simp only [lift_some, bind_ok, Out_ok] at h ⊢
      cases t with
      | true => simpa using h
      | false =>
        simp only [Bool.false_eq_true, if_false, bind_ok, q, lift_some] at h
        exact h
  | exc x d μ1 => intro h; exact h
  | stuck => intro h; exact h
theorem evT_or {k : Bool → Store → Prop} {ee : String → D → Store → Prop} (h : Out (evT cf (.or ca cb) ρ μ) k ee) : Out (evT cf ca ρ μ) (fun t μ1 => if t = true then k true μ1 else Out (evT cf cb ρ μ1) k ee) ee := by
  unfold evT ev at h
  unfold evT
  simp only [Res.bind_assoc] at h
  revert h
  cases ev cf ca ρ μ with
  | ok d μ1 =>
    intro h
    simp only [bind_ok] at h ⊢
    cases q : truth μ1 d with
    | none => rw [q] at h; exact h.elim
    | some t =>
      rw [q] at h
      simp only [lift_some, bind_ok, Out_ok] at h ⊢
      cases t with
      | false => simpa using h
      | true =>
        simp only [if_true, bind_ok, q, lift_some] at h
        exact h
  | exc x d μ1 => intro h; exact h
  | stuck => intro h; exact h
theorem sw_and {rest : List Expr} (ha : PT X a (tT G W cf ca)) (hb : PW X (.BoolOp .And (b :: rest) pos) (tT G W cf cb)) : PW X (.BoolOp .And (a :: b :: rest) pos) (tT G W cf (.and ca cb)) :=
  pw_of (pw_and ha hb) fun σ H Q ⟨ρ, μ, m, S, h⟩ => tT_sub S (evT_and h) (.refl _ _) fun t μ1 H1 m1 q e1 s1 => by
    cases t with
    | true =>
      simp only [if_true] at q ⊢
      exact tT_sub s1 q e1 fun t2 μ2 H2 m2 q e2 s2 => q H2 m2 (e1.trans e2) s2
    | false =>
      simp only [Bool.false_eq_true, if_false] at q ⊢
      exact q H1 m1 e1 s1
theorem sw_or {rest : List Expr} (ha : PT X a (tT G W cf ca)) (hb : PW X (.BoolOp .Or (b :: rest) pos) (tT G W cf cb)) : PW X (.BoolOp .Or (a :: b :: rest) pos) (tT G W cf (.or ca cb)) :=
  pw_of (pw_or ha hb) fun σ H Q ⟨ρ, μ, m, S, h⟩ => tT_sub S (evT_or h) (.refl _ _) fun t μ1 H1 m1 q e1 s1 => by
    cases t with
    | false =>
      simp only [Bool.false_eq_true, if_false] at q ⊢
      exact tT_sub s1 q e1 fun t2 μ2 H2 m2 q e2 s2 => q H2 m2 (e1.trans e2) s2
    | true =>
      simp only [if_true] at q ⊢
      exact q H1 m1 e1 s1
theorem st_ite (hc : PT X c (tT G W cf cc)) (ha : PE X a (tE G W cf ca)) (hb : PE X b (tE G W cf cb)) : PE X (.IfExp c a b pos) (tE G W cf (.ite cc ca cb)) :=
  pe_of (pe_ifExp hc ha hb) fun σ H Q ⟨ρ, μ, m, S, h⟩ => by
    unfold ev at h
    have h' : Out ((evT cf cc ρ μ).bind fun t μ2 => if t = true then ev cf ca ρ μ2 else ev cf cb ρ μ2) (fun d μ' => ∀ v H' m', Ext m H m' H' → SR G ρ μ' m' σ H' → Rep G m' H' d v → Q v H') (ExK G W m H σ) := by
      unfold evT; rw [Res.bind_assoc]; exact h
    refine tT_sub S h'.bind (.refl _ _) fun t μ1 H1 m1 q e1 s1 => ?_
    cases t with
    | true =>
      simp only [if_true] at q ⊢
      exact tE_sub s1 q e1 fun d2 μ2 v2 H2 m2 q e2 s2 rv2 => q v2 H2 m2 (e1.trans e2) s2 rv2
    | false =>
      simp only [Bool.false_eq_true, if_false] at q ⊢
      exact tE_sub s1 q e1 fun d2 μ2 v2 H2 m2 q e2 s2 rv2 => q v2 H2 m2 (e1.trans e2) s2 rv2
/-! ### calls -/
variable {x : Str} {p apos : Pos} {id T : String} {es : List Expr} {cs : List CE} {name : Str} {o : Expr} {co : CE}
theorem se_blt {f : Store → List D → Option D} (hc : CallR X (.builtin id) (rN G f)) (hg : Gl X x) (hm : X.mg x = none) (hv : bootBuiltins x = some (.builtin id)) (ha : PA X (e :: es) (tA G W cf cs)) (hn : x ≠ "__name__" := by decide) (hdb : (x == ("__debug__" : Str)) = false := by decide)
    (he : starEach (e :: es) X.env = (false, eval e X.env) :: starEach es X.env := by rfl) (hpl : (backTo pos (starEach es X.env)).any (·.1) = false := by rfl) : PE X (.Call (.Name x p) (e :: es) [] pos) (tE G W cf (.opN f cs)) :=
  pe_of (pe_callB hc hg hm hv ha hn hdb he hpl) fun σ H Q ⟨ρ, μ, m, S, h⟩ => by
    unfold ev at h
    refine tA_sub S h.bind (.refl _ _) fun ds μ1 vs H1 m1 q e1 s1 rv => ?_
    obtain ⟨r, hr, q⟩ := out_lift q
    exact ⟨ds, μ1, m1, r, s1.st, rv, hr, fun w H2 e2 st2 rw' => q w H2 m1 (e1.trans e2) (s1.ext e2 st2) rw'⟩
theorem se_bty {f : Store → List D → Option D} (hc : CallR X (.type T) (rN G f)) (hg : Gl X x) (hm : X.mg x = none) (hv : bootBuiltins x = some (.type T)) (ha : PA X (e :: es) (tA G W cf cs)) (hn : x ≠ "__name__" := by decide) (hdb : (x == ("__debug__" : Str)) = false := by decide)
    (he : starEach (e :: es) X.env = (false, eval e X.env) :: starEach es X.env := by rfl) (hpl : (backTo pos (starEach es X.env)).any (·.1) = false := by rfl) : PE X (.Call (.Name x p) (e :: es) [] pos) (tE G W cf (.opN f cs)) :=
  pe_of (pe_callTy hc hg hm hv ha hn hdb he hpl) fun σ H Q ⟨ρ, μ, m, S, h⟩ => by
    unfold ev at h
    refine tA_sub S h.bind (.refl _ _) fun ds μ1 vs H1 m1 q e1 s1 rv => ?_
    obtain ⟨r, hr, q⟩ := out_lift q
    exact ⟨ds, μ1, m1, r, s1.st, rv, hr, fun w H2 e2 st2 rw' => q w H2 m1 (e1.trans e2) (s1.ext e2 st2) rw'⟩
end
end Ev
namespace Ev
open PySem PySem.Spec L2 Res
/-! ### what is walked: a list, a tuple, a text -/
inductive SK where
  | lst | tup | str
/-- the items of x, as they stand in H -/
def SrcV (K : PySem.W.Frag) (H : Hp) : SK → V → List V → Prop
  | .lst, .ref l, xs => SqL K H l xs
  | .tup, .ref l, xs => SqT K H l xs
  | .str, .str x, xs => xs = x.cps.toList.map fun c => V.str ⟨#[c]⟩
  | _, _, _ => False
/-- an iterator over it at turn i -/
def SubI : SK → Value → Addr → Nat → Heap → Prop
  | .lst, .ref l, it, i, h => h.IsListIter it l i
  | .tup, .ref l, it, i, h => h.IsTupleIter it l i
  | .str, .str x t, it, i, h => h.IsStrIter it (strIterType x) x t i
  | _, _, _, _, _ => False
/-- the new iterator's record -/
def begO : SK → Value → Obj
  | .lst, v => { cls := .type "list_iterator", data := .fields #[v, .int 0 0] }
  | .tup, v => { cls := .type "tuple_iterator", data := .fields #[v, .int 0 0] }
  | .str, .str x t => { cls := .type (strIterType x), data := .fields #[.str x t, .int 0 0] }
  | .str, v => { cls := .type "str_iterator", data := .fields #[v, .int 0 0] }
section
variable {X : Cx} {pins : List (Addr × Obj)} {σ : St} {H : Hp} {s : Shared}
theorem SrcV.inj (I : Inv X pins σ H s) {k : SK} {x : V} {xs ys : List V} (a : SrcV X.K H k x xs) (b : SrcV X.K H k x ys) : xs = ys := by
  cases k <;> cases x <;> first
    | exact I.list_inj a b
    | exact I.tuple_inj a b
    | exact (show xs = _ from a).trans (show ys = _ from b).symm
    | exact False.elim a
theorem SubI.obj {k : SK} {v : Value} {it : Addr} {i : Nat} {h : Heap} (a : SubI k v it i h) : ∃ o, h.get? it = some o ∧ ∀ w, o.data ≠ .cell w := by
  cases k <;> cases v <;> first
    | (obtain ⟨o, e, c, d⟩ := a; exact ⟨o, e, fun w z => by rw [d] at z; cases z⟩)
    | exact False.elim a
theorem SubI.at {k : SK} {v : Value} {it : Addr} {i : Nat} {h h' : Heap} (a : SubI k v it i h) (e : ∀ o, h.get? it = some o → h'.get? it = some o) : SubI k v it i h' := by
  cases k <;> cases v <;> first
    | (obtain ⟨o, q, r⟩ := a; exact ⟨o, e o q, r⟩)
    | exact False.elim a
theorem sub_draws (I : Inv X pins σ H s) (hc : X.calm = true) {k : SK} {x : V} {v : Value} {xs : List V} {it : Addr} {i : Nat} (rx : RelV x v) (a : SrcV X.K H k x xs) (b : SubI k v it i s.heap) (hn : H it = none) :
    ∃ (fp : List Addr) (P : Nat → Value → Prop) (St : Nat → Heap → Prop), Draws X.prog X.w X.A.in1 it fp xs.length P St ∧ St i s.heap ∧ it ∈ fp ∧ (∀ c ∈ fp, c = it ∨ v = .ref c) ∧
      (∀ j u, P j u → ∃ y, xs[j]? = some y ∧ RelV y u) ∧ ∀ j h, St j h → SubI k v it j h := by
  have hh : X.A.in1.handled = none := I.ok.hd hc
  cases k with
  | lst =>
    cases x <;> first | exact False.elim a | skip
    rename_i l
    cases rx
    obtain ⟨its, rv, p, hz⟩ := I.list a
    have hne : l ≠ it := fun z => by
      subst z
      obtain ⟨o, n, e1, e2, _, e3⟩ := p
      obtain ⟨o', q, _, d⟩ := b
      rw [e1] at q; cases q
      rw [d] at e3; cases e3
    refine ⟨[it, l], _, fun i h => h.IsListIter it l i ∧ h.IsList l its.toArray, by have := Draws.list (prog := X.prog) (w := X.w) hh it l hne its.toArray; rw [List.size_toArray, ← rv.length] at this; exact this, ⟨b, p.isList⟩, by simp, fun c hc => ?_, fun j u hu => ?_, fun j h st => st.1⟩
    · rcases List.mem_cons.mp hc with z | z
      · exact .inl z
      · have z' : c = l := by simpa using z
        subst z'
        exact .inr rfl
    · have hu' : its[j]? = some u := by simpa using hu
      have hl := (List.getElem?_eq_some_iff.mp hu').1
      rw [← rv.length] at hl
      obtain ⟨u', q1, q2⟩ := rv.get (List.getElem?_eq_getElem hl)
      rw [hu'] at q1; cases q1
      exact ⟨_, List.getElem?_eq_getElem hl, q2⟩
  | tup =>
    cases x <;> first | exact False.elim a | skip
    rename_i l
    cases rx
    obtain ⟨its, rv, p, hz⟩ := I.tuple a
    have hne : l ≠ it := fun z => by
      subst z
      obtain ⟨o, e1, e2, n, e3⟩ := p
      obtain ⟨o', q, _, d⟩ := b
      rw [e1] at q; cases q
      rw [d] at e3; cases e3
    refine ⟨[it, l], _, fun i h => h.IsTupleIter it l i ∧ h.IsTuple l its.toArray, by have := Draws.tuple (prog := X.prog) (w := X.w) hh it l hne its.toArray; rw [List.size_toArray, ← rv.length] at this; exact this, ⟨b, p⟩, by simp, fun c hc => ?_, fun j u hu => ?_, fun j h st => st.1⟩
    · rcases List.mem_cons.mp hc with z | z
      · exact .inl z
      · have z' : c = l := by simpa using z
        subst z'
        exact .inr rfl
    · have hu' : its[j]? = some u := by simpa using hu
      have hl := (List.getElem?_eq_some_iff.mp hu').1
      rw [← rv.length] at hl
      obtain ⟨u', q1, q2⟩ := rv.get (List.getElem?_eq_getElem hl)
      rw [hu'] at q1; cases q1
      exact ⟨_, List.getElem?_eq_getElem hl, q2⟩
  | str =>
    cases x <;> first | exact False.elim a | skip
    rename_i z
    obtain ⟨t, rfl⟩ := rx
    have a' : xs = z.cps.toList.map fun c => V.str ⟨#[c]⟩ := a
    subst a'
    refine ⟨[it], _, _, by rw [List.length_map, Array.length_toList]; exact Draws.text hh it z t, b, by simp, fun c hc => .inl (by simpa using hc), fun j u hu => ?_, fun j h st => st⟩
    obtain ⟨c, t', q1, rfl⟩ := hu
    exact ⟨V.str ⟨#[c]⟩, by rw [List.getElem?_map, Array.getElem?_toList, q1]; rfl, ⟨t', rfl⟩⟩
theorem begins_src (I : Inv X pins σ H s) {k : SK} {x : V} {v : Value} {xs : List V} (rx : RelV x v) (a : SrcV X.K H k x xs) : ∃ S : Heap → Prop, Begins v (begO k v) S ∧ S s.heap := by
  cases k with
  | lst =>
    cases x <;> first | exact False.elim a | skip
    cases rx
    obtain ⟨its, rv, p, hz⟩ := I.list a
    exact ⟨_, begins_list _ its.toArray, p.isList⟩
  | tup =>
    cases x <;> first | exact False.elim a | skip
    cases rx
    obtain ⟨its, rv, p, hz⟩ := I.tuple a
    exact ⟨_, begins_tuple _ its.toArray, p⟩
  | str =>
    cases x <;> first | exact False.elim a | skip
    obtain ⟨t, rfl⟩ := rx
    exact ⟨_, begins_text _ t, trivial⟩
theorem sub_beg {k : SK} {x : V} {v : Value} {xs : List V} {it : Addr} {h : Heap} (rx : RelV x v) (a : SrcV X.K H k x xs) (e : h.get? it = some (begO k v)) : SubI k v it 0 h := by
  cases k with
  | lst => cases x <;> first | exact False.elim a | (cases rx; exact ⟨_, e, rfl, rfl⟩)
  | tup => cases x <;> first | exact False.elim a | (cases rx; exact ⟨_, e, rfl, rfl⟩)
  | str => cases x <;> first | exact False.elim a | (obtain ⟨t, rfl⟩ := rx; exact ⟨_, e, rfl, rfl⟩)
theorem src_lt (I : Inv X pins σ H s) {k : SK} {x : V} {v : Value} {xs : List V} (rx : RelV x v) (a : SrcV X.K H k x xs) : ∀ l, v = .ref l → l < s.heap.objs.size := fun l e => by
  subst e
  cases k with
  | lst => cases x <;> first | exact False.elim a | (cases rx; obtain ⟨its, rv, p, hz⟩ := I.list a; exact p.lt)
  | tup => cases x <;> first | exact False.elim a | (cases rx; obtain ⟨its, rv, p, hz⟩ := I.tuple a; exact p.lt)
  | str => cases x <;> first | exact False.elim a | (obtain ⟨t, q⟩ := rx; cases q)
end
/-! ### zip of two of any kind, the target a tuple -/
def ItzG (K : PySem.W.Frag) (k1 : SK) (x1 : V) (k2 : SK) (x2 : V) : It :=
  ⟨fun i H => ∃ xs ys, SrcV K H k1 x1 xs ∧ SrcV K H k2 x2 ys ∧ i < xs.length ∧ i < ys.length,
    fun i H v H' => ∃ T x y, v = .ref T ∧ H T = none ∧ H' = upd H T (.tup [x, y]) ∧ (∀ xs, SrcV K H k1 x1 xs → xs[i]? = some x) ∧ ∀ ys, SrcV K H k2 x2 ys → ys[i]? = some y,
    fun i H => ∃ xs ys, SrcV K H k1 x1 xs ∧ SrcV K H k2 x2 ys ∧ i ≤ xs.length ∧ i ≤ ys.length ∧ (i = xs.length ∨ i = ys.length)⟩
theorem turn_zipG {P : Program} {w : World} {K : PySem.W.Frag} {elts : List Expr} {kk : Nat} {tpos : Pos} {k1 k2 : SK} {x1 x2 : V} {v1 v2 : Value} {z TI TO i1 i2 : Addr} (r1 : RelV x1 v1) (r2 : RelV x2 v2)
    (D1 : TI ≠ z) (D2 : TO ≠ z) (D3 : TI ≠ TO) (D4 : TI ≠ i1) (D5 : TI ≠ i2) (D6 : z ≠ i1) (D7 : z ≠ i2) (D8 : TO ≠ i1) (D9 : TO ≠ i2) (D10 : i1 ≠ i2)
    (A1 : ∀ l, v1 = .ref l → l ≠ z ∧ l ≠ TO ∧ l ≠ i2) (A2 : ∀ l, v2 = .ref l → l ≠ z ∧ l ≠ TO ∧ l ≠ i1) :
    Turn P w K (.Tuple elts kk tpos) (ItzG K k1 x1 k2 x2) [z, TI, TO, i1, i2] z (fun i h => IsZip h z TI TO .none ∧ IsTupOf2 h TI (.ref i1) (.ref i2) ∧ (∃ x y, IsTupOf2 h TO x y) ∧ SubI k1 v1 i1 i h ∧ SubI k2 v2 i2 i h) where
  mem := by simp
  obj := fun i h st c hc => by
    obtain ⟨hz, hTI, ⟨x, y, hTO⟩, h1, h2⟩ := st
    have e' : c = z ∨ c = TI ∨ c = TO ∨ c = i1 ∨ c = i2 := by simpa using hc
    rcases e' with q | q | q | q | q
    · rw [q]; exact ⟨_, hz, fun v q => nomatch q⟩
    · rw [q]; exact ⟨_, hTI, fun v q => nomatch q⟩
    · rw [q]; exact ⟨_, hTO, fun v q => nomatch q⟩
    · rw [q]; exact h1.obj
    · rw [q]; exact h2.obj
  keep := fun i h h' st k => by
    obtain ⟨hz, hTI, ⟨x, y, hTO⟩, h1, h2⟩ := st
    exact ⟨k z (by simp) _ hz, k TI (by simp) _ hTI, ⟨x, y, k TO (by simp) _ hTO⟩, h1.at fun o q => k i1 (by simp) o q, h2.at fun o q => k i2 (by simp) o q⟩
  item := by
    intro X hP hw hK hc i pins s σ H E I hf st hg
    subst hP hw hK
    obtain ⟨hz, hTI, ⟨x0, y0, hTO⟩, h1, h2⟩ := st
    obtain ⟨xs, ys, hqx, hqy, lx, ly⟩ := hg
    obtain ⟨fp1, P1, St1, d1, s1, m1, n1, p1, b1⟩ := sub_draws I hc r1 hqx h1 (hf i1 (by simp)).1
    obtain ⟨fp2, P2, St2, d2, s2, m2, n2, p2, b2⟩ := sub_draws I hc r2 hqy h2 (hf i2 (by simp)).1
    have hzl : z < s.heap.objs.size := Heap.lt_size hz
    have S : ZipSep2 z TI TO i1 i2 fp1 fp2 := by
      have w1 : ∀ c, c ∈ fp1 → c = i1 ∨ v1 = .ref c := n1
      have w2 : ∀ c, c ∈ fp2 → c = i2 ∨ v2 = .ref c := n2
      exact {
        TIz := D1, TOz := D2, TITO := D3, TIi1 := D4, mem1 := m1, TIi2 := D5, mem2 := m2,
        zf1 := fun q => (w1 _ q).elim D6 fun r => (A1 _ r).1 rfl
        Tf1 := fun q => (w1 _ q).elim D8 fun r => (A1 _ r).2.1 rfl
        zf2 := fun q => (w2 _ q).elim D7 fun r => (A2 _ r).1 rfl
        Tf2 := fun q => (w2 _ q).elim D9 fun r => (A2 _ r).2.1 rfl
        sep1_2 := fun q => (w2 _ q).elim D10 fun r => (A2 _ r).2.2 rfl
        sep2_1 := fun q => (w1 _ q).elim D10.symm fun r => (A1 _ r).2.2 rfl }
    refine wpAny_pyNext_zipD2_item S d1 d2 hz hTI hTO s1 s2 lx ly fun u1 u2 h' tk q1 q2 z' TO' t1 t2 hT hsz hk => ?_
    refine ⟨_, rfl, wpAny_letOwnedTupleGo_zip (s := { s with heap := h', toks := tk }) z' fun h'' z'' sb => ?_⟩
    obtain ⟨y1, g1, ry1⟩ := p1 _ _ q1
    obtain ⟨y2, g2, ry2⟩ := p2 _ _ q2
    have hT2 : h''.get? s.heap.objs.size = some { cls := .type "tuple", data := .seq #[u1, u2] } := (sb.2 _ (Nat.ne_of_gt hzl)).trans hT
    have new : ObjOk X.prog X.w (upd H s.heap.objs.size (.tup [y1, y2])) h'' s.heap.objs.size (.tup [y1, y2]) :=
      ⟨by show 2 ≤ sizeLine; decide, [u1, u2], .cons ry1 (.cons ry2 .nil), ⟨_, hT2, rfl, _, rfl⟩⟩
    have I1 : Inv X pins σ (upd H s.heap.objs.size (.tup [y1, y2])) { s with heap := h'', toks := tk } :=
      I.turnedNew (t' := tk) (ch := [z, TI, TO, i1, i2]) (fun c o hb q => (sb.2 c (fun q' => hb (by simp [q']))).trans (hk c o (fun q' => hb (by simp [q'])) (fun q' => hb (by simp [q'])) (fun q' => hb (by simp [q'])) (fun q' => hb (by simp [q'])) q)) hf (Nat.le_refl _) new
    refine ⟨.ref s.heap.objs.size, _, I1, rfl, ⟨_, y1, y2, rfl, I.hok.fresh (Nat.le_refl _), rfl, fun l hl => by rw [SrcV.inj I hl hqx]; exact g1, fun l hl => by rw [SrcV.inj I hl hqy]; exact g2⟩, ⟨z'', ?_, ⟨u1, u2, ?_⟩, ?_, ?_⟩, fun c hcm => ?_⟩
    · exact (sb.2 _ D1).trans (hk _ _ D1 D3 D4 D5 hTI)
    · exact (sb.2 _ D2).trans TO'
    · exact (b1 _ _ t1).at fun o q => (sb.2 _ (Ne.symm D6)).trans q
    · exact (b2 _ _ t2).at fun o q => (sb.2 _ (Ne.symm D7)).trans q
    · have hlt : c < s.heap.objs.size := by
        have e' : c = z ∨ c = TI ∨ c = TO ∨ c = i1 ∨ c = i2 := by simpa using hcm
        rcases e' with q | q | q | q | q
        · rw [q]; exact hzl
        · rw [q]; exact Heap.lt_size hTI
        · rw [q]; exact Heap.lt_size hTO
        · rw [q]; obtain ⟨_, e1, _⟩ := h1.obj; exact Heap.lt_size e1
        · rw [q]; obtain ⟨_, e1, _⟩ := h2.obj; exact Heap.lt_size e1
      rw [upd_ne (Nat.ne_of_lt hlt)]
      exact (hf c hcm).1
  done := by
    intro X hP hw hK hc i pins s σ H E I hf st hg
    subst hP hw hK
    obtain ⟨hz, hTI, ⟨x0, y0, hTO⟩, h1, h2⟩ := st
    obtain ⟨xs, ys, hqx, hqy, lx, ly, hend⟩ := hg
    obtain ⟨fp1, P1, St1, d1, s1, m1, n1, p1, b1⟩ := sub_draws I hc r1 hqx h1 (hf i1 (by simp)).1
    obtain ⟨fp2, P2, St2, d2, s2, m2, n2, p2, b2⟩ := sub_draws I hc r2 hqy h2 (hf i2 (by simp)).1
    have S : ZipSep2 z TI TO i1 i2 fp1 fp2 := by
      have w1 : ∀ c, c ∈ fp1 → c = i1 ∨ v1 = .ref c := n1
      have w2 : ∀ c, c ∈ fp2 → c = i2 ∨ v2 = .ref c := n2
      exact {
        TIz := D1, TOz := D2, TITO := D3, TIi1 := D4, mem1 := m1, TIi2 := D5, mem2 := m2,
        zf1 := fun q => (w1 _ q).elim D6 fun r => (A1 _ r).1 rfl
        Tf1 := fun q => (w1 _ q).elim D8 fun r => (A1 _ r).2.1 rfl
        zf2 := fun q => (w2 _ q).elim D7 fun r => (A2 _ r).1 rfl
        Tf2 := fun q => (w2 _ q).elim D9 fun r => (A2 _ r).2.1 rfl
        sep1_2 := fun q => (w2 _ q).elim D10 fun r => (A2 _ r).2.2 rfl
        sep2_1 := fun q => (w1 _ q).elim D10.symm fun r => (A1 _ r).2.2 rfl }
    exact wpAny_pyNext_zipD2_end S d1 d2 hz hTI hTO s1 s2 lx ly hend fun h' tk hk => ⟨rfl, I.turnedL (t' := tk) (ch := [z, TI, TO, i1, i2]) (fun c o hb q =>
      hk c o (fun q' => hb (by simp [q'])) (fun q' => hb (by simp [q'])) (fun q' => hb (by simp [q'])) (fun q' => hb (by simp [q'])) q) hf⟩
  self := fun A i s Q E st h => wpAny_pyIter_zip st.1 h
/-! ### enumerate of any kind, the target a tuple -/
def IteG (K : PySem.W.Frag) (k1 : SK) (x1 : V) : It :=
  ⟨fun i H => ∃ xs, SrcV K H k1 x1 xs ∧ i < xs.length, fun i H v H' => ∃ T x, v = .ref T ∧ H T = none ∧ H' = upd H T (.tup [.int (i : Nat), x]) ∧ ∀ xs, SrcV K H k1 x1 xs → xs[i]? = some x,
    fun i H => ∃ xs, SrcV K H k1 x1 xs ∧ i = xs.length⟩
theorem turn_enumG {P : Program} {w : World} {K : PySem.W.Frag} {elts : List Expr} {kk : Nat} {tpos : Pos} {k1 : SK} {x1 : V} {v1 : Value} {e it : Addr} (r1 : RelV x1 v1) (hne : e ≠ it) (A1 : ∀ l, v1 = .ref l → l ≠ e) :
    Turn P w K (.Tuple elts kk tpos) (IteG K k1 x1) [e, it] e (fun i h => (∃ old, IsEnum h e it ((i : Nat) : Int) old) ∧ SubI k1 v1 it i h) where
  mem := by simp
  obj := fun i h st b hb => by
    obtain ⟨⟨old, he⟩, h1⟩ := st
    have e' : b = e ∨ b = it := by simpa using hb
    rcases e' with z | z
    · rw [z]; exact ⟨_, he, fun v q => nomatch q⟩
    · rw [z]; exact h1.obj
  keep := fun i h h' st k => let ⟨⟨old, he⟩, hi⟩ := st; ⟨⟨old, k e (by simp) _ he⟩, hi.at fun o q => k it (by simp) o q⟩
  item := by
    intro X hP hw hK hc i pins s σ H E I hf st hg
    subst hP hw hK
    obtain ⟨⟨old, he⟩, h1⟩ := st
    obtain ⟨xs, hq, lx⟩ := hg
    obtain ⟨fp1, P1, St1, d1, s1, m1, n1, p1, b1⟩ := sub_draws I hc r1 hq h1 (hf it (by simp)).1
    have hef : e ∉ fp1 := fun q => (n1 _ q).elim hne fun r => A1 _ r rfl
    have hel : e < s.heap.objs.size := Heap.lt_size he
    have hil : it < s.heap.objs.size := by obtain ⟨_, q, _⟩ := h1.obj; exact Heap.lt_size q
    refine wpAny_pyNext_enum_itemD d1 he s1 lx hne hef fun u h' tk q1 ho t1 hT hsz hk => ?_
    obtain ⟨y, g1, ry⟩ := p1 _ _ q1
    refine ⟨_, rfl, wpAny_letOwnedTupleGo_enum (s := { s with heap := h', toks := tk + 1 }) ho fun h'' he' sb => ?_⟩
    have hT2 : h''.get? s.heap.objs.size = some { cls := .type "tuple", data := .seq #[.int i tk, u] } := (sb.2 _ (Nat.ne_of_gt hel)).trans hT
    have new : ObjOk X.prog X.w (upd H s.heap.objs.size (.tup [.int (i : Nat), y])) h'' s.heap.objs.size (.tup [.int (i : Nat), y]) :=
      ⟨by show 2 ≤ sizeLine; decide, [.int i tk, u], .cons ⟨_, rfl⟩ (.cons ry .nil), ⟨_, hT2, rfl, _, rfl⟩⟩
    have I1 : Inv X pins σ (upd H s.heap.objs.size (.tup [.int (i : Nat), y])) { s with heap := h'', toks := tk + 1 } :=
      I.turnedNew (ch := [e, it]) (fun b ob hb q => (sb.2 b (fun z => hb (by simp [z]))).trans (hk b ob (fun z => hb (by simp [z])) (fun z => hb (by simp [z])) q)) hf (Nat.le_refl _) new
    refine ⟨.ref s.heap.objs.size, _, I1, rfl, ⟨_, y, rfl, I.hok.fresh (Nat.le_refl _), rfl, fun ys hy => by rw [SrcV.inj I hy hq]; exact g1⟩, ⟨⟨u, ?_⟩, (b1 _ _ t1).at fun o q => (sb.2 it (Ne.symm hne)).trans q⟩, fun b hb => ?_⟩
    · have e1 : ((i + 1 : Nat) : Int) = (i : Int) + 1 := by omega
      rw [e1]; exact he'
    · have hb' : b < s.heap.objs.size := by
        have e' : b = e ∨ b = it := by simpa using hb
        rcases e' with z | z
        · rw [z]; exact hel
        · rw [z]; exact hil
      rw [upd_ne (Nat.ne_of_lt hb')]
      exact (hf b hb).1
  done := by
    intro X hP hw hK hc i pins s σ H E I hf st hg
    subst hP hw hK
    obtain ⟨⟨old, he⟩, h1⟩ := st
    obtain ⟨xs, hq, lx⟩ := hg
    obtain ⟨fp1, P1, St1, d1, s1, m1, n1, p1, b1⟩ := sub_draws I hc r1 hq h1 (hf it (by simp)).1
    obtain ⟨f0, f1, f2, f3, f4, f5⟩ := hf it (by simp)
    exact wpAny_pyNext_enum_endD d1 he (by rw [← lx]; exact s1) fun h' eb => ⟨rfl, I.turned (t' := s.toks) (fun b o hb q => eb b o hb q) f0 f1 f3 f4 f5⟩
  self := fun A i s Q E st h => let ⟨⟨_, he⟩, _⟩ := st; wpAny_pyIter_enum he h
end Ev
namespace Ev
open PySem PySem.Spec L2 Res
structure Serves (G : GC) (J : It) (m0 : AM) (H0 : Hp) (ds : List D) : Prop where
  goes : ∀ (i : Nat) (d : D) (H : Hp) (m : AM), Mon m0 H0 m H → ds[i]? = some d → J.go i H ∧ ∀ x H', J.yld i H x H' → (∀ a o, H a = some o → H' a = some o) ∧ Rep G m H' d x
  stop : ∀ (H : Hp) (m : AM), Mon m0 H0 m H → J.stop ds.length H
/-- what walks the values -/
def items1 : D → Option (List D)
  | .lst xs => some xs
  | .tup xs => some xs
  | .str s => some (s.map fun c => .str [c])
  | _ => none
def fVal : Itf := fun _ ds => match ds with
  | [d] => items1 d
  | _ => none
def fZip : Itf := fun _ ds => match ds with
  | [a, b] => match items1 a, items1 b with
    | some xs, some ys => some ((xs.zip ys).map fun p => .tup [p.1, p.2])
    | _, _ => none
  | _ => none
def enumD : Nat → List D → List D
  | _, [] => []
  | k, d :: ds => .tup [.int k, d] :: enumD (k + 1) ds
def fEnum : Itf := fun _ ds => match ds with
  | [a] => (items1 a).map (enumD 0)
  | _ => none
def rngD (lo c : Int) (n : Nat) : List D := (List.range n).map fun k => .int (lo + (k : Nat) * c)
def rngOk (i : Int) : Bool := decide (-4611686018427387904 ≤ i) && decide (i < 4611686018427387904)
def fRng1 : Itf := fun _ ds => match ds with
  | [.int j] => if rngOk j then some (rngD 0 1 j.toNat) else none
  | _ => none
def fRng2 : Itf := fun _ ds => match ds with
  | [.int i, .int j] => if rngOk i && rngOk j then some (rngD i 1 (j - i).toNat) else none
  | _ => none
section
variable (G : GC) (W : WX) (cf : String → List D → Store → Res D)
def tI (f : Itf) (cs : List CE) : TI := fun σ H R => ∃ ρ μ m, SR G ρ μ m σ H ∧ Out ((evs cf cs ρ μ).bind fun ds μ1 => lift (f μ1 ds) μ1)
  (fun items μ' => ∀ J H' m', Ext m H m' H' → SR G ρ μ' m' σ H' → Serves G J m' H' items → R J H') (ExK G W m H σ)
end
theorem pi_of {X : Cx} {tg e : Expr} {t t' : TI} (h : PI X tg e t) (k : ∀ σ H Q, t' σ H Q → t σ H Q) : PI X tg e t' := ⟨fun pins s σ H Q I q => h.run pins s σ H Q I (k σ H Q q)⟩
section
variable {G : GC} {m : AM} {H : Hp}
theorem src_of {d : D} {v : V} {ds : List D} (h : items1 d = some ds) (r : Rep G m H d v) : ∃ k xs, SrcV G.K H k v xs ∧ Reps G m H ds xs ∧ ((k = .lst ∧ ∃ l, v = .ref l ∧ SqL G.K H l xs) ∨ (k = .tup ∧ ∃ l, v = .ref l ∧ SqT G.K H l xs) ∨ (k = .str ∧ ∃ x, v = .str x)) ∧
    ∀ H' m', (∀ a, m.has a → ∃ o, MutO o ∧ H a = some o) → Mon m H m' H' → SrcV G.K H' k v xs := by
  cases d with
  | lst es =>
    unfold Rep at r
    obtain ⟨a, xs, rfl, nm, rd, rr⟩ := r
    cases h
    exact ⟨.lst, xs, .inl rd, rr, .inl ⟨rfl, a, rfl, .inl rd⟩, fun H' m' _ e => .inl (Rd.mon e rd nm).1⟩
  | tup es =>
    unfold Rep at r
    obtain ⟨a, xs, rfl, hs, rr⟩ := r
    cases h
    exact ⟨.tup, xs, hs, rr, .inr (.inl ⟨rfl, a, rfl, hs⟩), fun H' m' S e => SqT.mon S e hs⟩
  | str s =>
    unfold Rep at r
    subst r
    cases h
    refine ⟨.str, _, rfl, ?_, .inr (.inr ⟨rfl, _, rfl⟩), fun H' m' _ _ => rfl⟩
    show Reps G m H (s.map _) (s.map _)
    induction s with
    | nil => exact .nil
    | cons c s ih => exact .cons (by unfold Rep; rfl) ih
  | _ => cases h
end
section
variable {G : GC} {W : WX} {cf : String → List D → Store → Res D} {X : Cx} {tg : Expr}
variable {e e2 a b c : Expr} {ce ce2 ca cb cc : CE} {pos p tpos : Pos} {elts : List Expr} {kk : Nat}
theorem evs_one {k : List D → Store → Prop} {ee : String → D → Store → Prop} {ρ : Env} {μ : Store} (h : Out (evs cf [ce] ρ μ) k ee) : Out (ev cf ce ρ μ) (fun d μ' => k [d] μ') ee := by
  unfold evs at h
  refine h.bind.mono (fun d μ1 q => ?_) fun _ _ _ z => z
  unfold evs at q
  exact q
/-- a value is walked -/
theorem si_val (hK : X.K = G.K) (he : PE X e (tE G W cf ce)) : PI X tg e (tI G W cf fVal [ce]) := by
  refine ⟨fun pins s σ H R I h => ?_⟩
  obtain ⟨ρ, μ, m, S, h⟩ := h
  have h1 := evs_one h.bind
  cases q : ev cf ce ρ μ with
  | stuck => rw [q] at h1; exact h1.elim
  | exc x d μ1 =>
    rw [q] at h1
    refine (pi_list (tg := tg) he).run pins s σ H R I ⟨ρ, μ, m, S, ?_⟩
    rw [q]; exact h1
  | ok d μ1 =>
    rw [q] at h1
    simp only [Out_ok] at h1
    obtain ⟨ds, hd, hk⟩ := out_lift h1
    cases d with
    | lst es =>
      cases hd
      refine (pi_list (tg := tg) he).run pins s σ H R I ⟨ρ, μ, m, S, ?_⟩
      rw [q]
      intro v H1 m1 e1 s1 rv
      have rv0 := rv
      unfold Rep at rv
      obtain ⟨l, xs, rfl, nm, rd, rr⟩ := rv
      rw [hK]
      refine ⟨l, rfl, ⟨xs, .inl rd⟩, hk _ H1 m1 e1 s1 ⟨fun i d H2 m2 e2 hd => ?_, fun H2 m2 e2 => ?_⟩⟩
      · obtain ⟨w, q1, q2⟩ := rr.get hd
        have rd2 : SqL G.K H2 l xs := .inl (Rd.mon e2 rd nm).1
        refine ⟨⟨xs, w, rd2, q1⟩, fun y H' ⟨e3, hy⟩ => ?_⟩
        subst e3
        have e4 : w = y := Option.some.inj (q1.symm.trans (hy xs rd2))
        subst e4
        exact ⟨fun _ _ z => z, Rep.mon s1.st.live e2 _ _ q2⟩
      · exact ⟨xs, .inl (Rd.mon e2 rd nm).1, by rw [rr.length]; exact Nat.le_refl _⟩
    | tup es =>
      cases hd
      refine (pi_tup (tg := tg) he).run pins s σ H R I ⟨ρ, μ, m, S, ?_⟩
      rw [q]
      intro v H1 m1 e1 s1 rv
      unfold Rep at rv
      obtain ⟨l, xs, rfl, hs, rr⟩ := rv
      rw [hK]
      refine ⟨l, rfl, ⟨xs, hs⟩, hk _ H1 m1 e1 s1 ⟨fun i d H2 m2 e2 hd => ?_, fun H2 m2 e2 => ?_⟩⟩
      · obtain ⟨w, q1, q2⟩ := rr.get hd
        have rd2 := SqT.mon s1.st.live e2 hs
        refine ⟨⟨xs, w, rd2, q1⟩, fun y H' ⟨e3, hy⟩ => ?_⟩
        subst e3
        have e4 : w = y := Option.some.inj (q1.symm.trans (hy xs rd2))
        subst e4
        exact ⟨fun _ _ z => z, Rep.mon s1.st.live e2 _ _ q2⟩
      · exact ⟨xs, SqT.mon s1.st.live e2 hs, by rw [rr.length]; exact Nat.le_refl _⟩
    | str z =>
      cases hd
      refine (pi_str (tg := tg) he).run pins s σ H R I ⟨ρ, μ, m, S, ?_⟩
      rw [q]
      intro v H1 m1 e1 s1 rv
      unfold Rep at rv
      subst rv
      refine ⟨_, rfl, hk _ H1 m1 e1 s1 ⟨fun i d H2 m2 e2 hd => ?_, fun H2 m2 e2 => ?_⟩⟩
      · rw [List.getElem?_map] at hd
        cases q1 : z[i]? with
        | none => rw [q1] at hd; cases hd
        | some c =>
          rw [q1] at hd
          cases hd
          refine ⟨(List.getElem?_eq_some_iff.mp q1).1, fun y H' ⟨e3, c', hy, e4⟩ => ?_⟩
          subst e3 e4
          have e5 : c = c' := by
            have hy' : z[i]? = some c' := by simpa using hy
            exact Option.some.inj (q1.symm.trans hy')
          subst e5
          exact ⟨fun _ _ z => z, by unfold Rep; rfl⟩
      · show z.length ≤ (z.map _).length
        rw [List.length_map]; exact Nat.le_refl _
    | _ => cases hd
/-! ### range -/
theorem rngD_get {lo c : Int} {n i : Nat} {d : D} (h : (rngD lo c n)[i]? = some d) : i < n ∧ d = .int (lo + (i : Nat) * c) := by
  unfold rngD at h
  rw [List.getElem?_map] at h
  cases q : (List.range n)[i]? with
  | none => rw [q] at h; cases h
  | some k =>
    rw [q] at h
    obtain ⟨h1, h2⟩ := List.getElem?_eq_some_iff.mp q
    rw [List.getElem_range] at h2
    subst h2
    exact ⟨by simpa using h1, by simpa using h.symm⟩
theorem serves_rng {lo : Int} {n : Nat} {m : AM} {H : Hp} : Serves G (Itr lo n) m H (rngD lo 1 n) :=
  ⟨fun i d H2 m2 e2 hd => by
    obtain ⟨h1, rfl⟩ := rngD_get hd
    refine ⟨h1, fun x H' ⟨e3, e4⟩ => ?_⟩
    subst e3 e4
    exact ⟨fun _ _ z => z, by unfold Rep; rw [Int.mul_one]⟩,
   fun H2 m2 e2 => by show n ≤ (rngD lo 1 n).length; unfold rngD; simp⟩
theorem reps1 {m : AM} {H : Hp} {d : D} {vs : List V} (h : Reps G m H [d] vs) : ∃ v, vs = [v] ∧ Rep G m H d v := by
  obtain ⟨w, ws, e, r, t⟩ := h.uncons
  rw [t.isnil] at e
  exact ⟨w, e, r⟩
theorem reps2 {m : AM} {H : Hp} {d d2 : D} {vs : List V} (h : Reps G m H [d, d2] vs) : ∃ v v2, vs = [v, v2] ∧ Rep G m H d v ∧ Rep G m H d2 v2 := by
  obtain ⟨w, ws, e, r, t⟩ := h.uncons
  obtain ⟨w2, e2, r2⟩ := reps1 t
  exact ⟨w, w2, by rw [e, e2], r, r2⟩
theorem si_rng1 (hg : Gl X "range") (hm : X.mg "range" = none) (ha : PE X a (tE G W cf ca)) (hs : starEach [a] X.env = [(false, eval a X.env)] := by rfl) : PI X tg (.Call (.Name "range" p) [a] [] pos) (tI G W cf fRng1 [ca]) :=
  pi_of (pi_range1 hg hm (sa_cons (hs := hs) ha sa_nil) hs) fun σ H R ⟨ρ, μ, m, S, h⟩ => by
    refine tA_sub S h.bind (.refl _ _) fun ds μ1 vs H1 m1 q e1 s1 rv => ?_
    obtain ⟨ds', hd, q⟩ := out_lift q
    unfold fRng1 at hd
    split at hd
    · rename_i j
      split at hd
      · rename_i hj
        cases hd
        simp only [rngOk, Bool.and_eq_true, decide_eq_true_eq] at hj
        obtain ⟨v, rfl, r⟩ := reps1 rv
        unfold Rep at r
        subst r
        exact ⟨j, rfl, by omega, by omega, q _ H1 m1 e1 s1 serves_rng⟩
      · cases hd
    · cases hd
theorem si_rng2 (hg : Gl X "range") (hm : X.mg "range" = none) (ha : PE X a (tE G W cf ca)) (hb : PE X b (tE G W cf cb)) (hs : starEach [a, b] X.env = [(false, eval a X.env), (false, eval b X.env)] := by rfl) (hs2 : starEach [b] X.env = [(false, eval b X.env)] := by rfl) :
    PI X tg (.Call (.Name "range" p) [a, b] [] pos) (tI G W cf fRng2 [ca, cb]) :=
  pi_of (pi_range2 hg hm (sa_cons (hs := by rw [hs, hs2]) ha (sa_cons (hs := hs2) hb sa_nil)) hs hs2) fun σ H R ⟨ρ, μ, m, S, h⟩ => by
    refine tA_sub S h.bind (.refl _ _) fun ds μ1 vs H1 m1 q e1 s1 rv => ?_
    obtain ⟨ds', hd, q⟩ := out_lift q
    unfold fRng2 at hd
    split at hd
    · rename_i i j
      split at hd
      · rename_i hj
        cases hd
        simp only [rngOk, Bool.and_eq_true, decide_eq_true_eq] at hj
        obtain ⟨v, v2, rfl, r, r2⟩ := reps2 rv
        unfold Rep at r r2
        subst r r2
        exact ⟨i, j, rfl, by omega, q _ H1 m1 e1 s1 serves_rng⟩
      · cases hd
    · cases hd
/-! ### zip, enumerate -/
theorem serves_zip (hK : X.K = G.K) {m : AM} {H : Hp} {d1 d2 : D} {v1 v2 : V} {xs ys : List D} {k1 k2 : SK} {vs ws : List V} (L : ∀ a, m.has a → ∃ o, MutO o ∧ H a = some o)
    (p1 : Reps G m H xs vs) (p2 : Reps G m H ys ws) (q1 : ∀ H' m', Mon m H m' H' → SrcV G.K H' k1 v1 vs) (q2 : ∀ H' m', Mon m H m' H' → SrcV G.K H' k2 v2 ws) :
    Serves G (ItzG G.K k1 v1 k2 v2) m H ((xs.zip ys).map fun p => .tup [p.1, p.2]) := by
  refine ⟨fun i d H2 m2 e2 hd => ?_, fun H2 m2 e2 => ?_⟩
  · rw [List.getElem?_map] at hd
    cases z : (xs.zip ys)[i]? with
    | none => rw [z] at hd; cases hd
    | some p =>
      rw [z] at hd
      cases hd
      obtain ⟨z1, z2⟩ := List.getElem?_zip_eq_some.mp z
      obtain ⟨w1, g1, r1⟩ := p1.get z1
      obtain ⟨w2, g2, r2⟩ := p2.get z2
      refine ⟨⟨vs, ws, q1 _ _ e2, q2 _ _ e2, (List.getElem?_eq_some_iff.mp g1).1, (List.getElem?_eq_some_iff.mp g2).1⟩, fun x H' ⟨T, y1, y2, ex, nT, eH, f1, f2⟩ => ?_⟩
      subst ex eH
      have e3 : w1 = y1 := Option.some.inj (g1.symm.trans (f1 _ (q1 _ _ e2)))
      have e4 : w2 = y2 := Option.some.inj (g2.symm.trans (f2 _ (q2 _ _ e2)))
      subst e3 e4
      refine ⟨fun a o q => by rw [upd_ne (ne_of_none q nT)]; exact q, ?_⟩
      unfold Rep
      exact ⟨T, [w1, w2], rfl, .inl (.inl upd_same), .cons (Rep.mon L (e2.trans (.new nT)) _ _ r1) (.cons (Rep.mon L (e2.trans (.new nT)) _ _ r2) .nil)⟩
  · have l1 := p1.length
    have l2 := p2.length
    refine ⟨vs, ws, q1 _ _ e2, q2 _ _ e2, ?_⟩
    rw [List.length_map, List.length_zip]
    omega
theorem si_zip (hK : X.K = G.K) (hg : Gl X "zip") (hm : X.mg "zip" = none) (ha : PE X a (tE G W cf ca)) (hb : PE X b (tE G W cf cb))
    (hs : starEach [a, b] X.env = (false, eval a X.env) :: starEach [b] X.env := by rfl) (hs2 : starEach [b] X.env = (false, eval b X.env) :: starEach [] X.env := by rfl) (hpl : (backTo pos (starEach [b] X.env)).any (·.1) = false := by rfl) :
    PI X (.Tuple elts kk tpos) (.Call (.Name "zip" p) [a, b] [] pos) (tI G W cf fZip [ca, cb]) := by
  refine ⟨fun pins s σ H R I h => ?_⟩
  have hA := sa_cons (hs := hs) ha (sa_cons (hs := hs2) hb (sa_nil (G := G) (W := W) (cf := cf)))
  obtain ⟨ρ, μ, m, S, h⟩ := h
  refine PyProof.Rows.Call_ (ld_blt I hg hm PyProof.Rows.boot_zip (PyProof.Rows.callWith_type1 (thn (hA.run pos pins s σ H (fun vs H1 => ∃ ds μ1 m1 items, Reps G m1 H1 ds vs ∧ fZip μ1 ds = some items ∧ StOk G μ1 m1 H1 ∧ ∀ J, Serves G J m1 H1 items → R J H1) I
    (tA_sub S h.bind (.refl _ _) fun ds μ1 vs H1 m1 q e1 s1 rv => ?_)) fun us s1 ⟨vs, H1, I1, r1, ds, μ1, m1, items, rv, hf, st, q⟩ => ?_) hs hpl))
  · obtain ⟨items, hf, q⟩ := out_lift q
    exact ⟨ds, μ1, m1, items, rv, hf, s1.st, fun J sv => q J H1 m1 e1 s1 sv⟩
  · unfold fZip at hf
    split at hf
    · rename_i d1 d2
      obtain ⟨w1, w2, rfl, g1, g2⟩ := reps2 rv
      cases h1 : items1 d1 with
      | none => rw [h1] at hf; cases hf
      | some xs =>
        cases h2 : items1 d2 with
        | none => rw [h1, h2] at hf; cases hf
        | some ys =>
          rw [h1, h2] at hf
          cases hf
          obtain ⟨k1, vs, a1, b1, c1, f1⟩ := src_of h1 g1
          obtain ⟨k2, ws, a2, b2, c2, f2⟩ := src_of h2 g2
          obtain ⟨u1, u2, rfl, ru1, ru2⟩ := vals2 r1
          rw [← hK] at a1 a2
          obtain ⟨S1, B1, z1⟩ := begins_src I1 ru1 a1
          obtain ⟨S2, B2, z2⟩ := begins_src I1 ru2 a2
          have lt1 := src_lt I1 ru1 a1
          have lt2 := src_lt I1 ru2 a2
          refine zip_begins2 B1 B2 z1 z2 fun h' hz hTI hTO o1 o2 hsz hk => wpAny_pyIter_zip hz ?_
          have I2 : Inv X pins σ H1 { s1 with heap := h' } := I1.kept (t' := s1.toks) hk
          rw [hK] at a1 a2
          have ne : ∀ {i j : Nat}, i ≠ j → s1.heap.objs.size + i ≠ s1.heap.objs.size + j := fun {i j} q z => q (by omega)
          have ne0 : ∀ {j : Nat}, 0 ≠ j → s1.heap.objs.size ≠ s1.heap.objs.size + j := fun {j} q z => q (by have z' : (s1.heap.objs.size : Nat) = s1.heap.objs.size + j := z; omega)
          refine ⟨s1.heap.objs.size + 4, [s1.heap.objs.size + 4, s1.heap.objs.size + 2, s1.heap.objs.size + 3, s1.heap.objs.size, s1.heap.objs.size + 1], _, ItzG X.K k1 w1 k2 w2, H1, rfl, I2,
            turn_zipG ru1 ru2 (ne (by decide)) (ne (by decide)) (ne (by decide)) (ne0 (by decide)).symm (ne (by decide)) (ne0 (by decide)).symm (ne (by decide)) (ne0 (by decide)).symm (ne (by decide)) (ne0 (by decide)) ?_ ?_,
            ⟨hz, hTI, ⟨_, _, hTO⟩, sub_beg (X := X) ru1 (by rw [hK]; exact a1) o1, sub_beg (X := X) ru2 (by rw [hK]; exact a2) o2⟩, fun c hcm => ?_, ?_⟩
          · intro l e
            have q1 : (l : Nat) < s1.heap.objs.size := lt1 l e
            refine ⟨?_, ?_, ?_⟩ <;> first | exact Nat.ne_of_lt q1 | exact Nat.ne_of_lt (Nat.lt_of_lt_of_le q1 (Nat.le_add_right _ _))
          · intro l e
            have q1 : (l : Nat) < s1.heap.objs.size := lt2 l e
            refine ⟨?_, ?_, ?_⟩ <;> first | exact Nat.ne_of_lt q1 | exact Nat.ne_of_lt (Nat.lt_of_lt_of_le q1 (Nat.le_add_right _ _))
          · have e' : c = s1.heap.objs.size + 4 ∨ c = s1.heap.objs.size + 2 ∨ c = s1.heap.objs.size + 3 ∨ c = s1.heap.objs.size ∨ c = s1.heap.objs.size + 1 := by simpa using hcm
            have hle : s1.heap.objs.size ≤ c := by
              rcases e' with z | z | z | z | z <;> rw [z] <;> first | exact Nat.le_refl _ | exact Nat.le_add_right _ _
            exact I1.fpOk hle (I1.hok.fresh hle)
          · rw [hK]
            exact q _ (serves_zip (d1 := d1) (d2 := d2) hK st.live b1 b2 (fun H' m' e => f1 H' m' st.live e) (fun H' m' e => f2 H' m' st.live e))
    · cases hf
theorem enumD_get : ∀ {ds : List D} {k i : Nat} {d : D}, (enumD k ds)[i]? = some d → ∃ y, ds[i]? = some y ∧ d = .tup [.int ((k + i : Nat) : Int), y]
  | [], _, _, _, h => by simp [enumD] at h
  | y :: ds, k, 0, d, h => by
    have e : D.tup [.int k, y] = d := by simpa [enumD] using h
    exact ⟨y, rfl, e.symm⟩
  | y :: ds, k, i + 1, d, h => by
    obtain ⟨z, h1, h2⟩ := enumD_get (ds := ds) (k := k + 1) (i := i) (d := d) (by simpa [enumD] using h)
    exact ⟨z, by simpa using h1, by rw [h2, Nat.add_assoc, Nat.add_comm 1 i]⟩
theorem enumD_length : ∀ (ds : List D) (k : Nat), (enumD k ds).length = ds.length
  | [], _ => rfl
  | _ :: ds, k => by unfold enumD; rw [List.length_cons, List.length_cons, enumD_length ds]
theorem serves_enum {m : AM} {H : Hp} {v1 : V} {xs : List D} {k1 : SK} {vs : List V} (L : ∀ a, m.has a → ∃ o, MutO o ∧ H a = some o) (p1 : Reps G m H xs vs) (q1 : ∀ H' m', Mon m H m' H' → SrcV G.K H' k1 v1 vs) :
    Serves G (IteG G.K k1 v1) m H (enumD 0 xs) := by
  refine ⟨fun i d H2 m2 e2 hd => ?_, fun H2 m2 e2 => ?_⟩
  · obtain ⟨y, hy, rfl⟩ := enumD_get hd
    obtain ⟨w1, g1, r1⟩ := p1.get hy
    refine ⟨⟨vs, q1 _ _ e2, (List.getElem?_eq_some_iff.mp g1).1⟩, fun x H' ⟨T, y1, ex, nT, eH, f1⟩ => ?_⟩
    subst ex eH
    have e3 : w1 = y1 := Option.some.inj (g1.symm.trans (f1 _ (q1 _ _ e2)))
    subst e3
    refine ⟨fun a o q => by rw [upd_ne (ne_of_none q nT)]; exact q, ?_⟩
    unfold Rep
    exact ⟨T, [.int (i : Nat), w1], rfl, .inl (.inl upd_same), .cons (by unfold Rep; rw [Nat.zero_add]) (.cons (Rep.mon L (e2.trans (.new nT)) _ _ r1) .nil)⟩
  · exact ⟨vs, q1 _ _ e2, by rw [enumD_length, p1.length]⟩
set_option maxHeartbeats 1000000 in
theorem meets_enum1T {v : Value} {o : Obj} {S : Heap → Prop} (B : Begins v o S) :
    Meets (Builtin.«enumerate.__new__» ⟨[.type "enumerate", v], []⟩) (fun _ R s => S s.heap ∧
      R (.ok (.ret (.ref (s.heap.push o).objs.size))) { s with heap := (s.heap.push o).push { cls := .type "enumerate", data := .fields #[.none, .bool false, .ref s.heap.objs.size, rawInt 0, .none, .none] } }) :=
  .of_wp fun prog w A R s h => by
    obtain ⟨hp, g, d, tk, os⟩ := s; obtain ⟨h1, h⟩ := h
    have hsub := sub_enumerate
    have q1 : ∀ {A' : Around} {E : Value → Shared → Prop} {Q : Value → Shared → Prop}, Q (.ref hp.objs.size) ⟨hp.push o, g, d, tk, os⟩ → wpAny (model prog w) A' (pyIter v) Q E ⟨hp, g, d, tk, os⟩ :=
      fun q => B.iter prog w _ _ ⟨hp, g, d, tk, os⟩ _ h1 q
    wp_walk using q1
    refine wpAny_stack_any fun st => wpAny_pure ?_
    split
    · rename_i c _ _ _ _ _
      cases (c == Value.type "enumerate")
      · wp_walk using q1
        exact ⟨_, rfl, h⟩
      · wp_walk using q1
        exact ⟨_, rfl, h⟩
    · wp_walk using q1
      exact ⟨_, rfl, h⟩
theorem call_enumB {prog : Program} {w : World} {A : Around} {E : Value → Shared → Prop} {s : Shared} {v : Value} {o : Obj} {S : Heap → Prop} {Q : Value → Shared → Prop} (B : Begins v o S) (h1 : S s.heap)
    (h : ∀ h', IsEnum h' (s.heap.objs.size + 1) s.heap.objs.size 0 .none → h'.get? s.heap.objs.size = some o → h'.objs.size = s.heap.objs.size + 2 →
      (∀ b o, s.heap.get? b = some o → h'.get? b = some o) → Q (.ref (s.heap.objs.size + 1)) { s with heap := h' }) :
    wpAny (model prog w) A (call (.type "enumerate") [v]) Q E s := by
  refine callType_new F.called_enumerate (by decide) (F.typeCall_enumerate_1 _) (F.newCall_enumerate_1 _) (fun obj => F.args_object_init_2 obj _) F.entry_enumerate_new
    (meets_enum1T B) ⟨h1, ?_⟩
  have hz : (s.heap.push o).objs.size = s.heap.objs.size + 1 := Heap.size_push ..
  show _ ∧ _
  rw [hz]
  have he : IsEnum ((s.heap.push o).push { cls := .type "enumerate", data := .fields #[.none, .bool false, .ref s.heap.objs.size, rawInt 0, .none, .none] }) (s.heap.objs.size + 1) s.heap.objs.size 0 .none := by
    have := Heap.get?_push_size (s.heap.push o) (o := { cls := .type "enumerate", data := .fields #[.none, .bool false, .ref s.heap.objs.size, rawInt 0, .none, .none] }) rfl
    rw [hz] at this; exact this
  refine ⟨⟨_, he, rfl⟩, h _ he (Heap.get?_push_of_some _ (Heap.get?_push_size _ B.free)) (by rw [Heap.size_push, hz]) fun b o x => Heap.get?_push_of_some _ (Heap.get?_push_of_some _ x)⟩
theorem si_enum (hK : X.K = G.K) (hg : Gl X "enumerate") (hm : X.mg "enumerate" = none) (ha : PE X a (tE G W cf ca)) (hs : starEach [a] X.env = (false, eval a X.env) :: starEach [] X.env := by rfl) :
    PI X (.Tuple elts kk tpos) (.Call (.Name "enumerate" p) [a] [] pos) (tI G W cf fEnum [ca]) := by
  refine ⟨fun pins s σ H R I h => ?_⟩
  have hA := sa_cons (hs := hs) ha (sa_nil (G := G) (W := W) (cf := cf))
  obtain ⟨ρ, μ, m, S, h⟩ := h
  refine PyProof.Rows.Call_ (ld_blt I hg hm PyProof.Rows.boot_enumerate (PyProof.Rows.callWith_type1 (thn (hA.run pos pins s σ H (fun vs H1 => ∃ ds μ1 m1 items, Reps G m1 H1 ds vs ∧ fEnum μ1 ds = some items ∧ StOk G μ1 m1 H1 ∧ ∀ J, Serves G J m1 H1 items → R J H1) I
    (tA_sub S h.bind (.refl _ _) fun ds μ1 vs H1 m1 q e1 s1 rv => ?_)) fun us s1 ⟨vs, H1, I1, r1, ds, μ1, m1, items, rv, hf, st, q⟩ => ?_) hs rfl))
  · obtain ⟨items, hf, q⟩ := out_lift q
    exact ⟨ds, μ1, m1, items, rv, hf, s1.st, fun J sv => q J H1 m1 e1 s1 sv⟩
  · unfold fEnum at hf
    split at hf
    · rename_i d1
      obtain ⟨w1, rfl, g1⟩ := reps1 rv
      cases h1 : items1 d1 with
      | none => rw [h1] at hf; cases hf
      | some xs =>
        rw [h1] at hf
        cases hf
        obtain ⟨k1, vs, a1, b1, c1, f1⟩ := src_of h1 g1
        obtain ⟨u1, rfl, ru1⟩ := vals1 r1
        rw [← hK] at a1
        obtain ⟨S1, B1, z1⟩ := begins_src I1 ru1 a1
        have lt1 := src_lt I1 ru1 a1
        refine call_enumB B1 z1 fun h' he o1 hsz hk => wpAny_pyIter_enum he ?_
        have I2 : Inv X pins σ H1 { s1 with heap := h' } := I1.kept (t' := s1.toks) hk
        refine ⟨s1.heap.objs.size + 1, [s1.heap.objs.size + 1, s1.heap.objs.size], _, IteG X.K k1 w1, H1, rfl, I2,
          turn_enumG ru1 (Nat.succ_ne_self _) (fun l e => Nat.ne_of_lt (Nat.lt_of_lt_of_le (lt1 l e) (Nat.le_add_right _ _))), ⟨⟨.none, he⟩, sub_beg (X := X) ru1 a1 o1⟩, fun b hb => ?_, ?_⟩
        · have e' : b = s1.heap.objs.size + 1 ∨ b = s1.heap.objs.size := by simpa using hb
          have hle : s1.heap.objs.size ≤ b := by
            rcases e' with z | z
            · rw [z]; exact Nat.le_add_right _ _
            · rw [z]; exact Nat.le_refl _
          exact I1.fpOk hle (I1.hok.fresh hle)
        · rw [hK]
          exact q _ (serves_enum st.live b1 (fun H' m' e => f1 H' m' st.live e))
    · cases hf
end
end Ev
namespace Ev
open PySem PySem.Spec L2 PyProof.Rows
/-! ## a text taken apart by names -/
theorem draw_walk {P : Program} {w : World} {A : Around} {E : Value → Shared → Prop} {I : Addr} {N : Nat} {Pv : Nat → Value → Prop} {St : Nat → Heap → Prop} (W : Walks P w A I [I] [I] N Pv St) : ∀ (n i : Nat) (s : Shared) (Q : List Value → Shared → Prop), St i s.heap → i + n ≤ N →
    (∀ h' tk vs, St (i + n) h' → (∀ b o, b ≠ I → s.heap.get? b = some o → h'.get? b = some o) → vs.length = n → (∀ j v, vs[j]? = some v → Pv (i + j) v) → Q vs { s with heap := h', toks := tk }) → wpAny (model P w) A (draw (.ref I) n) Q E s
  | 0, i, s, Q, hst, _, hQ => by
    show wpAny _ _ (pure []) Q E s
    exact wpAny_pure (hQ s.heap s.toks [] hst (fun _ _ _ e => e) rfl fun j v h => by simp at h)
  | n + 1, i, s, Q, hst, hle, hQ => by
    show wpAny _ _ (pyNext (.ref I) >>= _) Q E s
    refine wpAny_bind (W.item i s _ _ (by omega) hst fun v h1 tk hP hst1 hk1 => ?_)
    refine wpAny_bind (wpAny_holding (draw_walk W n (i + 1) _ _ hst1 (by omega) fun h2 tk2 vs hst2 hk2 hl hv => wpAny_pure ?_))
    refine hQ h2 tk2 (v :: vs) (by rw [show i + (n + 1) = i + 1 + n by omega]; exact hst2) (fun b o hb e => hk2 b o hb (hk1 b o (by simpa using hb) e)) (by rw [List.length_cons, hl]) fun j u hj => ?_
    cases j with
    | zero => have : v = u := by simpa using hj
              rw [← this]; exact hP
    | succ j => have := hv j u (by simpa using hj)
                rw [show i + (j + 1) = i + 1 + j by omega]; exact this
theorem unpack_text {P : Program} {w : World} {A : Around} {E : Value → Shared → Prop} {s : Shared} {z : List Nat} {t : Tok} {Q : List Value → Shared → Prop} (hh : A.handled = none)
    (hQ : ∀ h' tk (vs : List Value), (∀ b o, s.heap.get? b = some o → h'.get? b = some o) → Vals (z.map fun c => V.str (toS [c])) vs → Q vs { s with heap := h', toks := tk }) : wpAny (model P w) A (unpackItems (.str (toS z) t) z.length none) Q E s := by
  have hz : (toS z).cps.size = z.length := by simp [toS]
  unfold unpackItems
  refine wpAny_bind ?_
  unfold notIterableAtAll
  refine wpAny_bind (wpAny_specialOf (typeIs_str s (toS z) t) F.slot_str_iter.lookup ?_)
  refine wpAny_pure ?_
  simp only [Bool.false_eq_true, if_false]
  refine wpAny_bind (wpAny_holding (wpAny_pyIter_str fun o St W hst => ?_))
  refine wpAny_bind (wpAny_holding (draw_walk (W A hh) z.length 0 _ _ hst (by rw [hz]; omega) fun h1 tk1 vs hst1 hk1 hl hv => ?_))
  rw [if_neg (by rw [hl]; exact Nat.lt_irrefl _)]
  rw [Nat.zero_add] at hst1
  refine wpAny_bind (wpAny_holding ((W A hh).done _ _ _ (by rw [hz]; exact hst1) fun h2 tk2 hk2 => ?_))
  simp only [Option.isSome_none, Bool.false_eq_true, if_false]
  refine wpAny_pure (hQ h2 tk2 vs (fun b o e => ?_) ?_)
  · have nb : b ≠ s.heap.objs.size := Nat.ne_of_lt (Heap.lt_size e)
    exact hk2 b o (by simpa using nb) (hk1 b o nb (Heap.get?_push_of_some _ e))
  · have gen : ∀ (z : List Nat) (vs : List Value), vs.length = z.length → (∀ (j : Nat) (v : Value), vs[j]? = some v → ∃ (c : Nat) (u : Tok), z[j]? = some c ∧ v = Value.str ⟨#[c]⟩ u) → Vals (z.map fun c => V.str (toS [c])) vs := by
      intro z
      induction z with
      | nil => intro vs h _; cases vs with
        | nil => exact .nil
        | cons _ _ => simp at h
      | cons c z ih =>
        intro vs h hv
        cases vs with
        | nil => simp at h
        | cons v vs =>
          obtain ⟨c', u, h1, rfl⟩ := hv 0 v rfl
          have e : c = c' := by simpa using h1
          subst e
          exact .cons ⟨u, rfl⟩ (ih vs (by simpa using h) fun j w hj => by
            obtain ⟨c', u', h2, h3⟩ := hv (j + 1) w (by simpa using hj)
            exact ⟨c', u', by simpa using h2, h3⟩)
    exact gen z vs hl fun j v hj => by
      obtain ⟨c, u, h1, h2⟩ := hv j v hj
      exact ⟨c, u, by simpa [toS] using h1, h2⟩
/-- (a, b, ..) = a text of so many signs -/
def gStr (n : Nat) (t : TGs) : TG := fun v σ H Q => ∃ z : List Nat, v = .str (toS z) ∧ z.length = n ∧ t (z.map fun c => V.str (toS [c])) σ H Q
theorem pg_str {X : Cx} {pos : Pos} {es : List Expr} {k : Nat} {t : TGs} {n : Nat} (hc : X.calm = true) (h : PGs X es t)
    (hn : (assignEach es X.env).length = n := by rfl) (hst : (assignEach es X.env).findIdx? (·.1) = none := by rfl) : PG X (.Tuple es k pos) (gStr n t) := by
  refine ⟨fun pins s σ H v u Q I r hw => ?_⟩
  obtain ⟨z, e1, hl, hw⟩ := hw
  subst e1
  obtain ⟨tk, rfl⟩ := r
  have hn' : (assignEach es X.env).length = z.length := hn.trans hl.symm
  rw [PyProof.Rows.assign_Tuple]
  refine wpAny_bind (wpAny_standAt ?_)
  unfold unpack
  rw [hn', hst]
  refine wpAny_bind (wpAny_holding (unpack_text (I.ok.hd hc) fun h' tk' vs hk rv => ?_))
  exact h.run pins _ σ H _ _ Q (I.kept hk) rv hw
end Ev
namespace Ev
open PySem PySem.Spec L2 Res
mutual
def slotsT : CT → List Nat
  | .name i => [i]
  | .tup ts => slotsTs ts
def slotsTs : List CT → List Nat
  | [] => []
  | t :: ts => slotsT t ++ slotsTs ts
end
/-- a target of names -/
def tG (G : GC) (t : CT) : TG := fun v σ H Q => ∃ ρ μ m d ρ', SR G ρ μ m σ H ∧ Rep G m H d v ∧ bindT t d ρ = some ρ' ∧ ∀ σ', SR G ρ' μ m σ' H → (∀ vs, (∀ i ∈ slotsT t, i ∈ vs) → L2.wipe σ' vs = L2.wipe σ vs) → Q σ' H
def tGs (G : GC) (ts : List CT) : TGs := fun vs σ H Q => ∃ ρ μ m ds ρ', SR G ρ μ m σ H ∧ Reps G m H ds vs ∧ bindTs ts ds ρ = some ρ' ∧ ∀ σ', SR G ρ' μ m σ' H → (∀ vs, (∀ i ∈ slotsTs ts, i ∈ vs) → L2.wipe σ' vs = L2.wipe σ vs) → Q σ' H
theorem pg_of {X : Cx} {e : Expr} {t t' : TG} (h : PG X e t) (k : ∀ v σ H Q, t' v σ H Q → t v σ H Q) : PG X e t' := ⟨fun pins s σ H v u Q I r q => h.run pins s σ H v u Q I r (k v σ H Q q)⟩
theorem pgs_of {X : Cx} {es : List Expr} {t t' : TGs} (h : PGs X es t) (k : ∀ v σ H Q, t' v σ H Q → t v σ H Q) : PGs X es t' := ⟨fun pins s σ H v u Q I r q => h.run pins s σ H v u Q I r (k v σ H Q q)⟩
theorem wipe_in {σ : St} {i : Nat} {v : Option V} : ∀ {vs : List Nat}, i ∈ vs → L2.wipe (σ.set i v) vs = L2.wipe σ vs
  | [], h => nomatch h
  | j :: vs, h => by
    unfold L2.wipe
    by_cases hj : i ∈ vs
    · rw [wipe_in hj]
    · have e : i = j := by rcases List.mem_cons.mp h with z | z; exact z; exact absurd z hj
      subst e
      have comm : ∀ {ws : List Nat}, i ∉ ws → L2.wipe (σ.set i v) ws = (L2.wipe σ ws).set i v := by
        intro ws
        induction ws with
        | nil => intro _; rfl
        | cons k ws ih =>
          intro hn
          have hk : i ≠ k := fun z => hn (by simp [z])
          have hw : i ∉ ws := fun z => hn (by simp [z])
          show (L2.wipe (σ.set i v) ws).set k none = ((L2.wipe σ ws).set k none).set i v
          rw [ih hw, List.set_comm _ _ hk]
      rw [comm hj, List.set_set]
theorem wipe_get (σ : St) : ∀ (vs : List Nat) (i : Nat), (L2.wipe σ vs)[i]? = if i ∈ vs then (if i < σ.length then some none else none) else σ[i]?
  | [], i => by simp [L2.wipe]
  | j :: vs, i => by
    unfold L2.wipe
    by_cases hj : j = i
    · subst hj
      rw [if_pos List.mem_cons_self]
      by_cases hl : j < σ.length
      · rw [if_pos hl, List.getElem?_set_self (by rw [wipe_length]; exact hl)]
      · rw [if_neg hl]; exact List.getElem?_eq_none (by rw [List.length_set, wipe_length]; omega)
    · rw [List.getElem?_set_ne hj, wipe_get σ vs i]
      by_cases hm : i ∈ vs
      · rw [if_pos hm, if_pos (List.mem_cons_of_mem _ hm)]
      · rw [if_neg hm, if_neg (fun z => (List.mem_cons.mp z).elim (fun z => hj z.symm) hm)]
theorem wipe_idem (σ : St) (vs : List Nat) : L2.wipe (L2.wipe σ vs) vs = L2.wipe σ vs := by
  apply List.ext_getElem?
  intro i
  rw [wipe_get, wipe_get, wipe_length]
  split
  · rfl
  · rfl
section
variable {G : GC} {W : WX} {cf : String → List D → Store → Res D} {X : Cx}
theorem sg_name (i : Nat) {x : Str} {pos : Pos} (hN : X.N.Nodup) (hi : X.N[i]? = some x := by rfl) (hx : Loc X.env.scope x := by first | exact Or.inl rfl | exact Or.inr rfl) (hf : X.fn x = true ∨ X.env.scope.names.lookup x = some .local := by first | exact .inl rfl | exact .inr rfl) : PG X (.Name x pos) (tG G (.name i)) :=
  pg_of (pg_name hN hi hx hf) fun v σ H Q ⟨ρ, μ, m, d, ρ', S, r, hb, k⟩ => by
    unfold bindT at hb
    by_cases hl : i < ρ.length
    · rw [if_pos hl] at hb
      cases hb
      exact k _ (S.set hl r) fun vs hv => wipe_in (hv i (by simp [slotsT]))
    · rw [if_neg hl] at hb; cases hb
theorem sgs_nil : PGs X [] (tGs G []) := pgs_of pgs_nil fun vs σ H Q ⟨ρ, μ, m, ds, ρ', S, r, hb, k⟩ => by
  cases ds with
  | nil => unfold bindTs at hb; cases hb; exact ⟨r.isnil, k σ S fun _ _ => rfl⟩
  | cons _ _ => unfold bindTs at hb; cases hb
theorem sgs_cons {e : Expr} {es : List Expr} {t : CT} {ts : List CT} (h1 : PG X e (tG G t)) (h2 : PGs X es (tGs G ts)) (hs : (assignEach (e :: es) X.env).map (·.2) = assign e X.env :: (assignEach es X.env).map (·.2) := by rfl) : PGs X (e :: es) (tGs G (t :: ts)) :=
  pgs_of (pgs_cons h1 h2 hs) fun vs σ H Q ⟨ρ, μ, m, ds, ρ', S, r, hb, k⟩ => by
    cases ds with
    | nil => unfold bindTs at hb; cases hb
    | cons d ds =>
      obtain ⟨w, ws, e1, r1, r2⟩ := r.uncons
      unfold bindTs at hb
      cases q : bindT t d ρ with
      | none => rw [q] at hb; cases hb
      | some ρ1 =>
        rw [q] at hb
        refine ⟨w, ws, e1, ρ, μ, m, d, ρ1, S, r1, q, fun σ1 S1 w1 => ⟨ρ1, μ, m, ds, ρ', S1, r2, hb, fun σ2 S2 w2 => k σ2 S2 fun vs hv => ?_⟩⟩
        rw [w2 vs fun i hi => hv i (by unfold slotsTs; exact List.mem_append_right _ hi), w1 vs fun i hi => hv i (by unfold slotsTs; exact List.mem_append_left _ hi)]
theorem bindTs_len : ∀ {ts : List CT} {ds : List D} {ρ ρ' : Env}, bindTs ts ds ρ = some ρ' → ds.length = ts.length
  | [], [], _, _, _ => rfl
  | [], _ :: _, _, _, h => by unfold bindTs at h; cases h
  | _ :: _, [], _, _, h => by unfold bindTs at h; cases h
  | t :: ts, d :: ds, ρ, ρ', h => by
    unfold bindTs at h
    cases q : bindT t d ρ with
    | none => rw [q] at h; cases h
    | some ρ1 => rw [q] at h; simp [bindTs_len h]
theorem reps_one_signs {m : AM} {H : Hp} : ∀ z : List Nat, Reps G m H (z.map fun c => Ev.D.str [c]) (z.map fun c => V.str (toS [c]))
  | [] => .nil
  | c :: z => .cons (by unfold Rep; rfl) (reps_one_signs z)
theorem sg_tup {es : List Expr} {k : Nat} {pos : Pos} {ts : List CT} (hK : X.K = G.K) (hc : X.calm = true) (h : PGs X es (tGs G ts)) (hn : (assignEach es X.env).length = ts.length := by rfl) (hst : (assignEach es X.env).findIdx? (·.1) = none := by rfl) : PG X (.Tuple es k pos) (tG G (.tup ts)) :=
  ⟨fun pins s σ H v u Q I rv ⟨ρ, μ, m, d, ρ', S, r, hb, k⟩ => by
    cases d with
    | tup ds =>
      unfold bindT at hb
      unfold Rep at r
      obtain ⟨a, xs, rfl, hs, rr⟩ := r
      exact (pg_tup hc h hn hst).run pins s σ H _ u Q I rv ⟨a, xs, rfl, by rw [hK]; exact hs, by rw [← rr.length, bindTs_len hb], ρ, μ, m, ds, ρ', S, rr, hb, fun σ' S' w => k σ' S' fun vs hv => w vs fun i hi => hv i (by unfold slotsT; exact hi)⟩
    | str z =>
      unfold bindT at hb
      unfold Rep at r
      subst r
      exact (pg_str hc h hn hst).run pins s σ H _ u Q I rv ⟨z, rfl, by have := bindTs_len hb; rw [List.length_map] at this; exact this, ρ, μ, m, _, ρ', S, reps_one_signs z, hb, fun σ' S' w => k σ' S' fun vs hv => w vs fun i hi => hv i (by unfold slotsT; exact hi)⟩
    | _ => unfold bindT at hb; cases hb⟩
/-! ### comprehensions -/
/-- one turn, as the evaluator does it -/
def compStep (cf : String → List D → Store → Res D) (elt : CE) (tg : CT) (cond : CE) (ρ : Env) : D → Store → Res (Option D) := fun d μ => match bindT tg d ρ with
  | none => .stuck
  | some ρ1 => (ev cf cond ρ1 μ).bind fun x μ1 => (lift (truth μ1 x) μ1).bind fun t μ2 => if t then (ev cf elt ρ1 μ2).bind fun y μ3 => .ok (some y) μ3 else .ok none μ2
theorem ev_comp {m : Bool} {elt cond : CE} {tg : CT} {f : Itf} {as : List CE} {own : List Nat} {ρ : Env} {μ : Store} : ev cf (.comp m elt tg f as cond own) ρ μ = ((evs cf as ρ μ).bind fun ds μ1 => lift (f μ1 ds) μ1).bind fun items μ2 =>
      if items.length ≤ cap then (compLoop (compStep cf elt tg cond (wipeE ρ own)) items μ2).bind fun out μ3 => mkL m out μ3 else .stuck := by
  rw [Res.bind_assoc]; conv => lhs; unfold ev
  rfl
theorem lc_sound {M : Bool} {elt cond : CE} {tg : CT} {own : List Nat} {ρ : Env} {μ : Store} {m : AM} {σ : St} {H1 : Hp} {J : It} {items : List D} {p : Addr} {Qd : VK} {tt : TT} {EK : String → Ev.D → Store → Prop}
    (hsl : ∀ i ∈ slotsT tg, i ∈ own)
    (htt : ∀ σ2 H2 R, tT G (fun _ _ _ _ => False) cf cond σ2 H2 R → tt σ2 H2 R)
    (S : SR G ρ μ m σ H1) (sv : Serves G J m H1 items) (hD : H1 p = none) (hcap : items.length ≤ cap)
    (h : Out ((compLoop (compStep cf elt tg cond (wipeE ρ own)) items μ).bind fun out μ3 => mkL M out μ3) (fun d μ' => ∀ v H' m', Ext m H1 m' H' → SR G ρ μ' m' σ H' → Rep G m' H' d v → Qd v H') EK) :
    ∃ Wv : Nat → Nat → Hp → Prop, (∃ mm, Wv 0 mm (upd H1 p (.lst []))) ∧ ∀ i mm H, Wv i mm H →
      (J.stop i H ∧ Qd (.ref p) H) ∨ (J.go i H ∧ ∃ Nx : Hp → Prop, (∀ H', Nx H' → ∃ m', m' < mm ∧ Wv (i + 1) m' H') ∧ ∀ x H', J.yld i H x H' → tG G tg x (L2.wipe σ own) H' fun σ2 H2 => L2.wipe σ2 own = L2.wipe σ own ∧ tt σ2 H2 fun b H3 =>
        if b = true then tE G (fun _ _ _ _ => False) cf elt σ2 H3 fun y H4 => ∃ acc, H4 p = some (.lst acc) ∧ acc.length < sizeLine ∧ Nx (upd H4 p (.lst (acc ++ [y]))) else Nx H3) := by
  let K : List Ev.D → Store → Prop := fun out μ3 => Out (mkL M out μ3) (fun d μ' => ∀ v H' m', Ext m H1 m' H' → SR G ρ μ' m' σ H' → Rep G m' H' d v → Qd v H') EK
  -- the list in the making is set apart
  let pl : List (Option Addr) → AM := fun l => ⟨l, p :: m.x⟩
  let mi' : List (Option Addr) → AM := fun l => ⟨l, m.x⟩
  have has_pl : ∀ l a, (pl l).has a ↔ (mi' l).has a ∨ a = p := fun l a => by
    constructor
    · rintro (q | q)
      · exact .inl (.inl q)
      · rcases List.mem_cons.mp q with q | q
        · exact .inr q
        · exact .inl (.inr q)
    · rintro ((q | q) | q)
      · exact .inl q
      · exact .inr (List.mem_cons_of_mem _ q)
      · exact .inr (by rw [q]; exact List.mem_cons_self)
  let Wi : Nat → Hp → Prop := fun i H => i ≤ items.length ∧ ∃ μi l accD acc, H p = some (.lst acc) ∧ Reps G (pl l) H accD acc ∧ acc.length ≤ i ∧ Ext m H1 (mi' l) H ∧ StOk G μi (pl l) H ∧
    Out (compLoop (compStep cf elt tg cond (wipeE ρ own)) (items.drop i) μi) (fun r μ3 => K (accD ++ r) μ3) EK
  have nD : ¬ m.has p := fun z => by
    obtain ⟨xs, _, q⟩ := S.st.live p z
    rw [hD] at q; cases q
  have up : Mon m H1 (pl m.l) (upd H1 p (.lst [])) := ⟨fun _ _ => .inl rfl, fun a o q n => ⟨by rw [upd_ne (ne_of_none q hD)]; exact q, fun z => ((has_pl _ _).mp z).elim n (ne_of_none q hD)⟩⟩
  have stUp : StOk G μ (pl m.l) (upd H1 p (.lst [])) := by
    have s1 := S.st
    exact ⟨s1.len, s1.inj, fun a h1 h2 => by
        rcases List.mem_cons.mp h2 with q | q
        · rw [q] at h1; exact nD (.inl h1)
        · exact s1.apart a h1 q, fun n o ds hn hd => by
        obtain ⟨h0, a, xs, q1, q2, q3⟩ := s1.obj n o ds hn hd
        exact ⟨h0, a, xs, q1, by rw [upd_ne (ne_of_none q2 hD)]; exact q2, Reps.mon s1.live up _ _ q3⟩, s1.dead, fun a ha => by
        rcases (has_pl _ _).mp ha with q | q
        · obtain ⟨xs, mu, z⟩ := s1.live a q
          exact ⟨xs, mu, by rw [upd_ne (ne_of_none z hD)]; exact z⟩
        · rw [q]; exact ⟨.lst [], trivial, upd_same⟩⟩
  refine ⟨fun i mm H => mm = items.length - i ∧ Wi i H, ⟨items.length, by simp, Nat.zero_le _, μ, m.l, [], [], upd_same, .nil, Nat.le_refl _, .new S.st.live hD, stUp, by simpa using h.bind⟩, ?_⟩
  rintro i mm H ⟨rfl, hi, μi, l, accD, acc, eD, rr, hacc, e1, st, ho⟩
  have down : Mon (pl l) H (mi' l) H := ⟨fun _ _ => .inl rfl, fun a o q n => ⟨q, fun z => n ((has_pl _ _).mpr (.inl z))⟩⟩
  have stDown : StOk G μi (mi' l) H := ⟨st.len, st.inj, fun a h1 h2 => st.apart a h1 (List.mem_cons_of_mem _ h2), fun n o ds hn hd => by
    obtain ⟨h0, a, xs, q1, q2, q3⟩ := st.obj n o ds hn hd
    exact ⟨h0, a, xs, q1, q2, Reps.mon st.live down _ _ q3⟩, st.dead, fun a ha => st.live a ((has_pl _ _).mpr (.inl ha))⟩
  by_cases hlt : i < items.length
  · right
    have hit : items[i]? = some items[i] := List.getElem?_eq_getElem hlt
    have upH : Mon m H1 (pl l) H := ⟨fun n hn => e1.pre n hn, fun a o q n => ⟨e1.keep _ _ q n, fun z => ((has_pl _ _).mp z).elim (e1.nm q n) (ne_of_none q hD)⟩⟩
    obtain ⟨g1, g2⟩ := sv.goes i _ H (pl l) upH hit
    refine ⟨g1, fun H' => Wi (i + 1) H', fun H' w => ⟨items.length - (i + 1), by omega, rfl, w⟩, fun x H' y => ?_⟩
    obtain ⟨k2, rx⟩ := g2 x H' y
    have hdrop : items.drop i = items[i] :: items.drop (i + 1) := by rw [List.drop_eq_getElem_cons hlt]
    rw [hdrop] at ho
    unfold compLoop at ho
    have ho := ho.bind
    have eDH' : H' p = some (.lst acc) := k2 _ _ eD
    -- the item comes, the list in the making set apart
    have e2' : Ext (pl l) H (pl l) H' := ⟨Nat.le_refl _, fun _ _ => .inl rfl, fun a ha hna => absurd ha hna, fun a o q _ => k2 a o q, rfl, fun a ha => by
      obtain ⟨xs, _, q⟩ := st.live a (.inr ha)
      rw [q]; exact k2 _ _ q⟩
    have st' : StOk G μi (pl l) H' := st.ext0 e2' fun a ha => by
      obtain ⟨xs, _, q⟩ := st.live a ha
      rw [q]; exact k2 _ _ q
    -- the slots
    have upS : Mon m H1 (pl l) H' := ⟨fun n hn => e1.pre n hn, fun a o q n => ⟨k2 _ _ (e1.keep _ _ q n), fun z => ((has_pl _ _).mp z).elim (e1.nm q n) (ne_of_none q hD)⟩⟩
    have S' : SR G (wipeE ρ own) μi (pl l) (L2.wipe σ own) H' := by
      have s1 : SR G ρ μi (pl l) σ H' := ⟨S.len, fun j d hj => by
        obtain ⟨v, q1, q2⟩ := S.env j d hj
        exact ⟨v, q1, Rep.mon S.st.live upS _ _ q2⟩, st'⟩
      exact s1.wipe own
    obtain ⟨o, μo, ho1, ho2⟩ := out_noExc ho
    unfold compStep at ho1
    cases hb : bindT tg items[i] (wipeE ρ own) with
    | none => rw [hb] at ho1; cases ho1
    | some ρ1 =>
      rw [hb] at ho1
      simp only at ho1
      refine ⟨wipeE ρ own, μi, pl l, items[i], ρ1, S', rx, hb, fun σ2 S2 wp => ⟨by rw [wp own hsl, wipe_idem], ?_⟩⟩
      refine htt σ2 H' _ ⟨ρ1, μi, pl l, S2, ?_⟩
      have hT : Out (evT cf cond ρ1 μi) (fun b μ2 => (if b = true then (ev cf elt ρ1 μ2).bind fun y μ3 => .ok (some y) μ3 else .ok none μ2) = .ok o μo) fun _ _ _ => False := by
        unfold evT
        cases q : ev cf cond ρ1 μi with
        | stuck => rw [q] at ho1; cases ho1
        | exc x d μ1 => rw [q] at ho1; cases ho1
        | ok d μ1 =>
          rw [q] at ho1
          simp only [bind_ok] at ho1 ⊢
          cases q2 : truth μ1 d with
          | none => rw [q2] at ho1; cases ho1
          | some t => rw [q2] at ho1; exact ho1
      -- what stands behind the turn's evaluation
      have fin : ∀ {m3 : AM} {H3 : Hp} {μ3 : Store}, Ext (pl l) H' m3 H3 → StOk G μ3 m3 H3 → m3 = pl m3.l ∧ H3 p = some (.lst acc) ∧ Ext m H1 (mi' m3.l) H3 := fun {m3 H3 μ3} e3 st3 => by
        have hx : m3 = pl m3.l := by
          obtain ⟨l3, x3⟩ := m3
          have q := e3.xeq
          simp only at q
          subst q
          rfl
        refine ⟨hx, (e3.keepx p List.mem_cons_self).trans eDH', Nat.le_trans e1.len e3.len, fun n hn => ?_, fun a ha hna => ?_, fun a o q n => ?_, rfl, fun a ha => ?_⟩
        · rcases e3.pre n (Nat.lt_of_lt_of_le hn e1.len) with q | q
          · rw [show (mi' m3.l).l = m3.l from rfl, q]; exact e1.pre n hn
          · exact .inr q
        · cases q : H1 a with
          | none => rfl
          | some u =>
            have k1 := e1.keep a u q hna
            have n1 := e1.nm q hna
            have n2 : ¬ (pl l).has a := fun z => ((has_pl _ _).mp z).elim n1 (ne_of_none q hD)
            have n3 := e3.nm (k2 _ _ k1) n2
            rw [hx] at n3
            exact absurd ((has_pl _ _).mpr (.inl ha)) n3
        · have n2 : ¬ (pl l).has a := fun z => ((has_pl _ _).mp z).elim (e1.nm q n) (ne_of_none q hD)
          exact e3.keep a o (k2 _ _ (e1.keep a o q n)) n2
        · have q1 := e3.keepx a (List.mem_cons_of_mem _ ha)
          obtain ⟨xs, _, q⟩ := st.live a (.inr (List.mem_cons_of_mem _ ha))
          rw [q1, k2 _ _ q, ← q]
          exact e1.keepx a ha
      refine hT.mono (fun b μ2 q H3 m3 e3 s3 => ?_) fun _ _ _ z => z.elim
      obtain ⟨hx3, eD3, e13⟩ := fin e3 s3.st
      cases b with
      | false =>
        simp only [Bool.false_eq_true, if_false] at q ⊢
        cases q
        rw [hx3] at s3 e3
        refine ⟨by omega, _, m3.l, accD, acc, eD3, Reps.ext st.live (e2'.trans e3) _ _ rr, Nat.le_succ_of_le hacc, e13, s3.st, ?_⟩
        exact ho2.bind.mono (fun r μ3 q => by simpa using q) fun _ _ _ z => z
      | true =>
        simp only [if_true] at q ⊢
        refine ⟨ρ1, μ2, m3, s3, ?_⟩
        have hV : Out (ev cf elt ρ1 μ2) (fun y μ3 => o = some y ∧ μo = μ3) fun _ _ _ => False := by
          cases q2 : ev cf elt ρ1 μ2 with
          | stuck => rw [q2] at q; cases q
          | exc x d μ1 => rw [q2] at q; cases q
          | ok y μ3 => rw [q2] at q; cases q; exact ⟨rfl, rfl⟩
        refine hV.mono (fun y μ3 q v H4 m4 e4 s4 rv => ?_) fun _ _ _ z => z.elim
        obtain ⟨rfl, rfl⟩ := q
        have e34 := e3.trans e4
        obtain ⟨hx4, eD4, e14⟩ := fin e34 s4.st
        have hsz : acc.length < sizeLine := by
          have : cap < sizeLine := by decide
          omega
        have wr : Mon m4 H4 (pl m4.l) (upd H4 p (.lst (acc ++ [v]))) := ⟨fun _ _ => .inl rfl, fun a o q n => by
          rw [hx4] at n
          have ne : a ≠ p := fun z => n ((has_pl _ _).mpr (.inr z))
          exact ⟨by rw [upd_ne ne]; exact q, n⟩⟩
        have apP : some p ∉ m4.l := fun z => s4.st.apart p z (by rw [hx4]; exact List.mem_cons_self)
        refine ⟨acc, eD4, hsz, by omega, μo, m4.l, accD ++ [y], acc ++ [v], upd_same, ?_, by simp; omega, ?_, ?_, ?_⟩
        · exact Reps.append (Reps.mon s4.st.live wr _ _ (Reps.ext st.live (e2'.trans e34) _ _ rr)) (.cons (Rep.mon s4.st.live wr _ _ rv) .nil)
        · exact ⟨e14.len, e14.pre, e14.fresh, fun a o q n => by
            rw [upd_ne (ne_of_none q hD)]; exact e14.keep a o q n, rfl, fun a ha => by
            obtain ⟨xs, _, q⟩ := S.st.live a (.inr ha)
            rw [upd_ne (ne_of_none q hD)]; exact e14.keepx a ha⟩
        · have s5 := s4.st
          rw [hx4] at s5
          refine ⟨s5.len, s5.inj, s5.apart, fun n o ds hn hd => ?_, s5.dead, fun a ha => ?_⟩
          · obtain ⟨h0, a, xs, q1, q2, q3⟩ := s5.obj n o ds hn hd
            have ne : a ≠ p := fun z => apP (by rw [← z]; exact List.mem_of_getElem? q1)
            rw [hx4] at wr
            exact ⟨h0, a, xs, q1, by rw [upd_ne ne]; exact q2, Reps.mon s5.live wr _ _ q3⟩
          · by_cases ne : a = p
            · rw [ne]; exact ⟨.lst _, trivial, upd_same⟩
            · obtain ⟨xs, mu, q⟩ := s5.live a ha
              exact ⟨xs, mu, by rw [upd_ne ne]; exact q⟩
        · exact ho2.bind.mono (fun r μ3 q => by simpa using q) fun _ _ _ z => z
  · left
    have hi' : i = items.length := by omega
    subst hi'
    have hd : items.drop items.length = [] := List.drop_length
    rw [hd] at ho
    unfold compLoop at ho
    simp only [Out_ok, List.append_nil] at ho
    refine ⟨sv.stop H (mi' l) e1.mon, ?_⟩
    have nDm : ¬ (mi' l).has p := fun z => z.elim (fun z => st.apart p z List.mem_cons_self) fun z => by
      obtain ⟨xs, _, q⟩ := S.st.live p (.inr z)
      rw [hD] at q; cases q
    obtain ⟨d, μ2, m2, k, e3, r, st2⟩ := mkL_new ho e1 stDown hD eD nDm (Reps.mon st.live down _ _ rr)
    exact k (.ref p) H m2 e3 (S.ext e3 st2) r
end
end Ev
namespace Ev
open PySem PySem.Spec L2 Res
abbrev W0 : WX := fun _ _ _ _ => False
theorem pi_mono {G : GC} {W : WX} {cf : String → List D → Store → Res D} {ρ : Env} {μ : Store} {m : AM} {σ : St} {H : Hp} {f : Itf} {cs : List CE} {k : List D → Store → Prop} {R : It → Hp → Prop} (S : SR G ρ μ m σ H)
    (h : Out ((evs cf cs ρ μ).bind fun ds μ1 => lift (f μ1 ds) μ1) k (ExK G W m H σ)) (hk : ∀ items μ1 J H1 m1, k items μ1 → Ext m H m1 H1 → SR G ρ μ1 m1 σ H1 → Serves G J m1 H1 items → R J H1) : tI G W cf f cs σ H R :=
  ⟨ρ, μ, m, S, h.mono (fun items μ1 q J H1 m1 e s sv => hk items μ1 J H1 m1 q e s sv) fun _ _ _ z => z⟩
section
variable {G : GC} {W : WX} {cf : String → List D → Store → Res D} {X : Cx}
variable {elt tg iter : Expr} {ifs : List Expr} {scope : Scope} {own : List (Str × Nat)} {pos : Pos} {M : Bool} {celt ccond : CE} {ct : CT} {f : Itf} {cas : List CE}
theorem tLc_of {tt : TT} {σ : St} {H : Hp} {Q : VK} (hsl : (slotsT ct).all (fun i => (own.map (·.2)).contains i) = true) (htt : ∀ σ2 H2 R, tT G W0 cf ccond σ2 H2 R → tt σ2 H2 R)
    (h : tE G W cf (.comp M celt ct f cas ccond (own.map (·.2))) σ H Q) : tLc (tI G W cf f cas) (tG G ct) tt (tE G W0 cf celt) (own.map (·.2)) σ H Q := by
  obtain ⟨ρ, μ, m, S, h⟩ := h
  rw [ev_comp] at h
  refine pi_mono S h.bind fun items μ1 J H1 m1 q e1 s1 sv p np => ?_
  by_cases hcap : items.length ≤ cap
  · rw [if_pos hcap] at q
    refine lc_sound (EK := ExK G W m H σ) (fun i hi => ?_) htt s1 sv np hcap (q.mono (fun d μ' k v H' m' e s r => k v H' m' (e1.trans e) s r) fun _ _ _ z => z)
    have := List.all_eq_true.mp hsl i hi
    simpa using this
  · rw [if_neg hcap] at q; exact q.elim
theorem tYes_of : ∀ σ2 H2 R, tT G W0 cf (.lit (.bl true)) σ2 H2 R → tYes σ2 H2 R := fun σ2 H2 R ⟨ρ, μ, m, S, h⟩ => by
  unfold evT ev at h
  simp only [bind_ok, truth, lift_some, Out_ok] at h
  exact h H2 m (.refl _ _) S
/-- [elt for target in iter] -/
theorem se_comp (hc : X.calm = true) (hN : X.N.Nodup) (hsl : (slotsT ct).all (fun i => (own.map (·.2)).contains i) = true) (hi : PI X tg iter (tI G W cf f cas)) (ok : blkC X.N X.env.scope scope own = true)
    (hg : ∀ (s : Shared) (H : Hp) (C : Addr) (cl : List (Str × Addr)) (fp : List Addr), PG (X.blk s H scope (compEnvC scope cl C X.env) fp) tg (tG G ct))
    (he : ∀ (s : Shared) (H : Hp) (C : Addr) (cl : List (Str × Addr)) (fp : List Addr), PE (X.blk s H scope (compEnvC scope cl C X.env) fp) elt (tE G W0 cf celt)) (hs : ∀ x, foldedSetIterable iter X.env x = pure x := by intro _; rfl) :
    PE X (.ListComp elt [⟨tg, iter, [], 0⟩] scope pos) (tE G W cf (.comp M celt ct f cas (.lit (.bl true)) (own.map (·.2)))) :=
  pe_of (pe_lc hc hN hi (blkOk_by ok) hg (fun _ _ _ _ _ => pts_nil) he hs) fun σ H Q h => tLc_of hsl tYes_of h
/-- [elt for target in iter if cond] -/
theorem se_compif {cond : Expr} (hc : X.calm = true) (hN : X.N.Nodup) (hsl : (slotsT ct).all (fun i => (own.map (·.2)).contains i) = true) (hi : PI X tg iter (tI G W cf f cas)) (ok : blkC X.N X.env.scope scope own = true)
    (hg : ∀ (s : Shared) (H : Hp) (C : Addr) (cl : List (Str × Addr)) (fp : List Addr), PG (X.blk s H scope (compEnvC scope cl C X.env) fp) tg (tG G ct))
    (ht : ∀ (s : Shared) (H : Hp) (C : Addr) (cl : List (Str × Addr)) (fp : List Addr), PT (X.blk s H scope (compEnvC scope cl C X.env) fp) cond (tT G W0 cf ccond))
    (he : ∀ (s : Shared) (H : Hp) (C : Addr) (cl : List (Str × Addr)) (fp : List Addr), PE (X.blk s H scope (compEnvC scope cl C X.env) fp) elt (tE G W0 cf celt)) (hs : ∀ x, foldedSetIterable iter X.env x = pure x := by intro _; rfl) :
    PE X (.ListComp elt [⟨tg, iter, [cond], 0⟩] scope pos) (tE G W cf (.comp M celt ct f cas ccond (own.map (·.2)))) :=
  pe_of (pe_lc hc hN hi (blkOk_by ok) hg (fun s H C cl fp => pts_one (ht s H C cl fp)) he hs) fun σ H Q h => tLc_of hsl (fun _ _ _ z => z) h
/-! ### statements -/
/-- what is wanted behind a statement -/
def FlK (G : GC) (D : Ends) (m : AM) (H : Hp) : Fl → Store → Prop := fun fl μ' => match fl with
  | .nx ρ' => ∀ σ' H' m', Ext m H m' H' → SR G ρ' μ' m' σ' H' → D.nx σ' H'
  | .rt d => ∀ v H' m', Ext m H m' H' → StOk G μ' m' H' → Rep G m' H' d v → D.rt v H'
  | .bk ρ' => ∀ σ' H' m', Ext m H m' H' → SR G ρ' μ' m' σ' H' → D.bk σ' H'
  | .ct ρ' => ∀ σ' H' m', Ext m H m' H' → SR G ρ' μ' m' σ' H' → D.ct σ' H'
/-- an exception that leaves: the slots don't matter -/
abbrev WofE (E : XK) : WX := fun cls dd _ H => E cls dd H
def ExS (G : GC) (E : XK) (m : AM) (H : Hp) : String → D → Store → Prop := fun x d μ' => ∀ cls dd H' m', Ext m H m' H' → StOk G μ' m' H' → G.EA x d cls dd m' H' → E cls dd H'
theorem ExS.step {E : XK} {m m1 : AM} {H H1 : Hp} {x : String} {d : D} {μ' : Store} (h : ExS G E m H x d μ') (e : Ext m H m1 H1) : ExS G E m1 H1 x d μ' := fun cls dd H' m' e' s ea => h cls dd H' m' (e.trans e') s ea
theorem FlK.step {D : Ends} {m m1 : AM} {H H1 : Hp} {fl : Fl} {μ' : Store} (h : FlK G D m H fl μ') (e : Ext m H m1 H1) : FlK G D m1 H1 fl μ' := by
  cases fl with
  | nx ρ => exact fun σ' H' m' e' s => h σ' H' m' (e.trans e') s
  | rt d => exact fun v H' m' e' s r => h v H' m' (e.trans e') s r
  | bk ρ => exact fun σ' H' m' e' s => h σ' H' m' (e.trans e') s
  | ct ρ => exact fun σ' H' m' e' s => h σ' H' m' (e.trans e') s
def tS (G : GC) (E : XK) (cf : String → List D → Store → Res D) (c : CS) : TS := fun Dn σ H => ∃ ρ μ m, SR G ρ μ m σ H ∧ Out (ex cf c ρ μ) (FlK G Dn m H) (ExS G E m H)
def tSs (G : GC) (E : XK) (cf : String → List D → Store → Res D) (cs : List CS) : TS := fun Dn σ H => ∃ ρ μ m, SR G ρ μ m σ H ∧ Out (exs cf cs ρ μ) (FlK G Dn m H) (ExS G E m H)
theorem ps_of {X : Cx} {e : Stmt} {t t' : TS} (h : PS X e t) (k : ∀ D σ H, t' D σ H → t D σ H) : PS X e t' := ⟨fun pins s σ H D I q => h.run pins s σ H D I (k D σ H q)⟩
theorem pss_of {X : Cx} {e : List Stmt} {t t' : TS} (h : PSs X e t) (k : ∀ D σ H, t' D σ H → t D σ H) : PSs X e t' := ⟨fun pins s σ H D I q => h.run pins s σ H D I (k D σ H q)⟩
end
section
variable {G : GC} {E : XK} {cf : String → List D → Store → Res D} {X : Cx} {st : Stmt} {rest : List Stmt} {pos : Pos} {e a b c : Expr} {ca cb cc ce : CE} {cs : CS} {css : List CS}
theorem sss_nil : PSs X [] (tSs G E cf []) := pss_of pss_nil fun Dn σ H ⟨ρ, μ, m, S, h⟩ => by
  unfold exs at h
  exact h σ H m (.refl _ _) S
theorem sss_cons (h1 : PS X st (tS G E cf cs)) (h2 : PSs X rest (tSs G E cf css)) : PSs X (st :: rest) (tSs G E cf (cs :: css)) :=
  pss_of (pss_cons h1 h2) fun Dn σ H ⟨ρ, μ, m, S, h⟩ => by
    unfold exs at h
    refine ⟨ρ, μ, m, S, h.bind.mono (fun fl μ1 q => ?_) fun _ _ _ z => z⟩
    cases fl with
    | nx ρ1 => exact fun σ' H' m' e s => ⟨ρ1, μ1, m', s, Out.mono q (fun fl μ2 k => k.step e) fun _ _ _ z => z.step e⟩
    | rt d => exact q
    | bk ρ1 => exact q
    | ct ρ1 => exact q
theorem ss_never : PS X st (tS G E cf .never) := ps_of ps_never fun Dn σ H ⟨ρ, μ, m, S, h⟩ => by
  unfold ex at h
  exact h
theorem ss_expr (he : PE X e (tE G (WofE E) cf ce)) (hs : swapsWith e none pos.line X.env = pure false := by rfl) : PS X (.Expr e pos) (tS G E cf (.expr ce)) :=
  ps_of (ps_expr he hs) fun Dn σ H ⟨ρ, μ, m, S, h⟩ => by
    unfold ex at h
    exact tE_sub S h.bind (.refl _ _) fun d μ1 v H1 m1 q e1 s1 rv => q σ H1 m1 e1 s1
theorem ss_ret (he : PE X e (tE G (WofE E) cf ce)) : PS X (.Return (some e) pos) (tS G E cf (.ret ce)) :=
  ps_of (ps_ret he) fun Dn σ H ⟨ρ, μ, m, S, h⟩ => by
    unfold ex at h
    exact tE_sub S h.bind (.refl _ _) fun d μ1 v H1 m1 q e1 s1 rv => q v H1 m1 e1 s1.st rv
theorem ss_if {as bs : List Stmt} {cas cbs : List CS} (hc : PT X c (tT G (WofE E) cf cc)) (ha : PSs X as (tSs G E cf cas)) (hb : PSs X bs (tSs G E cf cbs)) : PS X (.If c as bs pos) (tS G E cf (.ifs cc cas cbs)) :=
  ps_of (ps_if hc ha hb) fun Dn σ H ⟨ρ, μ, m, S, h⟩ => by
    unfold ex at h
    refine tT_sub S h.bind (.refl _ _) fun t μ1 H1 m1 q e1 s1 => ?_
    cases t with
    | true =>
      simp only [if_true] at q ⊢
      exact ⟨ρ, μ1, m1, s1, Out.mono q (fun fl μ2 k => k.step e1) fun _ _ _ z => z.step e1⟩
    | false =>
      simp only [Bool.false_eq_true, if_false] at q ⊢
      exact ⟨ρ, μ1, m1, s1, Out.mono q (fun fl μ2 k => k.step e1) fun _ _ _ z => z.step e1⟩
/-! ### targets of assignments -/
def tAT (G : GC) (cf : String → List D → Store → Res D) (t : AT) : TG := fun v σ H Q => ∃ ρ μ m d, SR G ρ μ m σ H ∧ Rep G m H d v ∧ Out (asgT cf t d ρ μ) (fun ρ' μ' => ∀ σ' H' m', Ext m H m' H' → SR G ρ' μ' m' σ' H' → Q σ' H') fun _ _ _ => False
def tATs (G : GC) (cf : String → List D → Store → Res D) (ts : List AT) : TGs := fun vs σ H Q => ∃ ρ μ m ds, SR G ρ μ m σ H ∧ Reps G m H ds vs ∧ Out (asgTs cf ts ds ρ μ) (fun ρ' μ' => ∀ σ' H' m', Ext m H m' H' → SR G ρ' μ' m' σ' H' → Q σ' H') fun _ _ _ => False
theorem sa_name (i : Nat) {x : Str} (hN : X.N.Nodup) (hi : X.N[i]? = some x := by rfl) (hx : Loc X.env.scope x := by first | exact Or.inl rfl | exact Or.inr rfl) (hf : X.fn x = true ∨ X.env.scope.names.lookup x = some .local := by first | exact .inl rfl | exact .inr rfl) : PG X (.Name x pos) (tAT G cf (.name i)) :=
  pg_of (pg_name hN hi hx hf) fun v σ H Q ⟨ρ, μ, m, d, S, r, h⟩ => by
    unfold asgT at h
    by_cases hl : i < ρ.length
    · rw [if_pos hl] at h
      exact h _ H m (.refl _ _) (S.set hl r)
    · rw [if_neg hl] at h; exact h.elim
theorem sas_nil : PGs X [] (tATs G cf []) := pgs_of pgs_nil fun vs σ H Q ⟨ρ, μ, m, ds, S, r, h⟩ => by
  cases ds with
  | nil => unfold asgTs at h; exact ⟨r.isnil, h σ H m (.refl _ _) S⟩
  | cons _ _ => unfold asgTs at h; exact h.elim
theorem sas_cons {es : List Expr} {t : AT} {ts : List AT} (h1 : PG X e (tAT G cf t)) (h2 : PGs X es (tATs G cf ts)) (hs : (assignEach (e :: es) X.env).map (·.2) = assign e X.env :: (assignEach es X.env).map (·.2) := by rfl) : PGs X (e :: es) (tATs G cf (t :: ts)) :=
  pgs_of (pgs_cons h1 h2 hs) fun vs σ H Q ⟨ρ, μ, m, ds, S, r, h⟩ => by
    cases ds with
    | nil => unfold asgTs at h; exact h.elim
    | cons d ds =>
      obtain ⟨w, ws, e1, r1, r2⟩ := r.uncons
      unfold asgTs at h
      refine ⟨w, ws, e1, ρ, μ, m, d, S, r1, h.bind.mono (fun ρ1 μ1 q σ1 H1 m1 e1 s1 => ?_) fun _ _ _ z => z⟩
      exact ⟨ρ1, μ1, m1, ds, s1, Reps.ext S.st.live e1 _ _ r2, Out.mono q (fun ρ2 μ2 k σ2 H2 m2 e2 s2 => k σ2 H2 m2 (e1.trans e2) s2) fun _ _ _ z => z⟩
theorem asgTs_len : ∀ {ts : List AT} {ds : List D} {ρ : Env} {μ : Store} {k : Env → Store → Prop} {ee : String → D → Store → Prop}, Out (asgTs cf ts ds ρ μ) k ee → (∀ x d μ, ee x d μ → False) → ds.length = ts.length
  | [], [], _, _, _, _, _, _ => rfl
  | [], _ :: _, _, _, _, _, h, _ => by unfold asgTs at h; exact h.elim
  | _ :: _, [], _, _, _, _, h, _ => by unfold asgTs at h; exact h.elim
  | t :: ts, d :: ds, ρ, μ, k, ee, h, hn => by
    unfold asgTs at h
    cases q : asgT cf t d ρ μ with
    | stuck => rw [q] at h; exact h.elim
    | exc x d μ => rw [q] at h; exact (hn _ _ _ h).elim
    | ok ρ1 μ1 => rw [q] at h; simp [asgTs_len (ts := ts) h hn]
theorem sa_tup {es : List Expr} {k : Nat} {ts : List AT} (hK : X.K = G.K) (hc : X.calm = true) (h : PGs X es (tATs G cf ts)) (hn : (assignEach es X.env).length = ts.length := by rfl) (hst : (assignEach es X.env).findIdx? (·.1) = none := by rfl) : PG X (.Tuple es k pos) (tAT G cf (.tup ts)) :=
  ⟨fun pins s σ H v u Q I rv ⟨ρ, μ, m, d, S, r, hh⟩ => by
    cases d with
    | tup ds =>
      unfold asgT at hh
      unfold Rep at r
      obtain ⟨a, xs, rfl, hs, rr⟩ := r
      exact (pg_tup hc h hn hst).run pins s σ H _ u Q I rv ⟨a, xs, rfl, by rw [hK]; exact hs, by rw [← rr.length, asgTs_len hh fun _ _ _ z => z], ρ, μ, m, ds, S, rr, hh⟩
    | str z =>
      unfold asgT at hh
      unfold Rep at r
      subst r
      exact (pg_str hc h hn hst).run pins s σ H _ u Q I rv ⟨z, rfl, by have := asgTs_len hh fun _ _ _ z => z; rw [List.length_map] at this; exact this, ρ, μ, m, _, S, reps_one_signs z, hh⟩
    | _ => unfold asgT at hh; exact hh.elim⟩
theorem setIx_ok {o i d : D} {μ μ' : Store} {m : AM} {H : Hp} {x y z : V} (st : StOk G μ m H) (ro : Rep G m H o x) (ri : Rep G m H i y) (rd : Rep G m H d z) (h : setIx o i d μ = some μ') :
    ∃ p xs k j, x = .ref p ∧ y = .int k ∧ H p = some (.lst xs) ∧ ixN xs.length k = some j ∧ Ext m H m (upd H p (.lst (xs.set j z))) ∧ StOk G μ' m (upd H p (.lst (xs.set j z))) := by
  unfold setIx at h
  split at h
  · rename_i n k
    cases q : μ[n]? with
    | none => rw [q] at h; cases h
    | some mo =>
      rw [q] at h
      cases mo with
      | dead => cases h
      | dct _ => cases h
      | lst ds =>
        simp only at h
        cases q2 : ixOf ds.length k with
        | none => rw [q2] at h; cases h
        | some j =>
          rw [q2] at h
          simp only at h
          by_cases hn : noLst d = true
          · rw [if_pos hn] at h
            cases h
            obtain ⟨h0, a, xs, q1, q3, q4⟩ := st.lst n ds q
            unfold Rep at ro ri
            obtain ⟨b, rfl, hb⟩ := ro
            have eab : a = b := by
              rw [q1] at hb
              rcases hb with hb | hb
              · simpa using hb
              · simp at hb
            subst eab
            subst ri
            have hlen := q4.length
            have hin : some a ∈ m.l := List.mem_of_getElem? q1
            have ex : Ext m H m (upd H a (.lst (xs.set j z))) := ⟨Nat.le_refl _, fun _ _ => .inl rfl, fun c h1 h2 => absurd h1 h2, fun c o h1 h2 => by
              have ne : c ≠ a := fun z => h2 (by rw [z]; exact .inl hin)
              rw [upd_ne ne]; exact h1, rfl, fun c hc => by
              have ne : c ≠ a := fun z => st.apart a hin (by rw [← z]; exact hc)
              rw [upd_ne ne]⟩
            have nls : noLsts (ds.set j d) = true := by
              have gen : ∀ (l : List D) (j : Nat), noLsts l = true → noLsts (l.set j d) = true := by
                intro l
                induction l with
                | nil => intro j h; simpa using h
                | cons y l ih =>
                  intro j h
                  unfold noLsts at h
                  obtain ⟨h1, h2⟩ := Bool.and_eq_true_iff.mp h
                  cases j with
                  | zero => show noLsts (d :: l) = true; unfold noLsts; rw [hn, h2]; rfl
                  | succ j => show noLsts (y :: l.set j d) = true; unfold noLsts; rw [h1, ih j h2]; rfl
              exact gen ds j h0
            refine ⟨a, xs, k, j, rfl, rfl, q3, by rw [← hlen]; exact q2, ex, ⟨by rw [List.length_set]; exact st.len, st.inj, st.apart, fun n' o es hn' hd' => ?_, fun n' hn' => ?_, fun c hc => ?_⟩⟩
            · by_cases e : n = n'
              · subst e
                rw [List.getElem?_set_self (List.getElem?_eq_some_iff.mp q).1] at hn'
                have e0 : MO.lst (ds.set j d) = o := by simpa using hn'
                subst e0
                have e2 : ds.set j d = es := Option.some.inj hd'
                subst e2
                exact ⟨nls, a, _, q1, upd_same, Reps.set j (Reps.ext st.live ex _ _ q4) (Rep.ext st.live ex _ _ rd)⟩
              · rw [List.getElem?_set_ne e] at hn'
                obtain ⟨g0, c, ys, g1, g2, g3⟩ := st.obj n' o es hn' hd'
                have ne : c ≠ a := fun z => by subst z; exact e (st.inj _ _ _ q1 g1)
                exact ⟨g0, c, ys, g1, by rw [upd_ne ne]; exact g2, Reps.ext st.live ex _ _ g3⟩
            · by_cases e : n = n'
              · subst e
                rw [List.getElem?_set_self (List.getElem?_eq_some_iff.mp q).1] at hn'
                simp at hn'
              · rw [List.getElem?_set_ne e] at hn'
                exact st.dead n' hn'
            · by_cases ne : c = a
              · rw [ne]; exact ⟨.lst _, trivial, upd_same⟩
              · rw [upd_ne ne]; exact st.live c hc
          · rw [if_neg hn] at h; cases h
  · cases h
theorem sa_sub {o i : Expr} {co ci : CE} (ho : PE X o (tE G W0 cf co)) (hi : PE X i (tE G W0 cf ci))
    (ha : ∀ v, assign (.Subscript o i pos) X.env v = (do
      let ov ← holding [v] (eval o X.env)
      let iv ← holding [v, ov] (eval i X.env)
      standAt pos
      holding [v, ov, iv] (setItem ov iv v)
      release [v, ov, iv] []) := by intro _; rfl) : PG X (.Subscript o i pos) (tAT G cf (.sub co ci)) :=
  pg_of (pg_sub ho hi set_list ha) fun v σ H Q ⟨ρ, μ, m, d, S, r, h⟩ => by
    unfold asgT at h
    obtain ⟨x, μ1, q1, h⟩ := out_noExc h.bind
    refine ⟨ρ, μ, m, S, ?_⟩
    rw [q1]
    intro w H1 m1 e1 s1 rw1
    obtain ⟨y, μ2, q2, h⟩ := out_noExc h.bind
    refine ⟨ρ, μ1, m1, s1, ?_⟩
    rw [q2]
    intro w2 H2 m2 e2 s2 rw2
    cases q3 : setIx x y d μ2 with
    | none => rw [q3] at h; exact h.elim
    | some μ3 =>
      rw [q3] at h
      obtain ⟨p, xs, k, j, e3, e4, hp, hj, ex, st3⟩ := setIx_ok s2.st (Rep.ext s1.st.live e2 _ _ rw1) rw2 (Rep.ext S.st.live (e1.trans e2) _ _ r) q3
      exact ⟨p, xs, k, j, e3, e4, hp, hj, h σ _ m2 ((e1.trans e2).trans ex) (s2.ext ex st3)⟩
mutual
theorem asgT_nox : ∀ (t : AT) (d : D) (ρ : Env) (μ : Store) (x : String) (d' : D) (μ' : Store), asgT cf t d ρ μ ≠ .exc x d' μ'
  | .name i, d, ρ, μ, x, d', μ' => by unfold asgT; split <;> (intro z; cases z)
  | .sub o i, d, ρ, μ, x, d', μ' => by
    unfold asgT
    cases q : ev cf o ρ μ with
    | stuck => intro z; cases z
    | exc _ _ _ => intro z; cases z
    | ok w μ1 =>
      simp only [noExc_ok, bind_ok]
      cases q2 : ev cf i ρ μ1 with
      | stuck => intro z; cases z
      | exc _ _ _ => intro z; cases z
      | ok w2 μ2 =>
        simp only [noExc_ok, bind_ok]
        split <;> (intro z; cases z)
  | .key o i, d, ρ, μ, x, d', μ' => by
    unfold asgT
    cases q : ev cf o ρ μ with
    | stuck => intro z; cases z
    | exc _ _ _ => intro z; cases z
    | ok w μ1 =>
      simp only [noExc_ok, bind_ok]
      cases q2 : ev cf i ρ μ1 with
      | stuck => intro z; cases z
      | exc _ _ _ => intro z; cases z
      | ok w2 μ2 =>
        simp only [noExc_ok, bind_ok]
        split <;> (intro z; cases z)
  | .tup ts, .tup ds, ρ, μ, x, d', μ' => by unfold asgT; exact asgTs_nox ts ds ρ μ x d' μ'
  | .tup ts, .non, ρ, μ, x, d', μ' => by unfold asgT; intro z; cases z
  | .tup ts, .bl _, ρ, μ, x, d', μ' => by unfold asgT; intro z; cases z
  | .tup ts, .int _, ρ, μ, x, d', μ' => by unfold asgT; intro z; cases z
  | .tup ts, .str z, ρ, μ, x, d', μ' => by unfold asgT; exact asgTs_nox ts _ ρ μ x d' μ'
  | .tup ts, .lst _, ρ, μ, x, d', μ' => by unfold asgT; intro z; cases z
  | .tup ts, .ref _, ρ, μ, x, d', μ' => by unfold asgT; intro z; cases z
  | .tup ts, .gl _, ρ, μ, x, d', μ' => by unfold asgT; intro z; cases z
  | .tup ts, .ty _, ρ, μ, x, d', μ' => by unfold asgT; intro z; cases z
  | .tup ts, .scr _, ρ, μ, x, d', μ' => by unfold asgT; intro z; cases z
  | .tup ts, .dcv _ _, ρ, μ, x, d', μ' => by unfold asgT; intro z; cases z
  | .tup ts, .exv _ _ _, ρ, μ, x, d', μ' => by unfold asgT; intro z; cases z
theorem asgTs_nox : ∀ (ts : List AT) (ds : List D) (ρ : Env) (μ : Store) (x : String) (d' : D) (μ' : Store), asgTs cf ts ds ρ μ ≠ .exc x d' μ'
  | [], [], ρ, μ, x, d', μ' => by unfold asgTs; intro z; cases z
  | [], _ :: _, ρ, μ, x, d', μ' => by unfold asgTs; intro z; cases z
  | _ :: _, [], ρ, μ, x, d', μ' => by unfold asgTs; intro z; cases z
  | t :: ts, d :: ds, ρ, μ, x, d', μ' => by
    unfold asgTs
    cases q : asgT cf t d ρ μ with
    | stuck => intro z; cases z
    | exc x d μ => exact absurd q (asgT_nox t _ ρ _ _ _ _)
    | ok ρ1 μ1 => exact asgTs_nox ts ds ρ1 μ1 x d' μ'
end
/-! ### assignments -/
theorem tAsg_of {te : AT} {Dn : Ends} {σ : St} {H : Hp} (h : tS G E cf (.asg te ce) Dn σ H) : tAsg (tE G (WofE E) cf ce) (tAT G cf te) Dn σ H := by
  obtain ⟨ρ, μ, m, S, h⟩ := h
  unfold ex at h
  refine tE_sub S h.bind (.refl _ _) fun d μ1 v H1 m1 q e1 s1 rv => ⟨ρ, μ1, m1, d, s1, rv, ?_⟩
  have hn : ∀ x d' μ', asgT cf te d ρ μ1 ≠ .exc x d' μ' := asgT_nox te d ρ μ1
  cases q1 : asgT cf te d ρ μ1 with
  | stuck => rw [q1] at q; exact q.elim
  | exc x d' μ' => exact (hn _ _ _ q1).elim
  | ok ρ2 μ2 =>
    rw [q1] at q
    exact fun σ' H' m' e2 s2 => q σ' H' m' (e1.trans e2) s2
theorem ss_asg {tg : Expr} {te : AT} (he : PE X e (tE G (WofE E) cf ce)) (hg : PG X tg (tAT G cf te)) (hs : swapsWithSole [tg] e pos.line X.env = pure false := by rfl) (hw : swappedStores [tg] e X.env = pure none := by rfl)
    (h1 : (assignEach [tg] X.env).map (·.2) = [assign tg X.env] := by rfl) : PS X (.Assign [tg] e pos) (tS G E cf (.asg te ce)) :=
  ps_of (ps_asg he hg hs hw h1) fun Dn σ H h => tAsg_of h
theorem ss_setLcif {i : Nat} {y : Str} {py : Pos} {elt tg iter cond : Expr} {scope : Scope} {own : List (Str × Nat)} {pos spos : Pos} {M : Bool} {celt ccond : CE} {ct : CT} {f : Itf} {cas : List CE}
    (hc : X.calm = true) (hN : X.N.Nodup) (hy : X.N[i]? = some y) (hyl : X.env.scope.names.lookup y = some .local) (hsw : swapsWith (.ListComp elt [⟨tg, iter, [cond], 0⟩] scope pos) (some (.Name y py)) spos.line X.env = pure true)
    (hsl : (slotsT ct).all (fun i => (own.map (·.2)).contains i) = true) (hi : PI X tg iter (tI G (WofE E) cf f cas)) (ok : blkC X.N X.env.scope scope own = true)
    (hg : ∀ (s : Shared) (H : Hp) (C : Addr) (cl : List (Str × Addr)) (fp : List Addr), PG (X.blk s H scope (compEnvC scope cl C X.env) fp) tg (tG G ct))
    (ht : ∀ (s : Shared) (H : Hp) (C : Addr) (cl : List (Str × Addr)) (fp : List Addr), PT (X.blk s H scope (compEnvC scope cl C X.env) fp) cond (tT G W0 cf ccond))
    (he : ∀ (s : Shared) (H : Hp) (C : Addr) (cl : List (Str × Addr)) (fp : List Addr), PE (X.blk s H scope (compEnvC scope cl C X.env) fp) elt (tE G W0 cf celt)) (hs : ∀ x, foldedSetIterable iter X.env x = pure x := by intro _; rfl) :
    PS X (.Assign [.Name y py] (.ListComp elt [⟨tg, iter, [cond], 0⟩] scope pos) spos) (tS G E cf (.asg (.name i) (.comp M celt ct f cas ccond (own.map (·.2))))) :=
  ps_of (ps_setLc hc hN hy hyl hsw hi (blkOk_by ok) hg (fun s H C cl fp => pts_one (ht s H C cl fp)) he hs) fun Dn σ H h => tLc_of (W := WofE E) hsl (fun _ _ _ z => z) (by
    obtain ⟨ρ, μ, m, S, q⟩ := tAsg_of h
    refine ⟨ρ, μ, m, S, q.mono (fun d μ1 k v H' m' e s r => ?_) fun _ _ _ z => z⟩
    obtain ⟨ρ2, μ2, m2, d2, S2, r2, q2⟩ := k v H' m' e s r
    unfold asgT at q2
    by_cases hl : i < ρ2.length
    · rw [if_pos hl] at q2
      exact q2 _ H' m2 (.refl _ _) (S2.set hl r2)
    · rw [if_neg hl] at q2; exact q2.elim)
/-- a, b = x, y -/
theorem ss_par {i j : Nat} {x y : Str} {px py pt : Pos} {kt k2 : Nat} {pt2 : Pos} (hc : X.calm = true) (hN : X.N.Nodup) (hi : X.N[i]? = some x) (hj : X.N[j]? = some y) (hij : i ≠ j)
    (hx : X.env.scope.names.lookup x = some .local) (hy : X.env.scope.names.lookup y = some .local) (ha : PA X [a, b] (tA G (WofE E) cf [ca, cb]))
    (hw : swappedStores [.Tuple [.Name x px, .Name y py] kt pt] (.Tuple [a, b] k2 pt2) X.env = pure (some [x, y]))
    (hs : swapsWithSole [.Tuple [.Name x px, .Name y py] kt pt] (.Tuple [a, b] k2 pt2) pos.line X.env = pure false := by rfl) :
    PS X (.Assign [.Tuple [.Name x px, .Name y py] kt pt] (.Tuple [a, b] k2 pt2) pos) (tS G E cf (.asg (.tup [.name i, .name j]) (.tup [ca, cb]))) :=
  ps_of (ps_par hc hN hi hj hij hx hy ha hw hs) fun Dn σ H ⟨ρ, μ, m, S, h⟩ => by
    unfold ex ev at h
    rw [Res.bind_assoc] at h
    refine tA_sub S h.bind (.refl _ _) fun ds μ1 vs H1 m1 q e1 s1 rv => ?_
    by_cases hl : ds.length ≤ cap
    · rw [if_pos hl] at q
      simp only [bind_ok] at q
      unfold asgT at q
      have q := Out.bind q
      cases ds with
      | nil => unfold asgTs at q; exact q.elim
      | cons d ds =>
        cases ds with
        | nil =>
          unfold asgTs asgT at q
          have q := Out.bind q
          by_cases h1 : i < ρ.length
          · rw [if_pos h1] at q; simp only [Out_ok] at q; unfold asgTs at q; exact q.elim
          · rw [if_neg h1] at q; exact q.elim
        | cons d2 ds =>
          cases ds with
          | cons _ _ =>
            unfold asgTs asgT at q
            have q := Out.bind q
            by_cases h1 : i < ρ.length
            · rw [if_pos h1] at q
              simp only [Out_ok] at q
              unfold asgTs asgT at q
              have q := Out.bind q
              by_cases h2 : j < (ρ.set i (some d)).length
              · rw [if_pos h2] at q; simp only [Out_ok] at q; unfold asgTs at q; exact q.elim
              · rw [if_neg h2] at q; exact q.elim
            · rw [if_neg h1] at q; exact q.elim
          | nil =>
            obtain ⟨v, w, rfl, r1, r2⟩ := reps2 rv
            refine ⟨v, w, rfl, ?_⟩
            unfold asgTs asgT at q
            have q := Out.bind q
            by_cases h1 : i < ρ.length
            · rw [if_pos h1] at q
              simp only [Out_ok] at q
              unfold asgTs asgT at q
              have q := Out.bind q
              by_cases h2 : j < (ρ.set i (some d)).length
              · rw [if_pos h2] at q
                simp only [Out_ok] at q
                unfold asgTs at q
                simp only [Out_ok] at q
                exact q _ H1 m1 e1 ((s1.set h1 r1).set h2 r2)
              · rw [if_neg h2] at q; exact q.elim
            · rw [if_neg h1] at q; exact q.elim
    · rw [if_neg hl] at q; exact q.elim
/-! ### loops -/
theorem ss_for {tg iter : Expr} {body : List Stmt} {cb : List CS} {ct : CT} {f : Itf} {cas : List CE} (hp : PassesOwn (model X.prog X.w) X.A X.env X.xe) (hc : X.calm = true) (hi : PI X tg iter (tI G (WofE E) cf f cas)) (hg : PG X tg (tG G ct)) (hb : PSs X body (tSs G E cf cb))
    (hs : ∀ x, foldedSetIterable iter X.env x = pure x := by intro _; rfl) : PS X (.For tg iter body [] pos) (tS G E cf (.for ct f cas cb)) :=
  ps_of (ps_for hp hc hi hg hb hs) fun Dn σ H ⟨ρ, μ, m, S, h⟩ => by
    unfold ex at h
    rw [← Res.bind_assoc] at h
    refine pi_mono S h.bind fun items μ1 J H1 m1 q e1 s1 sv => ?_
    let step : Env → D → Store → Res Fl := fun ρ d μ => match bindT ct d ρ with
      | none => .stuck
      | some ρ1 => exs cf cb ρ1 μ
    have hstep : step = fun ρ d μ => match bindT ct d ρ with
      | none => .stuck
      | some ρ1 => exs cf cb ρ1 μ := rfl
    have q : Out (forLoop step items ρ μ1) (FlK G Dn m1 H1) (ExS G E m1 H1) := by
      refine Out.mono q (fun fl μ2 k => FlK.step k e1) fun _ _ _ z => ExS.step z e1
    clear_value step
    refine ⟨fun i mm σ H => mm = items.length - i ∧ i ≤ items.length ∧ ∃ ρi μi mi, SR G ρi μi mi σ H ∧ Ext m1 H1 mi H ∧ Out (forLoop step (items.drop i) ρi μi) (FlK G Dn m1 H1) (ExS G E m1 H1),
      ⟨items.length, by simp, Nat.zero_le _, ρ, μ1, m1, s1, .refl _ _, by simpa using q⟩, ?_⟩
    rintro i mm σi Hi ⟨rfl, hi, ρi, μi, mi, si, ei, ho⟩
    by_cases hlt : i < items.length
    · right
      obtain ⟨g1, g2⟩ := sv.goes i _ Hi mi ei.mon (List.getElem?_eq_getElem hlt)
      rw [List.drop_eq_getElem_cons hlt] at ho
      unfold forLoop at ho
      have ho := ho.bind
      refine ⟨g1, fun σ' H' => ∃ ρ' μ' m', SR G ρ' μ' m' σ' H' ∧ Ext m1 H1 m' H' ∧ Out (forLoop step (items.drop (i + 1)) ρ' μ') (FlK G Dn m1 H1) (ExS G E m1 H1), fun σ' H' w => ⟨items.length - (i + 1), by omega, rfl, hlt, w⟩, fun x H' y => ?_⟩
      obtain ⟨k2, rx⟩ := g2 x H' y
      have e2 : Ext mi Hi mi H' := ⟨Nat.le_refl _, fun _ _ => .inl rfl, fun a h1 h2 => absurd h1 h2, fun a o q _ => k2 a o q, rfl, fun a ha => by
        obtain ⟨xs, _, q⟩ := si.st.live a (.inr ha)
        rw [q]; exact k2 _ _ q⟩
      have s2 : SR G ρi μi mi σi H' := si.ext e2 (si.st.ext0 e2 fun a ha => by
        obtain ⟨xs, _, q⟩ := si.st.live a ha
        rw [q]; exact k2 _ _ q)
      subst hstep
      simp only at ho
      cases hb2 : bindT ct items[i] ρi with
      | none => rw [hb2] at ho; exact ho.elim
      | some ρ1 =>
        rw [hb2] at ho
        refine ⟨ρi, μi, mi, items[i], ρ1, s2, rx, hb2, fun σ3 s3 _ => ⟨ρ1, μi, mi, s3, Out.mono ho (fun fl μ4 k => ?_) fun x d μ4 z => ExS.step z (ei.trans e2)⟩⟩
        cases fl with
        | nx ρ4 => exact fun σ' H4 m4 e4 s4 => ⟨ρ4, μ4, m4, s4, (ei.trans e2).trans e4, k⟩
        | ct ρ4 => exact fun σ' H4 m4 e4 s4 => ⟨ρ4, μ4, m4, s4, (ei.trans e2).trans e4, k⟩
        | bk ρ4 => exact fun σ' H4 m4 e4 s4 => k σ' H4 m4 ((ei.trans e2).trans e4) s4
        | rt d => exact fun v H4 m4 e4 s4 r => k v H4 m4 ((ei.trans e2).trans e4) s4 r
    · left
      have hi' : i = items.length := by omega
      subst hi'
      rw [List.drop_length] at ho
      unfold forLoop at ho
      exact ⟨sv.stop Hi mi ei.mon, ho σi Hi mi ei si⟩
theorem ss_while {body : List Stmt} {cb : List CS} {n : Nat} (hp : PassesOwn (model X.prog X.w) X.A X.env X.xe) (hc : PT X c (tT G (WofE E) cf cc)) (hb : PSs X body (tSs G E cf cb)) : PS X (.While c body [] pos) (tS G E cf (.whil n cc cb)) :=
  ps_of (ps_while hp hc hb) fun Dn σ H ⟨ρ, μ, m, S, h⟩ => by
    unfold ex at h
    refine ⟨fun k σ' H' => ∃ ρ' μ' m', SR G ρ' μ' m' σ' H' ∧ Ext m H m' H' ∧ Out (whileLoop (evT cf cc) (fun ρ μ => exs cf cb ρ μ) k ρ' μ') (FlK G Dn m H) (ExS G E m H), ⟨n, ρ, μ, m, S, .refl _ _, h⟩, ?_⟩
    rintro k σ1 H1 ⟨ρ1, μ1, m1, s1, e1, ho⟩
    cases k with
    | zero => unfold whileLoop at ho; exact ho.elim
    | succ k =>
      unfold whileLoop at ho
      refine ⟨ρ1, μ1, m1, s1, Out.mono ho.bind (fun t μ2 q H2 m2 e2 s2 => ?_) fun x d μ2 z => ExS.step z e1⟩
      cases t with
      | false =>
        simp only [Bool.false_eq_true, if_false] at q ⊢
        exact q σ1 H2 m2 (e1.trans e2) s2
      | true =>
        simp only [if_true] at q ⊢
        refine ⟨fun σ' H' => ∃ ρ' μ' m', SR G ρ' μ' m' σ' H' ∧ Ext m H m' H' ∧ Out (whileLoop (evT cf cc) (fun ρ μ => exs cf cb ρ μ) k ρ' μ') (FlK G Dn m H) (ExS G E m H), fun σ' H' w => ⟨k, Nat.lt_succ_self k, w⟩, ρ1, μ2, m2, s2, Out.mono q.bind (fun fl μ4 z => ?_) fun x d μ4 z => ExS.step z (e1.trans e2)⟩
        cases fl with
        | nx ρ4 => exact fun σ' H4 m4 e4 s4 => ⟨ρ4, μ4, m4, s4, (e1.trans e2).trans e4, z⟩
        | ct ρ4 => exact fun σ' H4 m4 e4 s4 => ⟨ρ4, μ4, m4, s4, (e1.trans e2).trans e4, z⟩
        | bk ρ4 => exact fun σ' H4 m4 e4 s4 => z σ' H4 m4 ((e1.trans e2).trans e4) s4
        | rt d => exact fun v H4 m4 e4 s4 r => z v H4 m4 ((e1.trans e2).trans e4) s4 r
end
end Ev
namespace Ev
open PySem PySem.Spec L2 Res
/-! ## comprehensions of two clauses -/
/-- a list is being made at p, set apart -/
structure Mk (G : GC) (m : AM) (H1 : Hp) (p : Addr) (μ : Store) (l : List (Option Addr)) (accD : List D) (acc : List V) (H : Hp) : Prop where
  eD : H p = some (.lst acc)
  rr : Reps G ⟨l, p :: m.x⟩ H accD acc
  ex : Ext m H1 ⟨l, m.x⟩ H
  st : StOk G μ ⟨l, p :: m.x⟩ H
section
variable {G : GC} {m : AM} {H1 H H' H3 : Hp} {p : Addr} {μ μ1 μ3 : Store} {l : List (Option Addr)} {accD : List D} {acc : List V} {ρ : Env} {σ : St}
theorem has_pl (l : List (Option Addr)) (x : List Addr) (p a : Addr) : (AM.mk l (p :: x)).has a ↔ (AM.mk l x).has a ∨ a = p := by
  constructor
  · rintro (q | q)
    · exact .inl (.inl q)
    · rcases List.mem_cons.mp q with q | q
      · exact .inr q
      · exact .inl (.inr q)
  · rintro ((q | q) | q)
    · exact .inl q
    · exact .inr (List.mem_cons_of_mem _ q)
    · exact .inr (by rw [q]; exact List.mem_cons_self)
theorem Mk.nD (S : StOk G μ m H1) (hD : H1 p = none) : ¬ m.has p := fun z => by
  obtain ⟨xs, _, q⟩ := S.live p z
  rw [hD] at q; cases q
theorem Mk.start (S : StOk G μ m H1) (hD : H1 p = none) : Mk G m H1 p μ m.l [] [] (upd H1 p (.lst [])) := by
  have nD := Mk.nD S hD
  have up : Mon m H1 ⟨m.l, p :: m.x⟩ (upd H1 p (.lst [])) := ⟨fun _ _ => .inl rfl, fun a o q n => ⟨by rw [upd_ne (ne_of_none q hD)]; exact q, fun z => ((has_pl _ _ _ _).mp z).elim n (ne_of_none q hD)⟩⟩
  refine ⟨upd_same, .nil, .new S.live hD, ⟨S.len, S.inj, fun a h1 h2 => ?_, fun n o ds hn hd => ?_, S.dead, fun a ha => ?_⟩⟩
  · rcases List.mem_cons.mp h2 with q | q
    · rw [q] at h1; exact nD (.inl h1)
    · exact S.apart a h1 q
  · obtain ⟨h0, a, xs, q1, q2, q3⟩ := S.obj n o ds hn hd
    exact ⟨h0, a, xs, q1, by rw [upd_ne (ne_of_none q2 hD)]; exact q2, Reps.mon S.live up _ _ q3⟩
  · rcases (has_pl _ _ _ _).mp ha with q | q
    · obtain ⟨xs, mu, z⟩ := S.live a q
      exact ⟨xs, mu, by rw [upd_ne (ne_of_none z hD)]; exact z⟩
    · rw [q]; exact ⟨.lst [], trivial, upd_same⟩
theorem Mk.up (hD : H1 p = none) (K : Mk G m H1 p μ l accD acc H) : Mon m H1 ⟨l, p :: m.x⟩ H :=
  ⟨fun n hn => K.ex.pre n hn, fun a o q n => ⟨K.ex.keep _ _ q n, fun z => ((has_pl _ _ _ _).mp z).elim (K.ex.nm q n) (ne_of_none q hD)⟩⟩
/-- an item comes -/
theorem Mk.yld (S : StOk G μ1 m H1) (k2 : ∀ a o, H a = some o → H' a = some o) (K : Mk G m H1 p μ l accD acc H) : Mk G m H1 p μ l accD acc H' ∧ Ext ⟨l, p :: m.x⟩ H ⟨l, p :: m.x⟩ H' := by
  have e2 : Ext ⟨l, p :: m.x⟩ H ⟨l, p :: m.x⟩ H' := ⟨Nat.le_refl _, fun _ _ => .inl rfl, fun a ha hna => absurd ha hna, fun a o q _ => k2 a o q, rfl, fun a ha => by
      obtain ⟨xs, _, q⟩ := K.st.live a (.inr ha)
      rw [q]; exact k2 _ _ q⟩
  refine ⟨⟨k2 _ _ K.eD, Reps.ext K.st.live e2 _ _ K.rr, ⟨K.ex.len, K.ex.pre, K.ex.fresh, fun a o q n => k2 _ _ (K.ex.keep a o q n), rfl, fun a ha => ?_⟩, K.st.ext0 e2 fun a ha => ?_⟩, e2⟩
  · have q1 := K.ex.keepx a ha
    obtain ⟨xs, _, q⟩ := S.live a (.inr ha)
    rw [q]; rw [q] at q1
    exact k2 _ _ q1
  · obtain ⟨xs, _, q⟩ := K.st.live a ha
    rw [q]; exact k2 _ _ q
/-- one item more -/
theorem Mk.app (S : StOk G μ1 m H1) (hD : H1 p = none) (K : Mk G m H1 p μ l accD acc H) {y : D} {v : V} (rv : Rep G ⟨l, p :: m.x⟩ H y v) :
    Mk G m H1 p μ l (accD ++ [y]) (acc ++ [v]) (upd H p (.lst (acc ++ [v]))) ∧ Mon ⟨l, p :: m.x⟩ H ⟨l, p :: m.x⟩ (upd H p (.lst (acc ++ [v]))) := by
  have wr : Mon ⟨l, p :: m.x⟩ H ⟨l, p :: m.x⟩ (upd H p (.lst (acc ++ [v]))) := ⟨fun _ _ => .inl rfl, fun a o q n => by
    have ne : a ≠ p := fun z => n ((has_pl _ _ _ _).mpr (.inr z))
    exact ⟨by rw [upd_ne ne]; exact q, n⟩⟩
  have s5 := K.st
  have apP : some p ∉ l := fun z => s5.apart p z List.mem_cons_self
  refine ⟨⟨upd_same, Reps.append (Reps.mon s5.live wr _ _ K.rr) (.cons (Rep.mon s5.live wr _ _ rv) .nil), ⟨K.ex.len, K.ex.pre, K.ex.fresh, fun a o q n => ?_, rfl, fun a ha => ?_⟩, ⟨s5.len, s5.inj, s5.apart, fun n o ds hn hd => ?_, s5.dead, fun a ha => ?_⟩⟩, wr⟩
  · rw [upd_ne (ne_of_none q hD)]; exact K.ex.keep a o q n
  · obtain ⟨xs, _, q⟩ := S.live a (.inr ha)
    rw [upd_ne (ne_of_none q hD)]; exact K.ex.keepx a ha
  · obtain ⟨h0, a, xs, q1, q2, q3⟩ := s5.obj n o ds hn hd
    have ne : a ≠ p := fun z => apP (by rw [← z]; exact List.mem_of_getElem? q1)
    exact ⟨h0, a, xs, q1, by rw [upd_ne ne]; exact q2, Reps.mon s5.live wr _ _ q3⟩
  · by_cases ne : a = p
    · rw [ne]; exact ⟨.lst _, trivial, upd_same⟩
    · obtain ⟨xs, mu, q⟩ := s5.live a ha
      exact ⟨xs, mu, by rw [upd_ne ne]; exact q⟩
/-- the end -/
theorem Mk.done {M : Bool} {k : D → Store → Prop} {ee : String → D → Store → Prop} (S : SR G ρ μ1 m σ H1) (hD : H1 p = none) (K : Mk G m H1 p μ l accD acc H) (ho : Out (mkL M accD μ) k ee) :
    ∃ d μ2 m2, k d μ2 ∧ Ext m H1 m2 H ∧ Rep G m2 H d (.ref p) ∧ SR G ρ μ2 m2 σ H := by
  have st := K.st
  have down : Mon ⟨l, p :: m.x⟩ H ⟨l, m.x⟩ H := ⟨fun _ _ => .inl rfl, fun a o q n => ⟨q, fun z => n ((has_pl _ _ _ _).mpr (.inl z))⟩⟩
  have stDown : StOk G μ ⟨l, m.x⟩ H := ⟨st.len, st.inj, fun a h1 h2 => st.apart a h1 (List.mem_cons_of_mem _ h2), fun n o ds hn hd => by
    obtain ⟨h0, a, xs, q1, q2, q3⟩ := st.obj n o ds hn hd
    exact ⟨h0, a, xs, q1, q2, Reps.mon st.live down _ _ q3⟩, st.dead, fun a ha => st.live a ((has_pl _ _ _ _).mpr (.inl ha))⟩
  have nDm : ¬ (AM.mk l m.x).has p := fun z => z.elim (fun z => st.apart p z List.mem_cons_self) fun z => by
    obtain ⟨xs, _, q⟩ := S.st.live p (.inr z)
    rw [hD] at q; cases q
  obtain ⟨d, μ2, m2, k, e3, r, st2⟩ := mkL_new ho K.ex stDown hD K.eD nDm (Reps.mon st.live down _ _ K.rr)
  exact ⟨d, μ2, m2, k, e3, r, S.ext e3 st2⟩
end
end Ev
namespace Ev
open PySem PySem.Spec L2 Res
/-- what a def promises: it does as cf does -/
def spF (G : GC) (np : Nat) (cf : List D → Store → Res D) : Sp := fun vs H Q E => vs.length = np ∧ ∃ ds μ m, StOk G μ m H ∧ Reps G m H ds vs ∧
  Out (cf ds μ) (fun d μ' => ∀ v H' m', Ext m H m' H' → StOk G μ' m' H' → Rep G m' H' d v → Q v H') (ExS G E m H)
/-- some of a list, by place -/
def permL {α : Type} (p : List Nat) (xs : List α) : List α := p.filterMap fun i => xs[i]?
section
variable {G : GC} {m : AM} {H : Hp}
theorem Reps.perm {ds : List D} {vs : List V} (h : Reps G m H ds vs) : ∀ p : List Nat, Reps G m H (permL p ds) (permL p vs)
  | [] => .nil
  | i :: p => by
    unfold permL
    rw [List.filterMap_cons, List.filterMap_cons]
    cases e : ds[i]? with
    | none =>
      have : vs[i]? = none := by
        have := List.getElem?_eq_none_iff.mp e
        exact List.getElem?_eq_none_iff.mpr (by rw [← h.length]; exact this)
      rw [this]; exact h.perm p
    | some d =>
      obtain ⟨v, q1, q2⟩ := h.get e
      rw [q1]
      exact .cons q2 (h.perm p)
theorem Vals.perm {vs : List V} {us : List Value} (h : Vals vs us) : ∀ p : List Nat, Vals (permL p vs) (permL p us)
  | [] => .nil
  | i :: p => by
    unfold permL
    rw [List.filterMap_cons, List.filterMap_cons]
    cases e : vs[i]? with
    | none =>
      rw [h.none_of e]; exact Vals.perm h p
    | some d =>
      obtain ⟨v, q1, q2⟩ := h.get e
      rw [q1]
      exact .cons q2 (Vals.perm h p)
end
section
variable {G : GC} {W : WX} {cf : String → List D → Store → Res D} {X : Cx}
theorem evs_nil {ρ : Env} {μ : Store} : evs cf [] ρ μ = .ok [] μ := by unfold evs; rfl
theorem evs_cons {a : CE} {as : List CE} {ρ : Env} {μ : Store} : evs cf (a :: as) ρ μ = (ev cf a ρ μ).bind fun x μ1 => (evs cf as ρ μ1).bind fun xs μ2 => .ok (x :: xs) μ2 := by conv => lhs; unfold evs
variable {k : Nat} {f : Addr} {fd : FuncData} {ps ks : List Str} {x : Str} {y : String} {p pos : Pos} {e : Expr} {es : List Expr} {kws : List Keyword} {cas cks : List CE} {ce : CE}
/-- a def of the module is called -/
theorem se_call (F : FnOk X.prog X.w X.K X.mg X.base (L2.CX X.prog X.w) k f fd ps (spF G ps.length (cf y))) (hr : Room k X.A) (hg : Gl X x) (hm : X.mg x = some (.ref f)) (hk : PySem.W.keepIn X.K (.ref f) = true) (hb : Binds X.K fd ps []) (tk : Takes X W)
    (ha : PA X (e :: es) (tA G W cf cas)) (hlen : cas.length = ps.length) (hdb : (x == ("__debug__" : Str)) = false := by decide) (he : starEach (e :: es) X.env = (false, eval e X.env) :: starEach es X.env := by rfl) (hpl : (backTo pos (starEach es X.env)).any (·.1) = false := by rfl) :
    PE X (.Call (.Name x p) (e :: es) [] pos) (tE G W cf (.call y id cas)) :=
  pe_of (pe_callS F hr hg hm hk hb (fun σ => passAt tk σ) ha hdb he hpl) fun σ H Q ⟨ρ, μ, m, S, h⟩ => by
    unfold ev at h
    have hl : ∀ {cs : List CE} {ρ : Env} {μ : Store} {kk ee}, Out (evs cf cs ρ μ) kk ee → Out (evs cf cs ρ μ) (fun ds μ' => ds.length = cs.length ∧ kk ds μ') ee := by
      intro cs
      induction cs with
      | nil => intro ρ μ kk ee h; unfold evs at h ⊢; exact ⟨rfl, h⟩
      | cons c cs ih =>
        intro ρ μ kk ee h
        unfold evs at h ⊢
        cases q : ev cf c ρ μ with
        | stuck => rw [q] at h; exact h.elim
        | exc x d μ1 => rw [q] at h; exact h
        | ok d μ1 =>
          rw [q] at h
          simp only [bind_ok] at h ⊢
          have h2 := ih h.bind
          cases q2 : evs cf cs ρ μ1 with
          | stuck => rw [q2] at h; exact h.elim
          | exc x d μ1 => rw [q2] at h; exact h
          | ok ds μ2 => rw [q2] at h h2; exact ⟨by simp [h2.1], h⟩
    refine tA_sub S (hl h.bind) (.refl _ _) fun ds μ1 vs H1 m1 q e1 s1 rv => ?_
    obtain ⟨q0, q⟩ := q
    refine ⟨by rw [← rv.length, q0, hlen], ds, μ1, m1, s1.st, rv, Out.mono q (fun d μ2 z v H2 m2 e2 st2 r2 => z v H2 m2 (e1.trans e2) (s1.ext e2 st2) r2) fun x d μ2 z => ?_⟩
    exact fun cls dd H' m' e' st' ea => z cls dd H' m' (e1.trans e') st' ea
theorem evs_len {cs : List CE} {ρ : Env} {μ : Store} {kk ee} (h : Out (evs cf cs ρ μ) kk ee) : Out (evs cf cs ρ μ) (fun ds μ' => ds.length = cs.length ∧ kk ds μ') ee := by
  induction cs generalizing ρ μ kk ee with
  | nil => unfold evs at h ⊢; exact ⟨rfl, h⟩
  | cons c cs ih =>
    unfold evs at h ⊢
    cases q : ev cf c ρ μ with
    | stuck => rw [q] at h; exact h.elim
    | exc x d μ1 => rw [q] at h; exact h
    | ok d μ1 =>
      rw [q] at h
      simp only [bind_ok] at h ⊢
      have h2 := ih h.bind
      cases q2 : evs cf cs ρ μ1 with
      | stuck => rw [q2] at h; exact h.elim
      | exc x d μ1 => rw [q2] at h; exact h
      | ok ds μ2 => rw [q2] at h h2; exact ⟨by simp [h2.1], h⟩
/-! ### keywords -/
theorem sk_nil : PK X [] (tA G W cf []) := ⟨fun pos pins s σ H Q I ⟨ρ, μ, m, S, h⟩ => pk_nil.run pos pins s σ H Q I (by
  unfold evs at h
  exact h [] H m (.refl _ _) S .nil)⟩
theorem sk_cons {nm : Option Str} {kpos : Pos} (ha : PE X e (tE G W cf ce)) (hr : PK X kws (tA G W cf cks)) : PK X (⟨nm, e, kpos⟩ :: kws) (tA G W cf (ce :: cks)) :=
  ⟨fun pos pins s σ H Q I ⟨ρ, μ, m, S, h⟩ => (pk_cons ha hr).run pos pins s σ H Q I (by
    unfold evs at h
    refine tE_sub S h.bind (.refl _ _) fun d μ1 v H1 m1 q e1 s1 rv => ?_
    refine tA_sub s1 q.bind e1 fun ds μ2 vs H2 m2 q e2 s2 rvs => ?_
    exact q (v :: vs) H2 m2 (e1.trans e2) s2 (.cons (Rep.ext s1.st.live e2 _ _ rv) rvs))⟩
theorem run_fnSK {pins : List (Addr × Obj)} {σ : St} {H : Hp} {s : Shared} {Q : VK} {args : Args} {us : List Value} {vs : List V} {sp : Sp} (F : FnOk X.prog X.w X.K X.mg X.base (L2.CX X.prog X.w) k f fd ps sp) (hr : Room k X.A) (tk : Takes X W)
    (hb : BindsTo s fd args (ps.zip us)) (I : Inv X pins σ H s) (r : Vals vs us) (h : sp vs H Q (WE W σ)) : wpAny (model X.prog X.w) X.A (call (.ref f) args.pos args.kw) (EP X pins σ Q) X.xe s := by
  obtain ⟨ap, ak⟩ := args
  refine wpAny_call (codeAny_mono (F.run X.A X.stack s H ⟨ap, ak⟩ us vs Q (WE W σ) hr I.env0 hb r h) fun r s' hq => ?_)
  cases r with
  | error e => exact passAt tk σ pins H s e s' I hq
  | ok fl =>
    cases fl with
    | ret u => exact I.after hq
    | next => exact False.elim hq
    | brk => exact False.elim hq
    | cont => exact False.elim hq
/-- f(k = v, ..) -/
theorem se_callK0 {pl : List Nat} (F : FnOk X.prog X.w X.K X.mg X.base (L2.CX X.prog X.w) k f fd ps (spF G ps.length (cf y))) (hr : Room k X.A) (hg : Gl X x) (hm : X.mg x = some (.ref f)) (hk : PySem.W.keepIn X.K (.ref f) = true) (tk : Takes X W)
    (hb : ∀ (s : Shared) (ws : List Value), ws.length = cks.length → BindsTo s fd ⟨[], ks.zip ws⟩ (ps.zip (permL pl ws))) (hpl : ∀ vs : List V, vs.length = cks.length → (permL pl vs).length = ps.length)
    (hkw : PK X kws (tA G W cf cks)) (hall : (backToKw pos (keywordEach kws X.env)).all (·.1.isSome) = true := by rfl) (hks : (backToKw pos (keywordEach kws X.env)).filterMap (·.1) = ks := by rfl)
    (hdb : (x == ("__debug__" : Str)) = false := by decide) (hpn : ((backTo pos (starEach [] X.env)).any (·.1) || (backToKw pos (keywordEach kws X.env)).any (·.1.isNone)) = false := by rfl) :
    PE X (.Call (.Name x p) [] kws pos) (tE G W cf (.call y (permL pl) cks)) := by
  refine ⟨fun pins s σ H Q I ⟨ρ, μ, m, S, h⟩ => ?_⟩
  unfold ev at h
  refine wpAny_Call_Name_kw (ld_glob I hg hm ?_ hdb)
  have hA : tA G W cf cks σ H fun ws H2 => ws.length = cks.length ∧ spF G ps.length (cf y) (permL pl ws) H2 Q (WE W σ) :=
    tA_sub S (evs_len h.bind) (.refl _ _) fun ds μ1 vs H1 m1 q e1 s1 rv => by
      refine ⟨by rw [← rv.length]; exact q.1, hpl _ (by rw [← rv.length]; exact q.1), _, μ1, m1, s1.st, rv.perm pl, Out.mono q.2 (fun d μ3 z v H3 m3 e3 st3 r3 => z v H3 m3 (e1.trans e3) (s1.ext e3 st3) r3) fun x d μ3 z => ?_⟩
      exact fun cls dd H' m' e' st' ea => z cls dd H' m' (e1.trans e') st' ea
  refine PySem.W.callWith_KW0 (h₀ := X.base) I.ok.mod.kin hk hall (thn (hkw.run pos pins s σ H _ I hA) fun zs s2 ⟨ws, H2, I2, rz, l2, q2⟩ => ⟨I2.kIn, ?_⟩) hpn
  rw [hks]
  exact run_fnSK (args := ⟨[], ks.zip zs⟩) F hr tk (hb s2 zs (by rw [← rz.length]; exact l2)) I2 (Vals.perm rz pl) q2
end
/-! ### a def keeps its promise -/
section
variable {P : Program} {w : World} {K : PySem.W.Frag} {mg : Str → Option Value} {base : Heap} {G : GC}
theorem reps_start {m : AM} {H : Hp} {ds : List D} {vs : List V} {N : List Str} (h : Reps G m H ds vs) (nl : Nat) (hn : nl = N.length) (μ : Store) (st : StOk G μ m H) : SR G (ds.map some ++ List.replicate (nl - ds.length) none) μ m (L2.start N vs) H := by
  have hl := h.length
  refine ⟨by unfold L2.start; simp [hl, hn], fun i d e => ?_, st⟩
  unfold L2.start
  by_cases hi : i < ds.length
  · rw [List.getElem?_append_left (by simpa using hi), List.getElem?_map] at e
    cases q : ds[i]? with
    | none => rw [q] at e; cases e
    | some d' =>
      rw [q] at e
      have e' : d' = d := by simpa using e
      subst e'
      obtain ⟨v, q1, q2⟩ := h.get q
      exact ⟨v, by rw [List.getElem?_append_left (by rw [List.length_map, ← hl]; exact hi), List.getElem?_map, q1]; rfl, q2⟩
  · rw [List.getElem?_append_right (by simpa using hi)] at e
    rw [List.getElem?_replicate] at e
    split at e <;> cases e
theorem trunc_ok {μ μ' : Store} {m m' : AM} {H H' : Hp} {d : D} {v : V} {k : D → Store → Prop} {ee : String → D → Store → Prop} (h : Out (trunc μ d μ') k ee) (st0 : StOk G μ m H) (e : Ext m H m' H') (st : StOk G μ' m' H') (r : Rep G m' H' d v) :
    ∃ μ2 m2, k d μ2 ∧ Ext m H m2 H' ∧ StOk G μ2 m2 H' ∧ Rep G m2 H' d v := by
  unfold trunc at h
  by_cases hn : noRef d = true
  · rw [if_pos hn] at h
    refine ⟨_, ⟨m'.l.take m.l.length, m'.x⟩, h, ⟨by simp [e.len], fun i hi => ?_, fun a ha hna => ?_, e.keep, e.xeq, e.keepx⟩, ?_, ?_⟩
    · show (m'.l.take m.l.length)[i]? = _ ∨ (m'.l.take m.l.length)[i]? = _
      rw [List.getElem?_take_of_lt hi]
      exact e.pre i hi
    · exact e.fresh a (ha.elim (fun z => .inl (List.mem_of_mem_take z)) .inr) hna
    · have old : ∀ {i : Nat} {o : Option Addr}, (m'.l.take m.l.length)[i]? = some o → m'.l[i]? = some o := fun {i o} q => by
        rw [List.getElem?_take] at q
        split at q
        · exact q
        · cases q
      refine ⟨by simp [st.len, st0.len], fun i j a h1 h2 => st.inj i j a (old h1) (old h2), fun a h1 h2 => st.apart a (List.mem_of_mem_take h1) h2, fun n o ds hn' hd' => ?_, fun n hn' => ?_, fun a ha => st.live a (ha.elim (fun z => .inl (List.mem_of_mem_take z)) .inr)⟩
      · rw [List.getElem?_take] at hn'
        split at hn'
        · rename_i hlt
          obtain ⟨h0, a, xs, q1, q2, q3⟩ := st.obj n o ds hn' hd'
          exact ⟨h0, a, xs, by show (m'.l.take m.l.length)[n]? = _; rw [List.getElem?_take_of_lt (by rw [st0.len]; exact hlt)]; exact q1, q2, Reps.flat _ _ h0 q3⟩
        · cases hn'
      · rw [List.getElem?_take] at hn'
        split at hn'
        · rename_i hlt
          show (m'.l.take m.l.length)[n]? = _
          rw [List.getElem?_take_of_lt (by rw [st0.len]; exact hlt)]
          exact st.dead n hn'
        · cases hn'
    · exact Rep.back (m := ⟨m'.l.take m.l.length, m'.x⟩) (m' := m') (fun a ha => ha.elim (fun z => .inl (List.mem_of_mem_take z)) .inr) d v hn r
  · rw [if_neg hn] at h
    exact ⟨_, m', h, e, st, r⟩
/-- THE RULE for a def -/
theorem fun_ok {x qual : Str} {st : Stmt} {f : Addr} {fd : FuncData} {N ps : List Str} {k : Nat} {body : List CS} {cf : String → List D → Store → Res D} {call : List D → Store → Res D} (F : Fun K x qual st f fd) (S : FnScope N ps (defScope st))
    (hcall : ∀ ds μ, ds.length = ps.length → call ds μ = (exs cf body (ds.map some ++ List.replicate (N.length - ds.length) none) μ).bind (finish μ))
    (hbody : ∀ (cdv : Value) (A : Around) (outer : List PySem.Env) (s : Shared) (H : Hp) (E : XK), Room k (A.deeper (PyProof.Rows.envOfC qual (defScope st) s.heap.objs.size f cdv)) →
      PSs (cxOf (L2.CX P w) P w K mg base N qual (defScope st) f cdv A outer s H E) (defBody st) (tSs G E cf body)) : FnOk P w K mg base (L2.CX P w) (k + 1) f fd ps (spF G ps.length call) := by
  refine F.okX S (fun vs H Q E h => h.1) (fun cdv A outer s H vs Q E hr h => ⟨_, hbody cdv A outer s H E hr, ?_⟩)
  obtain ⟨hl, ds, μ, m, st0, r, h⟩ := h
  rw [hcall ds μ (by rw [r.length]; exact hl)] at h
  refine ⟨_, μ, m, reps_start r _ rfl μ st0, h.bind.mono (fun fl μ1 q => ?_) fun _ _ _ z => z⟩
  cases fl with
  | nx ρ1 =>
    intro σ' H' m' e' s'
    obtain ⟨μ2, m2, k2, e2, st2, r2⟩ := trunc_ok q st0 e' s'.st (d := .non) (v := .non) (by unfold Rep; rfl)
    exact k2 .non H' m2 e2 st2 r2
  | rt d =>
    intro v H' m' e' st' rv
    obtain ⟨μ2, m2, k2, e2, st2, r2⟩ := trunc_ok q st0 e' st' rv
    exact k2 v H' m2 e2 st2 r2
  | bk ρ1 => exact q.elim
  | ct ρ1 => exact q.elim
theorem fn_zero {f : Addr} {fd : FuncData} {ps : List Str} {k : Nat} {call : List D → Store → Res D} (h : ∀ ds μ, call ds μ = .stuck) : FnOk P w K mg base (L2.CX P w) k f fd ps (spF G ps.length call) :=
  ⟨fun vs H Q E q => q.1, fun A outer s H args us vs Q E _ _ _ _ q => by
    obtain ⟨_, ds, μ, m, _, _, z⟩ := q
    rw [h] at z
    exact z.elim⟩
end
end Ev
namespace Ev
open PySem PySem.Spec L2 Res
/-! ## what an operator does, on data -/
def asL (μ : Store) : D → Option (List D)
  | .lst ds => some ds
  | .ref n => match μ[n]? with
    | some (.lst ds) => some ds
    | _ => none
  | _ => none
def fAdd (μ : Store) : D → D → Option D
  | .int i, .int j => some (.int (i + j))
  | .str s, .str t => if s.length + t.length ≤ cap then some (.str (s ++ t)) else none
  | .tup ds, .tup es => if ds.length + es.length ≤ cap then some (.tup (ds ++ es)) else none
  | d, e => match asL μ d with
    | some ds => match asL μ e with
      | some es => if ds.length + es.length ≤ cap then some (.lst (ds ++ es)) else none
      | none => none
    | none => none
def fSub (_ : Store) : D → D → Option D
  | .int i, .int j => some (.int (i - j))
  | _, _ => none
def mulOk (i j : Int) : Bool := decide (i.natAbs < 18446744073709551616) || decide (j.natAbs < 18446744073709551616) || decide (i.natAbs.log2 + j.natAbs.log2 < 1000000)
def fMul (_ : Store) : D → D → Option D
  | .int i, .int j => if mulOk i j then some (.int (i * j)) else none
  | .str s, .int k => if -1000000 ≤ k ∧ k ≤ 1000 ∧ s.length ≤ 1000 then some (.str (List.replicate k.toNat s).flatten) else none
  | _, _ => none
def fMod (_ : Store) : D → D → Option D
  | .int i, .int j => if 0 < j then some (.int (i % j)) else none
  | _, _ => none
def fDiv (_ : Store) : D → D → Option D
  | .int i, .int j => if 0 < j ∧ j.natAbs.log2 < 9000 then some (.int (i / j)) else none
  | _, _ => none
def fPow (_ : Store) : D → D → Option D
  | .int i, .int j => if 0 ≤ j ∧ j ≤ 1000000 ∧ i.natAbs < 2 ^ 64 then some (.int (i ^ j.toNat)) else none
  | _, _ => none
def fNeg (_ : Store) : D → Option D
  | .int i => some (.int (-i))
  | _ => none
def fLt (_ : Store) : D → D → Option D
  | .int i, .int j => some (.bl (decide (i < j)))
  | .str s, .str t => some (.bl (decide (s < t)))
  | _, _ => none
def fLe (_ : Store) : D → D → Option D
  | .int i, .int j => some (.bl (decide (i ≤ j)))
  | .str s, .str t => some (.bl (!decide (t < s)))
  | _, _ => none
def fGt (_ : Store) : D → D → Option D
  | .int i, .int j => some (.bl (decide (j < i)))
  | .str s, .str t => some (.bl (decide (t < s)))
  | _, _ => none
def fGe (_ : Store) : D → D → Option D
  | .int i, .int j => some (.bl (decide (j ≤ i)))
  | .str s, .str t => some (.bl (!decide (s < t)))
  | _, _ => none
/-! ## equality -/
mutual
/-- as a datum of the hand layer -/
def toP : D → Option PyData
  | .non => some .none
  | .bl b => some (.bool b)
  | .int i => some (.int i)
  | .str s => some (.str (toS s))
  | .tup ds => match toPs ds with
    | some ps => some (.tuple ps)
    | none => none
  | .lst ds => match toPs ds with
    | some ps => some (.list ps)
    | none => none
  | _ => none
def toPs : List D → Option (List PyData)
  | [] => some []
  | d :: ds => match toP d with
    | some p => match toPs ds with
      | some ps => some (p :: ps)
      | none => none
    | none => none
end
mutual
/-- may be compared: so deep at most, signs of Unicode -/
def cmpOk : Nat → D → Bool
  | _, .non => true
  | _, .bl _ => true
  | _, .int _ => true
  | _, .str s => s.all (· < 1114112)
  | n + 1, .tup ds => cmpOks n ds
  | n + 1, .lst ds => cmpOks n ds
  | _, _ => false
def cmpOks : Nat → List D → Bool
  | _, [] => true
  | n, d :: ds => cmpOk n d && cmpOks n ds
end
mutual
def eqD : D → D → Bool
  | .non, .non => true
  | .bl a, .bl b => a == b
  | .bl a, .int j => (if a then 1 else 0) == j
  | .int i, .bl b => i == (if b then 1 else 0)
  | .int i, .int j => i == j
  | .str s, .str t => s == t
  | .lst ds, .lst es => eqDs ds es
  | .tup ds, .tup es => eqDs ds es
  | _, _ => false
def eqDs : List D → List D → Bool
  | [], [] => true
  | d :: ds, e :: es => eqD d e && eqDs ds es
  | _, _ => false
end
def rd (μ : Store) (d : D) : D := match asL μ d with
  | some ds => .lst ds
  | none => d
def fEq (μ : Store) (d e : D) : Option D := if cmpOk 8 (rd μ d) && cmpOk 8 (rd μ e) then some (.bl (eqD (rd μ d) (rd μ e))) else none
def fNe (μ : Store) (d e : D) : Option D := if cmpOk 8 (rd μ d) && cmpOk 8 (rd μ e) then some (.bl (!eqD (rd μ d) (rd μ e))) else none
section
variable {G : GC} {X : Cx} {μ : Store} {m : AM} {H : Hp}
theorem asL_ok {d : D} {v : V} {ds : List D} (st : StOk G μ m H) (r : Rep G m H d v) (h : asL μ d = some ds) : ∃ a xs, v = .ref a ∧ Rd H a (.lst xs) ∧ Reps G m H ds xs := by
  unfold asL at h
  split at h
  · cases h
    unfold Rep at r
    obtain ⟨a, xs, e1, n, hs, rr⟩ := r
    exact ⟨a, xs, e1, hs, rr⟩
  · rename_i n
    cases q : μ[n]? with
    | none => rw [q] at h; cases h
    | some o =>
      rw [q] at h
      cases o with
      | dead => cases h
      | dct _ => cases h
      | lst es =>
        cases h
        obtain ⟨h0, p', xs, q1, q2, q3⟩ := st.lst n ds q
        unfold Rep at r
        obtain ⟨p, rfl, hp⟩ := r
        have e1 : p' = p := by
          rw [q1] at hp
          rcases hp with hp | hp
          · simpa using hp
          · simp at hp
        subst e1
        exact ⟨_, xs, rfl, .of q2, q3⟩
  · cases h
theorem st_new {p : Addr} {o : HO} (st : StOk G μ m H) (h : H p = none) : Ext m H m (upd H p o) ∧ StOk G μ m (upd H p o) := ⟨.new st.live h, st.new h⟩
theorem fresh_nm {p : Addr} (st : StOk G μ m H) (h : H p = none) : ¬ m.has p := fun z => by
  obtain ⟨xs, _, q⟩ := st.live p z
  rw [h] at q; cases q
/-- a new list by value -/
theorem rep_new {p : Addr} {ds : List D} {xs : List V} (st : StOk G μ m H) (h : H p = none) (r : Reps G m H ds xs) : Rep G m (upd H p (.lst xs)) (.lst ds) (.ref p) := by
  unfold Rep
  exact ⟨p, xs, rfl, fresh_nm st h, .inl upd_same, Reps.ext st.live (st_new st h).1 _ _ r⟩
theorem rep_newT {p : Addr} {ds : List D} {xs : List V} (st : StOk G μ m H) (h : H p = none) (r : Reps G m H ds xs) : Rep G m (upd H p (.tup xs)) (.tup ds) (.ref p) := by
  unfold Rep
  exact ⟨p, xs, rfl, .inl (.inl upd_same), Reps.ext st.live (st_new st h).1 _ _ r⟩
theorem cap_size {n : Nat} (h : n ≤ cap) : n ≤ sizeLine := Nat.le_trans h (by decide)
theorem toS_len (s : List Nat) : (toS s).length = s.length := by simp [toS, Str.length]
theorem toS_app (s t : List Nat) : toS s ++ toS t = toS (s ++ t) := by
  show (⟨(toS s).cps ++ (toS t).cps⟩ : Str) = _
  simp [toS]
theorem toS_list (s : List Nat) : (toS s).cps.toList = s := by simp [toS]
/-! ### + -/
theorem add_lists {pins : List (Addr × Obj)} {s : Shared} {σ : L2.St} {Q : VK} {l b : Addr} {xs zs : List V} (I : Inv X pins σ H s) (h1 : Rd H l (.lst xs)) (h2 : Rd H b (.lst zs)) (hz : xs.length + zs.length ≤ sizeLine)
    (q : ∀ p, H p = none → Q (.ref p) (upd H p (.lst (xs ++ zs)))) : wpAny (model X.prog X.w) X.A (binaryOp .Add (.ref l) (.ref b)) (EP X pins σ Q) X.xe s := by
  obtain ⟨z, its, n, r, e⟩ := h1.ok I.hok
  obtain ⟨z2, its2, n2, r2, e2⟩ := h2.ok I.hok
  have hl := r.length
  have hl2 := r2.length
  refine PySem.P.add_list e e2 ?_ (by rw [List.size_toArray, List.size_toArray]; omega)
  have ea : its.toArray ++ its2.toArray = (its ++ its2).toArray := by simp
  rw [ea]
  exact ⟨.ref _, _, I.lnew (t' := s.toks) (r.append r2) (by rw [List.length_append]; omega), rfl, q _ I.fresh⟩
theorem o_add (hK : X.K = G.K) : OpR X (binaryOp .Add) (r2 G fAdd) := by
  intro pins s σ H x y v u Q I rx ry ⟨d, e, μ, m, r, st, rd, re, hf, k⟩
  unfold fAdd at hf
  split at hf
  · cases hf
    unfold Rep at rd re
    subst rd re
    exact op_add pins s σ H _ _ v u Q I rx ry ⟨_, _, rfl, rfl, k _ H (.refl _ _) st (by unfold Rep; rfl)⟩
  · split at hf
    · rename_i hl
      cases hf
      unfold Rep at rd re
      subst rd re
      refine op_add_str pins s σ H _ _ v u Q I rx ry ⟨_, _, rfl, rfl, by rw [toS_len, toS_len]; exact cap_size hl, k _ H (.refl _ _) st (by unfold Rep; rw [toS_app])⟩
    · cases hf
  · rename_i ds es
    split at hf
    · rename_i hl
      cases hf
      unfold Rep at rd re
      obtain ⟨a, xs, rfl, h1, q1⟩ := rd
      obtain ⟨b, ys, rfl, h2, q2⟩ := re
      have l1 := q1.length
      have l2 := q2.length
      refine op_catA pins s σ H _ _ v u Q I rx ry ⟨_, _, _, _, rfl, rfl, by rw [hK]; exact h1, by rw [hK]; exact h2, by rw [← l1, ← l2]; exact cap_size hl, fun e1 => ?_, fun e0 e1 => ?_, fun _ _ p np => ?_⟩
      · subst e1
        have : ds = [] := by cases ds; rfl; simp at l1
        subst this
        exact k _ H (.refl _ _) st (by unfold Rep; exact ⟨_, _, rfl, h2, q2⟩)
      · subst e1
        have : es = [] := by cases es; rfl; simp at l2
        subst this
        rw [List.append_nil] at k
        exact k _ H (.refl _ _) st (by unfold Rep; exact ⟨_, _, rfl, h1, q1⟩)
      · exact k _ _ (st_new st np).1 (st_new st np).2 (rep_newT st np (q1.append q2))
    · cases hf
  · split at hf
    · rename_i ds h1
      split at hf
      · rename_i es h2
        split at hf
        · rename_i hl
          cases hf
          obtain ⟨a, xs, rfl, g1, q1⟩ := asL_ok st rd h1
          obtain ⟨b, ys, rfl, g2, q2⟩ := asL_ok st re h2
          cases rx
          cases ry
          refine add_lists I g1 g2 (by rw [← q1.length, ← q2.length]; exact cap_size hl) fun p np => ?_
          exact k _ _ (st_new st np).1 (st_new st np).2 (rep_new st np (q1.append q2))
        · cases hf
      · cases hf
    · cases hf
theorem o_sub : OpR X (binaryOp .Sub) (r2 G fSub) := by
  intro pins s σ H x y v u Q I rx ry ⟨d, e, μ, m, r, st, rd, re, hf, k⟩
  unfold fSub at hf
  split at hf
  · cases hf
    unfold Rep at rd re
    subst rd re
    exact op_sub pins s σ H _ _ v u Q I rx ry ⟨_, _, rfl, rfl, k _ H (.refl _ _) st (by unfold Rep; rfl)⟩
  · cases hf
theorem o_mul : OpR X (binaryOp .Mult) (r2 G fMul) := by
  intro pins s σ H x y v u Q I rx ry ⟨d, e, μ, m, r, st, rd, re, hf, k⟩
  unfold fMul at hf
  split at hf
  · split at hf
    · rename_i hl
      cases hf
      unfold Rep at rd re
      subst rd re
      rename_i i j
      unfold mulOk at hl
      rcases Bool.or_eq_true_iff.mp hl with hl | hl
      · have hc : CMul i j := by
          rcases Bool.or_eq_true_iff.mp hl with hl | hl
          · have := of_decide_eq_true hl
            exact .inl ⟨by omega, by omega⟩
          · have := of_decide_eq_true hl
            exact .inr ⟨by omega, by omega⟩
        exact op_mul pins s σ H _ _ v u Q I rx ry ⟨_, _, rfl, rfl, hc, k _ H (.refl _ _) st (by unfold Rep; rfl)⟩
      · exact op_mulW pins s σ H _ _ v u Q I rx ry ⟨_, _, rfl, rfl, (of_decide_eq_true hl : _ < _), k _ H (.refl _ _) st (by unfold Rep; rfl)⟩
    · cases hf
  · rename_i z n
    split at hf
    · rename_i hl
      obtain ⟨h1, h2, h3⟩ := hl
      cases hf
      unfold Rep at rd re
      subst rd re
      obtain ⟨t1, rfl⟩ := rx
      obtain ⟨t2, rfl⟩ := ry
      have hlen : (toS z).length = z.length := toS_len z
      have hfl : ∀ (j : Nat) (a : Array Nat), (List.replicate j (toS z).cps).foldl (· ++ ·) a = a ++ (List.replicate j z).flatten.toArray := by
        intro j
        induction j with
        | zero => intro a; simp
        | succ j ih => intro a; rw [List.replicate_succ, List.foldl_cons, ih, List.replicate_succ, List.flatten_cons]; simp [toS]
      have hlong : Builtin.Str.tooLong ((toS z).length * n.toNat) = false := by
        have hb : (toS z).length * n.toNat ≤ 1000000 := by
          rw [hlen]
          calc z.length * n.toNat ≤ 1000 * 1000 := Nat.mul_le_mul h3 (by omega)
            _ = 1000000 := by decide
        unfold Builtin.Str.tooLong
        rw [sizeLine_eq]
        exact decide_eq_false (by omega)
      refine PySem.P.mul_str (by
        have e1 : ¬ n < -(2 ^ 63) := by omega
        have e2 : ¬ n ≥ 2 ^ 63 := by omega
        rw [decide_eq_false e1, decide_eq_false e2]; rfl) (fun g1 g2 => ?_) (fun g1 g2 => ?_) ?_
      · rw [hlen]
        have : (1000 : Int) ≤ (2 ^ 63 - 1) / n := by
          have hn : 0 < n := by omega
          rw [Int.le_ediv_iff_mul_le hn]
          omega
        omega
      · exact hlong
      · split
        · have e0 : n.toNat = 0 := by omega
          rw [e0] at k
          refine ⟨by decide, .str Str.empty, H, I.tok _, ⟨_, rfl⟩, ?_⟩
          exact k _ H (.refl _ _) st (by unfold Rep; rfl)
        · rename_i g1
          split
          · rename_i g2
            refine ⟨.str (toS z), H, I, ⟨_, rfl⟩, ?_⟩
            refine k _ H (.refl _ _) st (by
              unfold Rep
              rcases Bool.or_eq_true_iff.mp g2 with g2 | g2
              · have : n = 1 := by simpa using g2
                subst this; simp
              · have : z = [] := by
                  have := toS_len z
                  have g3 : (toS z).length = 0 := by simpa using g2
                  cases z with
                  | nil => rfl
                  | cons a b => rw [g3] at this; simp at this
                subst this; simp)
          · refine ⟨?_, .str (toS (List.replicate n.toNat z).flatten), H, I.tok _, ⟨s.toks, ?_⟩, k _ H (.refl _ _) st (by unfold Rep; rfl)⟩
            · exact fits_reps hlong
            · rw [hfl]; simp [toS]
    · cases hf
  · cases hf
end
end Ev
namespace Ev
open PySem PySem.Spec L2 Res
section
variable {G : GC} {X : Cx} {μ : Store} {m : AM} {H : Hp}
theorem o_mod : OpR X (binaryOp .Mod) (r2 G fMod) := by
  intro pins s σ H x y v u Q I rx ry ⟨d, e, μ, m, r, st, rd, re, hf, k⟩
  unfold fMod at hf
  split at hf
  · split at hf
    · rename_i hl
      cases hf
      unfold Rep at rd re
      subst rd re
      exact op_mod pins s σ H _ _ v u Q I rx ry ⟨_, _, rfl, rfl, hl, k _ H (.refl _ _) st (by unfold Rep; rfl)⟩
    · cases hf
  · cases hf
theorem o_div : OpR X (binaryOp .FloorDiv) (r2 G fDiv) := by
  intro pins s σ H x y v u Q I rx ry ⟨d, e, μ, m, r, st, rd, re, hf, k⟩
  unfold fDiv at hf
  split at hf
  · split at hf
    · rename_i hl
      cases hf
      unfold Rep at rd re
      subst rd re
      exact op_fdivW pins s σ H _ _ v u Q I rx ry ⟨_, _, rfl, rfl, hl, k _ H (.refl _ _) st (by unfold Rep; rfl)⟩
    · cases hf
  · cases hf
theorem o_pow : OpR X (binaryOp .Pow) (r2 G fPow) := by
  intro pins s σ H x y v u Q I rx ry ⟨d, e, μ, m, r, st, rd, re, hf, k⟩
  unfold fPow at hf
  split at hf
  · split at hf
    · rename_i hl
      cases hf
      unfold Rep at rd re
      subst rd re
      exact op_pow pins s σ H _ _ v u Q I rx ry ⟨_, _, rfl, rfl, hl, k _ H (.refl _ _) st (by unfold Rep; rfl)⟩
    · cases hf
  · cases hf
theorem o_neg : UnR X (unaryOp .USub) (r1 G fNeg) := by
  intro pins s σ H x v Q I rx ⟨d, μ, m, r, st, rd, hf, k⟩
  unfold fNeg at hf
  split at hf
  · cases hf
    unfold Rep at rd
    subst rd
    exact un_neg pins s σ H _ v Q I rx ⟨_, rfl, k _ H (.refl _ _) st (by unfold Rep; rfl)⟩
  · cases hf
theorem o_lt : OpR X (compareOp .Lt) (r2 G fLt) := by
  intro pins s σ H x y v u Q I rx ry ⟨d, e, μ, m, r, st, rd, re, hf, k⟩
  unfold fLt at hf
  split at hf
  · cases hf
    unfold Rep at rd re
    subst rd re
    exact op_lt pins s σ H _ _ v u Q I rx ry ⟨_, _, rfl, rfl, k _ H (.refl _ _) st (by unfold Rep; rfl)⟩
  · cases hf
    unfold Rep at rd re
    subst rd re
    exact op_lt_str pins s σ H _ _ v u Q I rx ry ⟨_, _, rfl, rfl, k _ H (.refl _ _) st (by unfold Rep; simp only [toS_list])⟩
  · cases hf
theorem o_le : OpR X (compareOp .LtE) (r2 G fLe) := by
  intro pins s σ H x y v u Q I rx ry ⟨d, e, μ, m, r, st, rd, re, hf, k⟩
  unfold fLe at hf
  split at hf
  · cases hf
    unfold Rep at rd re
    subst rd re
    exact op_le pins s σ H _ _ v u Q I rx ry ⟨_, _, rfl, rfl, k _ H (.refl _ _) st (by unfold Rep; rfl)⟩
  · cases hf
    unfold Rep at rd re
    subst rd re
    exact op_le_str pins s σ H _ _ v u Q I rx ry ⟨_, _, rfl, rfl, k _ H (.refl _ _) st (by unfold Rep; simp only [toS_list])⟩
  · cases hf
theorem o_gt : OpR X (compareOp .Gt) (r2 G fGt) := by
  intro pins s σ H x y v u Q I rx ry ⟨d, e, μ, m, r, st, rd, re, hf, k⟩
  unfold fGt at hf
  split at hf
  · cases hf
    unfold Rep at rd re
    subst rd re
    exact op_gt pins s σ H _ _ v u Q I rx ry ⟨_, _, rfl, rfl, k _ H (.refl _ _) st (by unfold Rep; rfl)⟩
  · cases hf
    unfold Rep at rd re
    subst rd re
    exact op_gt_str pins s σ H _ _ v u Q I rx ry ⟨_, _, rfl, rfl, k _ H (.refl _ _) st (by unfold Rep; simp only [toS_list])⟩
  · cases hf
theorem o_ge : OpR X (compareOp .GtE) (r2 G fGe) := by
  intro pins s σ H x y v u Q I rx ry ⟨d, e, μ, m, r, st, rd, re, hf, k⟩
  unfold fGe at hf
  split at hf
  · cases hf
    unfold Rep at rd re
    subst rd re
    exact op_ge pins s σ H _ _ v u Q I rx ry ⟨_, _, rfl, rfl, k _ H (.refl _ _) st (by unfold Rep; rfl)⟩
  · cases hf
    unfold Rep at rd re
    subst rd re
    exact op_ge_str pins s σ H _ _ v u Q I rx ry ⟨_, _, rfl, rfl, k _ H (.refl _ _) st (by unfold Rep; simp only [toS_list])⟩
  · cases hf
/-! ### == -/
mutual
theorem toP_ok : ∀ (n : Nat) (d : D), cmpOk n d = true → ∃ p, toP d = some p ∧ p.canLay0 = true ∧ p.depth ≤ n
  | _, .non, _ => ⟨.none, by simp [toP], rfl, Nat.zero_le _⟩
  | _, .bl b, _ => ⟨.bool b, by simp [toP], rfl, Nat.zero_le _⟩
  | _, .int i, _ => ⟨.int i, by simp [toP], rfl, Nat.zero_le _⟩
  | _, .str s, h => ⟨.str (toS s), by simp [toP], by
      unfold cmpOk at h
      simp only [PyData.canLay0]
      show ((toS s).cps.all (· < 0x110000)) = true
      unfold toS
      simpa using h, Nat.zero_le _⟩
  | n + 1, .tup ds, h => by
    unfold cmpOk at h
    obtain ⟨ps, q1, q2, q3⟩ := toPs_ok n ds h
    exact ⟨.tuple ps, by unfold toP; rw [q1], q2, by unfold PyData.depth; omega⟩
  | n + 1, .lst ds, h => by
    unfold cmpOk at h
    obtain ⟨ps, q1, q2, q3⟩ := toPs_ok n ds h
    exact ⟨.list ps, by unfold toP; rw [q1], q2, by unfold PyData.depth; omega⟩
  | 0, .tup _, h => by unfold cmpOk at h; cases h
  | 0, .lst _, h => by unfold cmpOk at h; cases h
  | _, .ref _, h => by unfold cmpOk at h; cases h
  | _, .gl _, h => by unfold cmpOk at h; cases h
  | _, .ty _, h => by unfold cmpOk at h; cases h
  | _, .scr _, h => by unfold cmpOk at h; cases h
  | _, .dcv _ _, h => by unfold cmpOk at h; cases h
  | _, .exv _ _ _, h => by unfold cmpOk at h; cases h
theorem toPs_ok : ∀ (n : Nat) (ds : List D), cmpOks n ds = true → ∃ ps, toPs ds = some ps ∧ PyData.canLayAll0 ps = true ∧ PyData.depthAll ps ≤ n
  | _, [], _ => ⟨[], by unfold toPs; rfl, rfl, Nat.zero_le _⟩
  | n, d :: ds, h => by
    unfold cmpOks at h
    obtain ⟨h1, h2⟩ := Bool.and_eq_true_iff.mp h
    obtain ⟨p, q1, q2, q3⟩ := toP_ok n d h1
    obtain ⟨ps, r1, r2, r3⟩ := toPs_ok n ds h2
    refine ⟨p :: ps, by unfold toPs; rw [q1, r1], by unfold PyData.canLayAll0; rw [q2, r2]; rfl, by unfold PyData.depthAll; omega⟩
end
theorem toS_beq (s t : List Nat) : (toS s == toS t) = (s == t) := by
  rw [Bool.eq_iff_iff, beq_iff_eq, beq_iff_eq]
  constructor
  · intro h
    have := congrArg (fun z : Str => z.cps.toList) h
    simpa [toS] using this
  · intro h; rw [h]
mutual
theorem eqv_ok : ∀ (d e : D) (p q : PyData), toP d = some p → toP e = some q → PyData.eqv p q = eqD d e := by
  intro d e p q hd he
  cases d with
  | non => unfold toP at hd; cases hd; cases e <;> unfold toP at he <;> first | (cases he <;> (unfold eqD; rfl)) | (split at he <;> cases he <;> (unfold eqD; rfl))
  | bl b => unfold toP at hd; cases hd; cases e <;> unfold toP at he <;> first | (cases he <;> (unfold eqD; rfl)) | (split at he <;> cases he <;> (unfold eqD; rfl))
  | int b => unfold toP at hd; cases hd; cases e <;> unfold toP at he <;> first | (cases he <;> (unfold eqD; rfl)) | (split at he <;> cases he <;> (unfold eqD; rfl))
  | str b => unfold toP at hd; cases hd; cases e <;> unfold toP at he <;> first | (cases he <;> (unfold eqD; first | rfl | exact toS_beq _ _)) | (split at he <;> cases he <;> (unfold eqD; rfl))
  | tup ds =>
    unfold toP at hd
    split at hd
    · rename_i ps hps
      cases hd
      cases e <;> unfold toP at he <;> first | (cases he <;> (unfold eqD; rfl)) | (split at he <;> cases he <;> first | (unfold eqD; rfl) | skip)
      rename_i es qs hqs
      unfold eqD
      exact eqvs_ok ds _ _ _ hps hqs
    · cases hd
  | lst ds =>
    unfold toP at hd
    split at hd
    · rename_i ps hps
      cases hd
      cases e <;> unfold toP at he <;> first | (cases he <;> (unfold eqD; rfl)) | (split at he <;> cases he <;> first | (unfold eqD; rfl) | skip)
      rename_i es qs hqs
      unfold eqD
      exact eqvs_ok ds _ _ _ hps hqs
    · cases hd
  | _ => unfold toP at hd; cases hd
theorem eqvs_ok : ∀ (ds es : List D) (ps qs : List PyData), toPs ds = some ps → toPs es = some qs → PyData.eqvAll ps qs = eqDs ds es
  | [], [], ps, qs, hd, he => by unfold toPs at hd he; cases hd; cases he; unfold eqDs; rfl
  | [], e :: es, ps, qs, hd, he => by
    unfold toPs at hd he; cases hd
    split at he
    · split at he
      · cases he; unfold eqDs; rfl
      · cases he
    · cases he
  | d :: ds, [], ps, qs, hd, he => by
    unfold toPs at hd he; cases he
    split at hd
    · split at hd
      · cases hd; unfold eqDs; rfl
      · cases hd
    · cases hd
  | d :: ds, e :: es, ps, qs, hd, he => by
    unfold toPs at hd he
    split at hd
    · rename_i p hp
      split at hd
      · rename_i pss hps
        cases hd
        split at he
        · rename_i q hq
          split at he
          · rename_i qss hqs
            cases he
            unfold eqDs PyData.eqvAll
            rw [eqv_ok d e p q hp hq, eqvs_ok ds es pss qss hps hqs]
          · cases he
        · cases he
      · cases hd
    · cases hd
end
mutual
theorem dp_ok : ∀ (d : D) (v : V) (p : PyData), Rep G m H d v → toP d = some p → Dp G.K H v p
  | .non, v, p, r, h => by unfold Rep at r; unfold toP at h; cases h; subst r; exact .non
  | .bl b, v, p, r, h => by unfold Rep at r; unfold toP at h; cases h; subst r; exact .bl b
  | .int b, v, p, r, h => by unfold Rep at r; unfold toP at h; cases h; subst r; exact .int b
  | .str b, v, p, r, h => by unfold Rep at r; unfold toP at h; cases h; subst r; exact .str _
  | .tup ds, v, p, r, h => by
    unfold Rep at r; unfold toP at h
    obtain ⟨a, xs, rfl, hs, rr⟩ := r
    split at h
    · rename_i ps hps
      cases h
      exact .tup hs (dps_ok ds xs ps rr hps)
    · cases h
  | .lst ds, v, p, r, h => by
    unfold Rep at r; unfold toP at h
    obtain ⟨a, xs, rfl, nm, hs, rr⟩ := r
    split at h
    · rename_i ps hps
      cases h
      exact .lst (.inl hs) (dps_ok ds xs ps rr hps)
    · cases h
  | .ref _, v, p, r, h => by unfold toP at h; cases h
  | .gl _, v, p, r, h => by unfold toP at h; cases h
  | .ty _, v, p, r, h => by unfold toP at h; cases h
  | .scr _, v, p, r, h => by unfold toP at h; cases h
  | .dcv _ _, v, p, r, h => by unfold toP at h; cases h
  | .exv _ _ _, v, p, r, h => by unfold toP at h; cases h
theorem dps_ok : ∀ (ds : List D) (vs : List V) (ps : List PyData), Reps G m H ds vs → toPs ds = some ps → DpAll G.K H vs ps
  | [], vs, ps, r, h => by
    unfold toPs at h; cases h
    rw [r.isnil]; exact .nil
  | d :: ds, vs, ps, r, h => by
    obtain ⟨w, ws, rfl, r1, r2⟩ := r.uncons
    unfold toPs at h
    split at h
    · rename_i p hp
      split at h
      · rename_i pss hps
        cases h
        exact .cons (dp_ok d w p r1 hp) (dps_ok ds ws pss r2 hps)
      · cases h
    · cases h
end
theorem dp_rd {d : D} {v : V} (st : StOk G μ m H) (r : Rep G m H d v) (h : cmpOk 8 (rd μ d) = true) : ∃ p, toP (rd μ d) = some p ∧ Dp G.K H v p ∧ SeqAt.shaped p = true := by
  obtain ⟨p, h1, h2, h3⟩ := toP_ok 8 _ h
  refine ⟨p, h1, ?_, Bool.and_eq_true_iff.mpr ⟨h2, decide_eq_true (by omega)⟩⟩
  unfold rd at h1
  cases q : asL μ d with
  | none => rw [q] at h1; exact dp_ok d v p r h1
  | some ds =>
    rw [q] at h1
    obtain ⟨a, xs, rfl, g1, g2⟩ := asL_ok st r q
    simp only at h1
    unfold toP at h1
    split at h1
    · rename_i ps hps
      cases h1
      exact .lst (.inl g1) (dps_ok ds xs ps g2 hps)
    · cases h1
theorem o_eq (hK : X.K = G.K) (hu : X.A.units + 64 < cLine) : OpR X (compareOp .Eq) (r2 G fEq) := by
  intro pins s σ H x y v u Q I rx ry ⟨d, e, μ, m, r, st, rd', re, hf, k⟩
  unfold fEq at hf
  split at hf
  · rename_i hc
    obtain ⟨c1, c2⟩ := Bool.and_eq_true_iff.mp hc
    cases hf
    obtain ⟨p, p1, p2, p3⟩ := dp_rd st rd' c1
    obtain ⟨q, q1, q2, q3⟩ := dp_rd st re c2
    exact op_eqD hu pins s σ H _ _ v u Q I rx ry ⟨p, q, by rw [hK]; exact p2, by rw [hK]; exact q2, p3, q3, k _ H (.refl _ _) st (by unfold Rep; rw [eqv_ok _ _ _ _ p1 q1])⟩
  · cases hf
theorem o_ne (hK : X.K = G.K) (hu : X.A.units + 64 < cLine) : OpR X (compareOp .NotEq) (r2 G fNe) := by
  intro pins s σ H x y v u Q I rx ry ⟨d, e, μ, m, r, st, rd', re, hf, k⟩
  unfold fNe at hf
  split at hf
  · rename_i hc
    obtain ⟨c1, c2⟩ := Bool.and_eq_true_iff.mp hc
    cases hf
    obtain ⟨p, p1, p2, p3⟩ := dp_rd st rd' c1
    obtain ⟨q, q1, q2, q3⟩ := dp_rd st re c2
    exact op_neD hu pins s σ H _ _ v u Q I rx ry ⟨p, q, by rw [hK]; exact p2, by rw [hK]; exact q2, p3, q3, k _ H (.refl _ _) st (by unfold Rep; rw [eqv_ok _ _ _ _ p1 q1])⟩
  · cases hf
end
end Ev
namespace Ev
open PySem PySem.Spec L2 Res
/-! ## is -/
def fIs (_ : Store) : D → D → Option D
  | .non, .non => some (.bl true)
  | _, .non => some (.bl false)
  | .bl a, .bl b => some (.bl (decide (a = b)))
  | .non, .bl _ => some (.bl false)
  | .int _, .bl _ => some (.bl false)
  | .str _, .bl _ => some (.bl false)
  | .tup _, .bl _ => some (.bl false)
  | .lst _, .bl _ => some (.bl false)
  | _, _ => none
def notB : Option D → Option D
  | some (.bl b) => some (.bl (!b))
  | _ => none
section
variable {G : GC} {X : Cx} {μ : Store} {m : AM} {H : Hp}
def isNon : D → Bool
  | .non => true
  | _ => false
theorem rep_non {d : D} {x : V} (r : Rep G m H d x) : decide (x = V.non) = isNon d := by
  cases d <;> unfold Rep at r
  · subst r; rfl
  · subst r; rfl
  · subst r; rfl
  · subst r; rfl
  · obtain ⟨a, xs, rfl, _⟩ := r; rfl
  · obtain ⟨a, xs, rfl, _⟩ := r; rfl
  · obtain ⟨a, rfl, _⟩ := r; rfl
  · obtain ⟨a, rfl, _⟩ := r; rfl
  · subst r; rfl
  · obtain ⟨a, rfl, _⟩ := r; rfl
  · obtain ⟨a, xs, od, rfl, _⟩ := r; rfl
  · obtain ⟨a, dd, C, fs, w, rfl, _⟩ := r; rfl
theorem o_is : OpR X (compareOp .Is) (r2 G fIs) := by
  intro pins s σ H x y v u Q I rx ry ⟨d, e, μ, m, r, st, rd', re, hf, k⟩
  cases e with
  | non =>
    have hr : r = .bl (isNon d) := by
      unfold fIs at hf
      cases d <;> cases hf <;> rfl
    subst hr
    have hn := rep_non rd'
    unfold Rep at re
    exact op_isN pins s σ H _ _ v u Q I rx ry ⟨re, by rw [hn]; exact k _ H (.refl _ _) st (by unfold Rep; rfl)⟩
  | bl b =>
    have other : (∀ b', v ≠ Value.bool b' ∧ plainIs v (.bool b') = true) → r = .bl false → wpAny (model X.prog X.w) X.A (compareOp .Is v u) (EP X pins σ Q) X.xe s := fun hv hr => by
      subst hr
      unfold Rep at re
      subst re
      cases (show u = Value.bool b from ry)
      refine wpAny_is_other (hv b).2 (hv b).1 ⟨.bl false, H, I, rfl, k _ H (.refl _ _) st (by unfold Rep; rfl)⟩
    unfold fIs at hf
    cases d with
    | bl a =>
      cases hf
      unfold Rep at rd' re
      subst rd' re
      exact op_isBl pins s σ H _ _ v u Q I rx ry ⟨_, _, rfl, rfl, k _ H (.refl _ _) st (by unfold Rep; rfl)⟩
    | non =>
      unfold Rep at rd'; subst rd'
      exact other (fun b' => by cases rx; exact ⟨(fun h => by cases h), rfl⟩) (by cases hf; rfl)
    | int i =>
      unfold Rep at rd'; subst rd'
      exact other (fun b' => by obtain ⟨t, rfl⟩ := rx; exact ⟨(fun h => by cases h), rfl⟩) (by cases hf; rfl)
    | str i =>
      unfold Rep at rd'; subst rd'
      exact other (fun b' => by obtain ⟨t, rfl⟩ := rx; exact ⟨(fun h => by cases h), rfl⟩) (by cases hf; rfl)
    | tup i =>
      unfold Rep at rd'; obtain ⟨a, xs, rfl, _⟩ := rd'
      exact other (fun b' => by cases rx; exact ⟨(fun h => by cases h), rfl⟩) (by cases hf; rfl)
    | lst i =>
      unfold Rep at rd'; obtain ⟨a, xs, rfl, _⟩ := rd'
      exact other (fun b' => by cases rx; exact ⟨(fun h => by cases h), rfl⟩) (by cases hf; rfl)
    | _ => cases hf
  | _ => unfold fIs at hf; cases d <;> cases hf
/-! ## in -/
end
def flatD : D → Bool
  | .non => true
  | .bl _ => true
  | .int _ => true
  | .str _ => true
  | _ => false
def seqOf (μ : Store) (d : D) : Option (List D) := match d with
  | .tup ds => some ds
  | d => asL μ d
def fIn (μ : Store) (d e : D) : Option D := match d, e with
  | .str [c], .str s => some (.bl (decide (c ∈ s)))
  | _, .str _ => none
  | d, e => match seqOf μ e with
    | some ds => if flatD d && ds.all flatD then some (.bl (ds.any fun y => eqD y d)) else none
    | none => none
def fNotIn (μ : Store) (d e : D) : Option D := notB (fIn μ d e)
section
variable {G : GC} {X : Cx} {μ : Store} {m : AM} {H : Hp}
def toV : D → V
  | .non => .non
  | .bl b => .bl b
  | .int i => .int i
  | .str s => .str (toS s)
  | _ => .non
theorem flat_rep {d : D} {v : V} (h : flatD d = true) (r : Rep G m H d v) : v = toV d := by
  cases d <;> unfold Rep at r <;> first | exact r | (cases h)
theorem flats_rep : ∀ {ds : List D} {vs : List V}, ds.all flatD = true → Reps G m H ds vs → vs = ds.map toV
  | [], vs, _, r => r.isnil
  | d :: ds, vs, h, r => by
    obtain ⟨w, ws, rfl, r1, r2⟩ := r.uncons
    rw [List.all_cons] at h
    obtain ⟨h1, h2⟩ := Bool.and_eq_true_iff.mp h
    rw [List.map_cons, flat_rep h1 r1, flats_rep h2 r2]
theorem flat_toV {d : D} (h : flatD d = true) : flatV (toV d) = true := by cases d <;> first | rfl | cases h
theorem eqV_toV {d e : D} (h1 : flatD d = true) (h2 : flatD e = true) : eqV (toV d) (toV e) = eqD d e := by
  cases d <;> first | (exfalso; exact Bool.false_ne_true h1) | (cases e <;> first | (exfalso; exact Bool.false_ne_true h2) | (unfold eqD toV eqV; first | rfl | exact toS_beq _ _))
theorem inV_toV {d : D} (h1 : flatD d = true) : ∀ {ds : List D}, ds.all flatD = true → inV (toV d) (ds.map toV) = ds.any fun y => eqD y d
  | [], _ => rfl
  | e :: ds, h => by
    rw [List.all_cons] at h
    obtain ⟨h2, h3⟩ := Bool.and_eq_true_iff.mp h
    have := inV_toV h1 h3
    unfold inV at this ⊢
    rw [List.map_cons, List.any_cons, List.any_cons, eqV_toV h2 h1, this]
theorem seqOf_ok {d : D} {v : V} {ds : List D} (st : StOk G μ m H) (r : Rep G m H d v) (h : seqOf μ d = some ds) : ∃ a xs, v = .ref a ∧ (SqL G.K H a xs ∨ SqT G.K H a xs) ∧ Reps G m H ds xs := by
  unfold seqOf at h
  split at h
  · cases h
    unfold Rep at r
    obtain ⟨a, xs, e1, hs, rr⟩ := r
    exact ⟨a, xs, e1, .inr hs, rr⟩
  · obtain ⟨a, xs, e1, hs, rr⟩ := asL_ok st r h
    exact ⟨a, xs, e1, .inl (.inl hs), rr⟩
theorem in_cases {d e r : D} {x y : V} (st : StOk G μ m H) (rd' : Rep G m H d x) (re : Rep G m H e y) (h : fIn μ d e = some r) :
    (∃ c s, x = V.str ⟨#[c]⟩ ∧ y = .str (toS s) ∧ r = .bl (decide (c ∈ s))) ∨ ∃ b p xs, r = .bl b ∧ y = .ref p ∧ (SqL G.K H p xs ∨ SqT G.K H p xs) ∧ flatV x = true ∧ xs.all flatV = true ∧ inV x xs = b := by
  unfold fIn at h
  split at h
  · cases h
    unfold Rep at rd' re
    subst rd' re
    exact .inl ⟨_, _, rfl, rfl, rfl⟩
  · cases h
  · split at h
    · rename_i ds hd
      split at h
      · rename_i hc
        obtain ⟨c1, c2⟩ := Bool.and_eq_true_iff.mp hc
        cases h
        obtain ⟨a, xs, rfl, hs, rr⟩ := seqOf_ok st re hd
        have ev := flats_rep c2 rr
        subst ev
        have ex := flat_rep c1 rd'
        subst ex
        refine .inr ⟨_, a, _, rfl, rfl, hs, flat_toV c1, ?_, inV_toV c1 c2⟩
        rw [List.all_map, List.all_eq_true]
        intro z hz
        exact flat_toV (List.all_eq_true.mp c2 z hz)
      · cases h
    · cases h
theorem o_in (hK : X.K = G.K) : OpR X (compareOp .In) (r2 G fIn) := by
  intro pins s σ H x y v u Q I rx ry ⟨d, e, μ, m, r, st, rd', re, hf, k⟩
  rcases in_cases st rd' re hf with ⟨c, z, rfl, rfl, rfl⟩ | ⟨b, p, xs, rfl, rfl, hs, f1, f2, hb⟩
  · exact op_in_sign pins s σ H _ _ v u Q I rx ry ⟨_, _, rfl, rfl, k _ H (.refl _ _) st (by unfold Rep; rw [toS_list])⟩
  · exact op_in_seq pins s σ H _ _ v u Q I rx ry ⟨p, xs, rfl, by rw [hK]; exact hs, f1, f2, k _ H (.refl _ _) st (by unfold Rep; rw [hb]; rfl)⟩
theorem o_notIn (hK : X.K = G.K) : OpR X (compareOp .NotIn) (r2 G fNotIn) := by
  intro pins s σ H x y v u Q I rx ry ⟨d, e, μ, m, r, st, rd', re, hf, k⟩
  unfold fNotIn at hf
  cases q : fIn μ d e with
  | none => rw [q] at hf; cases hf
  | some r0 =>
    rw [q] at hf
    rcases in_cases st rd' re q with ⟨c, z, rfl, rfl, rfl⟩ | ⟨b, p, xs, rfl, rfl, hs, f1, f2, hb⟩
    · cases hf
      exact op_notIn_sign pins s σ H _ _ v u Q I rx ry ⟨_, _, rfl, rfl, k _ H (.refl _ _) st (by unfold Rep; rw [toS_list])⟩
    · cases hf
      exact op_notIn_seq pins s σ H _ _ v u Q I rx ry ⟨p, xs, rfl, by rw [hK]; exact hs, f1, f2, k _ H (.refl _ _) st (by unfold Rep; rw [hb]; rfl)⟩
end
/-! ## indices and slices -/
def fIx (μ : Store) (d e : D) : Option D := match d, e with
  | .tup ds, .int i => (ixOf ds.length i).bind fun j => ds[j]?
  | .str s, .int i => if s.length ≤ cap then ((ixOf s.length i).bind fun j => s[j]?).map fun c => .str [c] else none
  | .scr ns, .int i => ((ixOf ns.length i).bind fun j => ns[j]?).map .int
  | d, .int i => match asL μ d with
    | some ds => (ixOf ds.length i).bind fun j => ds[j]?
    | none => none
  | _, _ => none
/-- from which place on, for a part that may be left out -/
def ptOf (n dflt : Nat) : D → Option Nat
  | .non => some dflt
  | .int i => some (if i < 0 then (i + (n : Int)).toNat else min i.toNat n)
  | _ => none
def cutL {α : Type} (xs : List α) (lo hi : Nat) : List α := (xs.drop lo).take (hi - lo)
def fSl (μ : Store) (d lo hi : D) : Option D := match d with
  | .str s => if s.length ≤ cap then match ptOf s.length 0 lo, ptOf s.length s.length hi with
    | some l, some h => some (.str (cutL s l h))
    | _, _ => none else none
  | .tup ds => match ptOf ds.length 0 lo, ptOf ds.length ds.length hi with
    | some l, some h => some (.tup (cutL ds l h))
    | _, _ => none
  | .scr ns => match ptOf ns.length 0 lo, ptOf ns.length ns.length hi with
    | some l, some h => some (.lst ((cutL ns l h).map .int))
    | _, _ => none
  | d => match asL μ d with
    | some ds => match ptOf ds.length 0 lo, ptOf ds.length ds.length hi with
      | some l, some h => some (.lst (cutL ds l h))
      | _, _ => none
    | none => none
section
variable {G : GC} {X : Cx} {μ : Store} {m : AM} {H : Hp}
theorem scr_ok {ns : List Int} {v : V} (r : Rep G m H (.scr ns) v) : ∃ a, v = .ref a ∧ SqL G.K H a (ns.map V.int) := by
  unfold Rep at r
  obtain ⟨a, e, h⟩ := r
  rcases h with ⟨_, h⟩ | h
  · exact ⟨a, e, .inl h⟩
  · exact ⟨a, e, h H⟩
theorem atI_get {ds : List D} {xs : List V} {i : Int} {r : D} (rr : Reps G m H ds xs) (h : ((ixOf ds.length i).bind fun j => ds[j]?) = some r) : ∃ v, atI xs i = some v ∧ Rep G m H r v := by
  cases q : ixOf ds.length i with
  | none => rw [q] at h; cases h
  | some j =>
    rw [q] at h
    obtain ⟨v, h1, h2⟩ := rr.get (show ds[j]? = some r from h)
    refine ⟨v, ?_, h2⟩
    unfold atI
    rw [← rr.length]
    show (ixOf ds.length i).bind _ = _
    rw [q]; exact h1
theorem o_ix (hK : X.K = G.K) : IxR X (r2 G fIx) := by
  intro value slice pins s σ H x y v u Q I rx ry ⟨d, e, μ, m, r, st, rd', re, hf, k⟩ hs
  unfold fIx at hf
  split at hf
  · unfold Rep at rd' re
    obtain ⟨a, xs, rfl, h1, rr⟩ := rd'
    subst re
    obtain ⟨w, q1, q2⟩ := atI_get rr hf
    exact ix_tup value slice pins s σ H _ _ v u Q I rx ry ⟨a, xs, _, w, rfl, rfl, by rw [hK]; exact h1, q1, k _ H (.refl _ _) st q2⟩ hs
  · rename_i z i
    split at hf
    · rename_i hl
      unfold Rep at rd' re
      subst rd' re
      cases q : ixOf z.length i with
      | none => rw [q] at hf; cases hf
      | some j =>
        rw [q] at hf
        cases q2 : z[j]? with
        | none => simp [q2] at hf
        | some c =>
          simp [q2] at hf
          subst hf
          refine ix_str value slice pins s σ H _ _ v u Q I rx ry ⟨_, _, c, rfl, rfl, by rw [toS_len]; exact cap_size hl, ?_, k _ H (.refl _ _) st (by unfold Rep; rfl)⟩ hs
          unfold atI
          rw [toS_list]
          show (ixOf z.length i).bind _ = _
          rw [q]; exact q2
    · cases hf
  · rename_i ns i
    obtain ⟨a, rfl, h1⟩ := scr_ok rd'
    unfold Rep at re
    subst re
    cases q : ixOf ns.length i with
    | none => rw [q] at hf; cases hf
    | some j =>
      rw [q] at hf
      cases q2 : ns[j]? with
      | none => simp [q2] at hf
      | some c =>
        simp [q2] at hf
        subst hf
        refine ix_list value slice pins s σ H _ _ v u Q I rx ry ⟨a, _, _, .int c, rfl, rfl, by rw [hK]; exact h1, ?_, k _ H (.refl _ _) st (by unfold Rep; rfl)⟩ hs
        unfold atI
        rw [List.length_map]
        show (ixOf ns.length i).bind _ = _
        rw [q]
        show (ns.map V.int)[j]? = _
        rw [List.getElem?_map, q2]; rfl
  · split at hf
    · rename_i ds hd
      obtain ⟨a, xs, rfl, h1, rr⟩ := asL_ok st rd' hd
      unfold Rep at re
      subst re
      obtain ⟨w, q1, q2⟩ := atI_get rr hf
      exact ix_list value slice pins s σ H _ _ v u Q I rx ry ⟨a, xs, _, w, rfl, rfl, .inl h1, q1, k _ H (.refl _ _) st q2⟩ hs
    · cases hf
  · cases hf
/-- a part of a slice -/
def partD : D → Option Int
  | .int i => some i
  | _ => none
theorem ptOf_ok {n dflt j : Nat} {d : D} (h : ptOf n dflt d = some j) : HT.sIx n dflt (partD d) = j := by
  cases d <;> first | (cases h; rfl) | cases h
def rSl (G : GC) : V → Option Int → Option Int → Hp → VK → Prop := fun x lo hi H Q => ∃ d l h μ m r, StOk G μ m H ∧ Rep G m H d x ∧ partD l = lo ∧ partD h = hi ∧ fSl μ d l h = some r ∧ ∀ v H', Ext m H m H' → StOk G μ m H' → Rep G m H' r v → Q v H'
theorem reps_cut {ds : List D} {xs : List V} {l h : Nat} {lo hi : Option Int} (rr : Reps G m H ds xs) (h1 : HT.sIx ds.length 0 lo = l) (h2 : HT.sIx ds.length ds.length hi = h) : Reps G m H (cutL ds l h) (cutV xs lo hi) := by
  unfold cutL cutV
  rw [← rr.length, h1, h2]
  exact (rr.drop _).take _
theorem o_sl (hK : X.K = G.K) : SlR X (rSl G) := by
  intro pins s σ H x v vl vu lo hi sl Q I rx hs pl pu ⟨d, l, h, μ, m, r, st, rd', e1, e2, hf, k⟩
  unfold fSl at hf
  split at hf
  · rename_i z
    split at hf
    · rename_i hl
      split at hf
      · rename_i a b ha hb
        cases hf
        unfold Rep at rd'
        subst rd'
        refine sl_str pins s σ H _ v vl vu lo hi sl Q I rx hs pl pu ⟨_, rfl, by rw [toS_len]; exact cap_size hl, k _ H (.refl _ _) st ?_⟩
        unfold Rep cutL cutS
        have h1 := ptOf_ok ha
        have h2 := ptOf_ok hb
        rw [toS_len, toS_list, ← e1, ← e2, h1, h2]
      · cases hf
    · cases hf
  · split at hf
    · rename_i a b ha hb
      cases hf
      unfold Rep at rd'
      obtain ⟨p, xs, rfl, h1, rr⟩ := rd'
      have g1 := ptOf_ok ha
      have g2 := ptOf_ok hb
      rw [e1] at g1
      rw [e2] at g2
      have cut := reps_cut rr g1 g2
      refine sl_tupA pins s σ H _ v vl vu lo hi sl Q I rx hs pl pu ⟨p, xs, rfl, by rw [hK]; exact h1, fun ⟨w1, w2⟩ => ?_, fun _ q nq => ?_⟩
      · rw [← rr.length] at w1 w2
        have e0 : a = 0 := by rw [← g1, w1]
        have e0' := g2.symm.trans w2
        subst e0 e0'
        unfold cutL at k
        rw [List.drop_zero, Nat.sub_zero, List.take_length] at k
        exact k _ H (.refl _ _) st (by unfold Rep; exact ⟨p, xs, rfl, h1, rr⟩)
      · exact k _ _ (st_new st nq).1 (st_new st nq).2 (rep_newT st nq cut)
    · cases hf
  · rename_i ns
    split at hf
    · rename_i a b ha hb
      cases hf
      obtain ⟨p, rfl, h1⟩ := scr_ok rd'
      have g1 := ptOf_ok ha
      have g2 := ptOf_ok hb
      rw [e1] at g1
      rw [e2] at g2
      refine sl_list pins s σ H _ v vl vu lo hi sl Q I rx hs pl pu ⟨p, _, rfl, by rw [hK]; exact h1, fun q nq => ?_⟩
      have ec : cutV (ns.map V.int) lo hi = (cutL ns a b).map V.int := by
        unfold cutV cutL
        rw [List.length_map, g1, g2, List.map_take, List.map_drop]
      rw [ec]
      exact k _ _ (st_new st nq).1 (st_new st nq).2 (rep_new st nq (reps_ints _))
    · cases hf
  · split at hf
    · rename_i ds hd
      split at hf
      · rename_i a b ha hb
        cases hf
        obtain ⟨p, xs, rfl, h1, rr⟩ := asL_ok st rd' hd
        have g1 := ptOf_ok ha
        have g2 := ptOf_ok hb
        rw [e1] at g1
        rw [e2] at g2
        refine sl_list pins s σ H _ v vl vu lo hi sl Q I rx hs pl pu ⟨p, xs, rfl, .inl h1, fun q nq => ?_⟩
        exact k _ _ (st_new st nq).1 (st_new st nq).2 (rep_new st nq (reps_cut rr g1 g2))
      · cases hf
    · cases hf
end
end Ev
namespace Ev
open PySem PySem.Spec L2 Res
/-! ## slices and reversed ones as expressions -/
def fI (_ : Store) : D → Option D
  | .int i => some (.int i)
  | _ => none
section
variable {G : GC} {W : WX} {cf : String → List D → Store → Res D} {X : Cx} {μ : Store} {m : AM} {H : Hp}
variable {a b c e : Expr} {ca cb cc ce : CE} {pos p2 : Pos}
/-- a part that may be left out -/
def tOD (G : GC) (W : WX) (cf : String → List D → Store → Res D) (c : CE) : TO := fun σ H Q => ∃ ρ μ m, SR G ρ μ m σ H ∧ Out (ev cf c ρ μ) (fun d μ' => ∀ H' m', Ext m H m' H' → SR G ρ μ' m' σ H' → Q (partD d) H') (ExK G W m H σ)
theorem so_none : PO X none (tOD G W cf (.lit .non)) := ⟨fun pins s σ H Q I ⟨ρ, μ, m, S, h⟩ => po_none.run pins s σ H Q I (by
  unfold ev at h
  exact h H m (.refl _ _) S)⟩
theorem so_some (he : PE X e (tE G W cf ce)) : PO X (some e) (tOD G W cf (.op1 fI ce)) := ⟨fun pins s σ H Q I ⟨ρ, μ, m, S, h⟩ => by
  refine (po_some he).run pins s σ H Q I ?_
  unfold ev at h
  refine tE_sub S h.bind (.refl _ _) fun d μ1 v H1 m1 q e1 s1 rv => ?_
  obtain ⟨r, hr, q⟩ := out_lift q
  unfold fI at hr
  split at hr
  · cases hr
    unfold Rep at rv
    exact ⟨_, rv, q H1 m1 e1 s1⟩
  · cases hr⟩
theorem se_sl {lo hi : Option Expr} {cl ch : CE} (hK : X.K = G.K) (he : PE X e (tE G W cf ce)) (hl : PO X lo (tOD G W cf cl)) (hh : PO X hi (tOD G W cf ch)) : PE X (.Subscript e (.Slice lo hi none p2) pos) (tE G W cf (.op3 fSl ce cl ch)) :=
  pe_of (pe_slice (o_sl hK) he hl hh) fun σ H Q ⟨ρ, μ, m, S, h⟩ => by
    unfold ev at h
    refine tE_sub S h.bind (.refl _ _) fun d μ1 v H1 m1 q e1 s1 rv => ?_
    refine ⟨ρ, μ1, m1, s1, Out.mono q.bind (fun d2 μ2 q2 H2 m2 e2 s2 => ?_) fun _ _ _ z => z.step e1⟩
    refine ⟨ρ, μ2, m2, s2, Out.mono q2.bind (fun d3 μ3 q3 H3 m3 e3 s3 => ?_) fun _ _ _ z => z.step (e1.trans e2)⟩
    obtain ⟨r, hr, q⟩ := out_lift q3
    exact ⟨d, d2, d3, μ3, m3, r, s3.st, Rep.ext s1.st.live (e2.trans e3) _ _ rv, rfl, rfl, hr, fun w H4 e4 st4 rw' => q w H4 m3 ((e1.trans (e2.trans e3)).trans e4) (s3.ext e4 st4) rw'⟩
/-! ## methods -/
theorem se_meth {es : List Expr} {cs : List CE} {o : Expr} {co : CE} {name : Str} {apos cpos : Pos} {T id : String} {chk : Store → D → Bool} {f : List D → Store → Res D} (pa : PlainAttrs T) (slot : Slot T name id) (hty : typeOf (.builtin id) = pure (.type "method_descriptor"))
    (hm : MtR X id (fun x xs H Q => rM G f (x :: xs) H Q)) (hchk : ∀ μ m H d v, StOk G μ m H → Rep G m H d v → chk μ d = true → tyV X.K T v H) (ho : PE X o (tE G W cf co)) (ha : PA X (e :: es) (tA G W cf cs))
    (hbase : attributeBase o name X.env (eval o X.env) = eval o X.env := by rfl)
    (h3 : ((((backTo cpos (starEach (e :: es) X.env)).all (!·.1)) && (backToKw cpos (keywordEach [] X.env)).all (·.1.isSome)) && decide (((e :: es).length + ([] : List Keyword).length + if ([] : List Keyword).isEmpty then 0 else 1) < 30)) = true := by rfl)
    (hline : (apos.endLine == cpos.line) = true := by rfl) (he : starEach (e :: es) X.env = (false, eval e X.env) :: starEach es X.env := by rfl) (hpl : (backTo cpos (starEach es X.env)).any (·.1) = false := by rfl) :
    PE X (.Call (.Attribute o name apos) (e :: es) [] cpos) (tE G W cf (.meth chk f co cs)) :=
  pe_of (pe_bm pa slot hty hm ho ha hbase h3 hline he hpl) fun σ H Q ⟨ρ, μ, m, S, h⟩ => by
    unfold ev at h
    refine tE_sub S h.bind (.refl _ _) fun d μ1 v H1 m1 q e1 s1 rv => ?_
    by_cases hc : chk μ1 d = true
    · rw [if_pos hc] at q
      refine ⟨hchk _ _ _ _ _ s1.st rv hc, tA_sub s1 q.bind e1 fun ds μ2 vs H2 m2 q e2 s2 rvs => ?_⟩
      obtain ⟨r, μ3, hr, q⟩ := out_noExc q
      exact ⟨d :: ds, μ2, m2, r, μ3, s2.st, .cons (Rep.ext s1.st.live e2 _ _ rv) rvs, hr, fun w H3 m3 e3 st3 rw' => q w H3 m3 ((e1.trans e2).trans e3) (s2.ext e3 st3) rw'⟩
    · rw [if_neg hc] at q; exact q.elim
def isStr (_ : Store) : D → Bool
  | .str _ => true
  | _ => false
theorem isStr_ok : ∀ μ m H d v, StOk G μ m H → Rep G m H d v → isStr μ d = true → tyV X.K "str" v H := fun μ m H d v st r h => by
  cases d with
  | str z => unfold Rep at r; subst r; rfl
  | _ => exact absurd h Bool.false_ne_true
/-! ### lists of the store are written -/
end
end Ev
namespace Ev
open PySem PySem.Spec L2 Res
def strsOf : List D → Option (List (List Nat))
  | [] => some []
  | .str s :: ds => match strsOf ds with
    | some ss => some (s :: ss)
    | none => none
  | _ :: _ => none
def joinL (sep : List Nat) : List (List Nat) → List Nat
  | [] => []
  | [s] => s
  | s :: ss => s ++ sep ++ joinL sep ss
/-- sep.join(xs) -/
def mJoin (ds : List D) (μ : Store) : Res D := match ds with
  | [.str a, d] => match seqOf μ d with
    | some es => match strsOf es with
      | some ss => if (ss.map List.length).sum + ss.length * a.length ≤ cap then .ok (.str (joinL a ss)) μ else .stuck
      | none => .stuck
    | none => .stuck
  | _ => .stuck
/-- s.count(c) -/
def mCount (ds : List D) (μ : Store) : Res D := match ds with
  | [.str s, .str [c]] => .ok (.int (s.count c : Nat)) μ
  | _ => .stuck
/-- s.index(c) -/
def mIndex (ds : List D) (μ : Store) : Res D := match ds with
  | [.str s, .str [c]] => if c ∈ s then .ok (.int (s.idxOf c : Nat)) μ else .stuck
  | _ => .stuck
def intsOf : List D → Option (List Int)
  | [] => some []
  | .int s :: ds => match intsOf ds with
    | some ss => some (s :: ss)
    | none => none
  | _ :: _ => none
def blsOf : List D → Option (List Bool)
  | [] => some []
  | .bl s :: ds => match blsOf ds with
    | some ss => some (s :: ss)
    | none => none
  | _ :: _ => none
section
variable {G : GC} {X : Cx} {μ : Store} {m : AM} {H : Hp}
theorem strsOf_ok : ∀ {ds : List D} {vs : List V} {ss : List (List Nat)}, Reps G m H ds vs → strsOf ds = some ss → vs = (ss.map toS).map V.str
  | [], vs, ss, r, h => by unfold strsOf at h; cases h; exact r.isnil
  | d :: ds, vs, ss, r, h => by
    unfold strsOf at h
    split at h
    · rename_i e; cases e
    · rename_i z es e
      obtain ⟨rfl, rfl⟩ := List.cons.inj e
      obtain ⟨w, ws, rfl, r1, r2⟩ := r.uncons
      split at h
      · rename_i ss' hs
        cases h
        unfold Rep at r1
        rw [r1, strsOf_ok r2 hs]; rfl
      · cases h
    · cases h
theorem intsOf_ok : ∀ {ds : List D} {vs : List V} {ss : List Int}, Reps G m H ds vs → intsOf ds = some ss → vs = ss.map V.int
  | [], vs, ss, r, h => by unfold intsOf at h; cases h; exact r.isnil
  | d :: ds, vs, ss, r, h => by
    unfold intsOf at h
    split at h
    · rename_i e; cases e
    · rename_i z es e
      obtain ⟨rfl, rfl⟩ := List.cons.inj e
      obtain ⟨w, ws, rfl, r1, r2⟩ := r.uncons
      split at h
      · rename_i ss' hs
        cases h
        unfold Rep at r1
        rw [r1, intsOf_ok r2 hs]; rfl
      · cases h
    · cases h
theorem blsOf_ok : ∀ {ds : List D} {vs : List V} {ss : List Bool}, Reps G m H ds vs → blsOf ds = some ss → vs = ss.map V.bl
  | [], vs, ss, r, h => by unfold blsOf at h; cases h; exact r.isnil
  | d :: ds, vs, ss, r, h => by
    unfold blsOf at h
    split at h
    · rename_i e; cases e
    · rename_i z es e
      obtain ⟨rfl, rfl⟩ := List.cons.inj e
      obtain ⟨w, ws, rfl, r1, r2⟩ := r.uncons
      split at h
      · rename_i ss' hs
        cases h
        unfold Rep at r1
        rw [r1, blsOf_ok r2 hs]; rfl
      · cases h
    · cases h
theorem joinL_cons (a s : List Nat) : ∀ ss : List (List Nat), joinL a (s :: ss) = s ++ ss.flatMap fun p => a ++ p := by
  intro ss
  induction ss generalizing s with
  | nil => simp [joinL]
  | cons t ss ih => rw [joinL, ih]; simp; intro z; cases z
theorem join_fold (a : List Nat) : ∀ (ss : List (List Nat)) (s : List Nat), (ss.map toS).foldl (fun acc p => acc ++ (toS a).cps ++ p.cps) s.toArray = (s ++ ss.flatMap fun p => a ++ p).toArray := by
  intro ss
  induction ss with
  | nil => intro s; simp
  | cons t ss ih =>
    intro s
    rw [List.map_cons, List.foldl_cons]
    have e : s.toArray ++ (toS a).cps ++ (toS t).cps = (s ++ a ++ t).toArray := by simp [toS]
    rw [e, ih]
    simp
theorem join_ok (a : List Nat) : ∀ ss : List (List Nat), Txt.join (toS a) (ss.map toS) = toS (joinL a ss)
  | [] => rfl
  | s :: ss => by
    show (⟨((s :: ss).map toS |>.drop 1).foldl (fun acc p => acc ++ (toS a).cps ++ p.cps) ((((s :: ss).map toS)).headD Str.empty).cps⟩ : Str) = _
    rw [List.map_cons, List.drop_one, List.tail_cons, List.headD_cons]
    rw [joinL_cons]
    show (⟨(ss.map toS).foldl (fun acc p => acc ++ (toS a).cps ++ p.cps) s.toArray⟩ : Str) = _
    rw [join_fold]
theorem m_join (hK : X.K = G.K) : MtR X "str.join" (fun x xs H Q => rM G mJoin (x :: xs) H Q) := by
  intro pins s σ H x xs v us Q I rx rxs ⟨ds, μ, m, r, μ', st, rr, hf, k⟩
  unfold mJoin at hf
  split at hf
  · rename_i a d
    split at hf
    · rename_i es hes
      split at hf
      · rename_i ss hss
        split at hf
        · rename_i hc
          cases hf
          obtain ⟨w, ws, e1, r1, r2⟩ := rr.uncons
          obtain ⟨rfl, rfl⟩ := List.cons.inj e1
          obtain ⟨y, ys, rfl, r3, r4⟩ := r2.uncons
          have := r4.isnil
          subst this
          obtain ⟨p, zs, rfl, g1, g2⟩ := seqOf_ok st r3 hes
          have ez := strsOf_ok g2 hss
          subst ez
          unfold Rep at r1
          subst r1
          refine mt_join pins s σ H _ _ v us Q I rx rxs ⟨_, p, ss.map toS, rfl, rfl, by rw [hK]; exact g1, ?_, k _ H m (.refl _ _) st (by unfold Rep; rw [join_ok])⟩
          have e1 : (List.map (fun x => x.length) (ss.map toS)) = ss.map List.length := by
            rw [List.map_map]; congr 1
          rw [e1, List.length_map, toS_len]
          exact Nat.le_trans hc (by decide)
        · cases hf
      · cases hf
    · cases hf
  · cases hf
/-! ### one sign looked for -/
theorem sub_one (s : List Nat) (c i : Nat) (hi : i + 1 ≤ s.length) : Builtin.Str.subAt (toS s) ⟨#[c]⟩ i = decide (s[i]? = some c) := by
  unfold Builtin.Str.subAt
  show ((toS s).cps.extract i (i + 1) == #[c]) = _
  have e : (toS s).cps.extract i (i + 1) = #[s[i]'(by omega)] := by
    apply Array.ext
    · simp [toS]; try omega
    · intro j h1 h2
      have : j = 0 := by simp at h2; omega
      subst this
      simp [toS]
  rw [e, List.getElem?_eq_getElem (by omega : i < s.length)]
  rw [Bool.eq_iff_iff, beq_iff_eq, decide_eq_true_iff]
  simp
theorem occ_one (s : List Nat) (c lim : Nat) (hl : s.length < lim) : ∀ (n a : Nat) (arr : Array Nat) (free : Nat), free ≤ a → arr.size ≤ a → a + n = s.length + 1 →
    (forIn (List.range' a n) (arr, free) (StrLaws.occBody (toS s) ⟨#[c]⟩ (toS s).length lim)).run.fst.toList = arr.toList ++ (List.range' a n).filter fun i => decide (s[i]? = some c) := by
  intro n
  induction n with
  | zero => intro a arr free _ _ _; simp
  | succ n ih =>
    intro a arr free h1 h2 h3
    rw [List.range'_succ, List.forIn_cons, List.filter_cons]
    have hlen : (toS s).length = s.length := toS_len s
    have hl1 : ({ cps := #[c] } : Str).length = 1 := rfl
    by_cases ha : a + 1 ≤ s.length
    · have hs := sub_one s c a ha
      by_cases hq : s[a]? = some c
      · have hb : StrLaws.occBody (toS s) ⟨#[c]⟩ (toS s).length lim a (arr, free) = pure (ForInStep.yield (arr.push a, a + 1)) := by
          unfold StrLaws.occBody
          rw [if_pos ⟨⟨⟨by show arr.size < lim; omega, by show free ≤ a; exact h1⟩, by rw [hlen, hl1]; exact ha⟩, by rw [hs]; exact decide_eq_true hq⟩]
          rfl
        rw [hb]
        simp only [pure_bind]
        rw [ih (a + 1) (arr.push a) (a + 1) (Nat.le_refl _) (by simp; omega) (by omega), if_pos (decide_eq_true hq)]
        simp
      · have hb : StrLaws.occBody (toS s) ⟨#[c]⟩ (toS s).length lim a (arr, free) = pure (ForInStep.yield (arr, free)) := by
          unfold StrLaws.occBody
          rw [if_neg (fun z => hq (by have := z.2; rw [hs] at this; exact of_decide_eq_true this))]
        rw [hb]
        simp only [pure_bind]
        rw [ih (a + 1) arr free (by omega) (by omega) (by omega), if_neg (by simpa using hq)]
    · have hb : StrLaws.occBody (toS s) ⟨#[c]⟩ (toS s).length lim a (arr, free) = pure (ForInStep.yield (arr, free)) := by
        unfold StrLaws.occBody
        rw [if_neg (fun z => ha (by have := z.1.2; rw [hlen, hl1] at this; exact this))]
      rw [hb]
      simp only [pure_bind]
      have hn : s[a]? = none := List.getElem?_eq_none_iff.mpr (by omega)
      rw [ih (a + 1) arr free (by omega) (by omega) (by omega), if_neg (by rw [hn]; simp)]
theorem count_idx (c : Nat) : ∀ (s : List Nat) (b : Nat), ((List.range' b (s.length + 1)).filter fun i => decide (s[i - b]? = some c)).length = s.count c := by
  intro s
  induction s with
  | nil => intro b; simp [List.range'_succ]
  | cons d s ih =>
    intro b
    rw [List.length_cons, List.range'_succ, List.filter_cons]
    have e : ((List.range' (b + 1) (s.length + 1)).filter fun i => decide ((d :: s)[i - b]? = some c)) = (List.range' (b + 1) (s.length + 1)).filter fun i => decide (s[i - (b + 1)]? = some c) := by
      apply List.filter_congr
      intro i hi
      have h1 : b + 1 ≤ i := (List.mem_range'_1.mp hi).1
      have e1 : i - b = (i - (b + 1)) + 1 := by omega
      rw [e1, List.getElem?_cons_succ]
    rw [Nat.sub_self]
    simp only [List.getElem?_cons_zero]
    rw [e]
    by_cases hd : d = c
    · subst hd
      rw [if_pos (decide_eq_true rfl), List.length_cons, ih, List.count_cons_self]
    · rw [if_neg (by simpa using hd), ih, List.count_cons_of_ne (by simpa using hd)]
theorem count_ok (s : List Nat) (c : Nat) : Txt.count (toS s) ⟨#[c]⟩ = (s.count c : Nat) := by
  unfold Txt.count
  rw [StrLaws.occ_eq]
  have h := occ_one s c ((toS s).length + 1) (by rw [toS_len]; omega) (s.length + 1) 0 #[] 0 (Nat.le_refl _) (Nat.le_refl _) (by omega)
  rw [toS_len] at h ⊢
  rw [Nat.sub_zero, h]
  have := count_idx c s 0
  simp only [Nat.sub_zero] at this
  simp [this]
theorem m_count : MtR X "str.count" (fun x xs H Q => rM G mCount (x :: xs) H Q) := by
  intro pins s σ H x xs v us Q I rx rxs ⟨ds, μ, m, r, μ', st, rr, hf, k⟩
  unfold mCount at hf
  split at hf
  · cases hf
    obtain ⟨w, ws, e1, r1, r2⟩ := rr.uncons
    obtain ⟨rfl, rfl⟩ := List.cons.inj e1
    obtain ⟨y, ys, rfl, r3, r4⟩ := r2.uncons
    have := r4.isnil
    subst this
    unfold Rep at r1 r3
    subst r1 r3
    exact mt_count pins s σ H _ _ v us Q I rx rxs ⟨_, _, rfl, rfl, k _ H m (.refl _ _) st (by unfold Rep; exact congrArg V.int (count_ok _ _))⟩
  · cases hf
theorem idx_first (c : Nat) : ∀ (s : List Nat) (i : Nat), s[i]? = some c → (∀ k, k < i → s[k]? ≠ some c) → s.idxOf c = i := by
  intro s
  induction s with
  | nil => intro i h; simp at h
  | cons d s ih =>
    intro i h hn
    rw [List.idxOf_cons]
    by_cases hd : d = c
    · subst hd
      cases i with
      | zero => simp
      | succ i => exact absurd (by simp) (hn 0 (by omega))
    · cases i with
      | zero => simp at h; exact absurd h hd
      | succ i =>
        have := ih i (by simpa using h) fun k hk => by
          have := hn (k + 1) (by omega)
          simpa using this
        have hb : (d == c) = false := beq_eq_false_iff_ne.mpr hd
        rw [hb, this]; rfl
theorem index_ok (s : List Nat) (c : Nat) (h : c ∈ s) : ∃ r, Builtin.Str.occurrences (toS s) ⟨#[c]⟩ 0 (toS s).length 1 = s.idxOf c :: r := by
  have at_iff : ∀ i, StrLaws.At (toS s) ⟨#[c]⟩ (toS s).length i ↔ s[i]? = some c := fun i => by
    unfold StrLaws.At
    rw [toS_len]
    constructor
    · intro ⟨h1, h2⟩
      have h1 : i + 1 ≤ s.length := h1
      rw [sub_one s c i h1] at h2
      exact of_decide_eq_true h2
    · intro h
      have hi : i + 1 ≤ s.length := (List.getElem?_eq_some_iff.mp h).1
      exact ⟨hi, by rw [sub_one s c i hi]; exact decide_eq_true h⟩
  rcases StrLaws.occ_head (toS s) ⟨#[c]⟩ 1 (Nat.le_refl _) with ⟨_, hn⟩ | ⟨i, r, e, ha, hn⟩
  · obtain ⟨i, hi⟩ := List.mem_iff_getElem?.mp h
    exact absurd ((at_iff i).mpr hi) (hn i)
  · refine ⟨r, ?_⟩
    rw [e, idx_first c s i ((at_iff i).mp ha) fun k hk z => hn k hk ((at_iff k).mpr z)]
theorem m_index : MtR X "str.index" (fun x xs H Q => rM G mIndex (x :: xs) H Q) := by
  intro pins s σ H x xs v us Q I rx rxs ⟨ds, μ, m, r, μ', st, rr, hf, k⟩
  unfold mIndex at hf
  split at hf
  · split at hf
    · rename_i hc
      cases hf
      obtain ⟨w, ws, e1, r1, r2⟩ := rr.uncons
      obtain ⟨rfl, rfl⟩ := List.cons.inj e1
      obtain ⟨y, ys, rfl, r3, r4⟩ := r2.uncons
      have := r4.isnil
      subst this
      unfold Rep at r1 r3
      subst r1 r3
      obtain ⟨rest, e⟩ := index_ok _ _ hc
      exact mt_sindex pins s σ H _ _ v us Q I rx rxs ⟨_, _, _, rest, rfl, rfl, e, k _ H m (.refl _ _) st (by unfold Rep; rfl)⟩
    · cases hf
  · cases hf
end
end Ev
namespace Ev
open PySem PySem.Spec L2 Res
/-! ## builtins -/
def lenD (μ : Store) : D → Option Nat
  | .str s => if s.length ≤ cap then some s.length else none
  | .tup ds => some ds.length
  | .scr ds => some ds.length
  | d => match asL μ d with
    | some ds => some ds.length
    | none => none
def fLen (μ : Store) : List D → Option D
  | [d] => match lenD μ d with
    | some n => some (.int (n : Nat))
    | none => none
  | _ => none
def fAbs (_ : Store) : List D → Option D
  | [.int i] => some (.int (if i < 0 then -i else i))
  | _ => none
def maxI : List Int → Option Int
  | [] => none
  | [i] => some i
  | i :: is => match maxI is with
    | some j => some (if i < j then j else i)
    | none => none
def minI : List Int → Option Int
  | [] => none
  | [i] => some i
  | i :: is => match minI is with
    | some j => some (if j < i then j else i)
    | none => none
def fMax (μ : Store) : List D → Option D
  | [.int i, .int j] => some (.int (if j > i then j else i))
  | [d] => match asL μ d with
    | some ds => match intsOf ds with
      | some ns => (maxI ns).map .int
      | none => none
    | none => none
  | _ => none
def fMin (μ : Store) : List D → Option D
  | [.int i, .int j] => some (.int (if j < i then j else i))
  | [d] => match asL μ d with
    | some ds => match intsOf ds with
      | some ns => (minI ns).map .int
      | none => none
    | none => none
  | _ => none
def fInt (_ : Store) : List D → Option D
  | [.int i] => some (.int i)
  | [.bl b] => some (.int (if b then 1 else 0))
  | _ => none
def fDivmod (_ : Store) : List D → Option D
  | [.int i, .int j] => if 0 < j ∧ j < 1073741824 then some (.tup [.int (i / j), .int (i % j)]) else if 0 < j ∧ j.natAbs.log2 < 9000 then some (.tup [.int (i / j), .int (i % j)]) else none
  | _ => none
def fAny (μ : Store) : List D → Option D
  | [d] => match asL μ d with
    | some ds => match blsOf ds with
      | some ns => some (.bl (ns.any id))
      | none => none
    | none => none
  | _ => none
def fAll (μ : Store) : List D → Option D
  | [d] => match asL μ d with
    | some ds => match blsOf ds with
      | some ns => some (.bl (ns.all id))
      | none => none
    | none => none
  | _ => none
def fList (μ : Store) : List D → Option D
  | [d] => match seqOf μ d with
    | some ds => some (.lst ds)
    | none => none
  | _ => none
def fTuple (μ : Store) : List D → Option D
  | [d] => match seqOf μ d with
    | some ds => some (.tup ds)
    | none => none
  | _ => none
def tyN : D → Option String
  | .non => some "NoneType"
  | .bl _ => some "bool"
  | .int _ => some "int"
  | .str _ => some "str"
  | .tup _ => some "tuple"
  | .lst _ => some "list"
  | _ => none
def isiT (a b : String) : Option Bool := if ["NoneType", "bool", "int", "str", "tuple", "list"].contains a && ["bool", "int", "str", "tuple", "list"].contains b then some (a == b || (a == "bool" && b == "int")) else none
def fIsi (μ : Store) : List D → Option D
  | [d, .ty n] => match tyN (rd μ d) with
    | some a => (isiT a n).map .bl
    | none => none
  | _ => none
theorem maxI_mem : ∀ {ns : List Int} {k : Int}, maxI ns = some k → k ∈ ns ∧ ∀ y ∈ ns, y ≤ k
  | [], _, h => by cases h
  | [i], k, h => by
    simp [maxI] at h; subst h; simp
  | i :: j :: is, k, h => by
    rw [maxI] at h
    · cases q : maxI (j :: is) with
      | none => rw [q] at h; cases h
      | some l =>
        rw [q] at h
        obtain ⟨h1, h2⟩ := maxI_mem q
        have e : (if i < l then l else i) = k := Option.some.inj h
        by_cases hl : i < l
        · rw [if_pos hl] at e; subst e
          exact ⟨List.mem_cons_of_mem _ h1, fun y hy => by
            rcases List.mem_cons.mp hy with z | z
            · omega
            · exact h2 y z⟩
        · rw [if_neg hl] at e; subst e
          exact ⟨List.mem_cons_self, fun y hy => by
            rcases List.mem_cons.mp hy with z | z
            · omega
            · have := h2 y z; omega⟩
    · intro z; cases z
theorem minI_mem : ∀ {ns : List Int} {k : Int}, minI ns = some k → k ∈ ns ∧ ∀ y ∈ ns, k ≤ y
  | [], _, h => by cases h
  | [i], k, h => by
    simp [minI] at h; subst h; simp
  | i :: j :: is, k, h => by
    rw [minI] at h
    · cases q : minI (j :: is) with
      | none => rw [q] at h; cases h
      | some l =>
        rw [q] at h
        obtain ⟨h1, h2⟩ := minI_mem q
        have e : (if l < i then l else i) = k := Option.some.inj h
        by_cases hl : l < i
        · rw [if_pos hl] at e; subst e
          exact ⟨List.mem_cons_of_mem _ h1, fun y hy => by
            rcases List.mem_cons.mp hy with z | z
            · omega
            · exact h2 y z⟩
        · rw [if_neg hl] at e; subst e
          exact ⟨List.mem_cons_self, fun y hy => by
            rcases List.mem_cons.mp hy with z | z
            · omega
            · have := h2 y z; omega⟩
    · intro z; cases z
section
variable {G : GC} {X : Cx} {μ : Store} {m : AM} {H : Hp}
theorem b_len (hK : X.K = G.K) : CallR X (.builtin "len") (rN G fLen) := by
  intro pins s σ H xs us Q I rx ⟨ds, μ, m, r, st, rr, hf, k⟩
  unfold fLen at hf
  split at hf
  · rename_i d
    split at hf
    · rename_i n hn
      cases hf
      obtain ⟨v, rfl, rv⟩ := reps1 rr
      refine call_len pins s σ H _ us Q I rx ⟨v, n, rfl, ?_, k _ H (.refl _ _) st (by unfold Rep; rfl)⟩
      unfold lenD at hn
      split at hn
      · split at hn
        · rename_i hl
          cases hn
          unfold Rep at rv
          subst rv
          exact ⟨by rw [toS_len]; exact cap_size hl, (toS_len _).symm⟩
        · cases hn
      · cases hn
        unfold Rep at rv
        obtain ⟨a, xs, rfl, h1, q⟩ := rv
        exact .inr ⟨xs, by rw [hK]; exact h1, q.length⟩
      · cases hn
        obtain ⟨a, rfl, h1⟩ := scr_ok rv
        exact .inl ⟨_, by rw [hK]; exact h1, by rw [List.length_map]⟩
      · split at hn
        · rename_i es he
          cases hn
          obtain ⟨a, xs, rfl, h1, q⟩ := asL_ok st rv he
          exact .inl ⟨xs, .inl h1, q.length⟩
        · cases hn
    · cases hf
  · cases hf
theorem b_abs : CallR X (.builtin "abs") (rN G fAbs) := by
  intro pins s σ H xs us Q I rx ⟨ds, μ, m, r, st, rr, hf, k⟩
  unfold fAbs at hf
  split at hf
  · cases hf
    obtain ⟨v, rfl, rv⟩ := reps1 rr
    unfold Rep at rv
    subst rv
    exact call_abs pins s σ H _ us Q I rx ⟨_, rfl, k _ H (.refl _ _) st (by unfold Rep; rfl)⟩
  · cases hf
theorem b_max (hc : X.calm = true) : CallR X (.builtin "max") (rN G fMax) := by
  intro pins s σ H xs us Q I rx ⟨ds, μ, m, r, st, rr, hf, k⟩
  unfold fMax at hf
  split at hf
  · cases hf
    obtain ⟨v, w, rfl, rv, rw'⟩ := reps2 rr
    unfold Rep at rv rw'
    subst rv rw'
    exact call_max2 hc pins s σ H _ us Q I rx ⟨_, _, rfl, k _ H (.refl _ _) st (by unfold Rep; rfl)⟩
  · split at hf
    · rename_i es he
      split at hf
      · rename_i ns hn
        obtain ⟨v, rfl, rv⟩ := reps1 rr
        obtain ⟨a, zs, rfl, g1, g2⟩ := asL_ok st rv he
        have ez := intsOf_ok g2 hn
        subst ez
        cases hm : maxI ns with
        | none => rw [hm] at hf; cases hf
        | some mx =>
          rw [hm] at hf
          cases hf
          obtain ⟨q1, q2⟩ := maxI_mem hm
          refine cr_max hc pins s σ H _ us Q I rx ⟨a, ns, rfl, .inl g1, List.length_pos_of_mem q1, fun y hy hle => ?_⟩
          have : y = mx := Int.le_antisymm (q2 y hy) (hle mx q1)
          rw [this]
          exact k _ H (.refl _ _) st (by unfold Rep; rfl)
      · cases hf
    · cases hf
  · cases hf
theorem b_min (hc : X.calm = true) : CallR X (.builtin "min") (rN G fMin) := by
  intro pins s σ H xs us Q I rx ⟨ds, μ, m, r, st, rr, hf, k⟩
  unfold fMin at hf
  split at hf
  · cases hf
    obtain ⟨v, w, rfl, rv, rw'⟩ := reps2 rr
    unfold Rep at rv rw'
    subst rv rw'
    exact call_min2 hc pins s σ H _ us Q I rx ⟨_, _, rfl, k _ H (.refl _ _) st (by unfold Rep; rfl)⟩
  · split at hf
    · rename_i es he
      split at hf
      · rename_i ns hn
        obtain ⟨v, rfl, rv⟩ := reps1 rr
        obtain ⟨a, zs, rfl, g1, g2⟩ := asL_ok st rv he
        have ez := intsOf_ok g2 hn
        subst ez
        cases hm : minI ns with
        | none => rw [hm] at hf; cases hf
        | some mx =>
          rw [hm] at hf
          cases hf
          obtain ⟨q1, q2⟩ := minI_mem hm
          refine cr_min hc pins s σ H _ us Q I rx ⟨a, ns, rfl, .inl g1, List.length_pos_of_mem q1, fun y hy hle => ?_⟩
          have : y = mx := Int.le_antisymm (hle mx q1) (q2 y hy)
          rw [this]
          exact k _ H (.refl _ _) st (by unfold Rep; rfl)
      · cases hf
    · cases hf
  · cases hf
theorem b_int : CallR X (.type "int") (rN G fInt) := by
  intro pins s σ H xs us Q I rx ⟨ds, μ, m, r, st, rr, hf, k⟩
  unfold fInt at hf
  split at hf
  · cases hf
    obtain ⟨v, rfl, rv⟩ := reps1 rr
    unfold Rep at rv
    subst rv
    exact call_int1 pins s σ H _ us Q I rx (.inl ⟨_, rfl, k _ H (.refl _ _) st (by unfold Rep; rfl)⟩)
  · cases hf
    obtain ⟨v, rfl, rv⟩ := reps1 rr
    unfold Rep at rv
    subst rv
    exact call_int1 pins s σ H _ us Q I rx (.inr ⟨_, rfl, k _ H (.refl _ _) st (by unfold Rep; rfl)⟩)
  · cases hf
theorem b_divmod : CallR X (.builtin "divmod") (rN G fDivmod) := by
  intro pins s σ H xs us Q I rx ⟨ds, μ, m, r, st, rr, hf, k⟩
  unfold fDivmod at hf
  split at hf
  · split at hf
    · rename_i hc
      cases hf
      obtain ⟨v, w, rfl, rv, rw'⟩ := reps2 rr
      unfold Rep at rv rw'
      subst rv rw'
      exact call_divmod pins s σ H _ us Q I rx ⟨_, _, rfl, hc, fun p np => k _ _ (st_new st np).1 (st_new st np).2 (rep_newT st np (.cons (by unfold Rep; rfl) (.cons (by unfold Rep; rfl) .nil)))⟩
    · split at hf
      · rename_i hc
        cases hf
        obtain ⟨v, w, rfl, rv, rw'⟩ := reps2 rr
        unfold Rep at rv rw'
        subst rv rw'
        exact call_divmodW pins s σ H _ us Q I rx ⟨_, _, rfl, ⟨hc.1, PyProof.noPylong_of_log2 hc.2⟩, fun p np => k _ _ (st_new st np).1 (st_new st np).2 (rep_newT st np (.cons (by unfold Rep; rfl) (.cons (by unfold Rep; rfl) .nil)))⟩
      · cases hf
  · cases hf
theorem b_any (hc : X.calm = true) : CallR X (.builtin "any") (rN G fAny) := by
  intro pins s σ H xs us Q I rx ⟨ds, μ, m, r, st, rr, hf, k⟩
  unfold fAny at hf
  split at hf
  · split at hf
    · rename_i es he
      split at hf
      · rename_i ns hn
        cases hf
        obtain ⟨v, rfl, rv⟩ := reps1 rr
        obtain ⟨a, zs, rfl, g1, g2⟩ := asL_ok st rv he
        have ez := blsOf_ok g2 hn
        subst ez
        exact cr_any hc pins s σ H _ us Q I rx ⟨a, ns, rfl, .inl g1, k _ H (.refl _ _) st (by unfold Rep; rfl)⟩
      · cases hf
    · cases hf
  · cases hf
theorem b_all (hc : X.calm = true) : CallR X (.builtin "all") (rN G fAll) := by
  intro pins s σ H xs us Q I rx ⟨ds, μ, m, r, st, rr, hf, k⟩
  unfold fAll at hf
  split at hf
  · split at hf
    · rename_i es he
      split at hf
      · rename_i ns hn
        cases hf
        obtain ⟨v, rfl, rv⟩ := reps1 rr
        obtain ⟨a, zs, rfl, g1, g2⟩ := asL_ok st rv he
        have ez := blsOf_ok g2 hn
        subst ez
        exact cr_all hc pins s σ H _ us Q I rx ⟨a, ns, rfl, .inl g1, k _ H (.refl _ _) st (by unfold Rep; rfl)⟩
      · cases hf
    · cases hf
  · cases hf
theorem b_list (hK : X.K = G.K) : CallR X (.type "list") (rN G fList) := by
  intro pins s σ H xs us Q I rx ⟨ds, μ, m, r, st, rr, hf, k⟩
  unfold fList at hf
  split at hf
  · split at hf
    · rename_i es he
      cases hf
      obtain ⟨v, rfl, rv⟩ := reps1 rr
      obtain ⟨a, zs, rfl, g1, g2⟩ := seqOf_ok st rv he
      exact call_list_of pins s σ H _ us Q I rx ⟨a, zs, rfl, by rw [hK]; exact g1, fun p np => k _ _ (st_new st np).1 (st_new st np).2 (rep_new st np g2)⟩
    · cases hf
  · cases hf
theorem b_tuple (hK : X.K = G.K) : CallR X (.type "tuple") (rN G fTuple) := by
  intro pins s σ H xs us Q I rx ⟨ds, μ, m, r, st, rr, hf, k⟩
  unfold fTuple at hf
  split at hf
  · split at hf
    · rename_i es he
      cases hf
      obtain ⟨v, rfl, rv⟩ := reps1 rr
      obtain ⟨a, zs, rfl, g1, g2⟩ := seqOf_ok st rv he
      rcases g1 with g1 | g1
      · exact call_tuple_of pins s σ H _ us Q I rx ⟨a, zs, rfl, .inl ⟨by rw [hK]; exact g1, fun p np => k _ _ (st_new st np).1 (st_new st np).2 (rep_newT st np g2)⟩⟩
      · exact call_tuple_of pins s σ H _ us Q I rx ⟨a, zs, rfl, .inr ⟨by rw [hK]; exact g1, k _ H (.refl _ _) st (by unfold Rep; exact ⟨a, zs, rfl, g1, g2⟩)⟩⟩
    · cases hf
  · cases hf
theorem isiT_kit {a b : String} {t : Bool} (h : isiT a b = some t) : kitB a b = some t := by
  unfold isiT at h
  split at h
  · rename_i hc
    obtain ⟨c1, c2⟩ := Bool.and_eq_true_iff.mp hc
    cases h
    have all : (["NoneType", "bool", "int", "str", "tuple", "list"].all fun a => ["bool", "int", "str", "tuple", "list"].all fun b => kitB a b == some (a == b || (a == "bool" && b == "int"))) = true := by decide +kernel
    have h1 := List.all_eq_true.mp all a (by simpa using c1)
    have h2 := List.all_eq_true.mp h1 b (by simpa using c2)
    exact eq_of_beq h2
  · cases h
theorem tyN_ok {d : D} {v : V} {a : String} (st : StOk G μ m H) (r : Rep G m H d v) (h : tyN (rd μ d) = some a) : TyX G.K H v (.type a) := by
  unfold rd at h
  cases q : asL μ d with
  | some ds =>
    rw [q] at h
    cases h
    obtain ⟨p, xs, rfl, g1, g2⟩ := asL_ok st r q
    rcases g1 with g1 | ⟨o, g1⟩
    · exact .base (.lst g1)
    · exact .base (.frz g1)
  | none =>
    rw [q] at h
    cases d with
    | non => cases h; unfold Rep at r; subst r; exact .base .non
    | bl b => cases h; unfold Rep at r; subst r; exact .base (.bl b)
    | int b => cases h; unfold Rep at r; subst r; exact .base (.int b)
    | str b => cases h; unfold Rep at r; subst r; exact .base (.str _)
    | tup ds =>
      cases h
      unfold Rep at r
      obtain ⟨p, xs, rfl, g1, g2⟩ := r
      rcases g1 with (g1 | ⟨o, g1⟩) | ⟨o, its, n, g1, g2, _⟩
      · exact .base (.tup g1)
      · exact .fTuple g1
      · exact .kTuple g1 g2
    | lst ds => simp [asL] at q
    | _ => cases h
theorem b_isi (hK : X.K = G.K) : CallR X (.builtin "isinstance") (rN G fIsi) := by
  intro pins s σ H xs us Q I rx ⟨ds, μ, m, r, st, rr, hf, k⟩
  unfold fIsi at hf
  split at hf
  · rename_i d n
    split at hf
    · rename_i a ha
      cases hi : isiT a n with
      | none => rw [hi] at hf; cases hf
      | some t =>
        rw [hi] at hf
        cases hf
        obtain ⟨v, w, rfl, rv, rw'⟩ := reps2 rr
        unfold Rep at rw'
        subst rw'
        exact call_isi pins s σ H _ us Q I rx ⟨v, _, _, _, t, rfl, .ty n, by rw [hK]; exact tyN_ok st rv ha, kit_ty (isiT_kit hi), k _ H (.refl _ _) st (by unfold Rep; rfl)⟩
    · cases hf
  · cases hf
end
end Ev
namespace Ev
open PySem PySem.Spec L2 Res PyProof.Rows
/-! ## sorted(text) -/
/-! ### as the evaluator has it -/
section
variable {G : GC} {X : Cx} {μ : Store} {m : AM} {H : Hp}
theorem reps_signs : ∀ cs : List Nat, Reps G m H (cs.map fun c => D.str [c]) (cs.map fun c => V.str (toS [c]))
  | [] => .nil
  | c :: cs => .cons (by unfold Rep; rfl) (reps_signs cs)
end
end Ev
namespace Ev
open PySem PySem.Spec L2 Res PyProof.Rows
/-! ## sum of a tuple -/
end Ev
namespace Ev
open PySem PySem.Spec L2 Res
end Ev
namespace Ev
open PySem PySem.Spec L2 Res
/-! ## tuples of the module -/
end Ev
namespace Ev
open PySem PySem.Spec L2 Res
open Sem (wp)
/-! ## enumerate over zip -/
/-! ### the turns -/
end Ev
namespace Ev
open PySem PySem.Spec L2 Res PyProof.Rows
/-! ## min of texts -/
def minF (x : List Nat) : List (List Nat) → List Nat
  | [] => x
  | y :: ys => minF (if y < x then y else x) ys
def valT (ss : List (List Nat)) (i : Nat) : List Nat := ss.getD i []
theorem argBest_minF (ss : List (List Nat)) : ∀ (k : Nat), k < ss.length → valT ss (argBest (fun i j => decide (valT ss i < valT ss j)) k) = minF (valT ss 0) ((ss.drop 1).take k)
  | 0, _ => by simp [argBest, minF]
  | k + 1, h => by
    have snoc : ∀ (l : List (List Nat)) (x y : List Nat), minF x (l ++ [y]) = if y < minF x l then y else minF x l := by
      intro l
      induction l with
      | nil => intro x y; rfl
      | cons z l ih => intro x y; rw [List.cons_append, minF, minF, ih]
    have ih := argBest_minF ss k (by omega)
    have e : (ss.drop 1).take (k + 1) = (ss.drop 1).take k ++ [valT ss (k + 1)] := by
      rw [List.take_add_one]
      congr 1
      rw [List.getElem?_drop, Nat.add_comm 1 k]
      simp [valT, List.getD, h]
    rw [e, snoc, ← ih]
    simp only [argBest]
    by_cases hc : valT ss (k + 1) < valT ss (argBest (fun i j => decide (valT ss i < valT ss j)) k)
    · rw [if_pos (decide_eq_true hc), if_pos hc]
    · rw [if_neg (by rw [decide_eq_true_iff]; exact hc), if_neg hc]
theorem min_texts {P : Program} {w : World} {A : Around} {E : Value → Shared → Prop} {s : Shared} {l : Addr} {its : List Value} {x : List Nat} {xs : List (List Nat)} {Q : Value → Shared → Prop} (hh : A.handled = none) (hl : s.heap.IsList l its.toArray)
    (hi : Vals (((x :: xs).map toS).map V.str) its) (h : ∀ h' tk t', (∀ b o, s.heap.get? b = some o → h'.get? b = some o) → Q (.str (toS (minF x xs)) t') { s with heap := h', toks := tk }) : wpAny (model P w) A (call (.builtin "min") [.ref l]) Q E s := by
  have hlt : l < s.heap.objs.size := by obtain ⟨_, e, _⟩ := hl; exact Heap.lt_size e
  have hlI : l ≠ s.heap.objs.size := Nat.ne_of_lt hlt
  have at' : ∀ (i : Nat) (v : Value), its.toArray[i]? = some v → ∃ t, v = .str (toS (valT (x :: xs) i)) t := fun i v hv => by
    have hv' : its[i]? = some v := by simpa using hv
    have hlen := hi.length
    have hi' := (List.getElem?_eq_some_iff.mp hv').1
    rw [← hlen, List.length_map, List.length_map] at hi'
    have e1 : (((x :: xs).map toS).map V.str)[i]? = some (.str (toS (valT (x :: xs) i))) := by
      rw [List.getElem?_map, List.getElem?_map, List.getElem?_eq_getElem hi']
      show some (V.str (toS ((x :: xs)[i]))) = some (V.str (toS ((x :: xs).getD i [])))
      rw [List.getD_eq_getElem?_getD, List.getElem?_eq_getElem hi']
      rfl
    obtain ⟨u, q1, q2⟩ := hi.get e1
    rw [hv'] at q1
    cases q1
    exact q2
  refine call_min_walk (wpAny_pyIter_list hl ⟨_, _, _, _, _, _, (fun i j => decide (valT (x :: xs) i < valT (x :: xs) j)), rfl, Walks.list (A := A.in1) hh _ l hlI its.toArray, ⟨⟨_, Heap.get?_push_size _ rfl, rfl, rfl⟩, hl.push _⟩, fun b hb => ?_, ?_, fun i j vi vj s Q E pi pj q => ?_, fun v h' tk hP hk => ?_⟩)
  · show b < (s.heap.push _).objs.size
    rw [Heap.size_push]
    rcases List.mem_cons.mp hb with rfl | hb
    · exact Nat.lt_succ_self _
    · rcases List.mem_cons.mp hb with rfl | hb
      · exact Nat.lt_succ_of_lt hlt
      · cases hb
  · have hlen := hi.length
    rw [List.size_toArray, ← hlen]
    simp
  · obtain ⟨t, rfl⟩ := at' i vi pi
    obtain ⟨u, rfl⟩ := at' j vj pj
    exact (show wpAny _ _ (richCompare .Lt (.str _ t) (.str _ u)) Q E s from PyProof.Rows.lt_str (by simpa using q))
  · have hlen := hi.length
    have hb := argBest_minF (x :: xs) xs.length (by simp)
    have e0 : its.toArray.size - 1 = xs.length := by rw [List.size_toArray, ← hlen]; simp
    rw [e0] at hP
    obtain ⟨t, rfl⟩ := at' _ v hP
    rw [hb]
    have := h h' tk t fun b o q => hk b o (by simp; exact Nat.ne_of_lt (Heap.lt_size q)) (Heap.get?_push_of_some _ q)
    simpa [valT] using this
def fMinD (μ : Store) (ds : List D) : Option D := match ds with
  | [d] => match asL μ d with
    | some es => match strsOf es with
      | some (x :: xs) => some (.str (minF x xs))
      | _ => fMin μ [d]
    | none => fMin μ [d]
  | ds => fMin μ ds
section
variable {G : GC} {X : Cx} {μ : Store} {m : AM} {H : Hp}
theorem b_minD (hK : X.K = G.K) (hc : X.calm = true) : CallR X (.builtin "min") (rN G fMinD) := by
  intro pins s σ H xs us Q I rx ⟨ds, μ, m, r, st, rr, hf, k⟩
  have old : fMin μ ds = some r → wpAny (model X.prog X.w) X.A (call (.builtin "min") us) (EP X pins σ Q) X.xe s := fun h => b_min hc pins s σ H xs us Q I rx ⟨ds, μ, m, r, st, rr, h, k⟩
  unfold fMinD at hf
  split at hf
  · rename_i d
    split at hf
    · rename_i es he
      split at hf
      · rename_i x xs hs
        cases hf
        obtain ⟨v, rfl, rv⟩ := reps1 rr
        obtain ⟨a, zs, rfl, g1, g2⟩ := asL_ok st rv he
        have ez := strsOf_ok g2 hs
        subst ez
        obtain ⟨its, rl, hl, hz⟩ := I.list (.inl g1)
        rw [Vals.ref1 rx]
        exact min_texts (I.ok.hd hc) hl.isList rl fun h' tk t' hk => ⟨.str _, H, I.kept hk, ⟨_, rfl⟩, k _ H (.refl _ _) st (by unfold Rep; rfl)⟩
      · exact old hf
    · exact old hf
  · exact old hf
end
end Ev
namespace Ev
open PySem PySem.Spec L2 Res
/-! ## dicts of the store: keys are ints and texts -/
/-- a dict is read: of the store, or by value -/
def dctR (μ : Store) : D → Option (List (DK × D))
  | .ref n => match μ[n]? with
    | some (.dct kvs) => some kvs
    | _ => none
  | .dcv ks vs => some (ks.zip vs)
  | _ => none
/-! ## walks over a dict that is not changed any more -/
end Ev
namespace Ev
open PySem PySem.Spec L2 Res
/-! ## sorted of pairs of ints -/
end Ev
namespace Ev
open PySem PySem.Spec L2 Res
/-! ## gcd, comb, <<; a call with no argument -/
def fGcd (_ : Store) (ds : List D) : Option D := match ds with
  | [.int a, .int b] => some (.int ((Nat.gcd a.natAbs b.natAbs : Nat) : Int))
  | _ => none
section
variable {G : GC} {X : Cx} {W : WX} {cf : String → List D → Store → Res D}
theorem b_gcd : CallR X (.builtin "math.gcd") (rN G fGcd) := by
  intro pins s σ H xs us Q I rx ⟨ds, μ, m, r, st, rr, hf, k⟩
  unfold fGcd at hf
  split at hf
  · cases hf
    obtain ⟨v, vs, e1, r1, r2⟩ := rr.uncons
    obtain ⟨w, ws, e2, r3, r4⟩ := r2.uncons
    have := r4.isnil
    subst e1 e2 this
    unfold Rep at r1 r3
    subst r1 r3
    exact cr_gcd pins s σ H _ us Q I rx ⟨_, _, rfl, k _ H (.refl _ _) st (by unfold Rep; rfl)⟩
  · cases hf
/-- f(e, ..), f a name of the module for a built-in function -/
theorem se_bfun {f : Store → List D → Option D} {x : Str} {p pos : Pos} {e : Expr} {es : List Expr} {cs : List CE} {id : String} (hc : CallR X (.builtin id) (rN G f)) (hg : Gl X x) (hm : X.mg x = some (.builtin id)) (ha : PA X (e :: es) (tA G W cf cs)) (hdb : (x == ("__debug__" : Str)) = false := by decide)
    (he : starEach (e :: es) X.env = (false, eval e X.env) :: starEach es X.env := by rfl) (hpl : (backTo pos (starEach es X.env)).any (·.1) = false := by rfl) : PE X (.Call (.Name x p) (e :: es) [] pos) (tE G W cf (.opN f cs)) :=
  pe_of (pe_callBfun hc hg hm ha hdb he hpl) fun σ H Q ⟨ρ, μ, m, S, h⟩ => by
    unfold ev at h
    refine tA_sub S h.bind (.refl _ _) fun ds μ1 vs H1 m1 q e1 s1 rv => ?_
    obtain ⟨r, hr, q⟩ := out_lift q
    exact ⟨ds, μ1, m1, r, s1.st, rv, hr, fun w H2 e2 st2 rw' => q w H2 m1 (e1.trans e2) (s1.ext e2 st2) rw'⟩
/-! ### list(text) -/
def fListD (μ : Store) (ds : List D) : Option D := match ds with
  | [.str s] => if s.length ≤ cap then some (.lst (s.map fun c => .str [c])) else none
  | ds => fList μ ds
theorem vals_at : ∀ (s : List Nat) (vs : List Value), vs.length = s.length → (∀ (j : Nat) (v : Value), vs[j]? = some v → ∃ c u, s[j]? = some c ∧ v = .str ⟨#[c]⟩ u) → Vals (s.map fun c => V.str (toS [c])) vs
  | [], [], _, _ => .nil
  | [], _ :: _, h, _ => by simp at h
  | _ :: _, [], h, _ => by simp at h
  | c :: s, v :: vs, h, k => by
    obtain ⟨c', u, h1, h2⟩ := k 0 v rfl
    cases h1
    subst h2
    exact .cons ⟨u, rfl⟩ (vals_at s vs (by simpa using h) fun j w hw => k (j + 1) w (by simpa using hw))
theorem b_listD (hK : X.K = G.K) (hc : X.calm = true) : CallR X (.type "list") (rN G fListD) := by
  intro pins s σ H xs us Q I rx ⟨ds, μ, m, r, st, rr, hf, k⟩
  unfold fListD at hf
  split at hf
  · rename_i z
    split at hf
    · rename_i hz
      cases hf
      obtain ⟨v, rfl, rv⟩ := reps1 rr
      unfold Rep at rv
      subst rv
      obtain ⟨u, rfl, ru⟩ := rx.one
      obtain ⟨t, rfl⟩ := ru
      have hn : (toS z).cps.size ≤ sizeLine := by
        show z.toArray.size ≤ sizeLine
        rw [List.size_toArray]
        have : cap ≤ sizeLine := by decide
        omega
      refine PySem.call_list_str (I.ok.hd hc) (toS z) t (hn := hn) fun h' tk acc' c' kp e hi => ?_
      have hv : Vals (z.map fun c => V.str (toS [c])) acc'.toList := vals_at z acc'.toList (by
        have := hi.1
        rw [Array.length_toList, this]; show z.toArray.size = _; simp) fun j v hv => by
        obtain ⟨c, u, h1, h2⟩ := hi.2 j v (by simpa using hv)
        exact ⟨c, u, by
          have h1 : z.toArray[j]? = some c := h1
          simpa using h1, h2⟩
      have hl : (z.map fun c => V.str (toS [c])).length ≤ sizeLine := by
        rw [List.length_map]
        have : cap ≤ sizeLine := by decide
        omega
      have np : H s.heap.objs.size = none := I.hok.fresh (Nat.le_refl _)
      exact ⟨.ref s.heap.objs.size, _, I.laid (t' := tk) kp (Nat.le_refl _) (show ObjOk X.prog X.w _ h' _ (.lst (z.map fun c => V.str (toS [c]))) from ⟨hl, acc'.toList, c', hv, by simpa using e⟩), rfl, k _ _ (st_new st np).1 (st_new st np).2 (rep_new st np (reps_signs z))⟩
    · cases hf
  · exact b_list hK pins s σ H xs us Q I rx ⟨ds, μ, m, r, st, rr, hf, k⟩
/-! ### str(int) -/
/-! ### find, lower -/
/-! ### list.count of texts, bools -/
end
end Ev
namespace Ev
open PySem PySem.Spec L2 Res
/-! ## split by a sign -/
section
variable {G : GC} {X : Cx} {W : WX} {cf : String → List D → Store → Res D}
/-! ## list(range(..)), tuple(range(..)) -/
def rgD (a b : Int) : List D := (List.range (b - a).toNat).map fun i => .int (a + (i : Nat))
def rgB (a b : Int) : Bool := decide (0 ≤ a) && (decide (b ≤ 1000000) && (decide (a ≤ 1000000) && decide (0 ≤ b)))
def fLstRg1 (_ : Store) (d : D) : Option D := match d with
  | .int b => if rgB 0 b then some (.lst (rgD 0 b)) else none
  | _ => none
theorem rgB_ok {a b : Int} (h : rgB a b = true) : RgOk a b := by
  unfold rgB at h
  simp only [Bool.and_eq_true, decide_eq_true_eq] at h
  exact .of_le h.1 (by omega) (by omega) h.2.2.2
theorem rg_rep {m : AM} {H : Hp} (a b : Int) : Reps G m H (rgD a b) (rgV a b) := by
  have e1 : rgD a b = ((List.range (b - a).toNat).map fun i : Nat => a + (i : Nat)).map D.int := by unfold rgD; rw [List.map_map]; rfl
  have e2 : rgV a b = ((List.range (b - a).toNat).map fun i : Nat => a + (i : Nat)).map V.int := by unfold rgV; rw [List.map_map]; rfl
  rw [e1, e2]
  exact reps_ints _
variable {a b : Expr} {ca cb : CE} {p q pos p2 : Pos}
theorem se_lstRg1 (hc : X.calm = true) (hg : Gl X "list") (hm : X.mg "list" = none) (hg2 : Gl X "range") (hm2 : X.mg "range" = none) (ha : PE X a (tE G W cf ca)) (na : starEach [a] X.env = (false, eval a X.env) :: starEach [] X.env := by rfl)
    (na2 : starEach [.Call (.Name "range" p2) [a] [] q] X.env = (false, eval (.Call (.Name "range" p2) [a] [] q) X.env) :: starEach [] X.env := by rfl) :
    PE X (.Call (.Name "list" p) [.Call (.Name "range" p2) [a] [] q] [] pos) (tE G W cf (.op1 fLstRg1 ca)) :=
  pe_of (pe_listRg hc hg hm (prg_1 hg2 hm2 ha na) na2) fun σ H Q ⟨ρ, μ, m, S, h⟩ => by
    unfold ev at h
    refine tE_sub S h.bind (.refl _ _) fun d μ1 v H1 m1 k e1 s1 rv => ?_
    obtain ⟨r, hr, k⟩ := out_lift k
    unfold fLstRg1 at hr
    split at hr
    · split at hr
      · rename_i hb
        cases hr
        unfold Rep at rv
        subst rv
        exact ⟨_, rfl, rgB_ok hb, fun q np => k _ _ m1 (e1.trans (st_new s1.st np).1) (s1.ext (st_new s1.st np).1 (st_new s1.st np).2) (rep_new s1.st np (rg_rep _ _))⟩
      · cases hr
    · cases hr
/-! ## [..] * n -/
end
end Ev
namespace Ev
open PySem PySem.Spec L2 Res
/-! ## what bears no caught error stands over either reading -/
section
variable {G1 G2 : GC} {m : AM} {H : Hp}
mutual
theorem Rep.tr (hK : G1.K = G2.K) (hF : G1.FA = G2.FA) : ∀ (d : D) (v : V), (G1.XA = none ∨ noX d = true) → Rep G1 m H d v → Rep G2 m H d v
  | .non, _, _, h => by unfold Rep at h ⊢; exact h
  | .bl _, _, _, h => by unfold Rep at h ⊢; exact h
  | .int _, _, _, h => by unfold Rep at h ⊢; exact h
  | .str _, _, _, h => by unfold Rep at h ⊢; exact h
  | .tup ds, v, n, h => by
    unfold Rep at h ⊢
    obtain ⟨a, xs, e1, hs, r⟩ := h
    exact ⟨a, xs, e1, by rw [← hK]; exact hs, Reps.tr hK hF ds xs (n.imp id fun n => by unfold noX at n; exact n) r⟩
  | .lst ds, v, n, h => by
    unfold Rep at h ⊢
    obtain ⟨a, xs, e1, nm, hs, r⟩ := h
    exact ⟨a, xs, e1, nm, hs, Reps.tr hK hF ds xs (n.imp id fun n => by unfold noX at n; exact n) r⟩
  | .ref n, _, _, h => by unfold Rep at h ⊢; exact h
  | .gl _, _, _, h => by unfold Rep at h ⊢; rw [← hF]; exact h
  | .ty _, _, _, h => by unfold Rep at h ⊢; exact h
  | .dcv ks ds, v, n, h => by
    unfold Rep at h ⊢
    obtain ⟨a, xs, od, e1, nm, hs, hl, r⟩ := h
    exact ⟨a, xs, od, e1, nm, hs, hl, Reps.tr hK hF ds xs (n.imp id fun n => by unfold noX at n; exact n) r⟩
  | .exv x f d, v, n, h => by
    rcases n with n | n
    · unfold Rep at h
      obtain ⟨a, dd, C, fs, w, e1, hx, _⟩ := h
      rw [n] at hx; cases hx
    · unfold noX at n; cases n
  | .scr ns, v, _, h => by unfold Rep at h ⊢; rw [← hK]; exact h
theorem Reps.tr (hK : G1.K = G2.K) (hF : G1.FA = G2.FA) : ∀ (ds : List D) (vs : List V), (G1.XA = none ∨ noXs ds = true) → Reps G1 m H ds vs → Reps G2 m H ds vs
  | [], _, _, h => by unfold Reps at h ⊢; exact h
  | d :: ds, vs, n, h => by
    unfold Reps at h ⊢
    obtain ⟨w, ws, e1, r1, r2⟩ := h
    refine ⟨w, ws, e1, Rep.tr hK hF d w (n.imp id fun n => ?_) r1, Reps.tr hK hF ds ws (n.imp id fun n => ?_) r2⟩
    · unfold noXs at n; exact (Bool.and_eq_true_iff.mp n).1
    · unfold noXs at n; exact (Bool.and_eq_true_iff.mp n).2
end
mutual
theorem noX_of : ∀ d : D, noLst d = true → noX d = true
  | .non, _ => rfl
  | .bl _, _ => rfl
  | .int _, _ => rfl
  | .str _, _ => rfl
  | .gl _, _ => rfl
  | .ty _, _ => rfl
  | .scr _, _ => rfl
  | .ref _, _ => rfl
  | .tup ds, h => by unfold noLst at h; unfold noX; exact noXs_of ds h
  | .lst ds, h => by unfold noLst at h; cases h
  | .dcv _ _, h => by unfold noLst at h; cases h
  | .exv _ _ _, h => by unfold noLst at h; cases h
theorem noXs_of : ∀ ds : List D, noLsts ds = true → noXs ds = true
  | [], _ => rfl
  | d :: ds, h => by
    unfold noLsts at h
    obtain ⟨h1, h2⟩ := Bool.and_eq_true_iff.mp h
    unfold noXs
    rw [noX_of d h1, noXs_of ds h2]; rfl
end
theorem StOk.tr {μ : Store} (hK : G1.K = G2.K) (hF : G1.FA = G2.FA) (S : StOk G1 μ m H) : StOk G2 μ m H :=
  ⟨S.len, S.inj, S.apart, fun n o ds h hd => by
    obtain ⟨h0, a, xs, q1, q2, q3⟩ := S.obj n o ds h hd
    exact ⟨h0, a, xs, q1, q2, Reps.tr hK hF ds xs (.inr (noXs_of ds h0)) q3⟩, S.dead, S.live⟩
theorem SR.tr {ρ : Env} {μ : Store} {σ : St} (hK : G1.K = G2.K) (hF : G1.FA = G2.FA) (hX : G1.XA = none) (S : SR G1 ρ μ m σ H) : SR G2 ρ μ m σ H :=
  ⟨S.len, fun i d h => by
    obtain ⟨v, h1, h2⟩ := S.env i d h
    exact ⟨v, h1, Rep.tr hK hF d v (.inl hX) h2⟩, S.st.tr hK hF⟩
end
/-! ## raise -/
/-! ## within the handler: its class, its field -/
/-! ## what the written part says of a class of errors -/
/-- where a name of the module stands -/
def glob (K : PySem.W.Frag) (x : String) : Option Addr := match PySem.W.nsIn K mainGlobals (Str.ofString x) with
  | some (some (.ref a)) => some a
  | _ => none
theorem glob_of {K : PySem.W.Frag} {x : String} {xs : Str} {C : Addr} (a : PySem.W.nsIn K mainGlobals xs = some (some (.ref C))) (h : Str.ofString x = xs) : glob K x = some C := by
  unfold glob
  rw [h, a]
end Ev
namespace Ev
open PySem PySem.Spec L2 Res
section
variable {G : GC} {X : Cx} {μ : Store} {m : AM} {H : Hp}
/-! ## tuple(text) -/
def fTupleD (μ : Store) (ds : List D) : Option D := match ds with
  | [.str s] => if s.length ≤ cap then some (.tup (s.map fun c => .str [c])) else none
  | ds => fTuple μ ds
theorem b_tupleD (hK : X.K = G.K) (hc : X.calm = true) : CallR X (.type "tuple") (rN G fTupleD) := by
  intro pins s σ H xs us Q I rx ⟨ds, μ, m, r, st, rr, hf, k⟩
  unfold fTupleD at hf
  split at hf
  · rename_i z
    split at hf
    · rename_i hz
      cases hf
      obtain ⟨v, rfl, rv⟩ := reps1 rr
      unfold Rep at rv
      subst rv
      obtain ⟨u, rfl, ru⟩ := rx.one
      obtain ⟨t, rfl⟩ := ru
      have hn : (toS z).cps.size ≤ sizeLine := by
        show z.toArray.size ≤ sizeLine
        rw [List.size_toArray]
        have : cap ≤ sizeLine := by decide
        omega
      refine PySem.call_tuple_str (I.ok.hd hc) (toS z) t (hsz := hn) fun h' tk acc kp hi => ?_
      have hv : Vals (z.map fun c => V.str (toS [c])) acc.toList := vals_at z acc.toList (by
        have := hi.1
        rw [Array.length_toList, this]; show z.toArray.size = _; simp) fun j v hv => by
        obtain ⟨c, u, h1, h2⟩ := hi.2 j v (by simpa using hv)
        exact ⟨c, u, by
          have h1 : z.toArray[j]? = some c := h1
          simpa using h1, h2⟩
      have hl : (z.map fun c => V.str (toS [c])).length ≤ sizeLine := by
        rw [List.length_map]
        have : cap ≤ sizeLine := by decide
        omega
      have I1 : Inv X pins σ H { s with heap := h', toks := tk } := I.kept kp
      have np : H h'.objs.size = none := I1.hok.fresh (Nat.le_refl _)
      have I2 : Inv X pins σ (upd H h'.objs.size (.tup (z.map fun c => V.str (toS [c])))) { s with heap := h'.push { cls := .type "tuple", data := .seq acc }, toks := tk } :=
        I1.laid (t' := tk) (fun b o e => Heap.get?_push_of_some _ e) (Nat.le_refl _) (show ObjOk X.prog X.w _ _ _ (.tup _) from ⟨hl, acc.toList, hv, ⟨_, Heap.get?_push_size _ rfl, rfl, 0, by simp⟩⟩)
      exact ⟨.ref h'.objs.size, _, I2, rfl, k _ _ (st_new st np).1 (st_new st np).2 (rep_newT st np (reps_signs z))⟩
    · cases hf
  · exact b_tuple hK pins s σ H xs us Q I rx ⟨ds, μ, m, r, st, rr, hf, k⟩
/-! ## tuple * int -/
/-! ## isinstance, dicts too -/
def tyD (μ : Store) (d : D) : Option String := if (dctR μ d).isSome then some "dict" else tyN (rd μ d)
def isiD (a b : String) : Option Bool := if ["NoneType", "bool", "int", "str", "tuple", "list", "dict"].contains a && ["bool", "int", "str", "tuple", "list", "dict"].contains b then some (a == b || (a == "bool" && b == "int")) else none
def fIsiD (μ : Store) : List D → Option D
  | [d, .ty n] => match tyD μ d with
    | some a => (isiD a n).map .bl
    | none => none
  | _ => none
/-! ## one dict and itself -/
def flatDs (kvs : List (DK × D)) : Bool := kvs.all fun kv => match kv.2 with
  | .int _ => true
  | _ => false
end
end Ev
namespace Ev
open PySem PySem.Spec PyProof.Rows
/-! ## tuple[::-1] -/
open L2 Res
end Ev
namespace Ev
open PySem PySem.Spec L2 Res
/-! ## what the top has written -/
theorem bt_len : bootBuiltins "len" = some (.builtin "len") := by decide +kernel
theorem bt_abs : bootBuiltins "abs" = some (.builtin "abs") := by decide +kernel
theorem bt_max : bootBuiltins "max" = some (.builtin "max") := by decide +kernel
theorem bt_min : bootBuiltins "min" = some (.builtin "min") := by decide +kernel
theorem bt_any : bootBuiltins "any" = some (.builtin "any") := by decide +kernel
theorem bt_all : bootBuiltins "all" = some (.builtin "all") := by decide +kernel
theorem bt_divmod : bootBuiltins "divmod" = some (.builtin "divmod") := by decide +kernel
theorem bt_isinstance : bootBuiltins "isinstance" = some (.builtin "isinstance") := by decide +kernel
theorem bt_int : bootBuiltins "int" = some (.type "int") := by decide +kernel
theorem bt_bool : bootBuiltins "bool" = some (.type "bool") := by decide +kernel
theorem bt_str : bootBuiltins "str" = some (.type "str") := by decide +kernel
theorem bt_list : bootBuiltins "list" = some (.type "list") := by decide +kernel
theorem bt_tuple : bootBuiltins "tuple" = some (.type "tuple") := by decide +kernel
section
variable {P : Program} {w : World} {K : PySem.W.Frag} {mg : Str → Option Value} {base : Heap}
/-- a def of the module -/
structure Df (K : PySem.W.Frag) (mg : Str → Option Value) (x : Str) (st : Stmt) (ps : List Str) (f : Addr) (fd : FuncData) : Prop where
  F : Fun K x x st f fd
  g : mg x = some (.ref f)
  k : PySem.W.keepIn K (.ref f) = true
  b : Binds K fd ps []
  e : ∃ (kV doc pm : Value) (an : Option Addr) (cdv ct : Value), fd = PySem.W.fnOf x x (defArgs st) (defBody st) (defScope st) .none kV doc pm an cdv ct
theorem df_mk {h : Heap} {x : Str} {st : Stmt} {ps : List Str} {f : Addr} {oc : Value} {od an : Option Addr} {osl : Array (Option Value)} {kV doc pm cdv ct : Value} (X : K.In h) (G : h.Ns mainGlobals mg)
    (a : PySem.W.nsIn K mainGlobals x = some (some (.ref f))) (l : K.lookup f = some ⟨oc, od, .func (PySem.W.fnOf x x (defArgs st) (defBody st) (defScope st) .none kV doc pm an cdv ct), osl⟩)
    (c : PySem.W.codeIn K cdv x = true) (k : PySem.W.keepIn K (.ref f) = true)
    (hb : ∀ (kV doc pm : Value) (an : Option Addr) (cdv ct : Value) (us : List Value), us.length = ps.length → bindArgs (PySem.W.fnOf x x (defArgs st) (defBody st) (defScope st) .none kV doc pm an cdv ct) ⟨us, []⟩ = pure (ps.zip us)) :
    Df K mg x st ps f (PySem.W.fnOf x x (defArgs st) (defBody st) (defScope st) .none kV doc pm an cdv ct) :=
  ⟨fun_mk l c k, PySem.W.mg_of X G a, k, (fun_mk (st := st) l c k).binds hb, _, _, _, _, _, _, rfl⟩
/-- a call with keywords: how its arguments come to stand -/
theorem Df.kw {x : Str} {st : Stmt} {ps : List Str} {f : Addr} {fd : FuncData} (D : Df K mg x st ps f fd) {n : Nat} {ks : List Str} {pl : List Nat} {m : Nat}
    (h : ∀ (kV doc pm : Value) (an : Option Addr) (cdv ct : Value) (us ws : List Value), us.length = n → ws.length = m → bindArgs (PySem.W.fnOf x x (defArgs st) (defBody st) (defScope st) .none kV doc pm an cdv ct) ⟨us, ks.zip ws⟩ = pure (ps.zip (permL pl (us ++ ws)))) :
    ∀ (s : Shared) (us ws : List Value), us.length = n → ws.length = m → BindsTo s fd ⟨us, ks.zip ws⟩ (ps.zip (permL pl (us ++ ws))) := fun s us ws h1 h2 => by
  obtain ⟨kV, doc, pm, an, cdv, ct, rfl⟩ := D.e
  exact .of_eq (h kV doc pm an cdv ct us ws h1 h2)
theorem Df.kw0 {x : Str} {st : Stmt} {ps : List Str} {f : Addr} {fd : FuncData} (D : Df K mg x st ps f fd) {ks : List Str} {pl : List Nat} {m : Nat}
    (h : ∀ (kV doc pm : Value) (an : Option Addr) (cdv ct : Value) (ws : List Value), ws.length = m → bindArgs (PySem.W.fnOf x x (defArgs st) (defBody st) (defScope st) .none kV doc pm an cdv ct) ⟨[], ks.zip ws⟩ = pure (ps.zip (permL pl ws))) :
    ∀ (s : Shared) (ws : List Value), ws.length = m → BindsTo s fd ⟨[], ks.zip ws⟩ (ps.zip (permL pl ws)) := fun s ws h2 => by
  obtain ⟨kV, doc, pm, an, cdv, ct, rfl⟩ := D.e
  exact .of_eq (h kV doc pm an cdv ct ws h2)
/-! ## the law's own head -/
def spLaw (K : PySem.W.Frag) : Sp := fun vs H Q _ => ∃ (a : Addr) (ns : List Int), vs = [.ref a] ∧ SqL K H a (ns.map V.int) ∧ ns.length ≤ 63 ∧ ∀ H', Q (.bl true) H'
theorem law_fn {G : GC} {k : Nat} {fa : Addr} {fd : FuncData} {x : Str} {call : List D → Store → Res D} (F : FnOk P w K mg base (L2.CX P w) k fa fd [x] (spF G 1 call)) (hG : G.K = K) (h : ∀ ns : List Int, ns.length ≤ 63 → ∃ μ, call [.scr ns] [] = .ok (.bl true) μ) :
    FnOk P w K mg base (L2.CX P w) k fa fd [x] (spLaw K) :=
  F.imp fun vs H Q E ⟨a, ns, e, hS, hl, q⟩ => by
    subst e
    obtain ⟨μ, hc⟩ := h ns hl
    refine ⟨rfl, [.scr ns], [], ⟨[], []⟩, ⟨rfl, fun i j a h => by simp at h, fun a h => by simp at h, fun n o ds h hd => by simp at h, fun n h => by simp at h, fun a h => by rcases h with h | h <;> simp at h⟩, .cons ?_ .nil, ?_⟩
    · unfold Rep
      refine ⟨a, rfl, ?_⟩
      rcases hS with hS | hS
      · exact .inl ⟨fun h => by rcases h with h | h <;> simp at h, hS⟩
      · exact .inr fun H' => .inr (by rw [hG]; exact hS)
    · rw [hc]
      intro v H' m' e' st' r
      unfold Rep at r
      rw [r]
      exact q H'
theorem walk_law {l : PySem.W.OpenLaw} {k : Nat} {q : Program} {loose : List Str} {XP : (Str → Option Value) → Heap → Prop} {YP : World → Heap → Prop} {d : DefRec} {K : Params → PySem.W.Frag} {x : Str} (hn : l.most = some 63) (hdf : d.params.defaults = []) (hr : Room k callerA)
    (hY : ∀ (w : World) (h : Heap), YP w h → (K w.params).In h)
    (F : ∀ (w : World) (mg : Str → Option Value) (fa : Addr) (h : Heap), (K w.params).In h → h.Ns mainGlobals mg → mg d.name = some (.ref fa) →
      ∃ fd : FuncData, (∀ (s : Shared) (u : Value), BindsTo s fd ⟨[u], []⟩ [(x, u)]) ∧ ∀ base : Heap, (K w.params).In base → base.Ns mainGlobals mg → FnOk l.prog w (K w.params) mg base (L2.CX l.prog w) k fa fd [x] (spLaw (K w.params))) :
    PySem.W.WalkO q loose XP YP l.row.toRowW d [] (fun f vs => PySem.call f vs) :=
  L2.walk_of (n := 63) (k := k) (x := x) (CX := fun w => L2.CX l.prog w) (sp := fun w => spLaw (K w.params)) hn (by decide) hdf hr hY F (fun _ _ a ns hl _ hS => ⟨a, ns, rfl, hS, hl, fun _ => rfl⟩) fun _ _ _ _ _ ⟨_, _, _, _, _, _, _, _, _, _, _, _, z⟩ => z
/-- the def's own binding of its one argument -/
theorem Df.one {x p : Str} {st : Stmt} {f : Addr} {fd : FuncData} (D : Df K mg x st [p] f fd)
    (h : ∀ (kV doc pm : Value) (an : Option Addr) (cdv ct u : Value), bindArgs (PySem.W.fnOf x x (defArgs st) (defBody st) (defScope st) .none kV doc pm an cdv ct) ⟨[u], []⟩ = pure [(p, u)]) : ∀ (s : Shared) (u : Value), BindsTo s fd ⟨[u], []⟩ [(p, u)] := fun s u => by
  obtain ⟨kV, doc, pm, an, cdv, ct, rfl⟩ := D.e
  exact .of_eq (h kV doc pm an cdv ct u)
end
/-! ## comparisons give bools -/
theorem bl_fEq : ∀ μ x y r, fEq μ x y = some r → ∃ t, r = .bl t := fun μ x y r h => by unfold fEq at h; split at h <;> first | (cases h; exact ⟨_, rfl⟩) | cases h
theorem bl_fNe : ∀ μ x y r, fNe μ x y = some r → ∃ t, r = .bl t := fun μ x y r h => by unfold fNe at h; split at h <;> first | (cases h; exact ⟨_, rfl⟩) | cases h
theorem bl_fLt : ∀ μ x y r, fLt μ x y = some r → ∃ t, r = .bl t := fun μ x y r h => by unfold fLt at h; split at h <;> first | (cases h; exact ⟨_, rfl⟩) | cases h
theorem bl_fGt : ∀ μ x y r, fGt μ x y = some r → ∃ t, r = .bl t := fun μ x y r h => by unfold fGt at h; split at h <;> first | (cases h; exact ⟨_, rfl⟩) | cases h
theorem bl_fGe : ∀ μ x y r, fGe μ x y = some r → ∃ t, r = .bl t := fun μ x y r h => by unfold fGe at h; split at h <;> first | (cases h; exact ⟨_, rfl⟩) | cases h
theorem bl_fIs : ∀ μ x y r, fIs μ x y = some r → ∃ t, r = .bl t := fun μ x y r h => by unfold fIs at h; split at h <;> first | (cases h; exact ⟨_, rfl⟩) | cases h
theorem bl_notB {o : Option D} {r : D} (h : notB o = some r) : ∃ t, r = .bl t := by unfold notB at h; split at h <;> first | (cases h; exact ⟨_, rfl⟩) | cases h
theorem bl_fNotIn : ∀ μ x y r, fNotIn μ x y = some r → ∃ t, r = .bl t := fun μ x y r h => bl_notB h
end Ev
/-! ## text.replace(a[b], ''): the new text's token is a fresh one -/
namespace Ev
open PySem PySem.Spec L2 Res PyProof.Rows
/-- behind the run a token is out -/
def PEt (X : Cx) (e : Expr) (t : TE) : Prop := ∀ (pins : List (Addr × Obj)) (s : Shared) (σ : L2.St) (H : Hp) (Q : VK), Inv X pins σ H s → t σ H Q →
  wpAny (model X.prog X.w) X.A (eval e X.env) (fun u s' => 1 ≤ s'.toks ∧ EP X pins σ Q u s') X.xe s
section
variable {G : GC} {W : WX} {cf : String → List D → Store → Res D} {X : Cx} {a b e o : Expr} {ca cb ce co : CE} {ta tb te to : TE} {pos apos : Pos}
theorem PEt.int {i : Int} {j : Nat} {p : Pos} : PEt X (.Constant (.int i) j p) (tE G W cf (.lit (.int i))) := by
  intro pins s σ H Q I h
  refine wpAny_mono (wpAny_toks_of (n := 0) (Nat.zero_le _) (wpAny_mono (wpAny_Constant_int (Q := fun u s' => 1 ≤ s'.toks ∧ u = .int i s.toks ∧ s' = { s with toks := s.toks + 1 }) ⟨by show 1 ≤ s.toks + 1; omega, rfl, rfl⟩) (fun u s' ⟨h1, h2, h3⟩ => ?_) fun _ _ z => z)) (fun u s' z => z.2) fun _ _ z => z.2
  refine ⟨h1, ?_⟩
  obtain ⟨ρ, μ, m, S, h⟩ := h
  unfold ev at h
  subst h2 h3
  exact ⟨.int i, H, I.tok _, ⟨_, rfl⟩, h _ H m (.refl _ _) S (by unfold Rep; rfl)⟩
/-! ### def f(letter): return L.replace(letter, '') -/
end
end Ev
/-! ## xs.index(x), flat items -/
namespace Ev
open PySem PySem.Spec L2 Res
end Ev
/-! ## len(set(xs)), xs a list of many texts -/
namespace Ev
open PySem PySem.Spec L2 Res PyProof.Rows
section
variable {T : Type} [DecidableEq T]
def once1 (z : List T) (x : T) : List T := if x ∈ z then z else z ++ [x]
/-- the ones met, each once -/
def once (l : List T) : List T := l.foldl once1 []
end
/-! ### the run of set(xs) -/
/-- a set that has nothing yet -/
abbrev bare (led : Bool) : Obj := { cls := .type "set", dict := none, data := .set #[] 0 (.fresh 0 0 led) }
/-- at a stands a set of just these texts -/
def TxSet (pr : Program) (w : World) (h : Heap) (a : Addr) (l : List Str) : Prop := h.SetOf (strKind pr w) a (fun z => decide (z ∈ l)) (once l).length
theorem TxSet.at {pr : Program} {w : World} {h h' : Heap} {a : Addr} {l : List Str} (x : TxSet pr w h a l) (k : ∀ o, h.get? a = some o → h'.get? a = some o) : TxSet pr w h' a l := by
  obtain ⟨o, es, ep, t, ho, r⟩ := x
  exact ⟨o, es, ep, t, k o ho, r⟩
theorem TxSet.nil {pr : Program} {w : World} {h : Heap} {a : Addr} {led : Bool} (ho : h.get? a = some (bare led)) : TxSet pr w h a [] :=
  SetOf_congr ((setObjOf_fresh (knd := strKind pr w) led).setOf ho (by unfold scanBound; omega)) (fun _ => by simp) rfl
/-! ### how many texts, each once -/
end Ev
/-! ## xs[::2], xs[1::2] -/
namespace Ev
open PySem PySem.Spec PyProof.Rows
open L2 Res
end Ev
/-! a call of a local name that holds a def of the module: by the name of what it holds -/
namespace Ev
open PySem PySem.Spec L2 Res
def fGlIs (x : String) (_ : Store) : D → Option D
  | .gl y => some (.bl (y == x))
  | _ => none
def fNo (_ : Store) (_ : D) : Option D := none
section
variable {cf : String → List D → Store → Res D}
theorem evl_var (i : Nat) (ρ : Env) (μ : Store) : ev cf (.var i) ρ μ = match ρ[i]? with
    | some (some d) => .ok d μ
    | _ => .stuck := by unfold ev; rfl
theorem evl_op1 (f : Store → D → Option D) (a : CE) (ρ : Env) (μ : Store) : ev cf (.op1 f a) ρ μ = (ev cf a ρ μ).bind fun x μ1 => lift (f μ1 x) μ1 := by conv => lhs; unfold ev
theorem evl_ite (c a b : CE) (ρ : Env) (μ : Store) : ev cf (.ite c a b) ρ μ = (ev cf c ρ μ).bind fun x μ1 => (lift (truth μ1 x) μ1).bind fun t μ2 => if t then ev cf a ρ μ2 else ev cf b ρ μ2 := by conv => lhs; unfold ev
theorem ev_gl {y : String} {i : Nat} {a b : CE} {ρ : Env} {μ : Store} : ev cf (.ite (.op1 (fGlIs y) (.var i)) a b) ρ μ = match ρ[i]? with
    | some (some (.gl z)) => if (z == y) = true then ev cf a ρ μ else ev cf b ρ μ
    | _ => .stuck := by
  rw [evl_ite, evl_op1, evl_var]
  cases ρ[i]? with
  | none => rfl
  | some o =>
    cases o with
    | none => rfl
    | some d => cases d <;> rfl
end
section
variable {G : GC} {W : WX} {cf : String → List D → Store → Res D} {X : Cx}
variable {k i : Nat} {f : Addr} {fd : FuncData} {ps ks : List Str} {nm : Str} {y : String} {p pos : Pos} {e : Expr} {es : List Expr} {kws : List Keyword} {cas cks : List CE} {ce rest : CE}
theorem se_no : PE X e (tE G W cf (.op1 fNo (.var i))) := ⟨fun pins s σ H Q I ⟨ρ, μ, m, S, h⟩ => by
  unfold ev at h
  unfold ev at h
  cases hq : ρ[i]? with
  | none => rw [hq] at h; exact h.elim
  | some o =>
    cases o with
    | none => rw [hq] at h; exact h.elim
    | some d => rw [hq] at h; exact h.elim⟩
/-- what the held def is -/
theorem loc_ok {ρ : Env} {μ : Store} {m : AM} {σ : St} {H : Hp} {a b : CE} {kk : D → Store → Prop} {ee : String → D → Store → Prop} (hF : G.FA y = some f) (S : SR G ρ μ m σ H) (h : Out (ev cf (.ite (.op1 (fGlIs y) (.var i)) a b) ρ μ) kk ee) :
    (σ[i]? = some (some (.ref f)) ∧ Out (ev cf a ρ μ) kk ee) ∨ Out (ev cf b ρ μ) kk ee := by
  rw [ev_gl] at h
  cases hq : ρ[i]? with
  | none => rw [hq] at h; exact h.elim
  | some o =>
    cases o with
    | none => rw [hq] at h; exact h.elim
    | some d =>
      rw [hq] at h
      cases d with
      | gl z =>
        dsimp only at h
        by_cases hz : (z == y) = true
        · rw [if_pos hz] at h
          obtain ⟨v, h1, h2⟩ := S.env i _ hq
          unfold Rep at h2
          obtain ⟨c, rfl, hc⟩ := h2
          rw [beq_iff_eq.mp hz, hF] at hc
          cases hc
          exact .inl ⟨h1, h⟩
        · rw [if_neg hz] at h
          exact .inr h
      | _ => exact h.elim
theorem ld_loc {pins : List (Addr × Obj)} {s : Shared} {σ : St} {H : Hp} {R : Value → Shared → Prop} (I : Inv X pins σ H s) (hN : X.N[i]? = some nm) (hv : Vis X.env.scope nm) (hs : σ[i]? = some (some (.ref f))) (h : ∀ s1, Inv X pins σ H s1 → R (.ref f) s1)
    (hdb : (nm == ("__debug__" : Str)) = false := by decide) (hcd : (nm == ("__classdict__" : Str)) = false := by decide) : wpAny (model X.prog X.w) X.A (eval (.Name nm p) X.env) R X.xe s :=
  thn ((pe_var (pos := p) hN hv hdb hcd).run pins s σ H (fun v H1 => v = .ref f ∧ H1 = H) I ⟨.ref f, hs, rfl, rfl⟩) fun u s1 ⟨v, H1, I1, r1, q1⟩ => by
    obtain ⟨rfl, rfl⟩ := q1
    cases r1
    exact h s1 I1
theorem se_loc (hF : G.FA y = some f) (F : FnOk X.prog X.w X.K X.mg X.base (L2.CX X.prog X.w) k f fd ps (spF G ps.length (cf y))) (hr : Room k X.A) (hN : X.N[i]? = some nm) (hk : PySem.W.keepIn X.K (.ref f) = true) (hb : Binds X.K fd ps []) (tk : Takes X W)
    (ha : PA X (e :: es) (tA G W cf cas)) (hlen : cas.length = ps.length) (hrest : PE X (.Call (.Name nm p) (e :: es) [] pos) (tE G W cf rest)) (hv : Vis X.env.scope nm := by first | exact Or.inl rfl | exact Or.inr (Or.inl rfl) | exact Or.inr (Or.inr rfl)) (hdb : (nm == ("__debug__" : Str)) = false := by decide) (hcd : (nm == ("__classdict__" : Str)) = false := by decide)
    (he : starEach (e :: es) X.env = (false, eval e X.env) :: starEach es X.env := by rfl) (hpl : (backTo pos (starEach es X.env)).any (·.1) = false := by rfl) :
    PE X (.Call (.Name nm p) (e :: es) [] pos) (tE G W cf (.ite (.op1 (fGlIs y) (.var i)) (.call y id cas) rest)) :=
  ⟨fun pins s σ H Q I ⟨ρ, μ, m, S, h⟩ => by
    rcases loc_ok hF S h with ⟨hs, h⟩ | h
    · refine wpAny_Call_Name_kw (ld_loc I hN hv hs (fun s1 I1 => ?_) hdb hcd)
      unfold ev at h
      have ht : tA G W cf cas σ H fun vs H1 => spF G ps.length (cf y) vs H1 Q (WE W σ) := by
        refine tA_sub S (evs_len h.bind) (.refl _ _) fun ds μ1 vs H1 m1 q e1 s1 rv => ?_
        obtain ⟨q0, q⟩ := q
        refine ⟨by rw [← rv.length, q0, hlen], ds, μ1, m1, s1.st, rv, Out.mono q (fun d μ2 z v H2 m2 e2 st2 r2 => z v H2 m2 (e1.trans e2) (s1.ext e2 st2) r2) fun x d μ2 z => ?_⟩
        exact fun cls dd H' m' e' st' ea => z cls dd H' m' (e1.trans e') st' ea
      refine PySem.W.callWith_K (h₀ := X.base) I1.ok.mod.kin hk (thn (ha.run pos pins s1 σ H _ I1 ht) fun us s2 ⟨vs, H2, I2, r, q⟩ => ⟨I2.kIn, ?_⟩) he hpl
      exact run_fnS F hr hb (passAt tk σ) I2 r q
    · exact hrest.run pins s σ H Q I ⟨ρ, μ, m, S, h⟩⟩
end
/-! ### a dict of the module with text keys -/
/-- whether a text is a key: yes the keys, no some texts that are none -/
def fTabIn (yes no : List (List Nat)) (_ : Store) : D → Option D
  | .str s => if yes.contains s then some (.bl true) else if no.contains s then some (.bl false) else none
  | _ => none
def fTabNin (yes no : List (List Nat)) (_ : Store) : D → Option D
  | .str s => if yes.contains s then some (.bl false) else if no.contains s then some (.bl true) else none
  | _ => none
def fTabIx (rows : List (List Nat × D)) (_ : Store) : D → Option D
  | .str s => rows.lookup s
  | _ => none
structure TabW (G : GC) (K : PySem.W.Frag) (w : World) (mg : Str → Option Value) (x : Str) (yes no : List (List Nat)) (rows : List (List Nat × D)) : Prop where
  ex : ∃ (d : Addr) (es : Array DictEntry) (n : Nat), mg x = some (.ref d) ∧ KDict K w d es n ∧ (∀ s ∈ yes, ∃ u, PySem.W.nsIn K d (toS s) = some (some u)) ∧ (∀ s ∈ no, PySem.W.nsIn K d (toS s) = some none) ∧
    ∀ s z, rows.lookup s = some z → ∃ u v, PySem.W.nsIn K d (toS s) = some (some u) ∧ RelV v u ∧ ∀ (m : AM) (H : Hp), Rep G m H z v
section
variable {G : GC} {W : WX} {cf : String → List D → Store → Res D} {X : Cx} {x : Str} {yes no : List (List Nat)} {rows : List (List Nat × D)} {a : Expr} {ca : CE} {p pos : Pos}
/-- the table, then the rule -/
theorem pe_tab (hg : Gl X x) (T : TabW G X.K X.w X.mg x yes no rows) (hd : (x == ("__debug__" : Str)) = false := by decide) : ∃ d es n, KDict X.K X.w d es n ∧ PE X (.Name x p) (fun σ H Q => Q (.ref d) H) ∧ (∀ s ∈ yes, ∃ u, PySem.W.nsIn X.K d (toS s) = some (some u)) ∧ (∀ s ∈ no, PySem.W.nsIn X.K d (toS s) = some none) ∧
    ∀ s z, rows.lookup s = some z → ∃ u v, PySem.W.nsIn X.K d (toS s) = some (some u) ∧ RelV v u ∧ ∀ (m : AM) (H : Hp), Rep G m H z v := by
  obtain ⟨d, es, n, hm, D, h1, h2, h3⟩ := T.ex
  refine ⟨d, es, n, D, pe_of (pe_glob (v := .ref d) hg hm rfl hd) fun σ H Q h => ?_, h1, h2, h3⟩
  exact h
theorem tE_1 {f : Store → D → Option D} {Q : VK} {ρ : Env} {μ : Store} {m : AM} {σ : St} {H : Hp} {R : V → Hp → Prop} (S : SR G ρ μ m σ H) (h : Out (ev cf (.op1 f ca) ρ μ) (fun d μ' => ∀ v H' m', Ext m H m' H' → SR G ρ μ' m' σ H' → Rep G m' H' d v → Q v H') (ExK G W m H σ))
    (k : ∀ d μ1 v H1 m1 r, f μ1 d = some r → Ext m H m1 H1 → SR G ρ μ1 m1 σ H1 → Rep G m1 H1 d v → (∀ w, Rep G m1 H1 r w → Q w H1) → R v H1) : tE G W cf ca σ H R := by
  unfold ev at h
  refine tE_sub S h.bind (.refl _ _) fun d μ1 v H1 m1 q e1 s1 rv => ?_
  obtain ⟨r, hr, q⟩ := out_lift q
  exact k d μ1 v H1 m1 r hr e1 s1 rv fun w rw' => q w H1 m1 e1 s1 rw'
theorem st_no {e : Expr} {i : Nat} : PT X e (tT G W cf (.op1 fNo (.var i))) := ⟨fun pins s σ H Q I ⟨ρ, μ, m, S, h⟩ => by
  unfold evT at h
  rw [evl_op1, evl_var] at h
  cases hq : ρ[i]? with
  | none => rw [hq] at h; exact h.elim
  | some o =>
    cases o with
    | none => rw [hq] at h; exact h.elim
    | some d => rw [hq] at h; exact h.elim⟩
theorem tT_1 {f : Store → D → Option D} {Q : Bool → Hp → Prop} {ρ : Env} {μ : Store} {m : AM} {σ : St} {H : Hp} {R : V → Hp → Prop} (hb : ∀ μ d r, f μ d = some r → ∃ t, r = .bl t) (S : SR G ρ μ m σ H) (h : Out (evT cf (.op1 f ca) ρ μ) (fun t μ' => ∀ H' m', Ext m H m' H' → SR G ρ μ' m' σ H' → Q t H') (ExK G W m H σ))
    (k : ∀ d μ1 v H1 m1 t, f μ1 d = some (.bl t) → Ext m H m1 H1 → SR G ρ μ1 m1 σ H1 → Rep G m1 H1 d v → Q t H1 → R v H1) : tE G W cf ca σ H R := by
  unfold evT at h
  rw [evl_op1, Res.bind_assoc] at h
  refine tE_sub S h.bind (.refl _ _) fun d μ1 v H1 m1 q e1 s1 rv => ?_
  obtain ⟨r, hr, q⟩ := out_lift q.bind
  obtain ⟨t, rfl⟩ := hb _ _ _ hr
  obtain ⟨t', ht, q⟩ := out_lift q
  simp [truth] at ht
  subst ht
  exact k d μ1 v H1 m1 t hr e1 s1 rv (q H1 m1 e1 s1)
theorem bl_tabin : ∀ μ d r, fTabIn yes no μ d = some r → ∃ t, r = .bl t := fun μ d r h => by
  unfold fTabIn at h
  split at h
  · split at h
    · cases h; exact ⟨_, rfl⟩
    · split at h
      · cases h; exact ⟨_, rfl⟩
      · cases h
  · cases h
theorem bl_tabnin : ∀ μ d r, fTabNin yes no μ d = some r → ∃ t, r = .bl t := fun μ d r h => by
  unfold fTabNin at h
  split at h
  · split at h
    · cases h; exact ⟨_, rfl⟩
    · split at h
      · cases h; exact ⟨_, rfl⟩
      · cases h
  · cases h
theorem st_tabin (hg : Gl X x) (T : TabW G X.K X.w X.mg x yes no rows) (ha : PE X a (tE G W cf ca)) (hd : (x == ("__debug__" : Str)) = false := by decide) (h1 : behindInMarks .In (.Name x p) = false := by rfl) : PT X (.Compare a [.In] [.Name x p] pos) (tT G W cf (.op1 (fTabIn yes no) ca)) := by
  obtain ⟨d, es, n, D, hb, hy, hn, _⟩ := pe_tab (p := p) hg T hd
  refine pt_of (pt_cmpR (op_in_kd D) ha hb h1) fun σ H Q ⟨ρ, μ, m, S, h⟩ => tT_1 bl_tabin S h fun e μ1 v H1 m1 t hf e1 s1 rv q => ?_
  unfold fTabIn at hf
  split at hf
  · rename_i s
    unfold Rep at rv
    by_cases c1 : yes.contains s = true
    · rw [if_pos c1] at hf
      cases hf
      obtain ⟨u, hu⟩ := hy s (List.contains_iff_mem.mp c1)
      exact ⟨toS s, some u, rv, rfl, hu, _, rfl, q⟩
    · rw [if_neg c1] at hf
      by_cases c2 : no.contains s = true
      · rw [if_pos c2] at hf
        cases hf
        exact ⟨toS s, none, rv, rfl, hn s (List.contains_iff_mem.mp c2), _, rfl, q⟩
      · rw [if_neg c2] at hf; cases hf
  · cases hf
theorem st_tabnin (hg : Gl X x) (T : TabW G X.K X.w X.mg x yes no rows) (ha : PE X a (tE G W cf ca)) (hd : (x == ("__debug__" : Str)) = false := by decide) (h1 : behindInMarks .NotIn (.Name x p) = false := by rfl) : PT X (.Compare a [.NotIn] [.Name x p] pos) (tT G W cf (.op1 (fTabNin yes no) ca)) := by
  obtain ⟨d, es, n, D, hb, hy, hn, _⟩ := pe_tab (p := p) hg T hd
  refine pt_of (pt_cmpR (op_notIn_kd D) ha hb h1) fun σ H Q ⟨ρ, μ, m, S, h⟩ => tT_1 bl_tabnin S h fun e μ1 v H1 m1 t hf e1 s1 rv q => ?_
  unfold fTabNin at hf
  split at hf
  · rename_i s
    unfold Rep at rv
    by_cases c1 : yes.contains s = true
    · rw [if_pos c1] at hf
      cases hf
      obtain ⟨u, hu⟩ := hy s (List.contains_iff_mem.mp c1)
      exact ⟨toS s, some u, rv, rfl, hu, _, rfl, q⟩
    · rw [if_neg c1] at hf
      by_cases c2 : no.contains s = true
      · rw [if_pos c2] at hf
        cases hf
        exact ⟨toS s, none, rv, rfl, hn s (List.contains_iff_mem.mp c2), _, rfl, q⟩
      · rw [if_neg c2] at hf; cases hf
  · cases hf
/-- the table's value at x -/
theorem se_tabix (hg : Gl X x) (T : TabW G X.K X.w X.mg x yes no rows) (ha : PE X a (tE G W cf ca)) (hs : PlainIx a) (hd : (x == ("__debug__" : Str)) = false := by decide) : PE X (.Subscript (.Name x p) a pos) (tE G W cf (.op1 (fTabIx rows) ca)) := by
  obtain ⟨d, es, n, D, hb, _, _, hr⟩ := pe_tab (p := p) hg T hd
  refine pe_of (pe_ix ix_kdict hb ha hs) fun σ H Q ⟨ρ, μ, m, S, h⟩ => ?_
  show tE G W cf ca σ H _
  refine tE_1 S h fun e μ1 v H1 m1 r hf e1 s1 rv q => ?_
  unfold fTabIx at hf
  split at hf
  · rename_i s
    unfold Rep at rv
    obtain ⟨u, z, hu, rz, rep⟩ := hr s r hf
    exact ⟨d, toS s, z, rfl, rv, ⟨es, n, u, D.at_, D.lit, hu, rz⟩, q z (rep m1 H1)⟩
  · cases hf
end
/-! ### what the end shows of a table -/
theorem glob_df {K : PySem.W.Frag} {mg : Str → Option Value} {h : Heap} {x : String} {xs : Str} {f : Addr} {u : Value} (X : K.In h) (G : h.Ns mainGlobals mg) (hm : mg xs = some (.ref f)) (e : PySem.W.nsIn K mainGlobals xs = some (some u)) (hx : Str.ofString x = xs) : glob K x = some f := by
  have := (PySem.W.mg_of X G e).symm.trans hm
  cases this
  exact glob_of e hx
/-- the part of the heap that X speaks of -/
abbrev KOf {K : PySem.W.Frag} {h : Heap} (_ : K.In h) : PySem.W.Frag := K
/-- a row that holds a def -/
theorem row_gl {G : GC} {x : String} {a : Addr} (h : G.FA x = some a) : ∃ v, RelV v (.ref a) ∧ ∀ (m : AM) (H : Hp), Rep G m H (.gl x) v := ⟨.ref a, rfl, fun m H => by unfold Rep; exact ⟨a, rfl, h⟩⟩
theorem row_tg {G : GC} {K : PySem.W.Frag} {x : String} {n : Int} {t : Tok} {f a : Addr} {oc : Value} {od : Option Addr} {k : Nat} {osl : Array (Option Value)} {h0 : Heap} (_ : K.In h0) (hK : G.K = K) (l : K.lookup a = some ⟨oc, od, .seq #[.int n t, .ref f] k, osl⟩) (hc : oc = .type "tuple") (h : G.FA x = some f) :
    ∃ v, RelV v (.ref a) ∧ ∀ (m : AM) (H : Hp), Rep G m H (.tup [.int n, .gl x]) v := ⟨.ref a, rfl, fun m H => by
  unfold Rep
  refine ⟨a, [.int n, .ref f], rfl, .inr ⟨⟨oc, od, .seq #[.int n t, .ref f] k, osl⟩, #[.int n t, .ref f], k, by rw [hK]; exact l, hc, rfl, (by decide : (2 : Nat) ≤ sizeLine), .cons ⟨t, rfl⟩ (.cons rfl .nil)⟩, .cons (by unfold Rep; rfl) (.cons (by unfold Rep; exact ⟨f, rfl, h⟩) .nil)⟩⟩
section
variable {G : GC} {K : PySem.W.Frag} {w : World} {mg : Str → Option Value} {d : Addr}
theorem yes_nil : ∀ s ∈ ([] : List (List Nat)), ∃ u, PySem.W.nsIn K d (toS s) = some (some u) := fun s h => by simp at h
theorem yes_cons {s : List Nat} {xs : Str} {l : List (List Nat)} {u : Value} (e : PySem.W.nsIn K d xs = some (some u)) (hx : toS s = xs) (r : ∀ s ∈ l, ∃ u, PySem.W.nsIn K d (toS s) = some (some u)) : ∀ t ∈ s :: l, ∃ u, PySem.W.nsIn K d (toS t) = some (some u) := fun t h => by
  rcases List.mem_cons.mp h with rfl | z
  · exact ⟨u, by rw [hx]; exact e⟩
  · exact r t z
theorem no_nil : ∀ s ∈ ([] : List (List Nat)), PySem.W.nsIn K d (toS s) = some none := fun s h => by simp at h
theorem no_cons {s : List Nat} {xs : Str} {l : List (List Nat)} (e : PySem.W.nsIn K d xs = some none) (hx : toS s = xs) (r : ∀ s ∈ l, PySem.W.nsIn K d (toS s) = some none) : ∀ t ∈ s :: l, PySem.W.nsIn K d (toS t) = some none := fun t h => by
  rcases List.mem_cons.mp h with rfl | z
  · rw [hx]; exact e
  · exact r t z
theorem rows_nil : ∀ s z, ([] : List (List Nat × D)).lookup s = some z → ∃ u v, PySem.W.nsIn K d (toS s) = some (some u) ∧ RelV v u ∧ ∀ (m : AM) (H : Hp), Rep G m H z v := fun s z h => by cases h
theorem rows_cons {s : List Nat} {xs : Str} {z : D} {l : List (List Nat × D)} {u : Value} (e : PySem.W.nsIn K d xs = some (some u)) (hx : toS s = xs) (hz : ∃ v, RelV v u ∧ ∀ (m : AM) (H : Hp), Rep G m H z v)
    (r : ∀ s z, l.lookup s = some z → ∃ u v, PySem.W.nsIn K d (toS s) = some (some u) ∧ RelV v u ∧ ∀ (m : AM) (H : Hp), Rep G m H z v) : ∀ t y, ((s, z) :: l).lookup t = some y → ∃ u v, PySem.W.nsIn K d (toS t) = some (some u) ∧ RelV v u ∧ ∀ (m : AM) (H : Hp), Rep G m H y v := fun t y h => by
  rw [List.lookup_cons] at h
  cases hb : t == s with
  | true =>
    rw [hb] at h
    cases h
    obtain ⟨v, h1, h2⟩ := hz
    exact ⟨u, v, by rw [beq_iff_eq.mp hb, hx]; exact e, h1, h2⟩
  | false =>
    rw [hb] at h
    exact r t y h
theorem tab_mk {h : Heap} {x : Str} {es : Array DictEntry} {n : Nat} {yes no : List (List Nat)} {rows : List (List Nat × D)} (X : K.In h) (_ : G.K = K) (N : h.Ns mainGlobals mg) (a : PySem.W.nsIn K mainGlobals x = some (some (.ref d))) (l : K.lookup d = some ⟨.type "dict", none, .dict es n, #[]⟩) (k : PySem.W.KeysLit w.params es.toList)
    (lo : (d == sysModules) = false) (hy : ∀ s ∈ yes, ∃ u, PySem.W.nsIn K d (toS s) = some (some u)) (hn : ∀ s ∈ no, PySem.W.nsIn K d (toS s) = some none)
    (hr : ∀ s z, rows.lookup s = some z → ∃ u v, PySem.W.nsIn K d (toS s) = some (some u) ∧ RelV v u ∧ ∀ (m : AM) (H : Hp), Rep G m H z v) : TabW G K w mg x yes no rows :=
  ⟨d, es, n, PySem.W.mg_of X N a, ⟨l, k, lo⟩, hy, hn, hr⟩
end
end Ev
namespace Law
open Ev
def d_is_whole : FD := ⟨1, 1, [
  .ret (.and (.opN fIsi [.var 0, .lit (.ty "int")]) (.not (.opN fIsi [.var 0, .lit (.ty "bool")])))]⟩
def d_is_between : FD := ⟨3, 3, [
  .ret (.and (.call "is_whole" id [.var 0]) (.chain fLe fLe (.var 1) (.var 0) (.var 2)))]⟩
def d_is_tuple_of : FD := ⟨2, 2, [
  .ret (.and (.opN fIsi [.var 0, .lit (.ty "tuple")]) (.op2 fEq (.opN fLen [.var 0]) (.var 1)))]⟩
def d_is_text_of : FD := ⟨2, 3, [
  .ret (.and (.opN fIsi [.var 0, .lit (.ty "str")]) (.opN fAll [.comp false (.op2 fIn (.var 2) (.var 1)) (.name 2) fVal [.var 0] (.lit (.bl true)) [2]]))]⟩
def d_lowest : FD := ⟨2, 3, [
  .asg (.name 2) (.opN fGcd [.var 0, .var 1]),
  .ret (.tup [.op2 fDiv (.var 0) (.var 2), .op2 fDiv (.var 1) (.var 2)])]⟩
def d_is_layer_number : FD := ⟨1, 1, [
  .ret (.call "is_between" id [.var 0, .lit (.int 1), .lit (.int 24)])]⟩
def d_is_stacked : FD := ⟨1, 3, [
  .ifs (.or (.not (.call "is_text_of" id [.var 0, .lit (.str [65, 66, 67])])) (.not (.call "is_layer_number" id [.opN fLen [.var 0]]))) [.ret (.lit (.bl false))] [],
  .ret (.opN fAll [.comp false (.op2 fNe (.var 1) (.var 2)) (.tup [.name 1, .name 2]) fZip [.var 0, .op3 fSl (.var 0) (.op1 fI (.lit (.int 1))) (.lit .non)] (.lit (.bl true)) [1, 2]])]⟩
def d_is_closed_one : FD := ⟨1, 1, [
  .ret (.and (.call "is_stacked" id [.var 0]) (.op2 fNe (.op2 fIx (.var 0) (.lit (.int 0))) (.op2 fIx (.var 0) (.op1 fNeg (.lit (.int 1))))))]⟩
def d_number_of : FD := ⟨1, 1, [
  .ret (.meth isStr mIndex (.lit (.str [65, 66, 67])) [.var 0])]⟩
def d_further : FD := ⟨2, 2, [
  .ret (.op2 fIx (.lit (.str [65, 66, 67])) (.op2 fMod (.op2 fAdd (.call "number_of" id [.var 0]) (.var 1)) (.opN fLen [.lit (.str [65, 66, 67])])))]⟩
def d_step_between : FD := ⟨2, 2, [
  .ret (.ite (.op2 fEq (.call "further" id [.var 0, .lit (.int 1)]) (.var 1)) (.lit (.str [43])) (.lit (.str [45])))]⟩
def d_steps_by : FD := ⟨1, 3, [
  .ret (.meth isStr mJoin (.lit (.str [])) [.comp false (.call "step_between" id [.var 1, .var 2]) (.tup [.name 1, .name 2]) fZip [.var 0, .op3 fSl (.var 0) (.op1 fI (.lit (.int 1))) (.lit .non)] (.lit (.bl true)) [1, 2]])]⟩
def d_round_steps_by : FD := ⟨1, 1, [
  .ret (.call "steps_by" id [.op2 fAdd (.var 0) (.op2 fIx (.var 0) (.lit (.int 0)))])]⟩
def d_periods_of : FD := ⟨1, 3, [
  .asg (.name 1) (.opN fLen [.var 0]),
  .ret (.comp false (.var 2) (.name 2) fRng2 [.lit (.int 1), .var 1] (.and (.op2 fEq (.op2 fMod (.var 1) (.var 2)) (.lit (.int 0))) (.op2 fEq (.op2 fMul (.op3 fSl (.var 0) (.lit .non) (.op1 fI (.var 2))) (.op2 fDiv (.var 1) (.var 2))) (.var 0))) [2])]⟩
def d_is_own_by : FD := ⟨1, 1, [
  .ret (.op2 fEq (.call "periods_of" id [.var 0]) (.lst false []))]⟩
def d_check_closed : FD := ⟨1, 1, [
  .ifs (.not (.call "is_closed_one" id [.var 0])) [.never] []]⟩
def d_marks_between : FD := ⟨1, 3, [
  .ret (.meth isStr mJoin (.lit (.str [])) [.comp false (.ite (.op2 fEq (.var 1) (.var 2)) (.lit (.str [99])) (.lit (.str [104]))) (.tup [.name 1, .name 2]) fZip [.var 0, .op3 fSl (.var 0) (.op1 fI (.lit (.int 1))) (.lit .non)] (.lit (.bl true)) [1, 2]])]⟩
def d_round_marks_by : FD := ⟨1, 2, [
  .asg (.name 1) (.call "round_steps_by" id [.var 0]),
  .ret (.call "marks_between" id [.op2 fAdd (.op2 fIx (.var 1) (.op1 fNeg (.lit (.int 1)))) (.var 1)])]⟩
def d_h_count_of : FD := ⟨1, 1, [
  .ret (.meth isStr mCount (.call "round_marks_by" id [.var 0]) [.lit (.str [104])])]⟩
def d_tells_closed : FD := ⟨1, 1, [
  .ret (.call "is_closed_one" id [.op2 fIx (.var 0) (.lit (.int 0))])]⟩
def d_is_claim : FD := ⟨1, 3, [
  .ifs (.or (.not (.opN fIsi [.var 0, .lit (.ty "tuple")])) (.or (.op2 fEq (.var 0) (.tup [])) (.or (.not (.opN fIsi [.op2 fIx (.var 0) (.lit (.int 0)), .lit (.ty "str")])) (.op1 (fTabNin [[111, 119, 110], [97, 103, 97, 105, 110]] [[111, 119, 110, 115]]) (.op2 fIx (.var 0) (.lit (.int 0))))))) [.ret (.lit (.bl false))] [],
  .asg (.tup [.name 1, .name 2]) (.op1 (fTabIx [([111, 119, 110], .tup [.int 1, .gl "tells_closed"]), ([97, 103, 97, 105, 110], .tup [.int 1, .gl "tells_closed"])]) (.op2 fIx (.var 0) (.lit (.int 0)))),
  .ret (.and (.op2 fEq (.opN fLen [.var 0]) (.op2 fAdd (.var 1) (.lit (.int 1)))) (.ite (.op1 (fGlIs "tells_closed") (.var 2)) (.call "tells_closed" id [.op3 fSl (.var 0) (.op1 fI (.lit (.int 1))) (.lit .non)]) (.op1 fNo (.var 0))))]⟩
def d_certify_own : FD := ⟨1, 2, [
  .expr (.call "check_closed" id [.var 0]),
  .asg (.name 1) (.call "periods_of" id [.var 0]),
  .ret (.ite (.op2 fEq (.var 1) (.lst false [])) (.tup [.tup [.lit (.str [111, 119, 110]), .var 0], .tup []]) (.tup [.tup [.lit (.str [97, 103, 97, 105, 110]), .var 0], .op2 fIx (.var 1) (.lit (.int 0))]))]⟩
def d_is_nothing : FD := ⟨1, 1, [
  .ret (.call "is_tuple_of" id [.var 0, .lit (.int 0)])]⟩
def d_shows_own : FD := ⟨2, 2, [
  .ret (.and (.call "is_nothing" id [.var 1]) (.call "is_own_by" id [.var 0]))]⟩
def d_shows_again : FD := ⟨2, 2, [
  .ret (.and (.call "is_whole" id [.var 1]) (.op2 fIn (.var 1) (.call "periods_of" id [.var 0])))]⟩
def d_accepts : FD := ⟨2, 4, [
  .ifs (.not (.call "is_claim" id [.var 0])) [.ret (.lit (.bl false))] [],
  .asg (.name 2) (.op2 fIx (.var 0) (.lit (.int 0))),
  .ifs (.op1 (fTabIn [[111, 119, 110], [97, 103, 97, 105, 110]] [[111, 119, 110, 115]]) (.var 2)) [.asg (.name 3) (.op1 (fTabIx [([111, 119, 110], .gl "shows_own"), ([97, 103, 97, 105, 110], .gl "shows_again")]) (.var 2)), .ret (.ite (.op1 (fGlIs "shows_own") (.var 3)) (.call "shows_own" id [.op2 fIx (.var 0) (.lit (.int 1)), .var 1]) (.ite (.op1 (fGlIs "shows_again") (.var 3)) (.call "shows_again" id [.op2 fIx (.var 0) (.lit (.int 1)), .var 1]) (.op1 fNo (.var 0))))] [],
  .ifs (.op1 fNo (.var 0)) [.asg (.name 3) (.op1 fNo (.var 0)), .ret (.op1 fNo (.var 0))] [],
  .ret (.op1 fNo (.var 0))]⟩
def d_round_marks : FD := ⟨1, 1, [
  .expr (.call "check_closed" id [.var 0]),
  .ret (.call "round_marks_by" id [.var 0])]⟩
def d_h_count : FD := ⟨1, 1, [
  .expr (.call "check_closed" id [.var 0]),
  .ret (.call "h_count_of" id [.var 0])]⟩
def d_share_by : FD := ⟨1, 1, [
  .ret (.call "lowest" id [.call "h_count_of" id [.var 0], .opN fLen [.var 0]])]⟩
def d_own_part_by : FD := ⟨1, 2, [
  .asg (.name 1) (.call "periods_of" id [.var 0]),
  .ret (.ite (.op2 fNe (.var 1) (.lst false [])) (.op3 fSl (.var 0) (.lit .non) (.op1 fI (.op2 fIx (.var 1) (.lit (.int 0))))) (.var 0))]⟩
def d_share : FD := ⟨1, 1, [
  .expr (.call "check_closed" id [.var 0]),
  .ret (.call "share_by" id [.var 0])]⟩
def d_own_part : FD := ⟨1, 1, [
  .expr (.call "check_closed" id [.var 0]),
  .ret (.call "own_part_by" id [.var 0])]⟩
def d_is_closed : FD := ⟨1, 1, [
  .ret (.call "is_closed_one" id [.var 0])]⟩
def d_is_own : FD := ⟨1, 1, [
  .expr (.call "check_closed" id [.var 0]),
  .ret (.call "is_own_by" id [.var 0])]⟩
def d__law_bag : FD := ⟨2, 7, [
  .asg (.name 2) (.op2 fAdd (.lit (.int 70001)) (.op2 fMul (.lit (.int 3571)) (.var 1))),
  .for (.tup [.name 3, .name 4]) fEnum [.op3 fSl (.var 0) (.lit .non) (.op1 fI (.lit (.int 9)))] [.asg (.name 2) (.op2 fMod (.opN fInt [.op2 fAdd (.op2 fAdd (.op2 fAdd (.op2 fMul (.var 2) (.lit (.int 47653))) (.op2 fMod (.opN fInt [.var 4]) (.lit (.int 1999999943)))) (.op2 fMul (.lit (.int 31)) (.var 3))) (.lit (.int 5))]) (.lit (.int 2147483477)))],
  .asg (.name 5) (.ite (.op2 fLt (.var 1) (.opN fLen [.var 0])) (.opN fInt [.op2 fIx (.var 0) (.var 1)]) (.lit (.int 0))),
  .asg (.name 6) (.ite (.op2 fGe (.opN fAbs [.var 5]) (.op2 fPow (.lit (.int 10)) (.lit (.int 18)))) (.op2 fMod (.opN fAbs [.var 5]) (.lit (.int 1000000000000000000000000000007))) (.lit (.int 0))),
  .ret (.lst true [.var 6, .op2 fMod (.opN fInt [.op2 fAdd (.var 2) (.op2 fMul (.lit (.int 3)) (.op2 fMod (.opN fInt [.var 5]) (.lit (.int 1999999943))))]) (.lit (.int 2147483477)), .lit (.int 0)])]⟩
def d__law_draw : FD := ⟨2, 4, [
  .ifs (.op2 fGt (.op2 fIx (.var 0) (.lit (.int 0))) (.lit (.int 0))) [.asg (.tup [.sub (.var 0) (.lit (.int 0)), .name 2]) (.opN fDivmod [.op2 fIx (.var 0) (.lit (.int 0)), .var 1]), .ret (.var 2)] [],
  .asg (.sub (.var 0) (.lit (.int 2))) (.op2 fAdd (.op2 fIx (.var 0) (.lit (.int 2))) (.lit (.int 1))),
  .asg (.name 3) (.opN fInt [.op2 fIx (.var 0) (.lit (.int 1))]),
  .asg (.sub (.var 0) (.lit (.int 1))) (.op2 fMod (.opN fInt [.op2 fAdd (.op2 fAdd (.op2 fMul (.var 3) (.op2 fAdd (.op2 fMod (.opN fInt [.var 3]) (.lit (.int 40009))) (.lit (.int 30013)))) (.op2 fMul (.lit (.int 65003)) (.op2 fIx (.var 0) (.lit (.int 2))))) (.lit (.int 13))]) (.lit (.int 2147483477))),
  .ret (.op2 fMod (.opN fInt [.op2 fDiv (.op2 fIx (.var 0) (.lit (.int 1))) (.lit (.int 256))]) (.var 1))]⟩
def d__law_one : FD := ⟨2, 2, [
  .ret (.op2 fIx (.var 1) (.call "_law_draw" id [.var 0, .opN fLen [.var 1]]))]⟩
def d__law_same : FD := ⟨2, 4, [
  .ifs (.op2 fIs (.var 1) (.lit .non)) [.ret (.op2 fIs (.var 0) (.lit .non))] [],
  .ifs (.or (.opN fIsi [.var 1, .lit (.ty "tuple")]) (.opN fIsi [.var 1, .lit (.ty "list")])) [.asg (.name 2) (.ite (.opN fIsi [.var 1, .lit (.ty "tuple")]) (.opN fIsi [.var 0, .lit (.ty "tuple")]) (.opN fIsi [.var 0, .lit (.ty "list")])), .ret (.and (.var 2) (.and (.op2 fEq (.opN fLen [.var 0]) (.opN fLen [.var 1])) (.opN fAll [.comp false (.call "_law_same" id [.op2 fIx (.var 0) (.var 3), .op2 fIx (.var 1) (.var 3)]) (.name 3) fRng1 [.opN fLen [.var 1]] (.lit (.bl true)) [3]])))] [],
  .ifs (.opN fIsi [.var 1, .lit (.ty "int")]) [.ret (.and (.opN fIsi [.var 0, .lit (.ty "int")]) (.and (.op2 fEq (.opN fIsi [.var 0, .lit (.ty "bool")]) (.opN fIsi [.var 1, .lit (.ty "bool")])) (.op2 fEq (.var 0) (.var 1))))] [],
  .ret (.and (.opN fIsi [.var 1, .lit (.ty "str")]) (.and (.opN fIsi [.var 0, .lit (.ty "str")]) (.op2 fEq (.var 0) (.var 1))))]⟩
def d__law_is_whole : FD := ⟨1, 1, [
  .ret (.and (.opN fIsi [.var 0, .lit (.ty "int")]) (.not (.opN fIsi [.var 0, .lit (.ty "bool")])))]⟩
def d__law_is_stacking : FD := ⟨1, 4, [
  .ifs (.or (.not (.opN fIsi [.var 0, .lit (.ty "str")])) (.or (.not (.chain fLt fLt (.lit (.int 0)) (.opN fLen [.var 0]) (.lit (.int 25)))) (.not (.opN fAll [.comp false (.op2 fIn (.var 3) (.lit (.str [65, 66, 67]))) (.name 3) fVal [.var 0] (.lit (.bl true)) [3]])))) [.ret (.lit (.bl false))] [],
  .ret (.not (.opN fAny [.comp false (.op2 fEq (.var 1) (.var 2)) (.tup [.name 1, .name 2]) fZip [.var 0, .op3 fSl (.var 0) (.op1 fI (.lit (.int 1))) (.lit .non)] (.lit (.bl true)) [1, 2]]))]⟩
def d__law_is_closed : FD := ⟨1, 1, [
  .ret (.and (.call "_law_is_stacking" id [.var 0]) (.and (.op2 fGt (.opN fLen [.var 0]) (.lit (.int 1))) (.op2 fNe (.op2 fIx (.var 0) (.lit (.int 0))) (.op2 fIx (.var 0) (.op1 fNeg (.lit (.int 1)))))))]⟩
def d__law_further : FD := ⟨2, 2, [
  .ret (.op2 fIx (.lit (.str [65, 66, 67])) (.op2 fMod (.op2 fAdd (.meth isStr mIndex (.lit (.str [65, 66, 67])) [.var 0]) (.var 1)) (.lit (.int 3))))]⟩
def d__law_by : FD := ⟨2, 4, [
  .asg (.name 2) (.var 0),
  .for (.name 3) fVal [.var 1] [.asg (.name 2) (.op2 fAdd (.var 2) (.call "_law_further" id [.op2 fIx (.var 2) (.op1 fNeg (.lit (.int 1))), .ite (.op2 fEq (.var 3) (.lit (.str [43]))) (.lit (.int 1)) (.lit (.int 2))]))],
  .ret (.var 2)]⟩
def d__law_marks : FD := ⟨1, 3, [
  .ret (.meth isStr mJoin (.lit (.str [])) [.comp false (.ite (.op2 fEq (.var 1) (.var 2)) (.lit (.str [104])) (.lit (.str [99]))) (.tup [.name 1, .name 2]) fZip [.var 0, .op3 fSl (.var 0) (.op1 fI (.lit (.int 2))) (.lit .non)] (.lit (.bl true)) [1, 2]])]⟩
def d__law_stacking : FD := ⟨3, 7, [
  .asg (.tup [.name 3, .name 4]) (.tup [.op2 fAdd (.var 1) (.call "_law_draw" id [.var 0, .op2 fAdd (.op2 fSub (.var 2) (.var 1)) (.lit (.int 1))]), .call "_law_one" id [.var 0, .lit (.str [65, 66, 67])]]),
  .asg (.name 5) (.meth isStr mJoin (.lit (.str [])) [.comp false (.call "_law_one" id [.var 0, .lit (.str [43, 45])]) (.name 6) fRng1 [.call "_law_one" id [.var 0, .lst false [.lit (.int 24), .lit (.int 24), .lit (.int 1), .lit (.int 2), .lit (.int 3), .lit (.int 4), .lit (.int 6)]]] (.lit (.bl true)) [6]]),
  .ret (.call "_law_by" id [.var 4, .op3 fSl (.op2 fMul (.var 5) (.lit (.int 24))) (.lit .non) (.op1 fI (.op2 fSub (.var 3) (.lit (.int 1))))])]⟩
def d__law_closed : FD := ⟨3, 5, [
  .asg (.name 3) (.call "_law_stacking" id [.var 0, .opN fMax [.var 1, .lit (.int 2)], .var 2]),
  .ifs (.op2 fEq (.op2 fIx (.var 3) (.lit (.int 0))) (.op2 fIx (.var 3) (.op1 fNeg (.lit (.int 1))))) [.asg (.name 3) (.op2 fAdd (.op3 fSl (.var 3) (.lit .non) (.op1 fI (.op1 fNeg (.lit (.int 1))))) (.op2 fIx (.comp false (.var 4) (.name 4) fVal [.lit (.str [65, 66, 67])] (.op2 fNotIn (.var 4) (.lst false [.op2 fIx (.var 3) (.lit (.int 0)), .op2 fIx (.var 3) (.op1 fNeg (.lit (.int 2)))])) [4]) (.lit (.int 0))))] [],
  .ret (.var 3)]⟩
def d__law_closed_right : FD := ⟨2, 19, [
  .asg (.name 2) (.opN fLen [.var 1]),
  .asg (.name 3) (.comp false (.var 18) (.name 18) fRng2 [.lit (.int 1), .var 2] (.and (.op2 fEq (.op2 fMod (.var 2) (.var 18)) (.lit (.int 0))) (.op2 fEq (.op2 fMul (.op3 fSl (.var 1) (.lit .non) (.op1 fI (.var 18))) (.op2 fDiv (.var 2) (.var 18))) (.var 1))) [18]),
  .asg (.tup [.name 4, .name 5]) (.tup [.ite (.op2 fNe (.var 3) (.lst false [])) (.op3 fSl (.var 1) (.lit .non) (.op1 fI (.op2 fIx (.var 3) (.lit (.int 0))))) (.var 1), .call "_law_marks" id [.op2 fAdd (.op2 fAdd (.op2 fIx (.var 1) (.op1 fNeg (.lit (.int 1)))) (.var 1)) (.op2 fIx (.var 1) (.lit (.int 0)))]]),
  .asg (.name 6) (.lst false [.call "is_own" id [.var 1], .call "is_own" (permL [0]) [.var 1], .call "own_part" id [.var 1], .call "is_closed" id [.var 1], .call "round_marks" id [.var 1], .call "h_count" id [.var 1]]),
  .ifs (.not (.call "_law_same" id [.var 6, .lst false [.op2 fEq (.var 3) (.lst false []), .op2 fEq (.var 3) (.lst false []), .var 4, .lit (.bl true), .var 5, .meth isStr mCount (.var 5) [.lit (.str [104])]]])) [.ret (.lit (.bl false))] [],
  .asg (.tup [.name 7, .name 8]) (.call "share" id [.var 1]),
  .asg (.tup [.name 9, .name 10]) (.tup [.var 7, .var 8]),
  .whil 1000 (.op2 fGt (.var 10) (.lit (.int 0))) [.asg (.tup [.name 9, .name 10]) (.tup [.var 10, .op2 fMod (.var 9) (.var 10)])],
  .ifs (.or (.op2 fNe (.var 9) (.lit (.int 1))) (.or (.op2 fNe (.op2 fMul (.var 7) (.var 2)) (.op2 fMul (.meth isStr mCount (.var 5) [.lit (.str [104])]) (.var 8))) (.or (.op2 fLt (.var 8) (.lit (.int 1))) (.op2 fNe (.call "share" id [.call "own_part" id [.var 1]]) (.tup [.var 7, .var 8]))))) [.ret (.lit (.bl false))] [],
  .asg (.name 11) (.lst false [.tup [.lit (.str [111, 119, 110]), .var 1], .tup [.lit (.str [97, 103, 97, 105, 110]), .var 1]]),
  .asg (.tup [.name 12, .name 13]) (.call "certify_own" id [.var 1]),
  .ifs (.not (.call "_law_same" id [.lst false [.var 12, .call "accepts" id [.var 12, .var 13]], .lst false [.ite (.op2 fEq (.var 3) (.lst false [])) (.op2 fIx (.var 11) (.lit (.int 0))) (.op2 fIx (.var 11) (.lit (.int 1))), .lit (.bl true)]])) [.ret (.lit (.bl false))] [],
  .for (.name 14) fVal [.op2 fAdd (.op2 fAdd (.lst false [.var 13, .tup [], .lit .non, .lit (.str []), .lit (.bl true), .lit (.str [50]), .tup [.lit (.int 2)], .lst false [.lit (.int 2)], .op2 fSub (.lit (.int 0)) (.lit (.int 2)), .var 4]) (.op1 fLstRg1 (.op2 fAdd (.var 2) (.lit (.int 2))))) (.lst false [.op2 fMul (.lit (.int 2)) (.var 2)])] [.asg (.name 15) (.lst false [.and (.opN fIsi [.var 14, .lit (.ty "tuple")]) (.and (.op2 fEq (.var 14) (.tup [])) (.op2 fEq (.var 3) (.lst false []))), .and (.call "_law_is_whole" id [.var 14]) (.op2 fIn (.var 14) (.var 3))]), .asg (.name 16) (.lst false [.call "accepts" id [.op2 fIx (.var 11) (.lit (.int 0)), .var 14], .call "accepts" (permL [1, 0]) [.var 14, .op2 fIx (.var 11) (.lit (.int 1))]]), .ifs (.or (.not (.call "_law_same" id [.var 16, .var 15])) (.op2 fEq (.var 15) (.lst false [.lit (.bl true), .lit (.bl true)]))) [.ret (.lit (.bl false))] []],
  .asg (.name 17) (.lst false [.op3 fSl (.var 12) (.lit .non) (.op1 fI (.lit (.int 1))), .op2 fAdd (.var 12) (.tup [.lit (.int 0)]), .opN fListD [.var 12], .tup [.op2 fIx (.var 12) (.lit (.int 0)), .op2 fAdd (.var 1) (.op2 fIx (.var 1) (.lit (.int 0)))], .tup [.op2 fIx (.var 12) (.lit (.int 0)), .lit .non], .tup [.op2 fIx (.var 12) (.lit (.int 0)), .lit (.str [65])]]),
  .asg (.name 17) (.op2 fAdd (.var 17) (.lst false [.tup [.op2 fIx (.var 12) (.lit (.int 0)), .op2 fAdd (.op3 fSl (.var 1) (.lit .non) (.op1 fI (.op1 fNeg (.lit (.int 1))))) (.op2 fIx (.var 1) (.lit (.int 0)))]])),
  .asg (.name 17) (.op2 fAdd (.var 17) (.lst false [.tup [.lit (.str [111, 119, 110, 115]), .var 1], .tup [.op2 fIx (.var 12) (.lit (.int 0)), .opN fTupleD [.var 1]], .tup [.op2 fIx (.var 12) (.lit (.int 0)), .op2 fMul (.lit (.str [65, 66, 65, 66])) (.lit (.int 7))], .tup [.op2 fIx (.var 12) (.lit (.int 0)), .lit (.str [])]])),
  .ret (.not (.opN fAny [.comp false (.or (.call "accepts" id [.var 14, .var 13]) (.call "accepts" id [.var 14, .tup []])) (.name 14) fVal [.var 17] (.lit (.bl true)) [14]]))]⟩
def d_law : FD := ⟨1, 7, [
  .for (.name 1) fRng1 [.opN fMax [.lit (.int 2), .opN fMinD [.opN fLen [.var 0], .lit (.int 5)]]] [.asg (.name 2) (.call "_law_bag" id [.var 0, .var 1]), .for (.name 3) fRng1 [.lit (.int 10)] [.asg (.name 4) (.call "_law_closed" id [.var 2, .lit (.int 2), .call "_law_one" id [.var 2, .lst false [.lit (.int 4), .lit (.int 9), .lit (.int 12), .lit (.int 24)]]]), .ifs (.and (.op2 fLt (.opN fLen [.var 4]) (.lit (.int 13))) (.op2 fEq (.call "_law_draw" id [.var 2, .lit (.int 2)]) (.lit (.int 0)))) [.asg (.name 4) (.op2 fMul (.var 4) (.op2 fAdd (.lit (.int 2)) (.call "_law_draw" id [.var 2, .op2 fSub (.op2 fDiv (.lit (.int 24)) (.opN fLen [.var 4])) (.lit (.int 1))])))] [], .ifs (.op2 fEq (.call "_law_draw" id [.var 2, .lit (.int 6)]) (.lit (.int 0))) [.asg (.name 5) (.op2 fAdd (.op3 fSl (.var 4) (.lit .non) (.op1 fI (.op1 fNeg (.lit (.int 1))))) (.op2 fIx (.comp false (.var 6) (.name 6) fVal [.lit (.str [65, 66, 67])] (.op2 fNe (.var 6) (.op2 fIx (.var 4) (.op1 fNeg (.lit (.int 1))))) [6]) (.lit (.int 0)))), .asg (.name 4) (.ite (.call "_law_is_closed" id [.var 5]) (.var 5) (.var 4))] [], .ifs (.not (.call "_law_closed_right" id [.var 2, .var 4])) [.ret (.lit (.bl false))] []]],
  .ret (.lit (.bl true))]⟩
def prg : String → Option FD
  | "is_whole" => some d_is_whole
  | "is_between" => some d_is_between
  | "is_tuple_of" => some d_is_tuple_of
  | "is_text_of" => some d_is_text_of
  | "lowest" => some d_lowest
  | "is_layer_number" => some d_is_layer_number
  | "is_stacked" => some d_is_stacked
  | "is_closed_one" => some d_is_closed_one
  | "number_of" => some d_number_of
  | "further" => some d_further
  | "step_between" => some d_step_between
  | "steps_by" => some d_steps_by
  | "round_steps_by" => some d_round_steps_by
  | "periods_of" => some d_periods_of
  | "is_own_by" => some d_is_own_by
  | "check_closed" => some d_check_closed
  | "marks_between" => some d_marks_between
  | "round_marks_by" => some d_round_marks_by
  | "h_count_of" => some d_h_count_of
  | "tells_closed" => some d_tells_closed
  | "is_claim" => some d_is_claim
  | "certify_own" => some d_certify_own
  | "is_nothing" => some d_is_nothing
  | "shows_own" => some d_shows_own
  | "shows_again" => some d_shows_again
  | "accepts" => some d_accepts
  | "round_marks" => some d_round_marks
  | "h_count" => some d_h_count
  | "share_by" => some d_share_by
  | "own_part_by" => some d_own_part_by
  | "share" => some d_share
  | "own_part" => some d_own_part
  | "is_closed" => some d_is_closed
  | "is_own" => some d_is_own
  | "_law_bag" => some d__law_bag
  | "_law_draw" => some d__law_draw
  | "_law_one" => some d__law_one
  | "_law_same" => some d__law_same
  | "_law_is_whole" => some d__law_is_whole
  | "_law_is_stacking" => some d__law_is_stacking
  | "_law_is_closed" => some d__law_is_closed
  | "_law_further" => some d__law_further
  | "_law_by" => some d__law_by
  | "_law_marks" => some d__law_marks
  | "_law_stacking" => some d__law_stacking
  | "_law_closed" => some d__law_closed
  | "_law_closed_right" => some d__law_closed_right
  | "law" => some d_law
  | _ => none
end Law
namespace Ev
open Res
theorem callD_eq {P : String → Option FD} {n : Nat} {x : String} {fd : FD} {ds : List D} {μ : Store} (hP : P x = some fd) (hl : ds.length = fd.np) : callD P (n + 1) x ds μ = (exs (callD P n) fd.body (startE fd ds) μ).bind (finish μ) := by
  show (match P x with | none => _ | some fd => _) = _
  rw [hP]
  show (if ds.length = fd.np then _ else _) = _
  rw [if_pos hl]
section
variable {cf : String → List D → Store → Res D} {ρ : Env} {μ : Store}
theorem ev_var (i : Nat) : ev cf (.var i) ρ μ = match ρ[i]? with
    | some (some d) => .ok d μ
    | _ => .stuck := by unfold ev; rfl
theorem ev_lit (d : D) : ev cf (.lit d) ρ μ = .ok d μ := by unfold ev; rfl
theorem ev_op1 (f : Store → D → Option D) (a : CE) : ev cf (.op1 f a) ρ μ = (ev cf a ρ μ).bind fun x μ1 => lift (f μ1 x) μ1 := by conv => lhs; unfold ev
theorem ev_op2 (f : Store → D → D → Option D) (a b : CE) : ev cf (.op2 f a b) ρ μ = (ev cf a ρ μ).bind fun x μ1 => (ev cf b ρ μ1).bind fun y μ2 => lift (f μ2 x y) μ2 := by conv => lhs; unfold ev
theorem ev_op3 (f : Store → D → D → D → Option D) (a b c : CE) : ev cf (.op3 f a b c) ρ μ = (ev cf a ρ μ).bind fun x μ1 => (ev cf b ρ μ1).bind fun y μ2 => (ev cf c ρ μ2).bind fun z μ3 => lift (f μ3 x y z) μ3 := by conv => lhs; unfold ev
theorem ev_opN (f : Store → List D → Option D) (as : List CE) : ev cf (.opN f as) ρ μ = (evs cf as ρ μ).bind fun ds μ1 => lift (f μ1 ds) μ1 := by conv => lhs; unfold ev
theorem ev_opM (f : List D → Store → Res D) (as : List CE) : ev cf (.opM f as) ρ μ = (evs cf as ρ μ).bind fun ds μ1 => noExc (f ds μ1) := by conv => lhs; unfold ev
theorem ev_meth (chk : Store → D → Bool) (f : List D → Store → Res D) (o : CE) (as : List CE) : ev cf (.meth chk f o as) ρ μ = (ev cf o ρ μ).bind fun x μ1 => if chk μ1 x then (evs cf as ρ μ1).bind fun xs μ2 => noExc (f (x :: xs) μ2) else .stuck := by conv => lhs; unfold ev
theorem ev_frz (a : CE) : ev cf (.frz a) ρ μ = (ev cf a ρ μ).bind freeze := by conv => lhs; unfold ev
theorem ev_lst (m : Bool) (as : List CE) : ev cf (.lst m as) ρ μ = (evs cf as ρ μ).bind fun ds μ1 => mkL m ds μ1 := by conv => lhs; unfold ev
theorem ev_tup (as : List CE) : ev cf (.tup as) ρ μ = (evs cf as ρ μ).bind fun ds μ1 => if ds.length ≤ cap then .ok (.tup ds) μ1 else .stuck := by conv => lhs; unfold ev
theorem ev_and (a b : CE) : ev cf (.and a b) ρ μ = (ev cf a ρ μ).bind fun x μ1 => (lift (truth μ1 x) μ1).bind fun t μ2 => if t then ev cf b ρ μ2 else .ok x μ2 := by conv => lhs; unfold ev
theorem ev_or (a b : CE) : ev cf (.or a b) ρ μ = (ev cf a ρ μ).bind fun x μ1 => (lift (truth μ1 x) μ1).bind fun t μ2 => if t then .ok x μ2 else ev cf b ρ μ2 := by conv => lhs; unfold ev
theorem ev_not (a : CE) : ev cf (.not a) ρ μ = (ev cf a ρ μ).bind fun x μ1 => (lift (truth μ1 x) μ1).bind fun t μ2 => .ok (.bl (!t)) μ2 := by conv => lhs; unfold ev
theorem ev_ite (c a b : CE) : ev cf (.ite c a b) ρ μ = (ev cf c ρ μ).bind fun x μ1 => (lift (truth μ1 x) μ1).bind fun t μ2 => if t then ev cf a ρ μ2 else ev cf b ρ μ2 := by conv => lhs; unfold ev
theorem ev_chain (f g : Store → D → D → Option D) (a b c : CE) : ev cf (.chain f g a b c) ρ μ = (ev cf a ρ μ).bind fun x μ1 => (ev cf b ρ μ1).bind fun y μ2 => (lift (f μ2 x y) μ2).bind fun z μ3 => match z with
    | .bl true => (ev cf c ρ μ3).bind fun w μ4 => lift (g μ4 y w) μ4
    | .bl false => .ok (.bl false) μ3
    | _ => .stuck := by
  conv => lhs; unfold ev
  all_goals rfl
theorem ev_call (x : String) (g : List D → List D) (as : List CE) : ev cf (.call x g as) ρ μ = (evs cf as ρ μ).bind fun ds μ1 => cf x (g ds) μ1 := by conv => lhs; unfold ev
/-- one turn of a loop -/
def forStep (cf : String → List D → Store → Res D) (t : CT) (body : List CS) : Env → D → Store → Res Fl := fun ρ d μ => match bindT t d ρ with
  | none => .stuck
  | some ρ1 => exs cf body ρ1 μ
theorem ex_pass : ex cf .pass ρ μ = .ok (.nx ρ) μ := by unfold ex; rfl
theorem ex_expr (e : CE) : ex cf (.expr e) ρ μ = (ev cf e ρ μ).bind fun _ μ1 => .ok (.nx ρ) μ1 := by unfold ex; rfl
theorem ex_asg (t : AT) (e : CE) : ex cf (.asg t e) ρ μ = (ev cf e ρ μ).bind fun d μ1 => (asgT cf t d ρ μ1).bind fun ρ1 μ2 => .ok (.nx ρ1) μ2 := by unfold ex; rfl
theorem ex_ifs (c : CE) (a b : List CS) : ex cf (.ifs c a b) ρ μ = (evT cf c ρ μ).bind fun t μ1 => if t then exs cf a ρ μ1 else exs cf b ρ μ1 := by conv => lhs; unfold ex
theorem ex_for (t : CT) (f : Itf) (as : List CE) (body : List CS) : ex cf (.for t f as body) ρ μ = (evs cf as ρ μ).bind fun ds μ1 => (lift (f μ1 ds) μ1).bind fun items μ2 => forLoop (forStep cf t body) items ρ μ2 := by
  conv => lhs; unfold ex
  all_goals rfl
theorem ex_whil (n : Nat) (c : CE) (body : List CS) : ex cf (.whil n c body) ρ μ = whileLoop (evT cf c) (fun ρ μ => exs cf body ρ μ) n ρ μ := by conv => lhs; unfold ex
theorem ex_ret (e : CE) : ex cf (.ret e) ρ μ = (ev cf e ρ μ).bind fun d μ1 => .ok (.rt d) μ1 := by unfold ex; rfl
theorem ex_retN : ex cf .retN ρ μ = .ok (.rt .non) μ := by unfold ex; rfl
theorem ex_brk : ex cf .brk ρ μ = .ok (.bk ρ) μ := by unfold ex; rfl
theorem ex_cont : ex cf .cont ρ μ = .ok (.ct ρ) μ := by unfold ex; rfl
theorem ex_never : ex cf .never ρ μ = .stuck := by unfold ex; rfl
theorem exs_nil : exs cf [] ρ μ = .ok (.nx ρ) μ := by unfold exs; rfl
theorem exs_cons (c : CS) (cs : List CS) : exs cf (c :: cs) ρ μ = (ex cf c ρ μ).bind fun fl μ1 => match fl with
    | .nx ρ1 => exs cf cs ρ1 μ1
    | fl => .ok fl μ1 := by
  conv => lhs; unfold exs
  all_goals rfl
end
section
variable {cf : String → List D → Store → Res D}
theorem asgT_name (i : Nat) (d : D) (ρ : Env) (μ : Store) : asgT cf (.name i) d ρ μ = if i < ρ.length then .ok (ρ.set i (some d)) μ else .stuck := by unfold asgT; rfl
theorem asgT_sub (o i : CE) (d : D) (ρ : Env) (μ : Store) : asgT cf (.sub o i) d ρ μ = (noExc (ev cf o ρ μ)).bind fun x μ1 => (noExc (ev cf i ρ μ1)).bind fun y μ2 => match setIx x y d μ2 with
    | some μ3 => .ok ρ μ3
    | none => .stuck := by unfold asgT; rfl
theorem asgT_tup (ts : List AT) (ds : List D) (ρ : Env) (μ : Store) : asgT cf (.tup ts) (.tup ds) ρ μ = asgTs cf ts ds ρ μ := by conv => lhs; unfold asgT
theorem asgTs_nil (ρ : Env) (μ : Store) : asgTs cf [] [] ρ μ = .ok ρ μ := by unfold asgTs; rfl
theorem asgTs_cons (t : AT) (ts : List AT) (d : D) (ds : List D) (ρ : Env) (μ : Store) : asgTs cf (t :: ts) (d :: ds) ρ μ = (asgT cf t d ρ μ).bind fun ρ1 μ1 => asgTs cf ts ds ρ1 μ1 := by conv => lhs; unfold asgTs
end
theorem bindT_name (i : Nat) (d : D) (ρ : Env) : bindT (.name i) d ρ = if i < ρ.length then some (ρ.set i (some d)) else none := by unfold bindT; rfl
theorem bindT_tup (ts : List CT) (ds : List D) (ρ : Env) : bindT (.tup ts) (.tup ds) ρ = bindTs ts ds ρ := by conv => lhs; unfold bindT
theorem bindT_str (ts : List CT) (s : List Nat) (ρ : Env) : bindT (.tup ts) (.str s) ρ = bindTs ts (s.map fun c => .str [c]) ρ := by conv => lhs; unfold bindT
theorem bindTs_nil (ρ : Env) : bindTs [] [] ρ = some ρ := by unfold bindTs; rfl
theorem bindTs_cons (t : CT) (ts : List CT) (d : D) (ds : List D) (ρ : Env) : bindTs (t :: ts) (d :: ds) ρ = match bindT t d ρ with
    | some ρ' => bindTs ts ds ρ'
    | none => none := by
  conv => lhs; unfold bindTs
  all_goals (cases bindT t d ρ <;> rfl)
@[simp] theorem trunc_same (μ : Store) (d : D) : trunc μ d μ = .ok d μ := by unfold trunc; split <;> simp
@[simp] theorem finish_rt (μ : Store) (d : D) : finish μ (.rt d) μ = .ok d μ := trunc_same μ d
@[simp] theorem finish_nx (μ : Store) (ρ : Env) : finish μ (.nx ρ) μ = .ok .non μ := trunc_same μ .non
@[simp] theorem isi_int_int (μ : Store) (i : Int) : fIsi μ [.int i, .ty "int"] = some (.bl true) := rfl
@[simp] theorem isi_int_bool (μ : Store) (i : Int) : fIsi μ [.int i, .ty "bool"] = some (.bl false) := rfl
@[simp] theorem isi_str_str (μ : Store) (s : List Nat) : fIsi μ [.str s, .ty "str"] = some (.bl true) := rfl
@[simp] theorem truth_bl (μ : Store) (b : Bool) : truth μ (.bl b) = some b := rfl
section
variable {P : String → Option FD} {n : Nat} {μ : Store}
theorem is_whole_int (hP : P "is_whole" = some Law.d_is_whole) (i : Int) : callD P (n + 1) "is_whole" [.int i] μ = .ok (.bl true) μ := by
  rw [callD_eq hP rfl]
  simp -implicitDefEqProofs only [Law.d_is_whole, startE, exs_nil, exs_cons, ex_pass, ex_expr, ex_asg, ex_ifs, ex_for, ex_ret, ex_retN, ex_brk, ex_cont, ex_never, ev_var, ev_lit, ev_op1, ev_op2, ev_op3, ev_opN, ev_opM, ev_meth, ev_frz, ev_lst, ev_tup, ev_and, ev_or, ev_not, ev_ite, ev_chain, ev_call, ev_comp, evs_nil, evs_cons, Res.bind_assoc, evT, asgT_name, asgT_sub, asgT_tup, asgTs_nil, asgTs_cons, Res.bind_ok, Res.bind_exc, lift_some, noExc_ok, truth_bl, finish_rt, finish_nx, List.map_cons, List.map_nil, List.length_cons, List.length_nil, List.replicate_zero, List.replicate_succ, List.cons_append, List.nil_append, List.getElem?_cons_zero, List.getElem?_cons_succ, List.set_cons_zero, List.set_cons_succ, Bool.not_true, Bool.not_false, ↓reduceIte, Bool.false_eq_true, Nat.reduceAdd, Nat.reduceSub, Nat.reduceLT, Nat.reduceLeDiff, Nat.zero_add, id_eq, Nat.sub_self, Bool.true_and, Bool.and_true, Bool.false_and, Bool.and_false, Bool.true_or, Bool.or_true, Bool.false_or, Bool.or_false, isi_int_int, isi_int_bool]
theorem is_between_int (hP : P "is_between" = some Law.d_is_between) (hW : P "is_whole" = some Law.d_is_whole) (i lo hi : Int) : callD P (n + 2) "is_between" [.int i, .int lo, .int hi] μ = .ok (.bl (decide (lo ≤ i) && decide (i ≤ hi))) μ := by
  rw [callD_eq hP rfl]
  simp -implicitDefEqProofs only [Law.d_is_between, startE, exs_nil, exs_cons, ex_pass, ex_expr, ex_asg, ex_ifs, ex_for, ex_ret, ex_retN, ex_brk, ex_cont, ex_never, ev_var, ev_lit, ev_op1, ev_op2, ev_op3, ev_opN, ev_opM, ev_meth, ev_frz, ev_lst, ev_tup, ev_and, ev_or, ev_not, ev_ite, ev_chain, ev_call, ev_comp, evs_nil, evs_cons, Res.bind_assoc, evT, asgT_name, asgT_sub, asgT_tup, asgTs_nil, asgTs_cons, Res.bind_ok, Res.bind_exc, lift_some, noExc_ok, truth_bl, finish_rt, finish_nx, List.map_cons, List.map_nil, List.length_cons, List.length_nil, List.replicate_zero, List.replicate_succ, List.cons_append, List.nil_append, List.getElem?_cons_zero, List.getElem?_cons_succ, List.set_cons_zero, List.set_cons_succ, Bool.not_true, Bool.not_false, ↓reduceIte, Bool.false_eq_true, Nat.reduceAdd, Nat.reduceSub, Nat.reduceLT, Nat.reduceLeDiff, Nat.zero_add, id_eq, Nat.sub_self, Bool.true_and, Bool.and_true, Bool.false_and, Bool.and_false, Bool.true_or, Bool.or_true, Bool.false_or, Bool.or_false, is_whole_int hW, fLe]
  by_cases h : lo ≤ i
  · rw [decide_eq_true h]; simp -implicitDefEqProofs only [startE, exs_nil, exs_cons, ex_pass, ex_expr, ex_asg, ex_ifs, ex_for, ex_ret, ex_retN, ex_brk, ex_cont, ex_never, ev_var, ev_lit, ev_op1, ev_op2, ev_op3, ev_opN, ev_opM, ev_meth, ev_frz, ev_lst, ev_tup, ev_and, ev_or, ev_not, ev_ite, ev_chain, ev_call, ev_comp, evs_nil, evs_cons, Res.bind_assoc, evT, asgT_name, asgT_sub, asgT_tup, asgTs_nil, asgTs_cons, Res.bind_ok, Res.bind_exc, lift_some, noExc_ok, truth_bl, finish_rt, finish_nx, List.map_cons, List.map_nil, List.length_cons, List.length_nil, List.replicate_zero, List.replicate_succ, List.cons_append, List.nil_append, List.getElem?_cons_zero, List.getElem?_cons_succ, List.set_cons_zero, List.set_cons_succ, Bool.not_true, Bool.not_false, ↓reduceIte, Bool.false_eq_true, Nat.reduceAdd, Nat.reduceSub, Nat.reduceLT, Nat.reduceLeDiff, Nat.zero_add, id_eq, Nat.sub_self, Bool.true_and, Bool.and_true, Bool.false_and, Bool.and_false, Bool.true_or, Bool.or_true, Bool.false_or, Bool.or_false, fLe]
  · rw [decide_eq_false h]; simp -implicitDefEqProofs only [startE, exs_nil, exs_cons, ex_pass, ex_expr, ex_asg, ex_ifs, ex_for, ex_ret, ex_retN, ex_brk, ex_cont, ex_never, ev_var, ev_lit, ev_op1, ev_op2, ev_op3, ev_opN, ev_opM, ev_meth, ev_frz, ev_lst, ev_tup, ev_and, ev_or, ev_not, ev_ite, ev_chain, ev_call, ev_comp, evs_nil, evs_cons, Res.bind_assoc, evT, asgT_name, asgT_sub, asgT_tup, asgTs_nil, asgTs_cons, Res.bind_ok, Res.bind_exc, lift_some, noExc_ok, truth_bl, finish_rt, finish_nx, List.map_cons, List.map_nil, List.length_cons, List.length_nil, List.replicate_zero, List.replicate_succ, List.cons_append, List.nil_append, List.getElem?_cons_zero, List.getElem?_cons_succ, List.set_cons_zero, List.set_cons_succ, Bool.not_true, Bool.not_false, ↓reduceIte, Bool.false_eq_true, Nat.reduceAdd, Nat.reduceSub, Nat.reduceLT, Nat.reduceLeDiff, Nat.zero_add, id_eq, Nat.sub_self, Bool.true_and, Bool.and_true, Bool.false_and, Bool.and_false, Bool.true_or, Bool.or_true, Bool.false_or, Bool.or_false]
end
theorem compLoop_map {α : Type} {step : D → Store → Res (Option D)} {μ : Store} (h g : α → D) : ∀ xs : List α, (∀ x ∈ xs, step (h x) μ = .ok (some (g x)) μ) → compLoop step (xs.map h) μ = .ok (xs.map g) μ
  | [], _ => rfl
  | x :: xs, hx => by
    rw [List.map_cons, compLoop, hx x List.mem_cons_self, noExc_ok, bind_ok, compLoop_map h g xs (fun y hy => hx y (List.mem_cons_of_mem _ hy))]
    rfl
theorem compLoop_filter {α : Type} {step : D → Store → Res (Option D)} {μ : Store} (h g : α → D) (p : α → Bool) : ∀ xs : List α, (∀ x ∈ xs, step (h x) μ = .ok (if p x then some (g x) else none) μ) → compLoop step (xs.map h) μ = .ok ((xs.filter p).map g) μ
  | [], _ => rfl
  | x :: xs, hx => by
    rw [List.map_cons, compLoop, hx x List.mem_cons_self, noExc_ok, bind_ok, compLoop_filter h g p xs (fun y hy => hx y (List.mem_cons_of_mem _ hy)), List.filter_cons]
    by_cases hp : p x = true <;> simp [hp]
theorem blsOf_map {α : Type} (p : α → Bool) : ∀ xs : List α, blsOf (xs.map fun x => .bl (p x)) = some (xs.map p)
  | [] => rfl
  | x :: xs => by rw [List.map_cons, blsOf, blsOf_map p xs]; rfl
@[simp] theorem all_map {α : Type} (μ : Store) (p : α → Bool) (xs : List α) : fAll μ [.lst (xs.map fun x => .bl (p x))] = some (.bl (xs.all p)) := by
  show (match blsOf (xs.map fun x => .bl (p x)) with | some ns => _ | none => _) = _
  rw [blsOf_map]
  show some (D.bl ((xs.map p).all id)) = _
  rw [List.all_map]; rfl
theorem strsOf_map {α : Type} (p : α → List Nat) : ∀ xs : List α, strsOf (xs.map fun x => .str (p x)) = some (xs.map p)
  | [] => rfl
  | x :: xs => by rw [List.map_cons, strsOf, strsOf_map p xs]; rfl
@[simp] theorem len_str (μ : Store) (s : List Nat) (h : s.length ≤ cap) : fLen μ [.str s] = some (.int s.length) := by simp [fLen, lenD, h]
@[simp] theorem in_sign (μ : Store) (c : Nat) (s : List Nat) : fIn μ (.str [c]) (.str s) = some (.bl (decide (c ∈ s))) := rfl
theorem mkL_val (μ : Store) (ds : List D) (h : ds.length ≤ cap) : mkL false ds μ = .ok (.lst ds) μ := by
  unfold mkL; rw [if_pos h]; rfl
def isL (c : Nat) : Bool := c == 65 || c == 66 || c == 67
/-- a stacking -/
def stkB (s : List Nat) : Bool := s.all isL && decide (1 ≤ s.length) && decide (s.length ≤ 24) && (s.zip (s.drop 1)).all fun p => p.1 != p.2
theorem mem_abc (c : Nat) : decide (c ∈ [65, 66, 67]) = isL c := by
  unfold isL
  rw [Bool.eq_iff_iff]; simp [or_assoc]
@[simp] theorem ne_sign (μ : Store) (a b : Nat) (ha : a < 1114112) (hb : b < 1114112) : fNe μ (.str [a]) (.str [b]) = some (.bl (a != b)) := by
  simp [fNe, rd, asL, cmpOk, ha, hb, eqD, bne]
@[simp] theorem eq_sign (μ : Store) (a b : Nat) (ha : a < 1114112) (hb : b < 1114112) : fEq μ (.str [a]) (.str [b]) = some (.bl (a == b)) := by
  simp [fEq, rd, asL, cmpOk, ha, hb, eqD]
theorem isL_lt {c : Nat} (h : isL c = true) : c < 1114112 := by
  unfold isL at h; simp at h; omega
section
variable {P : String → Option FD} {n : Nat} {μ : Store}
theorem is_text_of_str (hP : P "is_text_of" = some Law.d_is_text_of) (s t : List Nat) (hs : s.length ≤ cap) : callD P (n + 1) "is_text_of" [.str s, .str t] μ = .ok (.bl (s.all fun c => decide (c ∈ t))) μ := by
  rw [callD_eq hP rfl]
  have hl : (s.map fun c => D.str [c]).length ≤ cap := by rw [List.length_map]; exact hs
  simp -implicitDefEqProofs only [Law.d_is_text_of, startE, exs_nil, exs_cons, ex_pass, ex_expr, ex_asg, ex_ifs, ex_for, ex_ret, ex_retN, ex_brk, ex_cont, ex_never, ev_var, ev_lit, ev_op1, ev_op2, ev_op3, ev_opN, ev_opM, ev_meth, ev_frz, ev_lst, ev_tup, ev_and, ev_or, ev_not, ev_ite, ev_chain, ev_call, ev_comp, evs_nil, evs_cons, Res.bind_assoc, evT, asgT_name, asgT_sub, asgT_tup, asgTs_nil, asgTs_cons, Res.bind_ok, Res.bind_exc, lift_some, noExc_ok, truth_bl, finish_rt, finish_nx, List.map_cons, List.map_nil, List.length_cons, List.length_nil, List.replicate_zero, List.replicate_succ, List.cons_append, List.nil_append, List.getElem?_cons_zero, List.getElem?_cons_succ, List.set_cons_zero, List.set_cons_succ, Bool.not_true, Bool.not_false, ↓reduceIte, Bool.false_eq_true, Nat.reduceAdd, Nat.reduceSub, Nat.reduceLT, Nat.reduceLeDiff, Nat.zero_add, id_eq, Nat.sub_self, Bool.true_and, Bool.and_true, Bool.false_and, Bool.and_false, Bool.true_or, Bool.or_true, Bool.false_or, Bool.or_false, isi_str_str, fVal, items1, hl]
  rw [compLoop_map (fun c => D.str [c]) (fun c => .bl (decide (c ∈ t)))]
  · simp -implicitDefEqProofs only [startE, exs_nil, exs_cons, ex_pass, ex_expr, ex_asg, ex_ifs, ex_for, ex_ret, ex_retN, ex_brk, ex_cont, ex_never, ev_var, ev_lit, ev_op1, ev_op2, ev_op3, ev_opN, ev_opM, ev_meth, ev_frz, ev_lst, ev_tup, ev_and, ev_or, ev_not, ev_ite, ev_chain, ev_call, ev_comp, evs_nil, evs_cons, Res.bind_assoc, evT, asgT_name, asgT_sub, asgT_tup, asgTs_nil, asgTs_cons, Res.bind_ok, Res.bind_exc, lift_some, noExc_ok, truth_bl, finish_rt, finish_nx, List.map_cons, List.map_nil, List.length_cons, List.length_nil, List.replicate_zero, List.replicate_succ, List.cons_append, List.nil_append, List.getElem?_cons_zero, List.getElem?_cons_succ, List.set_cons_zero, List.set_cons_succ, Bool.not_true, Bool.not_false, ↓reduceIte, Bool.false_eq_true, Nat.reduceAdd, Nat.reduceSub, Nat.reduceLT, Nat.reduceLeDiff, Nat.zero_add, id_eq, Nat.sub_self, Bool.true_and, Bool.and_true, Bool.false_and, Bool.and_false, Bool.true_or, Bool.or_true, Bool.false_or, Bool.or_false, mkL_val _ _ (show (s.map fun c => D.bl (decide (c ∈ t))).length ≤ cap by rw [List.length_map]; exact hs), all_map]
  · intro c _
    simp -implicitDefEqProofs only [startE, exs_nil, exs_cons, ex_pass, ex_expr, ex_asg, ex_ifs, ex_for, ex_ret, ex_retN, ex_brk, ex_cont, ex_never, ev_var, ev_lit, ev_op1, ev_op2, ev_op3, ev_opN, ev_opM, ev_meth, ev_frz, ev_lst, ev_tup, ev_and, ev_or, ev_not, ev_ite, ev_chain, ev_call, ev_comp, evs_nil, evs_cons, Res.bind_assoc, evT, asgT_name, asgT_sub, asgT_tup, asgTs_nil, asgTs_cons, Res.bind_ok, Res.bind_exc, lift_some, noExc_ok, truth_bl, finish_rt, finish_nx, List.map_cons, List.map_nil, List.length_cons, List.length_nil, List.replicate_zero, List.replicate_succ, List.cons_append, List.nil_append, List.getElem?_cons_zero, List.getElem?_cons_succ, List.set_cons_zero, List.set_cons_succ, Bool.not_true, Bool.not_false, ↓reduceIte, Bool.false_eq_true, Nat.reduceAdd, Nat.reduceSub, Nat.reduceLT, Nat.reduceLeDiff, Nat.zero_add, id_eq, Nat.sub_self, Bool.true_and, Bool.and_true, Bool.false_and, Bool.and_false, Bool.true_or, Bool.or_true, Bool.false_or, Bool.or_false, compStep, forStep, bindT_name, bindT_tup, bindT_str, bindTs_nil, bindTs_cons, wipeE, List.length_set, in_sign]
theorem is_layer_number_int (hL : P "is_layer_number" = some Law.d_is_layer_number) (hP : P "is_between" = some Law.d_is_between) (hW : P "is_whole" = some Law.d_is_whole) (i : Int) : callD P (n + 3) "is_layer_number" [.int i] μ = .ok (.bl (decide (1 ≤ i) && decide (i ≤ 24))) μ := by
  rw [callD_eq hL rfl]
  simp -implicitDefEqProofs only [Law.d_is_layer_number, startE, exs_nil, exs_cons, ex_pass, ex_expr, ex_asg, ex_ifs, ex_for, ex_ret, ex_retN, ex_brk, ex_cont, ex_never, ev_var, ev_lit, ev_op1, ev_op2, ev_op3, ev_opN, ev_opM, ev_meth, ev_frz, ev_lst, ev_tup, ev_and, ev_or, ev_not, ev_ite, ev_chain, ev_call, ev_comp, evs_nil, evs_cons, Res.bind_assoc, evT, asgT_name, asgT_sub, asgT_tup, asgTs_nil, asgTs_cons, Res.bind_ok, Res.bind_exc, lift_some, noExc_ok, truth_bl, finish_rt, finish_nx, List.map_cons, List.map_nil, List.length_cons, List.length_nil, List.replicate_zero, List.replicate_succ, List.cons_append, List.nil_append, List.getElem?_cons_zero, List.getElem?_cons_succ, List.set_cons_zero, List.set_cons_succ, Bool.not_true, Bool.not_false, ↓reduceIte, Bool.false_eq_true, Nat.reduceAdd, Nat.reduceSub, Nat.reduceLT, Nat.reduceLeDiff, Nat.zero_add, id_eq, Nat.sub_self, Bool.true_and, Bool.and_true, Bool.false_and, Bool.and_false, Bool.true_or, Bool.or_true, Bool.false_or, Bool.or_false, is_between_int hP hW]
end
structure Base (P : String → Option FD) : Prop where
  whole : P "is_whole" = some Law.d_is_whole
  between : P "is_between" = some Law.d_is_between
  text : P "is_text_of" = some Law.d_is_text_of
  layer : P "is_layer_number" = some Law.d_is_layer_number
  stacked : P "is_stacked" = some Law.d_is_stacked
  closed1 : P "is_closed_one" = some Law.d_is_closed_one
section
variable {P : String → Option FD} {n : Nat} {μ : Store}
@[simp] theorem ptOf_one (k d : Nat) : ptOf k d (.int 1) = some (min 1 k) := rfl
@[simp] theorem ptOf_non (k d : Nat) : ptOf k d .non = some d := rfl
theorem drop1 (s : List Nat) : cutL s (min 1 s.length) s.length = s.drop 1 := by
  unfold cutL
  cases s with
  | nil => rfl
  | cons a s => simp
theorem sl_from1 (s : List Nat) (hs : s.length ≤ cap) : fSl μ (.str s) (.int 1) .non = some (.str (s.drop 1)) := by
  show (if s.length ≤ cap then _ else _) = _
  rw [if_pos hs]
  show some (D.str (cutL s (min 1 s.length) s.length)) = _
  rw [drop1]
theorem zip_strs (s t : List Nat) : fZip μ [.str s, .str t] = some ((s.zip t).map fun p => .tup [.str [p.1], .str [p.2]]) := by
  show some (((s.map fun c => D.str [c]).zip (t.map fun c => D.str [c])).map _) = _
  rw [List.zip_map, List.map_map]; rfl
theorem is_stacked_str (B : Base P) (s : List Nat) (hs : s.length ≤ cap) (hu : ∀ c ∈ s, c < 1114112) : callD P (n + 4) "is_stacked" [.str s] μ = .ok (.bl (stkB s)) μ := by
  rw [callD_eq B.stacked rfl]
  unfold stkB
  have e1 : callD P (n + 3) "is_text_of" [.str s, .str [65, 66, 67]] μ = .ok (.bl (s.all isL)) μ := by
    rw [is_text_of_str B.text _ _ hs]
    simp only [mem_abc]
  have e2 : callD P (n + 3) "is_layer_number" [.int s.length] μ = .ok (.bl (decide (1 ≤ s.length) && decide (s.length ≤ 24))) μ := by
    rw [is_layer_number_int B.layer B.between B.whole]
    have h1 : decide ((1 : Int) ≤ s.length) = decide (1 ≤ s.length) := by rw [decide_eq_decide]; omega
    have h2 : decide ((s.length : Int) ≤ 24) = decide (s.length ≤ 24) := by rw [decide_eq_decide]; omega
    rw [h1, h2]
  simp -implicitDefEqProofs only [Law.d_is_stacked, startE, exs_nil, exs_cons, ex_pass, ex_expr, ex_asg, ex_ifs, ex_for, ex_ret, ex_retN, ex_brk, ex_cont, ex_never, ev_var, ev_lit, ev_op1, ev_op2, ev_op3, ev_opN, ev_opM, ev_meth, ev_frz, ev_lst, ev_tup, ev_and, ev_or, ev_not, ev_ite, ev_chain, ev_call, ev_comp, evs_nil, evs_cons, Res.bind_assoc, evT, asgT_name, asgT_sub, asgT_tup, asgTs_nil, asgTs_cons, Res.bind_ok, Res.bind_exc, lift_some, noExc_ok, truth_bl, finish_rt, finish_nx, List.map_cons, List.map_nil, List.length_cons, List.length_nil, List.replicate_zero, List.replicate_succ, List.cons_append, List.nil_append, List.getElem?_cons_zero, List.getElem?_cons_succ, List.set_cons_zero, List.set_cons_succ, Bool.not_true, Bool.not_false, ↓reduceIte, Bool.false_eq_true, Nat.reduceAdd, Nat.reduceSub, Nat.reduceLT, Nat.reduceLeDiff, Nat.zero_add, id_eq, Nat.sub_self, Bool.true_and, Bool.and_true, Bool.false_and, Bool.and_false, Bool.true_or, Bool.or_true, Bool.false_or, Bool.or_false, e1]
  cases h1 : s.all isL with
  | false => simp -implicitDefEqProofs only [startE, exs_nil, exs_cons, ex_pass, ex_expr, ex_asg, ex_ifs, ex_for, ex_ret, ex_retN, ex_brk, ex_cont, ex_never, ev_var, ev_lit, ev_op1, ev_op2, ev_op3, ev_opN, ev_opM, ev_meth, ev_frz, ev_lst, ev_tup, ev_and, ev_or, ev_not, ev_ite, ev_chain, ev_call, ev_comp, evs_nil, evs_cons, Res.bind_assoc, evT, asgT_name, asgT_sub, asgT_tup, asgTs_nil, asgTs_cons, Res.bind_ok, Res.bind_exc, lift_some, noExc_ok, truth_bl, finish_rt, finish_nx, List.map_cons, List.map_nil, List.length_cons, List.length_nil, List.replicate_zero, List.replicate_succ, List.cons_append, List.nil_append, List.getElem?_cons_zero, List.getElem?_cons_succ, List.set_cons_zero, List.set_cons_succ, Bool.not_true, Bool.not_false, ↓reduceIte, Bool.false_eq_true, Nat.reduceAdd, Nat.reduceSub, Nat.reduceLT, Nat.reduceLeDiff, Nat.zero_add, id_eq, Nat.sub_self, Bool.true_and, Bool.and_true, Bool.false_and, Bool.and_false, Bool.true_or, Bool.or_true, Bool.false_or, Bool.or_false]
  | true =>
    simp -implicitDefEqProofs only [startE, exs_nil, exs_cons, ex_pass, ex_expr, ex_asg, ex_ifs, ex_for, ex_ret, ex_retN, ex_brk, ex_cont, ex_never, ev_var, ev_lit, ev_op1, ev_op2, ev_op3, ev_opN, ev_opM, ev_meth, ev_frz, ev_lst, ev_tup, ev_and, ev_or, ev_not, ev_ite, ev_chain, ev_call, ev_comp, evs_nil, evs_cons, Res.bind_assoc, evT, asgT_name, asgT_sub, asgT_tup, asgTs_nil, asgTs_cons, Res.bind_ok, Res.bind_exc, lift_some, noExc_ok, truth_bl, finish_rt, finish_nx, List.map_cons, List.map_nil, List.length_cons, List.length_nil, List.replicate_zero, List.replicate_succ, List.cons_append, List.nil_append, List.getElem?_cons_zero, List.getElem?_cons_succ, List.set_cons_zero, List.set_cons_succ, Bool.not_true, Bool.not_false, ↓reduceIte, Bool.false_eq_true, Nat.reduceAdd, Nat.reduceSub, Nat.reduceLT, Nat.reduceLeDiff, Nat.zero_add, id_eq, Nat.sub_self, Bool.true_and, Bool.and_true, Bool.false_and, Bool.and_false, Bool.true_or, Bool.or_true, Bool.false_or, Bool.or_false, len_str μ s hs, e2]
    cases h2 : (decide (1 ≤ s.length) && decide (s.length ≤ 24)) with
    | false => simp -implicitDefEqProofs only [startE, exs_nil, exs_cons, ex_pass, ex_expr, ex_asg, ex_ifs, ex_for, ex_ret, ex_retN, ex_brk, ex_cont, ex_never, ev_var, ev_lit, ev_op1, ev_op2, ev_op3, ev_opN, ev_opM, ev_meth, ev_frz, ev_lst, ev_tup, ev_and, ev_or, ev_not, ev_ite, ev_chain, ev_call, ev_comp, evs_nil, evs_cons, Res.bind_assoc, evT, asgT_name, asgT_sub, asgT_tup, asgTs_nil, asgTs_cons, Res.bind_ok, Res.bind_exc, lift_some, noExc_ok, truth_bl, finish_rt, finish_nx, List.map_cons, List.map_nil, List.length_cons, List.length_nil, List.replicate_zero, List.replicate_succ, List.cons_append, List.nil_append, List.getElem?_cons_zero, List.getElem?_cons_succ, List.set_cons_zero, List.set_cons_succ, Bool.not_true, Bool.not_false, ↓reduceIte, Bool.false_eq_true, Nat.reduceAdd, Nat.reduceSub, Nat.reduceLT, Nat.reduceLeDiff, Nat.zero_add, id_eq, Nat.sub_self, Bool.true_and, Bool.and_true, Bool.false_and, Bool.and_false, Bool.true_or, Bool.or_true, Bool.false_or, Bool.or_false]
    | true =>
      have hz : ((s.zip (s.drop 1)).map fun p => D.tup [D.str [p.1], D.str [p.2]]).length ≤ cap := by
        rw [List.length_map, List.length_zip]; exact Nat.le_trans (Nat.min_le_left _ _) hs
      simp -implicitDefEqProofs only [startE, exs_nil, exs_cons, ex_pass, ex_expr, ex_asg, ex_ifs, ex_for, ex_ret, ex_retN, ex_brk, ex_cont, ex_never, ev_var, ev_lit, ev_op1, ev_op2, ev_op3, ev_opN, ev_opM, ev_meth, ev_frz, ev_lst, ev_tup, ev_and, ev_or, ev_not, ev_ite, ev_chain, ev_call, ev_comp, evs_nil, evs_cons, Res.bind_assoc, evT, asgT_name, asgT_sub, asgT_tup, asgTs_nil, asgTs_cons, Res.bind_ok, Res.bind_exc, lift_some, noExc_ok, truth_bl, finish_rt, finish_nx, List.map_cons, List.map_nil, List.length_cons, List.length_nil, List.replicate_zero, List.replicate_succ, List.cons_append, List.nil_append, List.getElem?_cons_zero, List.getElem?_cons_succ, List.set_cons_zero, List.set_cons_succ, Bool.not_true, Bool.not_false, ↓reduceIte, Bool.false_eq_true, Nat.reduceAdd, Nat.reduceSub, Nat.reduceLT, Nat.reduceLeDiff, Nat.zero_add, id_eq, Nat.sub_self, Bool.true_and, Bool.and_true, Bool.false_and, Bool.and_false, Bool.true_or, Bool.or_true, Bool.false_or, Bool.or_false, fI, sl_from1 s hs, zip_strs, hz]
      rw [compLoop_map (fun p : Nat × Nat => D.tup [.str [p.1], .str [p.2]]) (fun p => .bl (p.1 != p.2))]
      · simp -implicitDefEqProofs only [startE, exs_nil, exs_cons, ex_pass, ex_expr, ex_asg, ex_ifs, ex_for, ex_ret, ex_retN, ex_brk, ex_cont, ex_never, ev_var, ev_lit, ev_op1, ev_op2, ev_op3, ev_opN, ev_opM, ev_meth, ev_frz, ev_lst, ev_tup, ev_and, ev_or, ev_not, ev_ite, ev_chain, ev_call, ev_comp, evs_nil, evs_cons, Res.bind_assoc, evT, asgT_name, asgT_sub, asgT_tup, asgTs_nil, asgTs_cons, Res.bind_ok, Res.bind_exc, lift_some, noExc_ok, truth_bl, finish_rt, finish_nx, List.map_cons, List.map_nil, List.length_cons, List.length_nil, List.replicate_zero, List.replicate_succ, List.cons_append, List.nil_append, List.getElem?_cons_zero, List.getElem?_cons_succ, List.set_cons_zero, List.set_cons_succ, Bool.not_true, Bool.not_false, ↓reduceIte, Bool.false_eq_true, Nat.reduceAdd, Nat.reduceSub, Nat.reduceLT, Nat.reduceLeDiff, Nat.zero_add, id_eq, Nat.sub_self, Bool.true_and, Bool.and_true, Bool.false_and, Bool.and_false, Bool.true_or, Bool.or_true, Bool.false_or, Bool.or_false, mkL_val _ _ (show ((s.zip (s.drop 1)).map fun p => D.bl (p.1 != p.2)).length ≤ cap by rw [List.length_map] at hz ⊢; exact hz), all_map]
      · intro p hp
        obtain ⟨a, b⟩ := p
        have ha := hu a (List.of_mem_zip hp).1
        have hb := hu b (List.mem_of_mem_drop (List.of_mem_zip hp).2)
        simp -implicitDefEqProofs only [startE, exs_nil, exs_cons, ex_pass, ex_expr, ex_asg, ex_ifs, ex_for, ex_ret, ex_retN, ex_brk, ex_cont, ex_never, ev_var, ev_lit, ev_op1, ev_op2, ev_op3, ev_opN, ev_opM, ev_meth, ev_frz, ev_lst, ev_tup, ev_and, ev_or, ev_not, ev_ite, ev_chain, ev_call, ev_comp, evs_nil, evs_cons, Res.bind_assoc, evT, asgT_name, asgT_sub, asgT_tup, asgTs_nil, asgTs_cons, Res.bind_ok, Res.bind_exc, lift_some, noExc_ok, truth_bl, finish_rt, finish_nx, List.map_cons, List.map_nil, List.length_cons, List.length_nil, List.replicate_zero, List.replicate_succ, List.cons_append, List.nil_append, List.getElem?_cons_zero, List.getElem?_cons_succ, List.set_cons_zero, List.set_cons_succ, Bool.not_true, Bool.not_false, ↓reduceIte, Bool.false_eq_true, Nat.reduceAdd, Nat.reduceSub, Nat.reduceLT, Nat.reduceLeDiff, Nat.zero_add, id_eq, Nat.sub_self, Bool.true_and, Bool.and_true, Bool.false_and, Bool.and_false, Bool.true_or, Bool.or_true, Bool.false_or, Bool.or_false, compStep, forStep, bindT_name, bindT_tup, bindT_str, bindTs_nil, bindTs_cons, wipeE, List.length_set, ne_sign μ a b ha hb]
end
end Ev
namespace Ev
open Res
/-! ## the law's own draws: a list of three ints in the store -/
def IsW (w : Nat) (μ : Store) : Prop := ∃ a b c : Int, μ[w]? = some (.lst [.int a, .int b, .int c])
def WL (w : Nat) (μ μ' : Store) : Prop := ∃ a b c : Int, μ' = μ.set w (.lst [.int a, .int b, .int c])
theorem IsW.lt {w : Nat} {μ : Store} (h : IsW w μ) : w < μ.length := by
  obtain ⟨a, b, c, h⟩ := h
  exact (List.getElem?_eq_some_iff.mp h).1
theorem WL.isW {w : Nat} {μ μ' : Store} (h : IsW w μ) (k : WL w μ μ') : IsW w μ' := by
  obtain ⟨a, b, c, rfl⟩ := k
  exact ⟨a, b, c, by rw [List.getElem?_set_self h.lt]⟩
theorem WL.trans {w : Nat} {μ μ1 μ2 : Store} (k : WL w μ μ1) (k2 : WL w μ1 μ2) : WL w μ μ2 := by
  obtain ⟨a, b, c, rfl⟩ := k
  obtain ⟨a2, b2, c2, rfl⟩ := k2
  exact ⟨a2, b2, c2, by rw [List.set_set]⟩
theorem WL.refl {w : Nat} {μ : Store} (h : IsW w μ) : WL w μ μ := by
  obtain ⟨a, b, c, h⟩ := h
  refine ⟨a, b, c, ?_⟩
  obtain ⟨hl, e⟩ := List.getElem?_eq_some_iff.mp h
  rw [← e, List.set_getElem_self]
theorem WL.len {w : Nat} {μ μ' : Store} (k : WL w μ μ') : μ'.length = μ.length := by
  obtain ⟨a, b, c, rfl⟩ := k
  exact List.length_set ..
theorem trunc_len {μ μ' : Store} (d : D) (h : μ'.length = μ.length) : trunc μ d μ' = .ok d μ' := by
  unfold trunc
  split
  · rw [← h, List.take_length]
  · rfl
theorem finish_len {μ μ' : Store} (d : D) (h : μ'.length = μ.length) : finish μ (.rt d) μ' = .ok d μ' := trunc_len d h
theorem ix_ref {μ : Store} {w : Nat} {ds : List D} (h : μ[w]? = some (.lst ds)) (i : Int) : fIx μ (.ref w) (.int i) = (ixOf ds.length i).bind fun j => ds[j]? := by
  simp only [fIx, asL, h]
theorem set_ref {μ : Store} {w : Nat} {ds : List D} (h : μ[w]? = some (.lst ds)) {i : Int} {j : Nat} (hj : ixOf ds.length i = some j) {d : D} (hd : noLst d = true) : setIx (.ref w) (.int i) d μ = some (μ.set w (.lst (ds.set j d))) := by
  simp only [setIx, h, hj, hd, ↓reduceIte]
theorem mod_pos (μ : Store) (i : Int) {j : Int} (h : 0 < j) : fMod μ (.int i) (.int j) = some (.int (i % j)) := by simp only [fMod, h, ↓reduceIte]
theorem div_pos (μ : Store) (i : Int) {j : Int} (h : 0 < j) (h2 : j.natAbs.log2 < 9000) : fDiv μ (.int i) (.int j) = some (.int (i / j)) := by simp only [fDiv, h, h2, and_self, ↓reduceIte]
theorem mul_r (μ : Store) (i : Int) {j : Int} (h : j.natAbs < 18446744073709551616) : fMul μ (.int i) (.int j) = some (.int (i * j)) := by
  have : mulOk i j = true := by unfold mulOk; rw [decide_eq_true h]; simp
  simp only [fMul, this, ↓reduceIte]
theorem mul_l (μ : Store) {i : Int} (j : Int) (h : i.natAbs < 18446744073709551616) : fMul μ (.int i) (.int j) = some (.int (i * j)) := by
  have : mulOk i j = true := by unfold mulOk; rw [decide_eq_true h]; simp
  simp only [fMul, this, ↓reduceIte]
theorem add_int (μ : Store) (i j : Int) : fAdd μ (.int i) (.int j) = some (.int (i + j)) := rfl
theorem sub_int (μ : Store) (i j : Int) : fSub μ (.int i) (.int j) = some (.int (i - j)) := rfl
theorem lt_int (μ : Store) (i j : Int) : fLt μ (.int i) (.int j) = some (.bl (decide (i < j))) := rfl
theorem gt_int (μ : Store) (i j : Int) : fGt μ (.int i) (.int j) = some (.bl (decide (j < i))) := rfl
theorem ge_int (μ : Store) (i j : Int) : fGe μ (.int i) (.int j) = some (.bl (decide (j ≤ i))) := rfl
theorem int_int (μ : Store) (i : Int) : fInt μ [.int i] = some (.int i) := rfl
theorem neg_int (μ : Store) (i : Int) : fNeg μ (.int i) = some (.int (-i)) := rfl
theorem fI_int (μ : Store) (i : Int) : fI μ (.int i) = some (.int i) := rfl
end Ev
namespace Ev
open Res
theorem ixOf_nat {n i : Nat} (h : i < n) : ixOf n (i : Int) = some i := by
  unfold ixOf
  rw [if_pos (by omega), if_pos (by omega)]
  simp
theorem ixOf_int {n : Nat} {i : Int} (h0 : 0 ≤ i) (h : i < n) : ixOf n i = some i.toNat := by
  unfold ixOf
  rw [if_pos h0, if_pos h]
theorem ixOf_neg {n : Nat} {j : Nat} (h0 : 0 < j) (h : j ≤ n) : ixOf n (-(j : Int)) = some (n - j) := by
  unfold ixOf
  rw [if_neg (by omega), if_pos (by omega)]
  congr 1
  omega
theorem getD_of {α : Type} {s : List α} {i : Nat} (d : α) (h : i < s.length) : s[i]? = some (s.getD i d) := by
  simp [List.getD, h]
theorem ix_str (μ : Store) {s : List Nat} (hs : s.length ≤ cap) {i : Int} (h0 : 0 ≤ i) (h : i < s.length) : fIx μ (.str s) (.int i) = some (.str [s.getD i.toNat 0]) := by
  simp only [fIx, hs, ↓reduceIte, ixOf_int h0 h, Option.bind_some]
  rw [getD_of 0 (by omega)]; rfl
theorem ix_strN (μ : Store) {s : List Nat} (hs : s.length ≤ cap) {i : Nat} (h : i < s.length) : fIx μ (.str s) (.int i) = some (.str [s.getD i 0]) := by
  rw [ix_str μ hs (by omega) (by omega)]; simp
theorem ix_strE (μ : Store) {s : List Nat} (hs : s.length ≤ cap) {j : Nat} (h0 : 0 < j) (h : j ≤ s.length) : fIx μ (.str s) (.int (-(j : Int))) = some (.str [s.getD (s.length - j) 0]) := by
  simp only [fIx, hs, ↓reduceIte, ixOf_neg h0 h, Option.bind_some]
  rw [getD_of 0 (by omega)]; rfl
theorem ix_lst (μ : Store) {ds : List D} {i : Int} (h0 : 0 ≤ i) (h : i < ds.length) : fIx μ (.lst ds) (.int i) = some (ds.getD i.toNat .non) := by
  simp only [fIx, asL, ixOf_int h0 h, Option.bind_some]
  rw [getD_of .non (by omega)]
theorem ix_tup (μ : Store) {ds : List D} {i : Int} (h0 : 0 ≤ i) (h : i < ds.length) : fIx μ (.tup ds) (.int i) = some (ds.getD i.toNat .non) := by
  simp only [fIx, ixOf_int h0 h, Option.bind_some]
  rw [getD_of .non (by omega)]
theorem len_lst (μ : Store) (ds : List D) : fLen μ [.lst ds] = some (.int ds.length) := rfl
theorem len_tup (μ : Store) (ds : List D) : fLen μ [.tup ds] = some (.int ds.length) := rfl
theorem rng1 (μ : Store) {n : Nat} (h : n < 1000000) : fRng1 μ [.int n] = some ((List.range n).map fun k => .int (k : Nat)) := by
  have h1 : rngOk (n : Int) = true := by unfold rngOk; simp; omega
  simp only [fRng1, h1, ↓reduceIte, rngD, Int.toNat_natCast]
  refine congrArg some (List.map_congr_left fun k _ => ?_)
  simp
/-! ## loops -/
theorem forLoop_inv {step : Env → D → Store → Res Fl} (I : Nat → Env → Store → Prop) : ∀ (items : List D) (i : Nat) (ρ : Env) (μ : Store), I i ρ μ →
    (∀ (j : Nat) (d : D) (ρ : Env) (μ : Store), items[j]? = some d → I (i + j) ρ μ → ∃ ρ' μ', step ρ d μ = .ok (.nx ρ') μ' ∧ I (i + j + 1) ρ' μ') →
    ∃ ρ' μ', forLoop step items ρ μ = .ok (.nx ρ') μ' ∧ I (i + items.length) ρ' μ'
  | [], i, ρ, μ, h0, _ => ⟨ρ, μ, rfl, h0⟩
  | d :: items, i, ρ, μ, h0, hs => by
    obtain ⟨ρ1, μ1, e1, h1⟩ := hs 0 d ρ μ rfl h0
    obtain ⟨ρ2, μ2, e2, h2⟩ := forLoop_inv I items (i + 1) ρ1 μ1 h1 fun j d ρ μ hd hi => by
      have := hs (j + 1) d ρ μ (by simpa using hd) (by rw [show i + (j + 1) = i + 1 + j by omega]; exact hi)
      rw [show i + 1 + j + 1 = i + (j + 1) + 1 by omega]; exact this
    refine ⟨ρ2, μ2, ?_, ?_⟩
    · rw [forLoop, e1, bind_ok]; exact e2
    · rw [List.length_cons, show i + (items.length + 1) = i + 1 + items.length by omega]; exact h2
end Ev
namespace Ev
open Res
/-- the sign at a place -/
abbrev at' (s : List Nat) (i : Nat) : Nat := s.getD i 0
theorem at_mem {s : List Nat} {i : Nat} (h : i < s.length) : at' s i ∈ s := by simp [at', List.getD, h]
/-- a stacking -/
structure Stk (s : List Nat) : Prop where
  pos : 1 ≤ s.length
  le : s.length ≤ 24
  ltr : ∀ c ∈ s, isL c = true
  nb : ∀ i, i + 1 < s.length → at' s i ≠ at' s (i + 1)
/-- a closed one -/
structure Clo (s : List Nat) : Prop extends Stk s where
  rd : at' s 0 ≠ at' s (s.length - 1)
theorem nb_iff : ∀ s : List Nat, ((s.zip (s.drop 1)).all fun p => p.1 != p.2) = true ↔ ∀ i, i + 1 < s.length → at' s i ≠ at' s (i + 1)
  | [] => by simp
  | [a] => by simp
  | a :: b :: s => by
    have ih := nb_iff (b :: s)
    simp only [List.drop_succ_cons, List.drop_zero, List.zip_cons_cons, List.all_cons, Bool.and_eq_true] at ih ⊢
    have e : ((s.drop 0)) = s := rfl
    constructor
    · intro ⟨h1, h2⟩ i hi
      cases i with
      | zero => simpa using h1
      | succ i =>
        have := ih.mp h2 i (by simpa using hi)
        simpa using this
    · intro h
      refine ⟨by simpa using h 0 (by simp), ih.mpr fun i hi => ?_⟩
      have := h (i + 1) (by simpa using hi)
      simpa using this
theorem stkB_iff (s : List Nat) : stkB s = true ↔ Stk s := by
  unfold stkB
  rw [Bool.and_eq_true, Bool.and_eq_true, Bool.and_eq_true, nb_iff, List.all_eq_true, decide_eq_true_iff, decide_eq_true_iff]
  exact ⟨fun ⟨⟨⟨a, b⟩, c⟩, d⟩ => ⟨b, c, a, d⟩, fun h => ⟨⟨⟨h.ltr, h.pos⟩, h.le⟩, h.nb⟩⟩
theorem Stk.cap {s : List Nat} (h : Stk s) : s.length ≤ cap := Nat.le_trans h.le (by decide)
theorem Stk.at {s : List Nat} (h : Stk s) {i : Nat} (hi : i < s.length) : isL (at' s i) = true := h.ltr _ (at_mem hi)
theorem Clo.two {s : List Nat} (h : Clo s) : 2 ≤ s.length := by
  have h1 := h.pos
  have := h.rd
  by_cases h2 : s.length = 1
  · rw [h2] at this; exact absurd rfl this
  · omega
/-- neighbours, going round -/
theorem Clo.ring {s : List Nat} (h : Clo s) {i : Nat} (hi : i < s.length) : at' s i ≠ at' s ((i + 1) % s.length) := by
  by_cases h1 : i + 1 < s.length
  · rw [Nat.mod_eq_of_lt h1]; exact h.nb i h1
  · have e : i + 1 = s.length := by omega
    rw [e, Nat.mod_self, show i = s.length - 1 by omega]
    exact fun z => h.rd z.symm
section
variable {P : String → Option FD} {n : Nat} {μ : Store}
/-! ### letters -/
theorem isL_cases {c : Nat} (h : isL c = true) : c = 65 ∨ c = 66 ∨ c = 67 := by
  unfold isL at h; simp at h; omega
theorem index_abc (μ : Store) {c : Nat} (h : isL c = true) : mIndex [.str [65, 66, 67], .str [c]] μ = .ok (.int ((c : Int) - 65)) μ := by
  rcases isL_cases h with rfl | rfl | rfl <;> rfl
theorem number_of_ok (hP : P "number_of" = some Law.d_number_of) {c : Nat} (h : isL c = true) : callD P (n + 1) "number_of" [.str [c]] μ = .ok (.int ((c : Int) - 65)) μ := by
  rw [callD_eq hP rfl]
  simp -implicitDefEqProofs only [Law.d_number_of, startE, exs_nil, exs_cons, ex_pass, ex_expr, ex_asg, ex_ifs, ex_for, ex_ret, ex_retN, ex_brk, ex_cont, ex_never, ev_var, ev_lit, ev_op1, ev_op2, ev_op3, ev_opN, ev_opM, ev_meth, ev_frz, ev_lst, ev_tup, ev_and, ev_or, ev_not, ev_ite, ev_chain, ev_call, ev_comp, evs_nil, evs_cons, Res.bind_assoc, evT, asgT_name, asgT_sub, asgT_tup, asgTs_nil, asgTs_cons, Res.bind_ok, Res.bind_exc, lift_some, noExc_ok, truth_bl, finish_rt, finish_nx, List.map_cons, List.map_nil, List.length_cons, List.length_nil, List.replicate_zero, List.replicate_succ, List.cons_append, List.nil_append, List.getElem?_cons_zero, List.getElem?_cons_succ, List.set_cons_zero, List.set_cons_succ, Bool.not_true, Bool.not_false, ↓reduceIte, Bool.false_eq_true, Nat.reduceAdd, Nat.reduceSub, Nat.reduceLT, Nat.reduceLeDiff, Nat.zero_add, id_eq, Nat.sub_self, Bool.true_and, Bool.and_true, Bool.false_and, Bool.and_false, Bool.true_or, Bool.or_true, Bool.false_or, Bool.or_false, isStr, index_abc μ h]
end
end Ev
namespace Ev
open Res
/-- letters, unlike neighbours -/
structure Pre (s : List Nat) : Prop where
  ltr : ∀ c ∈ s, isL c = true
  nb : ∀ i, i + 1 < s.length → at' s i ≠ at' s (i + 1)
theorem Pre.one {c : Nat} (h : isL c = true) : Pre [c] := ⟨fun d hd => by rw [List.mem_singleton.mp hd]; exact h, fun i hi => by simp at hi⟩
theorem at_app {s : List Nat} {c i : Nat} (h : i < s.length) : at' (s ++ [c]) i = at' s i := by
  show (s ++ [c]).getD i 0 = s.getD i 0
  rw [List.getD_eq_getElem?_getD, List.getD_eq_getElem?_getD, List.getElem?_append_left h]
theorem at_last (s : List Nat) (c : Nat) : at' (s ++ [c]) s.length = c := by simp [at']
theorem Pre.app {s : List Nat} {c : Nat} (h : Pre s) (hc : isL c = true) (hn : 0 < s.length → c ≠ at' s (s.length - 1)) : Pre (s ++ [c]) := by
  refine ⟨fun d hd => ?_, fun i hi => ?_⟩
  · rcases List.mem_append.mp hd with z | z
    · exact h.ltr d z
    · rw [List.mem_singleton.mp z]; exact hc
  · rw [List.length_append, List.length_singleton] at hi
    by_cases h1 : i + 1 < s.length
    · rw [at_app (by omega), at_app h1]; exact h.nb i h1
    · have e : i + 1 = s.length := by omega
      rw [e, at_last, at_app (by omega), show i = s.length - 1 by omega]
      exact fun z => hn (by omega) z.symm
theorem Pre.stk {s : List Nat} (h : Pre s) (h1 : 1 ≤ s.length) (h2 : s.length ≤ 24) : Stk s := ⟨h1, h2, h.ltr, h.nb⟩
theorem abc_ex {a b : Nat} (ha : isL a = true) (hb : isL b = true) : ∃ c ∈ [65, 66, 67], c ≠ a ∧ c ≠ b := by
  rcases isL_cases ha with rfl | rfl | rfl <;> rcases isL_cases hb with rfl | rfl | rfl <;> decide
theorem abc_isL {c : Nat} (h : c ∈ [65, 66, 67]) : isL c = true := by
  simp at h
  rcases h with rfl | rfl | rfl <;> rfl
theorem add_str (μ : Store) {s t : List Nat} (h : s.length + t.length ≤ cap) : fAdd μ (.str s) (.str t) = some (.str (s ++ t)) := by
  simp only [fAdd, h, ↓reduceIte]
theorem val_str (μ : Store) (s : List Nat) : fVal μ [.str s] = some (s.map fun c => .str [c]) := rfl
theorem val_lst (μ : Store) (ds : List D) : fVal μ [.lst ds] = some ds := rfl
theorem rng2 (μ : Store) {i j : Nat} (h : j < 1000000) (hij : i ≤ j) : fRng2 μ [.int i, .int j] = some ((List.range (j - i)).map fun k => .int ((i + k : Nat) : Int)) := by
  have h1 : rngOk (i : Int) = true := by unfold rngOk; simp; omega
  have h2 : rngOk (j : Int) = true := by unfold rngOk; simp; omega
  have h3 : ((j : Int) - i).toNat = j - i := by omega
  simp only [fRng2, h1, h2, Bool.and_self, ↓reduceIte, rngD, h3]
  refine congrArg some (List.map_congr_left fun k _ => ?_)
  simp
theorem get_rng0 {n j : Nat} {d : D} {f : Nat → D} (h : ((List.range n).map f)[j]? = some d) : j < n ∧ d = f j := by
  rw [List.getElem?_map] at h
  by_cases hj : j < n
  · rw [List.getElem?_range hj] at h
    exact ⟨hj, (Option.some.inj h).symm⟩
  · rw [List.getElem?_eq_none (by rw [List.length_range]; omega)] at h; cases h
end Ev
namespace Ev
open Res
theorem sl_scr (μ : Store) (ns : List Int) (k : Nat) : ∃ l : List Int, fSl μ (.scr ns) .non (.int k) = some (.lst (l.map .int)) ∧ l.length ≤ k := by
  have h1 : ptOf ns.length ns.length (.int k) = some (min k ns.length) := by
    show some (if (k : Int) < 0 then _ else min (k : Int).toNat ns.length) = _
    rw [if_neg (by omega)]; rfl
  refine ⟨cutL ns 0 (min k ns.length), ?_, ?_⟩
  · simp only [fSl, ptOf_non, h1]
  · unfold cutL
    rw [List.length_take]
    exact Nat.le_trans (Nat.min_le_left _ _) (Nat.le_trans (Nat.sub_le _ _) (Nat.min_le_left _ _))
theorem add_lsts (μ : Store) {a b : List D} (h : a.length + b.length ≤ cap) : fAdd μ (.lst a) (.lst b) = some (.lst (a ++ b)) := by
  simp only [fAdd, asL, h, ↓reduceIte]
theorem len_scr (μ : Store) (ns : List Int) : fLen μ [.scr ns] = some (.int ns.length) := rfl
theorem ix_scr (μ : Store) {ns : List Int} {i : Nat} (h : i < ns.length) : fIx μ (.scr ns) (.int i) = some (.int (ns.getD i 0)) := by
  simp only [fIx, ixOf_nat h, Option.bind_some]
  rw [getD_of 0 h]; rfl
end Ev
namespace Ev
open Res
theorem get_mid {α : Type} (a : List α) (x : α) (r : List α) : (a ++ x :: r)[a.length]? = some x := by simp
theorem join_nil : ∀ xs : List Nat, joinL [] (xs.map fun c => [c]) = xs
  | [] => rfl
  | [c] => rfl
  | c :: d :: xs => by
    have := join_nil (d :: xs)
    simp only [List.map_cons] at this ⊢
    rw [joinL, this]; rfl
    intro z; cases z
section
variable {P : String → Option FD} {n : Nat} {μ : Store}
theorem sum_ones : ∀ xs : List Nat, ((xs.map fun c => [c]).map List.length).sum = xs.length
  | [] => rfl
  | a :: xs => by
    rw [List.map_cons, List.map_cons, List.sum_cons, sum_ones xs, List.length_cons]
    simp; omega
theorem join_signs (xs : List Nat) (h : xs.length ≤ cap) : mJoin [.str [], .lst (xs.map fun c => .str [c])] μ = .ok (.str xs) μ := by
  have hs : strsOf (xs.map fun c => D.str [c]) = some (xs.map fun c => [c]) := strsOf_map (fun c => [c]) xs
  have hsum : ((xs.map fun c => [c]).map List.length).sum + (xs.map fun c => [c]).length * ([] : List Nat).length ≤ cap := by
    rw [sum_ones]; simpa using h
  simp only [mJoin, seqOf, asL, hs]
  rw [if_pos hsum, join_nil]
end
end Ev
namespace Ev
open Res
/-! ## what holds in each law -/
def lastD (f : List Nat) : Nat := at' f (f.length - 1)
theorem lastD_app (f : List Nat) (c : Nat) : lastD (f ++ [c]) = c := by
  unfold lastD
  rw [List.length_append, List.length_singleton, Nat.add_sub_cancel]
  exact at_last _ _
section
variable {P : String → Option FD} {n : Nat} {μ : Store}
theorem cap100 {n : Nat} (h : n ≤ 100) : n ≤ cap := Nat.le_trans h (by decide)
theorem mcount (s : List Nat) (c : Nat) : mCount [.str s, .str [c]] μ = .ok (.int (s.count c : Nat)) μ := rfl
theorem sl_from (s : List Nat) (hs : s.length ≤ cap) {a : Nat} (ha : a ≤ s.length) : fSl μ (.str s) (.int a) .non = some (.str (s.drop a)) := by
  have h1 : ptOf s.length 0 (.int a) = some a := by
    show some (if (a : Int) < 0 then _ else min (a : Int).toNat s.length) = _
    rw [if_neg (by omega)]; simp; omega
  simp only [fSl, hs, ↓reduceIte, h1, ptOf_non]
  unfold cutL
  rw [List.take_of_length_le (by rw [List.length_drop]; omega)]
theorem sl_to (s : List Nat) (hs : s.length ≤ cap) {a : Nat} (ha : a ≤ s.length) : fSl μ (.str s) .non (.int a) = some (.str (s.take a)) := by
  have h1 : ptOf s.length s.length (.int a) = some a := by
    show some (if (a : Int) < 0 then _ else min (a : Int).toNat s.length) = _
    rw [if_neg (by omega)]; simp; omega
  simp only [fSl, hs, ↓reduceIte, h1, ptOf_non]
  unfold cutL
  rw [List.drop_zero, Nat.sub_zero]
theorem sl_but1 (s : List Nat) (hs : s.length ≤ cap) (h0 : 1 ≤ s.length) : fSl μ (.str s) .non (.int (-1)) = some (.str (s.take (s.length - 1))) := by
  have h1 : ptOf s.length s.length (.int (-1)) = some (s.length - 1) := by
    show some (if (-1 : Int) < 0 then ((-1 : Int) + (s.length : Nat)).toNat else _) = _
    rw [if_pos (by decide)]; congr 1; omega
  simp only [fSl, hs, ↓reduceIte, h1, ptOf_non]
  unfold cutL
  rw [List.drop_zero, Nat.sub_zero]
theorem ix_last (μ : Store) {f : List Nat} (h : f.length ≤ cap) (h1 : 1 ≤ f.length) : fIx μ (.str f) (.int (-1)) = some (.str [lastD f]) := ix_strE μ h (j := 1) (by omega) h1
end
def dk (μ : Store) (n : Nat) : Bool := match μ[n]? with
  | some (.dct kvs) => decide ((kvs.map (·.1)).Nodup) && flatDs kvs
  | _ => false
mutual
def gv (μ : Store) : Nat → D → Bool
  | _, .non => true
  | _, .bl _ => true
  | _, .int _ => true
  | _, .str s => s.all (· < 1114112)
  | _, .ref n => dk μ n
  | k + 1, .tup ds => decide (ds.length < 1000000) && gvs μ k ds
  | k + 1, .lst ds => decide (ds.length < 1000000) && gvs μ k ds
  | _, _ => false
def gvs (μ : Store) : Nat → List D → Bool
  | _, [] => true
  | k, d :: ds => gv μ k d && gvs μ k ds
end
mutual
theorem gv_mono {μ μ' : Store} (h : ∀ n, dk μ n = true → dk μ' n = true) : ∀ (k : Nat) (d : D), gv μ k d = true → gv μ' k d = true
  | _, .non, _ => by unfold gv; rfl
  | _, .bl _, _ => by unfold gv; rfl
  | _, .int _, _ => by unfold gv; rfl
  | _, .str s, g => by unfold gv at g ⊢; exact g
  | _, .ref n, g => by unfold gv at g ⊢; exact h n g
  | k + 1, .tup ds, g => by
    unfold gv at g ⊢
    obtain ⟨h1, h2⟩ := Bool.and_eq_true_iff.mp g
    rw [h1, gvs_mono h k ds h2]; rfl
  | k + 1, .lst ds, g => by
    unfold gv at g ⊢
    obtain ⟨h1, h2⟩ := Bool.and_eq_true_iff.mp g
    rw [h1, gvs_mono h k ds h2]; rfl
  | 0, .tup _, g => by unfold gv at g; cases g
  | 0, .lst _, g => by unfold gv at g; cases g
  | _, .gl _, g => by unfold gv at g; cases g
  | _, .ty _, g => by unfold gv at g; cases g
  | _, .scr _, g => by unfold gv at g; cases g
  | _, .dcv _ _, g => by unfold gv at g; cases g
  | _, .exv _ _ _, g => by unfold gv at g; cases g
theorem gvs_mono {μ μ' : Store} (h : ∀ n, dk μ n = true → dk μ' n = true) : ∀ (k : Nat) (ds : List D), gvs μ k ds = true → gvs μ' k ds = true
  | _, [], _ => by unfold gvs; rfl
  | k, d :: ds, g => by
    unfold gvs at g ⊢
    obtain ⟨h1, h2⟩ := Bool.and_eq_true_iff.mp g
    rw [gv_mono h k d h1, gvs_mono h k ds h2]; rfl
end
theorem dk_dct {μ : Store} {n : Nat} (h : dk μ n = true) : ∃ kvs, μ[n]? = some (.dct kvs) ∧ (kvs.map (·.1)).Nodup ∧ flatDs kvs = true := by
  unfold dk at h
  split at h
  · rename_i kvs e
    obtain ⟨h1, h2⟩ := Bool.and_eq_true_iff.mp h
    exact ⟨kvs, e, of_decide_eq_true h1, h2⟩
  · cases h
theorem isi_ref {μ : Store} {n : Nat} (h : dk μ n = true) : fIsiD μ [.ref n, .ty "tuple"] = some (.bl false) ∧ fIsiD μ [.ref n, .ty "list"] = some (.bl false) ∧ fIsiD μ [.ref n, .ty "dict"] = some (.bl true) ∧ fIsiD μ [.ref n, .ty "str"] = some (.bl false) := by
  obtain ⟨kvs, e, _⟩ := dk_dct h
  have t : tyD μ (.ref n) = some "dict" := by
    unfold tyD
    simp only [dctR, e, Option.isSome_some, ↓reduceIte]
  simp only [fIsiD, t]
  exact ⟨rfl, rfl, rfl, rfl⟩
section
variable {P : String → Option FD} {n : Nat} {μ : Store}
theorem ne_intX (μ : Store) (i : Int) : fNe μ (.int i) (.int i) = some (.bl false) := by simp [fNe, rd, asL, cmpOk, eqD]
end
def cloB (s : List Nat) : Bool := stkB s && (at' s 0 != at' s (s.length - 1))
def stV : D → Bool
  | .str s => stkB s
  | _ => false
def cloV : D → Bool
  | .str s => cloB s
  | _ => false
structure OkV (μ : Store) (v : D) : Prop where
  g : gv μ 2 v = true
  s : ∀ s, v = .str s → s.length ≤ 1000
theorem OkV.cases {μ : Store} {v : D} (h : OkV μ v) : (∃ s, v = .str s ∧ s.length ≤ 1000 ∧ ∀ c ∈ s, c < 1114112) ∨ (fIsiD μ [v, .ty "str"] = some (.bl false) ∧ stV v = false ∧ cloV v = false) := by
  have g := h.g
  cases v with
  | str s =>
    refine .inl ⟨s, rfl, h.s s rfl, fun c hc => ?_⟩
    unfold gv at g
    have := List.all_eq_true.mp g c hc
    exact of_decide_eq_true this
  | non => exact .inr ⟨rfl, rfl, rfl⟩
  | bl b => exact .inr ⟨rfl, rfl, rfl⟩
  | int i => exact .inr ⟨rfl, rfl, rfl⟩
  | tup ds => exact .inr ⟨rfl, rfl, rfl⟩
  | lst ds => exact .inr ⟨rfl, rfl, rfl⟩
  | ref n =>
    unfold gv at g
    exact .inr ⟨(isi_ref g).2.2.2, rfl, rfl⟩
  | gl x => unfold gv at g; cases g
  | ty x => unfold gv at g; cases g
  | scr x => unfold gv at g; cases g
  | dcv x y => unfold gv at g; cases g
  | exv x y z => unfold gv at g; cases g
theorem cap1000 {n : Nat} (h : n ≤ 1000) : n ≤ cap := Nat.le_trans h (by decide)
theorem eq_nil_ints (μ : Store) {α : Type} (f : α → Int) (l : List α) : fEq μ (.lst (l.map fun a => D.int (f a))) (.lst []) = some (.bl l.isEmpty) := by
  have c1 : ∀ (k : Nat) (l : List α), cmpOks k (l.map fun a => D.int (f a)) = true := fun k l => by
    induction l with
    | nil => unfold cmpOks; rfl
    | cons a l ih => rw [List.map_cons]; unfold cmpOks; rw [ih, Bool.and_true]; cases k <;> (unfold cmpOk; rfl)
  have c2 : cmpOk 8 (.lst (l.map fun a => D.int (f a))) = true := by unfold cmpOk; exact c1 7 l
  have c3 : cmpOk 8 (.lst []) = true := by unfold cmpOk cmpOks; rfl
  simp only [fEq, rd, asL, c2, c3, Bool.and_self, ↓reduceIte]
  cases l with
  | nil => unfold eqD eqDs; rfl
  | cons a l => rw [List.map_cons]; unfold eqD eqDs; rfl
section
variable {P : String → Option FD} {n : Nat} {μ : Store}
theorem ends_ne (μ : Store) {s : List Nat} (h : Stk s) : fIx μ (.str s) (.int 0) = some (.str [at' s 0]) ∧ fIx μ (.str s) (.int (-1)) = some (.str [at' s (s.length - 1)]) ∧ fNe μ (.str [at' s 0]) (.str [at' s (s.length - 1)]) = some (.bl (at' s 0 != at' s (s.length - 1))) := by
  have hp := h.pos
  exact ⟨ix_strN μ h.cap (i := 0) (by omega), ix_strE μ h.cap (j := 1) (by omega) (by omega), ne_sign μ _ _ (isL_lt (h.at (by omega))) (isL_lt (h.at (by omega)))⟩
end
theorem eq_strg (μ : Store) {s t : List Nat} (hs : ∀ c ∈ s, c < 1114112) (ht : ∀ c ∈ t, c < 1114112) : fEq μ (.str s) (.str t) = some (.bl (s == t)) := by
  have c1 : cmpOk 8 (.str s) = true := by unfold cmpOk; exact List.all_eq_true.mpr fun c hc => decide_eq_true (hs c hc)
  have c2 : cmpOk 8 (.str t) = true := by unfold cmpOk; exact List.all_eq_true.mpr fun c hc => decide_eq_true (ht c hc)
  simp only [fEq, rd, asL, c1, c2, Bool.and_self, ↓reduceIte]
  unfold eqD; rfl
theorem eq_intX (μ : Store) (i j : Int) : fEq μ (.int i) (.int j) = some (.bl (i == j)) := by simp [fEq, rd, asL, cmpOk, eqD]
theorem cmp_str (k : Nat) {s : List Nat} (hs : ∀ c ∈ s, c < 1114112) : cmpOk k (.str s) = true := by
  cases k <;> (unfold cmpOk; exact List.all_eq_true.mpr fun c hc => decide_eq_true (hs c hc))
theorem mkL1 (μ : Store) (d : D) : mkL false [d] μ = .ok (.lst [d]) μ := mkL_val _ _ (show 1 ≤ cap by decide)
theorem mkL2 (μ : Store) (d e : D) : mkL false [d, e] μ = .ok (.lst [d, e]) μ := mkL_val _ _ (show 2 ≤ cap by decide)
theorem mkL0 (μ : Store) : mkL false [] μ = .ok (.lst []) μ := mkL_val _ _ (show 0 ≤ cap by decide)
def Go (w : Nat) (μ μ' : Store) : Prop := ∃ (a b c : Int) (ex : Store), μ' = μ.set w (.lst [.int a, .int b, .int c]) ++ ex
theorem Go.of {w : Nat} {μ μ' : Store} (k : WL w μ μ') : Go w μ μ' := by
  obtain ⟨a, b, c, rfl⟩ := k
  exact ⟨a, b, c, [], by rw [List.append_nil]⟩
theorem Go.isW {w : Nat} {μ μ' : Store} (h : IsW w μ) (k : Go w μ μ') : IsW w μ' := by
  obtain ⟨a, b, c, ex, rfl⟩ := k
  have hl := h.lt
  exact ⟨a, b, c, by rw [List.getElem?_append_left (by rw [List.length_set]; exact hl), List.getElem?_set_self hl]⟩
theorem Go.trans {w : Nat} {μ μ1 μ2 : Store} (h : IsW w μ) (k : Go w μ μ1) (k2 : Go w μ1 μ2) : Go w μ μ2 := by
  obtain ⟨a, b, c, ex, rfl⟩ := k
  obtain ⟨a2, b2, c2, ex2, rfl⟩ := k2
  have hl := h.lt
  refine ⟨a2, b2, c2, ex ++ ex2, ?_⟩
  rw [List.set_append, if_pos (by rw [List.length_set]; exact hl), List.set_set, List.append_assoc]
theorem Go.refl {w : Nat} {μ : Store} (h : IsW w μ) : Go w μ μ := .of (WL.refl h)
theorem Go.dk {w : Nat} {μ μ1 : Store} (h : IsW w μ) (k : Go w μ μ1) (r : Nat) (hd : dk μ r = true) : Ev.dk μ1 r = true := by
  obtain ⟨a, b, c, ex, rfl⟩ := k
  obtain ⟨x, y, z, hw⟩ := h
  obtain ⟨kvs, e, nd, fl⟩ := dk_dct hd
  have ne : w ≠ r := fun q => by
    rw [q, e] at hw; cases hw
  have hl := (List.getElem?_eq_some_iff.mp e).1
  unfold Ev.dk
  rw [List.getElem?_append_left (by rw [List.length_set]; exact hl), List.getElem?_set_ne ne, e]
  simp only [nd, fl, decide_true, Bool.and_self]
theorem OkV.mono {w : Nat} {μ μ1 : Store} {v : D} (h : IsW w μ) (k : Go w μ μ1) (o : OkV μ v) : OkV μ1 v := ⟨gv_mono (Go.dk h k) 2 v o.g, o.s⟩
section
variable {P : String → Option FD} {n : Nat} {μ : Store}
theorem rep_len' (s : List Nat) (k : Nat) : (List.replicate k s).flatten.length = k * s.length := by simp
theorem mul_s (μ : Store) (s : List Nat) (k : Nat) (hs : s.length ≤ 1000) (hk : k ≤ 1000) : fMul μ (.str s) (.int (k : Nat)) = some (.str (List.replicate k s).flatten) := by
  simp only [fMul]
  rw [if_pos ⟨by omega, by omega, hs⟩, Int.toNat_natCast]
theorem all_true {μ : Store} {ys : List D} (h : ∀ y ∈ ys, y = .bl true) : fAll μ [.lst ys] = some (.bl true) := by
  have e : ys = ys.map fun _ => D.bl true := by
    apply List.ext_getElem
    · simp
    · intro i h1 h2
      rw [List.getElem_map]
      exact h _ (List.getElem_mem h1)
  rw [e]
  have := all_map μ (fun _ : D => true) ys
  rw [show (ys.all fun _ => true) = true by simp] at this
  exact this
end
theorem ne_blX (μ : Store) (b : Bool) : fNe μ (.bl b) (.bl b) = some (.bl false) := by cases b <;> rfl
theorem eq_blX (μ : Store) (b : Bool) : fEq μ (.bl b) (.bl b) = some (.bl true) := by cases b <;> rfl
end Ev
namespace Ev
open Res
/-! ## the laws of the bag: draws, stackings -/
theorem bag_draw_ok {P : String → Option FD} {n : Nat} {μ : Store} (hP : P "_law_draw" = some Law.d__law_draw) {w : Nat} (hw : IsW w μ) {many : Int} (h0 : 0 < many) (h1 : many < 1073741824) :
    ∃ (k : Int) (μ' : Store), 0 ≤ k ∧ k < many ∧ WL w μ μ' ∧ callD P (n + 1) "_law_draw" [.ref w, .int many] μ = .ok (.int k) μ' := by
  have hlt := hw.lt
  obtain ⟨a, b, c, hg⟩ := hw
  rw [callD_eq hP rfl]
  have g0 : fIx μ (.ref w) (.int 0) = some (.int a) := by rw [ix_ref hg]; rfl
  have g2 : fIx μ (.ref w) (.int 2) = some (.int c) := by rw [ix_ref hg]; rfl
  simp -implicitDefEqProofs only [Law.d__law_draw, startE, exs_nil, exs_cons, ex_pass, ex_expr, ex_asg, ex_ifs, ex_for, ex_ret, ex_retN, ex_brk, ex_cont, ex_never, ev_var, ev_lit, ev_op1, ev_op2, ev_op3, ev_opN, ev_opM, ev_meth, ev_frz, ev_lst, ev_tup, ev_and, ev_or, ev_not, ev_ite, ev_chain, ev_call, ev_comp, evs_nil, evs_cons, Res.bind_assoc, evT, asgT_name, asgT_sub, asgT_tup, asgTs_nil, asgTs_cons, Res.bind_ok, Res.bind_exc, lift_some, noExc_ok, truth_bl, finish_rt, finish_nx, List.map_cons, List.map_nil, List.length_cons, List.length_nil, List.replicate_zero, List.replicate_succ, List.cons_append, List.nil_append, List.getElem?_cons_zero, List.getElem?_cons_succ, List.set_cons_zero, List.set_cons_succ, Bool.not_true, Bool.not_false, ↓reduceIte, Bool.false_eq_true, Nat.reduceAdd, Nat.reduceSub, Nat.reduceLT, Nat.reduceLeDiff, Nat.zero_add, id_eq, Nat.sub_self, Bool.true_and, Bool.and_true, Bool.false_and, Bool.and_false, Bool.true_or, Bool.or_true, Bool.false_or, Bool.or_false, g0, gt_int]
  by_cases ha : 0 < a
  · rw [decide_eq_true ha]
    have hs : setIx (.ref w) (.int 0) (.int (a / many)) μ = some (μ.set w (.lst [.int (a / many), .int b, .int c])) := by
      rw [set_ref hg (j := 0) rfl rfl]; rfl
    have hd : fDivmod μ [.int a, .int many] = some (.tup [.int (a / many), .int (a % many)]) := if_pos ⟨h0, h1⟩
    refine ⟨a % many, _, Int.emod_nonneg _ (by omega), Int.emod_lt_of_pos _ h0, ⟨a / many, b, c, rfl⟩, ?_⟩
    simp -implicitDefEqProofs only [startE, exs_nil, exs_cons, ex_pass, ex_expr, ex_asg, ex_ifs, ex_for, ex_ret, ex_retN, ex_brk, ex_cont, ex_never, ev_var, ev_lit, ev_op1, ev_op2, ev_op3, ev_opN, ev_opM, ev_meth, ev_frz, ev_lst, ev_tup, ev_and, ev_or, ev_not, ev_ite, ev_chain, ev_call, ev_comp, evs_nil, evs_cons, Res.bind_assoc, evT, asgT_name, asgT_sub, asgT_tup, asgTs_nil, asgTs_cons, Res.bind_ok, Res.bind_exc, lift_some, noExc_ok, truth_bl, finish_rt, finish_nx, List.map_cons, List.map_nil, List.length_cons, List.length_nil, List.replicate_zero, List.replicate_succ, List.cons_append, List.nil_append, List.getElem?_cons_zero, List.getElem?_cons_succ, List.set_cons_zero, List.set_cons_succ, Bool.not_true, Bool.not_false, ↓reduceIte, Bool.false_eq_true, Nat.reduceAdd, Nat.reduceSub, Nat.reduceLT, Nat.reduceLeDiff, Nat.zero_add, id_eq, Nat.sub_self, Bool.true_and, Bool.and_true, Bool.false_and, Bool.and_false, Bool.true_or, Bool.or_true, Bool.false_or, Bool.or_false, g0, hd, hs]
    exact finish_len _ (List.length_set ..)
  · rw [decide_eq_false ha]
    have s2 : setIx (.ref w) (.int 2) (.int (c + 1)) μ = some (μ.set w (.lst [.int a, .int b, .int (c + 1)])) := by
      rw [set_ref hg (j := 2) rfl rfl]; rfl
    have hg2 : (μ.set w (.lst [.int a, .int b, .int (c + 1)]))[w]? = some (.lst [.int a, .int b, .int (c + 1)]) := List.getElem?_set_self hlt
    have k1 : fIx (μ.set w (.lst [.int a, .int b, .int (c + 1)])) (.ref w) (.int 1) = some (.int b) := by rw [ix_ref hg2]; rfl
    have k2 : fIx (μ.set w (.lst [.int a, .int b, .int (c + 1)])) (.ref w) (.int 2) = some (.int (c + 1)) := by rw [ix_ref hg2]; rfl
    have m1 : ∀ μ : Store, fMod μ (.int b) (.int 40009) = some (.int (b % 40009)) := fun μ => mod_pos μ _ (by decide)
    have hby0 : 0 ≤ b % 40009 := Int.emod_nonneg _ (by decide)
    have hby1 : b % 40009 < 40009 := Int.emod_lt_of_pos _ (by decide)
    generalize hby : b % 40009 = e at *
    have m2 : ∀ μ : Store, fMul μ (.int b) (.int (e + 30013)) = some (.int (b * (e + 30013))) := fun μ => mul_r μ _ (by omega)
    have m3 : ∀ μ : Store, fMul μ (.int 65003) (.int (c + 1)) = some (.int (65003 * (c + 1))) := fun μ => mul_l μ _ (by decide)
    simp -implicitDefEqProofs only [startE, exs_nil, exs_cons, ex_pass, ex_expr, ex_asg, ex_ifs, ex_for, ex_ret, ex_retN, ex_brk, ex_cont, ex_never, ev_var, ev_lit, ev_op1, ev_op2, ev_op3, ev_opN, ev_opM, ev_meth, ev_frz, ev_lst, ev_tup, ev_and, ev_or, ev_not, ev_ite, ev_chain, ev_call, ev_comp, evs_nil, evs_cons, Res.bind_assoc, evT, asgT_name, asgT_sub, asgT_tup, asgTs_nil, asgTs_cons, Res.bind_ok, Res.bind_exc, lift_some, noExc_ok, truth_bl, finish_rt, finish_nx, List.map_cons, List.map_nil, List.length_cons, List.length_nil, List.replicate_zero, List.replicate_succ, List.cons_append, List.nil_append, List.getElem?_cons_zero, List.getElem?_cons_succ, List.set_cons_zero, List.set_cons_succ, Bool.not_true, Bool.not_false, ↓reduceIte, Bool.false_eq_true, Nat.reduceAdd, Nat.reduceSub, Nat.reduceLT, Nat.reduceLeDiff, Nat.zero_add, id_eq, Nat.sub_self, Bool.true_and, Bool.and_true, Bool.false_and, Bool.and_false, Bool.true_or, Bool.or_true, Bool.false_or, Bool.or_false, g2, add_int, s2, k1, k2, int_int, m1, m2, m3]
    have m4 : ∀ (μ : Store) (x : Int), fMod μ (.int x) (.int 2147483477) = some (.int (x % 2147483477)) := fun μ x => mod_pos μ _ (by decide)
    simp -implicitDefEqProofs only [startE, exs_nil, exs_cons, ex_pass, ex_expr, ex_asg, ex_ifs, ex_for, ex_ret, ex_retN, ex_brk, ex_cont, ex_never, ev_var, ev_lit, ev_op1, ev_op2, ev_op3, ev_opN, ev_opM, ev_meth, ev_frz, ev_lst, ev_tup, ev_and, ev_or, ev_not, ev_ite, ev_chain, ev_call, ev_comp, evs_nil, evs_cons, Res.bind_assoc, evT, asgT_name, asgT_sub, asgT_tup, asgTs_nil, asgTs_cons, Res.bind_ok, Res.bind_exc, lift_some, noExc_ok, truth_bl, finish_rt, finish_nx, List.map_cons, List.map_nil, List.length_cons, List.length_nil, List.replicate_zero, List.replicate_succ, List.cons_append, List.nil_append, List.getElem?_cons_zero, List.getElem?_cons_succ, List.set_cons_zero, List.set_cons_succ, Bool.not_true, Bool.not_false, ↓reduceIte, Bool.false_eq_true, Nat.reduceAdd, Nat.reduceSub, Nat.reduceLT, Nat.reduceLeDiff, Nat.zero_add, id_eq, Nat.sub_self, Bool.true_and, Bool.and_true, Bool.false_and, Bool.and_false, Bool.true_or, Bool.or_true, Bool.false_or, Bool.or_false, m4]
    generalize hb' : (b * (e + 30013) + 65003 * (c + 1) + 13) % 2147483477 = b'
    have s1 : setIx (.ref w) (.int 1) (.int b') (μ.set w (.lst [.int a, .int b, .int (c + 1)])) = some (μ.set w (.lst [.int a, .int b', .int (c + 1)])) := by
      rw [set_ref hg2 (j := 1) rfl rfl, List.set_set]; rfl
    have hg3 : (μ.set w (.lst [.int a, .int b', .int (c + 1)]))[w]? = some (.lst [.int a, .int b', .int (c + 1)]) := List.getElem?_set_self hlt
    have k3 : fIx (μ.set w (.lst [.int a, .int b', .int (c + 1)])) (.ref w) (.int 1) = some (.int b') := by rw [ix_ref hg3]; rfl
    have m5 : ∀ μ : Store, fDiv μ (.int b') (.int 256) = some (.int (b' / 256)) := fun μ => div_pos μ _ (by decide) (by decide)
    have m6 : ∀ (μ : Store) (x : Int), fMod μ (.int x) (.int many) = some (.int (x % many)) := fun μ x => mod_pos μ _ h0
    refine ⟨b' / 256 % many, _, Int.emod_nonneg _ (by omega), Int.emod_lt_of_pos _ h0, ⟨a, b', c + 1, rfl⟩, ?_⟩
    simp -implicitDefEqProofs only [startE, exs_nil, exs_cons, ex_pass, ex_expr, ex_asg, ex_ifs, ex_for, ex_ret, ex_retN, ex_brk, ex_cont, ex_never, ev_var, ev_lit, ev_op1, ev_op2, ev_op3, ev_opN, ev_opM, ev_meth, ev_frz, ev_lst, ev_tup, ev_and, ev_or, ev_not, ev_ite, ev_chain, ev_call, ev_comp, evs_nil, evs_cons, Res.bind_assoc, evT, asgT_name, asgT_sub, asgT_tup, asgTs_nil, asgTs_cons, Res.bind_ok, Res.bind_exc, lift_some, noExc_ok, truth_bl, finish_rt, finish_nx, List.map_cons, List.map_nil, List.length_cons, List.length_nil, List.replicate_zero, List.replicate_succ, List.cons_append, List.nil_append, List.getElem?_cons_zero, List.getElem?_cons_succ, List.set_cons_zero, List.set_cons_succ, Bool.not_true, Bool.not_false, ↓reduceIte, Bool.false_eq_true, Nat.reduceAdd, Nat.reduceSub, Nat.reduceLT, Nat.reduceLeDiff, Nat.zero_add, id_eq, Nat.sub_self, Bool.true_and, Bool.and_true, Bool.false_and, Bool.and_false, Bool.true_or, Bool.or_true, Bool.false_or, Bool.or_false, s1, k3, m5, m6, int_int]
    exact finish_len _ (List.length_set ..)
section
variable {P : String → Option FD} {n : Nat} {μ : Store}
theorem draw_n (hT : P "_law_draw" = some Law.d__law_draw) {w : Nat} (hw : IsW w μ) {many : Nat} (h0 : 0 < many) (h1 : many ≤ 1000) :
    ∃ (k : Nat) (μ' : Store), k < many ∧ WL w μ μ' ∧ callD P (n + 1) "_law_draw" [.ref w, .int (many : Nat)] μ = .ok (.int (k : Nat)) μ' := by
  obtain ⟨k, μ', k0, k1, kw, e⟩ := bag_draw_ok (n := n) hT hw (many := (many : Nat)) (by omega) (by omega)
  obtain ⟨k, rfl⟩ : ∃ x : Nat, k = (x : Nat) := ⟨k.toNat, by omega⟩
  exact ⟨k, μ', by omega, kw, e⟩
theorem one_str (hT : P "_law_draw" = some Law.d__law_draw) (hP : P "_law_one" = some Law.d__law_one) {w : Nat} (hw : IsW w μ) {s : List Nat} (h0 : 0 < s.length) (h1 : s.length ≤ cap) :
    ∃ (c : Nat) (μ' : Store), c ∈ s ∧ WL w μ μ' ∧ callD P (n + 2) "_law_one" [.ref w, .str s] μ = .ok (.str [c]) μ' := by
  have hc : s.length ≤ 1000000 := h1
  obtain ⟨k, μ1, k0, k1, kw, e⟩ := bag_draw_ok (n := n) hT hw (many := s.length) (by omega) (by omega)
  refine ⟨s.getD k.toNat 0, μ1, ?_, kw, ?_⟩
  · have hk : k.toNat < s.length := by omega
    simp [List.getD, hk]
  · rw [callD_eq hP rfl]
    simp -implicitDefEqProofs only [Law.d__law_one, startE, exs_nil, exs_cons, ex_pass, ex_expr, ex_asg, ex_ifs, ex_for, ex_ret, ex_retN, ex_brk, ex_cont, ex_never, ev_var, ev_lit, ev_op1, ev_op2, ev_op3, ev_opN, ev_opM, ev_meth, ev_frz, ev_lst, ev_tup, ev_and, ev_or, ev_not, ev_ite, ev_chain, ev_call, ev_comp, evs_nil, evs_cons, Res.bind_assoc, evT, asgT_name, asgT_sub, asgT_tup, asgTs_nil, asgTs_cons, Res.bind_ok, Res.bind_exc, lift_some, noExc_ok, truth_bl, finish_rt, finish_nx, List.map_cons, List.map_nil, List.length_cons, List.length_nil, List.replicate_zero, List.replicate_succ, List.cons_append, List.nil_append, List.getElem?_cons_zero, List.getElem?_cons_succ, List.set_cons_zero, List.set_cons_succ, Bool.not_true, Bool.not_false, ↓reduceIte, Bool.false_eq_true, Nat.reduceAdd, Nat.reduceSub, Nat.reduceLT, Nat.reduceLeDiff, Nat.zero_add, id_eq, Nat.sub_self, Bool.true_and, Bool.and_true, Bool.false_and, Bool.and_false, Bool.true_or, Bool.or_true, Bool.false_or, Bool.or_false, len_str μ s h1, e, ix_str μ1 h1 k0 k1]
    exact finish_len _ kw.len
theorem one_lst (hT : P "_law_draw" = some Law.d__law_draw) (hP : P "_law_one" = some Law.d__law_one) {w : Nat} (hw : IsW w μ) {ds : List D} (h0 : 0 < ds.length) (h1 : ds.length ≤ cap) :
    ∃ (d : D) (μ' : Store), d ∈ ds ∧ WL w μ μ' ∧ callD P (n + 2) "_law_one" [.ref w, .lst ds] μ = .ok d μ' := by
  have hc : ds.length ≤ 1000000 := h1
  obtain ⟨k, μ1, k0, k1, kw, e⟩ := bag_draw_ok (n := n) hT hw (many := ds.length) (by omega) (by omega)
  refine ⟨ds.getD k.toNat .non, μ1, ?_, kw, ?_⟩
  · have hk : k.toNat < ds.length := by omega
    simp [List.getD, hk]
  · rw [callD_eq hP rfl]
    simp -implicitDefEqProofs only [Law.d__law_one, startE, exs_nil, exs_cons, ex_pass, ex_expr, ex_asg, ex_ifs, ex_for, ex_ret, ex_retN, ex_brk, ex_cont, ex_never, ev_var, ev_lit, ev_op1, ev_op2, ev_op3, ev_opN, ev_opM, ev_meth, ev_frz, ev_lst, ev_tup, ev_and, ev_or, ev_not, ev_ite, ev_chain, ev_call, ev_comp, evs_nil, evs_cons, Res.bind_assoc, evT, asgT_name, asgT_sub, asgT_tup, asgTs_nil, asgTs_cons, Res.bind_ok, Res.bind_exc, lift_some, noExc_ok, truth_bl, finish_rt, finish_nx, List.map_cons, List.map_nil, List.length_cons, List.length_nil, List.replicate_zero, List.replicate_succ, List.cons_append, List.nil_append, List.getElem?_cons_zero, List.getElem?_cons_succ, List.set_cons_zero, List.set_cons_succ, Bool.not_true, Bool.not_false, ↓reduceIte, Bool.false_eq_true, Nat.reduceAdd, Nat.reduceSub, Nat.reduceLT, Nat.reduceLeDiff, Nat.zero_add, id_eq, Nat.sub_self, Bool.true_and, Bool.and_true, Bool.false_and, Bool.and_false, Bool.true_or, Bool.or_true, Bool.false_or, Bool.or_false, len_lst, e, ix_lst μ1 k0 k1]
    exact finish_len _ kw.len
theorem enumD_lst (μ : Store) (l : List D) : fEnum μ [.lst l] = some (enumD 0 l) := rfl
theorem bag_ok (hP : P "_law_bag" = some Law.d__law_bag) (ns : List Int) (t : Nat) (hns : ns.length ≤ 63) : ∃ a b c : Int, callD P (n + 1) "_law_bag" [.scr ns, .int t] μ = .ok (.ref μ.length) (μ ++ [.lst [.int a, .int b, .int c]]) := by
  obtain ⟨l9, s9, h9⟩ := sl_scr μ ns 9
  have s9' : fSl μ (.scr ns) .non (.int 9) = some (.lst (l9.map .int)) := s9
  rw [callD_eq hP rfl]
  have en := enumD_lst μ (l9.map .int)
  simp -implicitDefEqProofs only [Law.d__law_bag, startE, exs_nil, exs_cons, ex_pass, ex_expr, ex_asg, ex_ifs, ex_for, ex_ret, ex_retN, ex_brk, ex_cont, ex_never, ev_var, ev_lit, ev_op1, ev_op2, ev_op3, ev_opN, ev_opM, ev_meth, ev_frz, ev_lst, ev_tup, ev_and, ev_or, ev_not, ev_ite, ev_chain, ev_call, ev_comp, evs_nil, evs_cons, Res.bind_assoc, evT, asgT_name, asgT_sub, asgT_tup, asgTs_nil, asgTs_cons, Res.bind_ok, Res.bind_exc, lift_some, noExc_ok, truth_bl, finish_rt, finish_nx, List.map_cons, List.map_nil, List.length_cons, List.length_nil, List.replicate_zero, List.replicate_succ, List.cons_append, List.nil_append, List.getElem?_cons_zero, List.getElem?_cons_succ, List.set_cons_zero, List.set_cons_succ, Bool.not_true, Bool.not_false, ↓reduceIte, Bool.false_eq_true, Nat.reduceAdd, Nat.reduceSub, Nat.reduceLT, Nat.reduceLeDiff, Nat.zero_add, id_eq, Nat.sub_self, Bool.true_and, Bool.and_true, Bool.false_and, Bool.and_false, Bool.true_or, Bool.or_true, Bool.false_or, Bool.or_false, mul_l μ t (show (3571 : Int).natAbs < 18446744073709551616 by decide), add_int, fI_int, s9', en]
  generalize 70001 + 3571 * (t : Int) = sv0
  generalize hst : forStep _ _ _ = st
  obtain ⟨ρ', μ', e5, ⟨sv, o3, o4, rfl, rfl⟩⟩ := forLoop_inv (step := st) (fun _ ρ μ' => ∃ (sv : Int) (o3 o4 : Option D), ρ = [some (.scr ns), some (.int t), some (.int sv), o3, o4, none, none] ∧ μ' = μ) (enumD 0 (l9.map D.int)) 0
    [some (.scr ns), some (.int t), some (.int sv0), none, none, none, none] μ ⟨_, _, _, rfl, rfl⟩ (by
      rintro j d ρ μ' hj ⟨sv, o3, o4, rfl, rfl⟩
      obtain ⟨y, hy, rfl⟩ := enumD_get hj
      obtain ⟨z, _, rfl⟩ := List.mem_map.mp (List.mem_of_getElem? hy)
      subst hst
      refine ⟨_, _, ?_, (sv * 47653 + z % 1999999943 + 31 * ((0 + j : Nat) : Int) + 5) % 2147483477, some (.int ((0 + j : Nat) : Int)), some (.int z), rfl, rfl⟩
      generalize ((0 + j : Nat) : Int) = jj
      simp -implicitDefEqProofs only [startE, exs_nil, exs_cons, ex_pass, ex_expr, ex_asg, ex_ifs, ex_for, ex_ret, ex_retN, ex_brk, ex_cont, ex_never, ev_var, ev_lit, ev_op1, ev_op2, ev_op3, ev_opN, ev_opM, ev_meth, ev_frz, ev_lst, ev_tup, ev_and, ev_or, ev_not, ev_ite, ev_chain, ev_call, ev_comp, evs_nil, evs_cons, Res.bind_assoc, evT, asgT_name, asgT_sub, asgT_tup, asgTs_nil, asgTs_cons, Res.bind_ok, Res.bind_exc, lift_some, noExc_ok, truth_bl, finish_rt, finish_nx, List.map_cons, List.map_nil, List.length_cons, List.length_nil, List.replicate_zero, List.replicate_succ, List.cons_append, List.nil_append, List.getElem?_cons_zero, List.getElem?_cons_succ, List.set_cons_zero, List.set_cons_succ, Bool.not_true, Bool.not_false, ↓reduceIte, Bool.false_eq_true, Nat.reduceAdd, Nat.reduceSub, Nat.reduceLT, Nat.reduceLeDiff, Nat.zero_add, id_eq, Nat.sub_self, Bool.true_and, Bool.and_true, Bool.false_and, Bool.and_false, Bool.true_or, Bool.or_true, Bool.false_or, Bool.or_false, compStep, forStep, bindT_name, bindT_tup, bindT_str, bindTs_nil, bindTs_cons, wipeE, List.length_set, mul_r μ' sv (show (47653 : Int).natAbs < 18446744073709551616 by decide), mul_l μ' jj (show (31 : Int).natAbs < 18446744073709551616 by decide), int_int, mod_pos μ' _ (show (0 : Int) < 1999999943 by decide), mod_pos μ' _ (show (0 : Int) < 2147483477 by decide), add_int])
  rw [e5]
  have mk : ∀ a b, mkL true [.int a, .int b, .int 0] μ' = .ok (.ref μ'.length) (μ' ++ [.lst [.int a, .int b, .int 0]]) := fun _ _ => rfl
  have pw : fPow μ' (.int 10) (.int 18) = some (.int (10 ^ 18)) := rfl
  have md4 := fun x : Int => mod_pos μ' x (show (0 : Int) < 2147483477 by decide)
  have md2 := fun x : Int => mod_pos μ' x (show (0 : Int) < 1999999943 by decide)
  have md := fun x : Int => mod_pos μ' x (show (0 : Int) < 1000000000000000000000000000007 by decide)
  have ml3 := fun x : Int => mul_l μ' x (show (3 : Int).natAbs < 18446744073709551616 by decide)
  have ab : ∀ o : Int, fAbs μ' [.int o] = some (.int (if o < 0 then -o else o)) := fun _ => rfl
  generalize hao : (fun o : Int => if o < 0 then -o else o) = ao
  have ab : ∀ o : Int, fAbs μ' [.int o] = some (.int (ao o)) := fun o => by rw [ab, ← hao]
  by_cases ht : t < ns.length
  · have hd : decide ((t : Int) < ns.length) = true := decide_eq_true (by omega)
    have ix := ix_scr μ' ht
    generalize ns.getD t 0 = o at ix
    cases h2 : decide (((10 : Int) ^ 18) ≤ ao o) with
    | true =>
      refine ⟨ao o % 1000000000000000000000000000007, (sv + 3 * (o % 1999999943)) % 2147483477, 0, ?_⟩
      simp -implicitDefEqProofs only [startE, exs_nil, exs_cons, ex_pass, ex_expr, ex_asg, ex_ifs, ex_for, ex_ret, ex_retN, ex_brk, ex_cont, ex_never, ev_var, ev_lit, ev_op1, ev_op2, ev_op3, ev_opN, ev_opM, ev_meth, ev_frz, ev_lst, ev_tup, ev_and, ev_or, ev_not, ev_ite, ev_chain, ev_call, ev_comp, evs_nil, evs_cons, Res.bind_assoc, evT, asgT_name, asgT_sub, asgT_tup, asgTs_nil, asgTs_cons, Res.bind_ok, Res.bind_exc, lift_some, noExc_ok, truth_bl, finish_rt, finish_nx, List.map_cons, List.map_nil, List.length_cons, List.length_nil, List.replicate_zero, List.replicate_succ, List.cons_append, List.nil_append, List.getElem?_cons_zero, List.getElem?_cons_succ, List.set_cons_zero, List.set_cons_succ, Bool.not_true, Bool.not_false, ↓reduceIte, Bool.false_eq_true, Nat.reduceAdd, Nat.reduceSub, Nat.reduceLT, Nat.reduceLeDiff, Nat.zero_add, id_eq, Nat.sub_self, Bool.true_and, Bool.and_true, Bool.false_and, Bool.and_false, Bool.true_or, Bool.or_true, Bool.false_or, Bool.or_false, len_scr, lt_int, hd, ix, ab, pw, ge_int, h2, md, md2, ml3, md4, int_int, add_int, mk]; rfl
    | false =>
      refine ⟨0, (sv + 3 * (o % 1999999943)) % 2147483477, 0, ?_⟩
      simp -implicitDefEqProofs only [startE, exs_nil, exs_cons, ex_pass, ex_expr, ex_asg, ex_ifs, ex_for, ex_ret, ex_retN, ex_brk, ex_cont, ex_never, ev_var, ev_lit, ev_op1, ev_op2, ev_op3, ev_opN, ev_opM, ev_meth, ev_frz, ev_lst, ev_tup, ev_and, ev_or, ev_not, ev_ite, ev_chain, ev_call, ev_comp, evs_nil, evs_cons, Res.bind_assoc, evT, asgT_name, asgT_sub, asgT_tup, asgTs_nil, asgTs_cons, Res.bind_ok, Res.bind_exc, lift_some, noExc_ok, truth_bl, finish_rt, finish_nx, List.map_cons, List.map_nil, List.length_cons, List.length_nil, List.replicate_zero, List.replicate_succ, List.cons_append, List.nil_append, List.getElem?_cons_zero, List.getElem?_cons_succ, List.set_cons_zero, List.set_cons_succ, Bool.not_true, Bool.not_false, ↓reduceIte, Bool.false_eq_true, Nat.reduceAdd, Nat.reduceSub, Nat.reduceLT, Nat.reduceLeDiff, Nat.zero_add, id_eq, Nat.sub_self, Bool.true_and, Bool.and_true, Bool.false_and, Bool.and_false, Bool.true_or, Bool.or_true, Bool.false_or, Bool.or_false, len_scr, lt_int, hd, ix, ab, pw, ge_int, h2, md, md2, ml3, md4, int_int, add_int, mk]; rfl
  · have hd : decide ((t : Int) < ns.length) = false := decide_eq_false (by omega)
    cases h2 : decide (((10 : Int) ^ 18) ≤ ao 0) with
    | true =>
      refine ⟨ao 0 % 1000000000000000000000000000007, (sv + 3 * (0 % 1999999943)) % 2147483477, 0, ?_⟩
      simp -implicitDefEqProofs only [startE, exs_nil, exs_cons, ex_pass, ex_expr, ex_asg, ex_ifs, ex_for, ex_ret, ex_retN, ex_brk, ex_cont, ex_never, ev_var, ev_lit, ev_op1, ev_op2, ev_op3, ev_opN, ev_opM, ev_meth, ev_frz, ev_lst, ev_tup, ev_and, ev_or, ev_not, ev_ite, ev_chain, ev_call, ev_comp, evs_nil, evs_cons, Res.bind_assoc, evT, asgT_name, asgT_sub, asgT_tup, asgTs_nil, asgTs_cons, Res.bind_ok, Res.bind_exc, lift_some, noExc_ok, truth_bl, finish_rt, finish_nx, List.map_cons, List.map_nil, List.length_cons, List.length_nil, List.replicate_zero, List.replicate_succ, List.cons_append, List.nil_append, List.getElem?_cons_zero, List.getElem?_cons_succ, List.set_cons_zero, List.set_cons_succ, Bool.not_true, Bool.not_false, ↓reduceIte, Bool.false_eq_true, Nat.reduceAdd, Nat.reduceSub, Nat.reduceLT, Nat.reduceLeDiff, Nat.zero_add, id_eq, Nat.sub_self, Bool.true_and, Bool.and_true, Bool.false_and, Bool.and_false, Bool.true_or, Bool.or_true, Bool.false_or, Bool.or_false, len_scr, lt_int, hd, ab, pw, ge_int, h2, md, md2, ml3, md4, int_int, add_int, mk]; rfl
    | false =>
      refine ⟨0, (sv + 3 * (0 % 1999999943)) % 2147483477, 0, ?_⟩
      simp -implicitDefEqProofs only [startE, exs_nil, exs_cons, ex_pass, ex_expr, ex_asg, ex_ifs, ex_for, ex_ret, ex_retN, ex_brk, ex_cont, ex_never, ev_var, ev_lit, ev_op1, ev_op2, ev_op3, ev_opN, ev_opM, ev_meth, ev_frz, ev_lst, ev_tup, ev_and, ev_or, ev_not, ev_ite, ev_chain, ev_call, ev_comp, evs_nil, evs_cons, Res.bind_assoc, evT, asgT_name, asgT_sub, asgT_tup, asgTs_nil, asgTs_cons, Res.bind_ok, Res.bind_exc, lift_some, noExc_ok, truth_bl, finish_rt, finish_nx, List.map_cons, List.map_nil, List.length_cons, List.length_nil, List.replicate_zero, List.replicate_succ, List.cons_append, List.nil_append, List.getElem?_cons_zero, List.getElem?_cons_succ, List.set_cons_zero, List.set_cons_succ, Bool.not_true, Bool.not_false, ↓reduceIte, Bool.false_eq_true, Nat.reduceAdd, Nat.reduceSub, Nat.reduceLT, Nat.reduceLeDiff, Nat.zero_add, id_eq, Nat.sub_self, Bool.true_and, Bool.and_true, Bool.false_and, Bool.and_false, Bool.true_or, Bool.or_true, Bool.false_or, Bool.or_false, len_scr, lt_int, hd, ab, pw, ge_int, h2, md, md2, ml3, md4, int_int, add_int, mk]; rfl
end
end Ev
namespace Ev
open Res
/-! ## _law_same of the pot laws: one thing the same as itself -/
mutual
def gd : Nat → D → Bool
  | _, .non => true
  | _, .bl _ => true
  | _, .int _ => true
  | _, .str s => s.all (· < 1114112)
  | k + 1, .tup ds => decide (ds.length < 1000000) && gds k ds
  | k + 1, .lst ds => decide (ds.length < 1000000) && gds k ds
  | _, _ => false
def gds : Nat → List D → Bool
  | _, [] => true
  | k, d :: ds => gd k d && gds k ds
end
theorem gds_get : ∀ {k : Nat} {ds : List D} {i : Nat}, gds k ds = true → i < ds.length → gd k (ds.getD i .non) = true
  | k, [], i, _, h => by simp at h
  | k, d :: ds, 0, h, _ => by unfold gds at h; exact (Bool.and_eq_true_iff.mp h).1
  | k, d :: ds, i + 1, h, hi => by
    unfold gds at h
    have := gds_get (i := i) (Bool.and_eq_true_iff.mp h).2 (by simpa using hi)
    simpa using this
theorem gds_n {k : Nat} : gds k [] = true := by unfold gds; rfl
theorem gds_c {k : Nat} {d : D} {ds : List D} (h : gd k d = true) (hs : gds k ds = true) : gds k (d :: ds) = true := by unfold gds; rw [h, hs]; rfl
theorem gd_l {k : Nat} {ds : List D} (h : gds k ds = true) (hl : ds.length < 1000000) : gd (k + 1) (.lst ds) = true := by unfold gd; rw [h, decide_eq_true hl]; rfl
theorem gd_t {k : Nat} {ds : List D} (h : gds k ds = true) (hl : ds.length < 1000000) : gd (k + 1) (.tup ds) = true := by unfold gd; rw [h, decide_eq_true hl]; rfl
theorem gd_i {k : Nat} (i : Int) : gd k (.int i) = true := by cases k <;> (unfold gd; rfl)
theorem gd_b {k : Nat} (b : Bool) : gd k (.bl b) = true := by cases k <;> (unfold gd; rfl)
theorem gd_s {k : Nat} {s : List Nat} (h : ∀ c ∈ s, c < 1114112) : gd k (.str s) = true := by
  cases k <;> (unfold gd; exact List.all_eq_true.mpr fun c hc => decide_eq_true (h c hc))
end Ev
namespace Ev
open Res
/-! ## _law_same of the bag laws: one thing the same as itself -/
section
variable {P : String → Option FD} {n : Nat} {μ : Store}
theorem sameB_seq (hP : P "_law_same" = some Law.d__law_same) (k n : Nat) (ih : ∀ (n : Nat) (μ : Store) (d : D), gd k d = true → callD P (n + k + 1) "_law_same" [d, d] μ = .ok (.bl true) μ) (μ : Store) (ds : List D) (h1 : ds.length < 1000000) (h2 : gds k ds = true) :
    callD P (n + k + 2) "_law_same" [.tup ds, .tup ds] μ = .ok (.bl true) μ ∧ callD P (n + k + 2) "_law_same" [.lst ds, .lst ds] μ = .ok (.bl true) μ := by
  have hr : ((List.range ds.length).map fun k => D.int (k : Nat)).length ≤ cap := by rw [List.length_map, List.length_range]; exact Nat.le_of_lt h1
  have hr2 : ((List.range ds.length).map fun _ => D.bl true).length ≤ cap := by rw [List.length_map, List.length_range]; exact Nat.le_of_lt h1
  have ha : ((List.range ds.length).all fun _ => true) = true := by simp
  have hf : fAll μ [.lst ((List.range ds.length).map fun _ => D.bl true)] = some (.bl true) := by
    have := all_map μ (fun _ : Nat => true) (List.range ds.length)
    rw [ha] at this; exact this
  have rg := rng1 μ h1
  have qe : fEq μ (.int (ds.length : Nat)) (.int (ds.length : Nat)) = some (.bl true) := by rw [eq_intX]; simp
  constructor
  · rw [callD_eq hP rfl]
    have t1 : fIsi μ [.tup ds, .ty "tuple"] = some (.bl true) := rfl
    have i1 : fIs μ (.tup ds) .non = some (.bl false) := rfl
    simp -implicitDefEqProofs only [Law.d__law_same, startE, exs_nil, exs_cons, ex_pass, ex_expr, ex_asg, ex_ifs, ex_for, ex_ret, ex_retN, ex_brk, ex_cont, ex_never, ev_var, ev_lit, ev_op1, ev_op2, ev_op3, ev_opN, ev_opM, ev_meth, ev_frz, ev_lst, ev_tup, ev_and, ev_or, ev_not, ev_ite, ev_chain, ev_call, ev_comp, evs_nil, evs_cons, Res.bind_assoc, evT, asgT_name, asgT_sub, asgT_tup, asgTs_nil, asgTs_cons, Res.bind_ok, Res.bind_exc, lift_some, noExc_ok, truth_bl, finish_rt, finish_nx, List.map_cons, List.map_nil, List.length_cons, List.length_nil, List.replicate_zero, List.replicate_succ, List.cons_append, List.nil_append, List.getElem?_cons_zero, List.getElem?_cons_succ, List.set_cons_zero, List.set_cons_succ, Bool.not_true, Bool.not_false, ↓reduceIte, Bool.false_eq_true, Nat.reduceAdd, Nat.reduceSub, Nat.reduceLT, Nat.reduceLeDiff, Nat.zero_add, id_eq, Nat.sub_self, Bool.true_and, Bool.and_true, Bool.false_and, Bool.and_false, Bool.true_or, Bool.or_true, Bool.false_or, Bool.or_false, i1, t1, len_tup, qe, rg, hr]
    rw [compLoop_map (fun k : Nat => D.int k) (fun _ => .bl true)]
    · simp -implicitDefEqProofs only [startE, exs_nil, exs_cons, ex_pass, ex_expr, ex_asg, ex_ifs, ex_for, ex_ret, ex_retN, ex_brk, ex_cont, ex_never, ev_var, ev_lit, ev_op1, ev_op2, ev_op3, ev_opN, ev_opM, ev_meth, ev_frz, ev_lst, ev_tup, ev_and, ev_or, ev_not, ev_ite, ev_chain, ev_call, ev_comp, evs_nil, evs_cons, Res.bind_assoc, evT, asgT_name, asgT_sub, asgT_tup, asgTs_nil, asgTs_cons, Res.bind_ok, Res.bind_exc, lift_some, noExc_ok, truth_bl, finish_rt, finish_nx, List.map_cons, List.map_nil, List.length_cons, List.length_nil, List.replicate_zero, List.replicate_succ, List.cons_append, List.nil_append, List.getElem?_cons_zero, List.getElem?_cons_succ, List.set_cons_zero, List.set_cons_succ, Bool.not_true, Bool.not_false, ↓reduceIte, Bool.false_eq_true, Nat.reduceAdd, Nat.reduceSub, Nat.reduceLT, Nat.reduceLeDiff, Nat.zero_add, id_eq, Nat.sub_self, Bool.true_and, Bool.and_true, Bool.false_and, Bool.and_false, Bool.true_or, Bool.or_true, Bool.false_or, Bool.or_false, mkL_val _ _ hr2, hf]
    · intro i hi
      have hi := List.mem_range.mp hi
      have e := ih n μ (ds.getD i .non) (gds_get h2 hi)
      have ei : fIx μ (.tup ds) (.int (i : Nat)) = some (ds.getD i .non) := by rw [ix_tup μ (by omega) (by omega)]; simp
      simp -implicitDefEqProofs only [startE, exs_nil, exs_cons, ex_pass, ex_expr, ex_asg, ex_ifs, ex_for, ex_ret, ex_retN, ex_brk, ex_cont, ex_never, ev_var, ev_lit, ev_op1, ev_op2, ev_op3, ev_opN, ev_opM, ev_meth, ev_frz, ev_lst, ev_tup, ev_and, ev_or, ev_not, ev_ite, ev_chain, ev_call, ev_comp, evs_nil, evs_cons, Res.bind_assoc, evT, asgT_name, asgT_sub, asgT_tup, asgTs_nil, asgTs_cons, Res.bind_ok, Res.bind_exc, lift_some, noExc_ok, truth_bl, finish_rt, finish_nx, List.map_cons, List.map_nil, List.length_cons, List.length_nil, List.replicate_zero, List.replicate_succ, List.cons_append, List.nil_append, List.getElem?_cons_zero, List.getElem?_cons_succ, List.set_cons_zero, List.set_cons_succ, Bool.not_true, Bool.not_false, ↓reduceIte, Bool.false_eq_true, Nat.reduceAdd, Nat.reduceSub, Nat.reduceLT, Nat.reduceLeDiff, Nat.zero_add, id_eq, Nat.sub_self, Bool.true_and, Bool.and_true, Bool.false_and, Bool.and_false, Bool.true_or, Bool.or_true, Bool.false_or, Bool.or_false, compStep, forStep, bindT_name, bindT_tup, bindT_str, bindTs_nil, bindTs_cons, wipeE, List.length_set, ei, e]
  · rw [callD_eq hP rfl]
    have t0 : fIsi μ [.lst ds, .ty "tuple"] = some (.bl false) := rfl
    have t1 : fIsi μ [.lst ds, .ty "list"] = some (.bl true) := rfl
    have i1 : fIs μ (.lst ds) .non = some (.bl false) := rfl
    simp -implicitDefEqProofs only [Law.d__law_same, startE, exs_nil, exs_cons, ex_pass, ex_expr, ex_asg, ex_ifs, ex_for, ex_ret, ex_retN, ex_brk, ex_cont, ex_never, ev_var, ev_lit, ev_op1, ev_op2, ev_op3, ev_opN, ev_opM, ev_meth, ev_frz, ev_lst, ev_tup, ev_and, ev_or, ev_not, ev_ite, ev_chain, ev_call, ev_comp, evs_nil, evs_cons, Res.bind_assoc, evT, asgT_name, asgT_sub, asgT_tup, asgTs_nil, asgTs_cons, Res.bind_ok, Res.bind_exc, lift_some, noExc_ok, truth_bl, finish_rt, finish_nx, List.map_cons, List.map_nil, List.length_cons, List.length_nil, List.replicate_zero, List.replicate_succ, List.cons_append, List.nil_append, List.getElem?_cons_zero, List.getElem?_cons_succ, List.set_cons_zero, List.set_cons_succ, Bool.not_true, Bool.not_false, ↓reduceIte, Bool.false_eq_true, Nat.reduceAdd, Nat.reduceSub, Nat.reduceLT, Nat.reduceLeDiff, Nat.zero_add, id_eq, Nat.sub_self, Bool.true_and, Bool.and_true, Bool.false_and, Bool.and_false, Bool.true_or, Bool.or_true, Bool.false_or, Bool.or_false, i1, t0, t1, len_lst, qe, rg, hr]
    rw [compLoop_map (fun k : Nat => D.int k) (fun _ => .bl true)]
    · simp -implicitDefEqProofs only [startE, exs_nil, exs_cons, ex_pass, ex_expr, ex_asg, ex_ifs, ex_for, ex_ret, ex_retN, ex_brk, ex_cont, ex_never, ev_var, ev_lit, ev_op1, ev_op2, ev_op3, ev_opN, ev_opM, ev_meth, ev_frz, ev_lst, ev_tup, ev_and, ev_or, ev_not, ev_ite, ev_chain, ev_call, ev_comp, evs_nil, evs_cons, Res.bind_assoc, evT, asgT_name, asgT_sub, asgT_tup, asgTs_nil, asgTs_cons, Res.bind_ok, Res.bind_exc, lift_some, noExc_ok, truth_bl, finish_rt, finish_nx, List.map_cons, List.map_nil, List.length_cons, List.length_nil, List.replicate_zero, List.replicate_succ, List.cons_append, List.nil_append, List.getElem?_cons_zero, List.getElem?_cons_succ, List.set_cons_zero, List.set_cons_succ, Bool.not_true, Bool.not_false, ↓reduceIte, Bool.false_eq_true, Nat.reduceAdd, Nat.reduceSub, Nat.reduceLT, Nat.reduceLeDiff, Nat.zero_add, id_eq, Nat.sub_self, Bool.true_and, Bool.and_true, Bool.false_and, Bool.and_false, Bool.true_or, Bool.or_true, Bool.false_or, Bool.or_false, mkL_val _ _ hr2, hf]
    · intro i hi
      have hi := List.mem_range.mp hi
      have e := ih n μ (ds.getD i .non) (gds_get h2 hi)
      have ei : fIx μ (.lst ds) (.int (i : Nat)) = some (ds.getD i .non) := by rw [ix_lst μ (by omega) (by omega)]; simp
      simp -implicitDefEqProofs only [startE, exs_nil, exs_cons, ex_pass, ex_expr, ex_asg, ex_ifs, ex_for, ex_ret, ex_retN, ex_brk, ex_cont, ex_never, ev_var, ev_lit, ev_op1, ev_op2, ev_op3, ev_opN, ev_opM, ev_meth, ev_frz, ev_lst, ev_tup, ev_and, ev_or, ev_not, ev_ite, ev_chain, ev_call, ev_comp, evs_nil, evs_cons, Res.bind_assoc, evT, asgT_name, asgT_sub, asgT_tup, asgTs_nil, asgTs_cons, Res.bind_ok, Res.bind_exc, lift_some, noExc_ok, truth_bl, finish_rt, finish_nx, List.map_cons, List.map_nil, List.length_cons, List.length_nil, List.replicate_zero, List.replicate_succ, List.cons_append, List.nil_append, List.getElem?_cons_zero, List.getElem?_cons_succ, List.set_cons_zero, List.set_cons_succ, Bool.not_true, Bool.not_false, ↓reduceIte, Bool.false_eq_true, Nat.reduceAdd, Nat.reduceSub, Nat.reduceLT, Nat.reduceLeDiff, Nat.zero_add, id_eq, Nat.sub_self, Bool.true_and, Bool.and_true, Bool.false_and, Bool.and_false, Bool.true_or, Bool.or_true, Bool.false_or, Bool.or_false, compStep, forStep, bindT_name, bindT_tup, bindT_str, bindTs_nil, bindTs_cons, wipeE, List.length_set, ei, e]
theorem sameB_flat (hP : P "_law_same" = some Law.d__law_same) {d : D} (h : match d with | .non => True | .bl _ => True | .int _ => True | .str s => s.all (· < 1114112) = true | _ => False) : callD P (n + 1) "_law_same" [d, d] μ = .ok (.bl true) μ := by
  have nb := ne_blX μ
  have et := eq_blX μ true
  have ef := eq_blX μ false
  cases d with
  | non =>
    have t1 : fIsi μ [.non, .ty "tuple"] = some (.bl false) := rfl
    have t2 : fIsi μ [.non, .ty "list"] = some (.bl false) := rfl
    have t3 : fIsi μ [.non, .ty "bool"] = some (.bl false) := rfl
    have t4 : fIsi μ [.non, .ty "int"] = some (.bl false) := rfl
    have t5 : fIsi μ [.non, .ty "str"] = some (.bl false) := rfl
    have i1 : fIs μ .non .non = some (.bl true) := rfl
    rw [callD_eq hP rfl]
    simp -implicitDefEqProofs only [Law.d__law_same, startE, exs_nil, exs_cons, ex_pass, ex_expr, ex_asg, ex_ifs, ex_for, ex_ret, ex_retN, ex_brk, ex_cont, ex_never, ev_var, ev_lit, ev_op1, ev_op2, ev_op3, ev_opN, ev_opM, ev_meth, ev_frz, ev_lst, ev_tup, ev_and, ev_or, ev_not, ev_ite, ev_chain, ev_call, ev_comp, evs_nil, evs_cons, Res.bind_assoc, evT, asgT_name, asgT_sub, asgT_tup, asgTs_nil, asgTs_cons, Res.bind_ok, Res.bind_exc, lift_some, noExc_ok, truth_bl, finish_rt, finish_nx, List.map_cons, List.map_nil, List.length_cons, List.length_nil, List.replicate_zero, List.replicate_succ, List.cons_append, List.nil_append, List.getElem?_cons_zero, List.getElem?_cons_succ, List.set_cons_zero, List.set_cons_succ, Bool.not_true, Bool.not_false, ↓reduceIte, Bool.false_eq_true, Nat.reduceAdd, Nat.reduceSub, Nat.reduceLT, Nat.reduceLeDiff, Nat.zero_add, id_eq, Nat.sub_self, Bool.true_and, Bool.and_true, Bool.false_and, Bool.and_false, Bool.true_or, Bool.or_true, Bool.false_or, Bool.or_false, t1, t2, t3, t4, t5, nb, i1]
  | bl b =>
    have t1 : fIsi μ [.bl b, .ty "tuple"] = some (.bl false) := rfl
    have t2 : fIsi μ [.bl b, .ty "list"] = some (.bl false) := rfl
    have t3 : fIsi μ [.bl b, .ty "bool"] = some (.bl true) := rfl
    have t4 : fIsi μ [.bl b, .ty "int"] = some (.bl true) := rfl
    have t5 : fIsi μ [.bl b, .ty "str"] = some (.bl false) := rfl
    have i1 : fIs μ (.bl b) .non = some (.bl false) := rfl
    have e := eq_blX μ b
    rw [callD_eq hP rfl]
    simp -implicitDefEqProofs only [Law.d__law_same, startE, exs_nil, exs_cons, ex_pass, ex_expr, ex_asg, ex_ifs, ex_for, ex_ret, ex_retN, ex_brk, ex_cont, ex_never, ev_var, ev_lit, ev_op1, ev_op2, ev_op3, ev_opN, ev_opM, ev_meth, ev_frz, ev_lst, ev_tup, ev_and, ev_or, ev_not, ev_ite, ev_chain, ev_call, ev_comp, evs_nil, evs_cons, Res.bind_assoc, evT, asgT_name, asgT_sub, asgT_tup, asgTs_nil, asgTs_cons, Res.bind_ok, Res.bind_exc, lift_some, noExc_ok, truth_bl, finish_rt, finish_nx, List.map_cons, List.map_nil, List.length_cons, List.length_nil, List.replicate_zero, List.replicate_succ, List.cons_append, List.nil_append, List.getElem?_cons_zero, List.getElem?_cons_succ, List.set_cons_zero, List.set_cons_succ, Bool.not_true, Bool.not_false, ↓reduceIte, Bool.false_eq_true, Nat.reduceAdd, Nat.reduceSub, Nat.reduceLT, Nat.reduceLeDiff, Nat.zero_add, id_eq, Nat.sub_self, Bool.true_and, Bool.and_true, Bool.false_and, Bool.and_false, Bool.true_or, Bool.or_true, Bool.false_or, Bool.or_false, t1, t2, t3, t4, t5, nb, i1, e, et, ef]
  | int i =>
    have t1 : fIsi μ [.int i, .ty "tuple"] = some (.bl false) := rfl
    have t2 : fIsi μ [.int i, .ty "list"] = some (.bl false) := rfl
    have t3 : fIsi μ [.int i, .ty "bool"] = some (.bl false) := rfl
    have t4 : fIsi μ [.int i, .ty "int"] = some (.bl true) := rfl
    have t5 : fIsi μ [.int i, .ty "str"] = some (.bl false) := rfl
    have i1 : fIs μ (.int i) .non = some (.bl false) := rfl
    have e : fEq μ (.int i) (.int i) = some (.bl true) := by rw [eq_intX]; simp
    rw [callD_eq hP rfl]
    simp -implicitDefEqProofs only [Law.d__law_same, startE, exs_nil, exs_cons, ex_pass, ex_expr, ex_asg, ex_ifs, ex_for, ex_ret, ex_retN, ex_brk, ex_cont, ex_never, ev_var, ev_lit, ev_op1, ev_op2, ev_op3, ev_opN, ev_opM, ev_meth, ev_frz, ev_lst, ev_tup, ev_and, ev_or, ev_not, ev_ite, ev_chain, ev_call, ev_comp, evs_nil, evs_cons, Res.bind_assoc, evT, asgT_name, asgT_sub, asgT_tup, asgTs_nil, asgTs_cons, Res.bind_ok, Res.bind_exc, lift_some, noExc_ok, truth_bl, finish_rt, finish_nx, List.map_cons, List.map_nil, List.length_cons, List.length_nil, List.replicate_zero, List.replicate_succ, List.cons_append, List.nil_append, List.getElem?_cons_zero, List.getElem?_cons_succ, List.set_cons_zero, List.set_cons_succ, Bool.not_true, Bool.not_false, ↓reduceIte, Bool.false_eq_true, Nat.reduceAdd, Nat.reduceSub, Nat.reduceLT, Nat.reduceLeDiff, Nat.zero_add, id_eq, Nat.sub_self, Bool.true_and, Bool.and_true, Bool.false_and, Bool.and_false, Bool.true_or, Bool.or_true, Bool.false_or, Bool.or_false, t1, t2, t3, t4, t5, nb, i1, e, et, ef]
  | str s =>
    have t1 : fIsi μ [.str s, .ty "tuple"] = some (.bl false) := rfl
    have t2 : fIsi μ [.str s, .ty "list"] = some (.bl false) := rfl
    have t3 : fIsi μ [.str s, .ty "bool"] = some (.bl false) := rfl
    have t4 : fIsi μ [.str s, .ty "int"] = some (.bl false) := rfl
    have t5 : fIsi μ [.str s, .ty "str"] = some (.bl true) := rfl
    have i1 : fIs μ (.str s) .non = some (.bl false) := rfl
    have e : fEq μ (.str s) (.str s) = some (.bl true) := by
      have u : ∀ c ∈ s, c < 1114112 := fun c hc => of_decide_eq_true (List.all_eq_true.mp h c hc)
      rw [eq_strg μ u u]; simp
    rw [callD_eq hP rfl]
    simp -implicitDefEqProofs only [Law.d__law_same, startE, exs_nil, exs_cons, ex_pass, ex_expr, ex_asg, ex_ifs, ex_for, ex_ret, ex_retN, ex_brk, ex_cont, ex_never, ev_var, ev_lit, ev_op1, ev_op2, ev_op3, ev_opN, ev_opM, ev_meth, ev_frz, ev_lst, ev_tup, ev_and, ev_or, ev_not, ev_ite, ev_chain, ev_call, ev_comp, evs_nil, evs_cons, Res.bind_assoc, evT, asgT_name, asgT_sub, asgT_tup, asgTs_nil, asgTs_cons, Res.bind_ok, Res.bind_exc, lift_some, noExc_ok, truth_bl, finish_rt, finish_nx, List.map_cons, List.map_nil, List.length_cons, List.length_nil, List.replicate_zero, List.replicate_succ, List.cons_append, List.nil_append, List.getElem?_cons_zero, List.getElem?_cons_succ, List.set_cons_zero, List.set_cons_succ, Bool.not_true, Bool.not_false, ↓reduceIte, Bool.false_eq_true, Nat.reduceAdd, Nat.reduceSub, Nat.reduceLT, Nat.reduceLeDiff, Nat.zero_add, id_eq, Nat.sub_self, Bool.true_and, Bool.and_true, Bool.false_and, Bool.and_false, Bool.true_or, Bool.or_true, Bool.false_or, Bool.or_false, t1, t2, t3, t4, t5, nb, i1, e, et, ef]
  | _ => exact h.elim
theorem sameB (hP : P "_law_same" = some Law.d__law_same) : ∀ (k : Nat) (n : Nat) (μ : Store) (d : D), gd k d = true → callD P (n + k + 1) "_law_same" [d, d] μ = .ok (.bl true) μ := by
  intro k
  induction k with
  | zero =>
    intro n μ d h
    refine sameB_flat hP ?_
    cases d <;> first | trivial | (unfold gd at h; first | exact h | cases h)
  | succ k ih =>
    intro n μ d h
    cases d with
    | tup ds =>
      unfold gd at h
      obtain ⟨h1, h2⟩ := Bool.and_eq_true_iff.mp h
      exact (sameB_seq hP k n ih μ ds (of_decide_eq_true h1) h2).1
    | lst ds =>
      unfold gd at h
      obtain ⟨h1, h2⟩ := Bool.and_eq_true_iff.mp h
      exact (sameB_seq hP k n ih μ ds (of_decide_eq_true h1) h2).2
    | _ =>
      refine sameB_flat (n := n + (k + 1)) hP ?_
      first | trivial | (unfold gd at h; first | exact h | cases h)
end
end Ev
namespace Ev
open Res
structure K96 (P : String → Option FD) : Prop extends Base P where
  isTupleOf : P "is_tuple_of" = some Law.d_is_tuple_of
  lowest : P "lowest" = some Law.d_lowest
  num : P "number_of" = some Law.d_number_of
  fur : P "further" = some Law.d_further
  stepB : P "step_between" = some Law.d_step_between
  steps : P "steps_by" = some Law.d_steps_by
  roundBy : P "round_steps_by" = some Law.d_round_steps_by
  periods : P "periods_of" = some Law.d_periods_of
  ownBy : P "is_own_by" = some Law.d_is_own_by
  checkC : P "check_closed" = some Law.d_check_closed
  marksB : P "marks_between" = some Law.d_marks_between
  roundMarksBy : P "round_marks_by" = some Law.d_round_marks_by
  hCountOf : P "h_count_of" = some Law.d_h_count_of
  tellsClosed : P "tells_closed" = some Law.d_tells_closed
  isClaim : P "is_claim" = some Law.d_is_claim
  certifyOwn : P "certify_own" = some Law.d_certify_own
  isNothing : P "is_nothing" = some Law.d_is_nothing
  showsOwn : P "shows_own" = some Law.d_shows_own
  showsAgain : P "shows_again" = some Law.d_shows_again
  accepts : P "accepts" = some Law.d_accepts
  roundMarks : P "round_marks" = some Law.d_round_marks
  hCount : P "h_count" = some Law.d_h_count
  shareBy : P "share_by" = some Law.d_share_by
  ownPartBy : P "own_part_by" = some Law.d_own_part_by
  share : P "share" = some Law.d_share
  ownPart : P "own_part" = some Law.d_own_part
  isClo : P "is_closed" = some Law.d_is_closed
  isOwn : P "is_own" = some Law.d_is_own
  lBag : P "_law_bag" = some Law.d__law_bag
  lDraw : P "_law_draw" = some Law.d__law_draw
  lOne : P "_law_one" = some Law.d__law_one
  lSame : P "_law_same" = some Law.d__law_same
  lIsWhole : P "_law_is_whole" = some Law.d__law_is_whole
  lis : P "_law_is_stacking" = some Law.d__law_is_stacking
  lic : P "_law_is_closed" = some Law.d__law_is_closed
  lfur : P "_law_further" = some Law.d__law_further
  lby : P "_law_by" = some Law.d__law_by
  lmarks : P "_law_marks" = some Law.d__law_marks
  lstk : P "_law_stacking" = some Law.d__law_stacking
  lclo : P "_law_closed" = some Law.d__law_closed
  lClosedRight : P "_law_closed_right" = some Law.d__law_closed_right
  law : P "law" = some Law.d_law
theorem Clo.b {s : List Nat} (h : Clo s) : cloB s = true := Bool.and_eq_true_iff.mpr ⟨(stkB_iff s).mpr h.toStk, bne_iff_ne.mpr h.rd⟩
theorem cloB_iff {s : List Nat} (h : cloB s = true) : Clo s := by
  obtain ⟨h1, h2⟩ := Bool.and_eq_true_iff.mp h
  exact ⟨(stkB_iff s).mp h1, bne_iff_ne.mp h2⟩
theorem exs_app {cf : String → List D → Store → Res D} {ρ' : Env} {μ' : Store} : ∀ {a : List CS} {ρ : Env} {μ : Store}, exs cf a ρ μ = .ok (.nx ρ') μ' → ∀ b, exs cf (a ++ b) ρ μ = exs cf b ρ' μ'
  | [], ρ, μ, h, b => by
    rw [exs_nil] at h
    cases h; rfl
  | s :: a, ρ, μ, h, b => by
    rw [exs_cons] at h
    rw [List.cons_append, exs_cons]
    cases he : ex cf s ρ μ with
    | ok fl μ1 =>
      rw [he, bind_ok] at h
      rw [bind_ok]
      cases fl with
      | nx ρ1 => exact exs_app (a := a) h b
      | _ => cases h
    | exc x v μ1 => rw [he] at h; cases h
    | stuck => rw [he] at h; cases h
end Ev
namespace Ev
/-! ## sums going round -/
/-! ## letters, going round -/
/-- the letter at a layer, for all numbers -/
def Ln (s : List Nat) (x : Int) : Nat := s.getD (x % s.length).toNat 0
theorem toNat_emod_lt (x : Int) {n : Nat} (h : 0 < n) : (x % n).toNat < n := by
  have h1 := Int.emod_lt_of_pos x (show (0 : Int) < n by omega)
  have h2 := Int.emod_nonneg x (show (n : Int) ≠ 0 by omega)
  omega
theorem Ln_mem {s : List Nat} (h : 0 < s.length) (x : Int) : Ln s x ∈ s := by
  have := toNat_emod_lt x h
  simp [Ln, List.getD, this]
theorem rep_getD (s : List Nat) : ∀ (t i : Nat), i < s.length * t → (List.replicate t s).flatten.getD i 0 = s.getD (i % s.length) 0
  | 0, i, h => by simp at h
  | t + 1, i, h => by
    rw [List.replicate_succ, List.flatten_cons, List.getD_eq_getElem?_getD]
    by_cases hi : i < s.length
    · rw [List.getElem?_append_left hi, Nat.mod_eq_of_lt hi, List.getD_eq_getElem?_getD]
    · rw [List.getElem?_append_right (by omega), ← List.getD_eq_getElem?_getD, rep_getD s t (i - s.length) (by rw [Nat.mul_succ] at h; omega)]
      congr 1
      rw [← Nat.mod_eq_sub_mod (by omega)]
theorem rep_length (s : List Nat) (t : Nat) : (List.replicate t s).flatten.length = s.length * t := by
  induction t with
  | zero => simp
  | succ t ih => rw [List.replicate_succ, List.flatten_cons, List.length_append, ih, Nat.mul_succ]; omega
theorem Ln_rep {s : List Nat} (h0 : 0 < s.length) {t : Nat} (ht : 0 < t) (x : Int) : Ln (List.replicate t s).flatten x = Ln s x := by
  unfold Ln
  rw [rep_length]
  have hp : 0 < s.length * t := Nat.mul_pos h0 ht
  have hk := toNat_emod_lt x hp
  rw [rep_getD s t _ hk]
  congr 1
  have h2 := Int.emod_nonneg x (show ((s.length * t : Nat) : Int) ≠ 0 by omega)
  have e : ((x % (s.length * t : Nat)).toNat % s.length : Nat) = (((x % (s.length * t : Nat)) % s.length : Int)).toNat := by
    rw [← Int.toNat_natCast ((x % (s.length * t : Nat)).toNat % s.length)]
    congr 1
    push_cast
    rw [Int.toNat_of_nonneg (by push_cast at h2; exact h2)]
  rw [e]
  congr 1
  exact Int.emod_emod_of_dvd x ⟨t, by push_cast; rfl⟩
end Ev
namespace Ev
open Res
/-! ## closed ones, moved -/
theorem Ln_at {s : List Nat} {k : Nat} (h : k < s.length) : Ln s (k : Nat) = at' s k := by
  unfold Ln
  rw [show ((k : Int) % s.length) = k from Int.emod_eq_of_lt (by omega) (by omega)]
  simp
theorem Ln_per (s : List Nat) (x : Int) : Ln s (x + s.length) = Ln s x := by
  unfold Ln; rw [Int.add_emod_right]
theorem Clo.ln {s : List Nat} (h : Clo s) (x : Int) : Ln s x ≠ Ln s (x + 1) := by
  have hp := h.pos
  have hk := toNat_emod_lt x hp
  have h2 := Int.emod_nonneg x (show (s.length : Int) ≠ 0 by omega)
  have r := h.ring hk
  have e : (x + 1) % s.length = (((x % s.length).toNat + 1) % s.length : Nat) := by
    rw [Int.add_emod]
    push_cast
    rw [Int.toNat_of_nonneg h2]
    simp
  unfold Ln
  rw [e, Int.toNat_natCast]
  exact r
theorem Clo.ltrs {s : List Nat} (h : Clo s) (x : Int) : isL (Ln s x) = true := h.ltr _ (Ln_mem h.pos x)
theorem Clo.ofLn {s : List Nat} (h2 : 2 ≤ s.length) (h24 : s.length ≤ 24) (hl : ∀ x, isL (Ln s x) = true) (hn : ∀ x, Ln s x ≠ Ln s (x + 1)) : Clo s := by
  refine ⟨⟨by omega, h24, fun c hc => ?_, fun i hi => ?_⟩, ?_⟩
  · obtain ⟨i, hi, rfl⟩ := List.mem_iff_getElem.mp hc
    have := hl (i : Nat)
    rw [Ln_at hi] at this
    simpa [at', List.getD, hi] using this
  · have := hn (i : Nat)
    rw [Ln_at (by omega), show ((i : Nat) : Int) + 1 = ((i + 1 : Nat) : Int) by omega, Ln_at hi] at this
    exact this
  · have := hn ((s.length - 1 : Nat) : Int)
    rw [Ln_at (by omega), show ((s.length - 1 : Nat) : Int) + 1 = 0 + (s.length : Nat) by omega, Ln_per] at this
    have z := Ln_at (s := s) (k := 0) (by omega)
    rw [show (0 : Int) = ((0 : Nat) : Int) from rfl, z] at this
    exact fun q => this q.symm
/-! ### other names -/
abbrev nm (ns : List Nat) (c : Nat) : Nat := ns.getD (c - 65) 0
def rep (s : List Nat) (t : Nat) : List Nat := (List.replicate t s).flatten
theorem rep_len (s : List Nat) (t : Nat) : (rep s t).length = s.length * t := rep_length s t
theorem Ln_rep' {s : List Nat} (h0 : 0 < s.length) {t : Nat} (ht : 0 < t) (x : Int) : Ln (rep s t) x = Ln s x := Ln_rep h0 ht x
theorem rep_clo {s : List Nat} (h : Clo s) {t : Nat} (ht : 0 < t) (hl : s.length * t ≤ 24) : Clo (rep s t) := by
  have h2 := h.two
  refine Clo.ofLn (by rw [rep_len]; exact Nat.le_trans h2 (Nat.le_mul_of_pos_right _ ht)) (by rw [rep_len]; exact hl) (fun x => ?_) fun x => ?_
  · rw [Ln_rep' h.pos ht]; exact h.ltrs _
  · rw [Ln_rep' h.pos ht, Ln_rep' h.pos ht]; exact h.ln _
end Ev
namespace Ev
open Res
/-! ## steps and marks -/
/-- the step from a letter to another -/
def stp (a b : Nat) : Nat := if 65 + (a - 65 + 1) % 3 == b then 43 else 45
theorem stp_ne {a b c : Nat} (ha : isL a = true) (hb : isL b = true) (hc : isL c = true) (h1 : a ≠ b) (h2 : b ≠ c) : (stp a b == stp b c) = !(a == c) := by
  rcases isL_cases ha with rfl | rfl | rfl <;> rcases isL_cases hb with rfl | rfl | rfl <;> rcases isL_cases hc with rfl | rfl | rfl <;> first | exact absurd rfl h1 | exact absurd rfl h2 | decide
theorem stp_or (a b : Nat) : stp a b = 43 ∨ stp a b = 45 := by unfold stp; split <;> simp
/-- the steps, going round -/
def rs (s : List Nat) : List Nat := (List.range s.length).map fun i => stp (at' s i) (at' s ((i + 1) % s.length))
section
variable {P : String → Option FD} {n : Nat} {μ : Store}
theorem further_ok (hN : P "number_of" = some Law.d_number_of) (hF : P "further" = some Law.d_further) {a : Nat} (h : isL a = true) : callD P (n + 2) "further" [.str [a], .int 1] μ = .ok (.str [65 + (a - 65 + 1) % 3]) μ := by
  rw [callD_eq hF rfl]
  have abc : fLen μ [.str [65, 66, 67]] = some (.int 3) := rfl
  have m := mod_pos μ ((a : Int) - 65 + 1) (show (0 : Int) < 3 by decide)
  have x : fIx μ (.str [65, 66, 67]) (.int (((a : Int) - 65 + 1) % 3)) = some (.str [65 + (a - 65 + 1) % 3]) := by
    rcases isL_cases h with rfl | rfl | rfl <;> rfl
  simp -implicitDefEqProofs only [Law.d_further, startE, exs_nil, exs_cons, ex_pass, ex_expr, ex_asg, ex_ifs, ex_for, ex_ret, ex_retN, ex_brk, ex_cont, ex_never, ev_var, ev_lit, ev_op1, ev_op2, ev_op3, ev_opN, ev_opM, ev_meth, ev_frz, ev_lst, ev_tup, ev_and, ev_or, ev_not, ev_ite, ev_chain, ev_call, ev_comp, evs_nil, evs_cons, Res.bind_assoc, evT, asgT_name, asgT_sub, asgT_tup, asgTs_nil, asgTs_cons, Res.bind_ok, Res.bind_exc, lift_some, noExc_ok, truth_bl, finish_rt, finish_nx, List.map_cons, List.map_nil, List.length_cons, List.length_nil, List.replicate_zero, List.replicate_succ, List.cons_append, List.nil_append, List.getElem?_cons_zero, List.getElem?_cons_succ, List.set_cons_zero, List.set_cons_succ, Bool.not_true, Bool.not_false, ↓reduceIte, Bool.false_eq_true, Nat.reduceAdd, Nat.reduceSub, Nat.reduceLT, Nat.reduceLeDiff, Nat.zero_add, id_eq, Nat.sub_self, Bool.true_and, Bool.and_true, Bool.false_and, Bool.and_false, Bool.true_or, Bool.or_true, Bool.false_or, Bool.or_false, number_of_ok hN h, add_int, abc, m, x]
theorem step_between_ok (hN : P "number_of" = some Law.d_number_of) (hF : P "further" = some Law.d_further) (hS : P "step_between" = some Law.d_step_between) {a b : Nat} (ha : isL a = true) (hb : isL b = true) :
    callD P (n + 3) "step_between" [.str [a], .str [b]] μ = .ok (.str [stp a b]) μ := by
  rw [callD_eq hS rfl]
  have e := eq_sign μ (65 + (a - 65 + 1) % 3) b (by have := Nat.mod_lt (a - 65 + 1) (show 0 < 3 by decide); omega) (isL_lt hb)
  simp -implicitDefEqProofs only [Law.d_step_between, startE, exs_nil, exs_cons, ex_pass, ex_expr, ex_asg, ex_ifs, ex_for, ex_ret, ex_retN, ex_brk, ex_cont, ex_never, ev_var, ev_lit, ev_op1, ev_op2, ev_op3, ev_opN, ev_opM, ev_meth, ev_frz, ev_lst, ev_tup, ev_and, ev_or, ev_not, ev_ite, ev_chain, ev_call, ev_comp, evs_nil, evs_cons, Res.bind_assoc, evT, asgT_name, asgT_sub, asgT_tup, asgTs_nil, asgTs_cons, Res.bind_ok, Res.bind_exc, lift_some, noExc_ok, truth_bl, finish_rt, finish_nx, List.map_cons, List.map_nil, List.length_cons, List.length_nil, List.replicate_zero, List.replicate_succ, List.cons_append, List.nil_append, List.getElem?_cons_zero, List.getElem?_cons_succ, List.set_cons_zero, List.set_cons_succ, Bool.not_true, Bool.not_false, ↓reduceIte, Bool.false_eq_true, Nat.reduceAdd, Nat.reduceSub, Nat.reduceLT, Nat.reduceLeDiff, Nat.zero_add, id_eq, Nat.sub_self, Bool.true_and, Bool.and_true, Bool.false_and, Bool.and_false, Bool.true_or, Bool.or_true, Bool.false_or, Bool.or_false, further_ok hN hF ha, e]
  unfold stp
  cases h : (65 + (a - 65 + 1) % 3 == b) <;> simp -implicitDefEqProofs only [startE, exs_nil, exs_cons, ex_pass, ex_expr, ex_asg, ex_ifs, ex_for, ex_ret, ex_retN, ex_brk, ex_cont, ex_never, ev_var, ev_lit, ev_op1, ev_op2, ev_op3, ev_opN, ev_opM, ev_meth, ev_frz, ev_lst, ev_tup, ev_and, ev_or, ev_not, ev_ite, ev_chain, ev_call, ev_comp, evs_nil, evs_cons, Res.bind_assoc, evT, asgT_name, asgT_sub, asgT_tup, asgTs_nil, asgTs_cons, Res.bind_ok, Res.bind_exc, lift_some, noExc_ok, truth_bl, finish_rt, finish_nx, List.map_cons, List.map_nil, List.length_cons, List.length_nil, List.replicate_zero, List.replicate_succ, List.cons_append, List.nil_append, List.getElem?_cons_zero, List.getElem?_cons_succ, List.set_cons_zero, List.set_cons_succ, Bool.not_true, Bool.not_false, ↓reduceIte, Bool.false_eq_true, Nat.reduceAdd, Nat.reduceSub, Nat.reduceLT, Nat.reduceLeDiff, Nat.zero_add, id_eq, Nat.sub_self, Bool.true_and, Bool.and_true, Bool.false_and, Bool.and_false, Bool.true_or, Bool.or_true, Bool.false_or, Bool.or_false]
/-- pairs of neighbours -/
theorem steps_by_ok (hN : P "number_of" = some Law.d_number_of) (hF : P "further" = some Law.d_further) (hS : P "step_between" = some Law.d_step_between) (hB : P "steps_by" = some Law.d_steps_by) {t : List Nat} (hl : t.length ≤ 100) (ht : ∀ c ∈ t, isL c = true) :
    callD P (n + 4) "steps_by" [.str t] μ = .ok (.str ((t.zip (t.drop 1)).map fun p => stp p.1 p.2)) μ := by
  rw [callD_eq hB rfl]
  have tc : t.length ≤ cap := Nat.le_trans hl (by decide)
  have hzl : (t.zip (t.drop 1)).length ≤ cap := by rw [List.length_zip]; exact Nat.le_trans (Nat.min_le_left _ _) tc
  have hz : ((t.zip (t.drop 1)).map fun p => D.tup [D.str [p.1], D.str [p.2]]).length ≤ cap := by rw [List.length_map]; exact hzl
  simp -implicitDefEqProofs only [Law.d_steps_by, startE, exs_nil, exs_cons, ex_pass, ex_expr, ex_asg, ex_ifs, ex_for, ex_ret, ex_retN, ex_brk, ex_cont, ex_never, ev_var, ev_lit, ev_op1, ev_op2, ev_op3, ev_opN, ev_opM, ev_meth, ev_frz, ev_lst, ev_tup, ev_and, ev_or, ev_not, ev_ite, ev_chain, ev_call, ev_comp, evs_nil, evs_cons, Res.bind_assoc, evT, asgT_name, asgT_sub, asgT_tup, asgTs_nil, asgTs_cons, Res.bind_ok, Res.bind_exc, lift_some, noExc_ok, truth_bl, finish_rt, finish_nx, List.map_cons, List.map_nil, List.length_cons, List.length_nil, List.replicate_zero, List.replicate_succ, List.cons_append, List.nil_append, List.getElem?_cons_zero, List.getElem?_cons_succ, List.set_cons_zero, List.set_cons_succ, Bool.not_true, Bool.not_false, ↓reduceIte, Bool.false_eq_true, Nat.reduceAdd, Nat.reduceSub, Nat.reduceLT, Nat.reduceLeDiff, Nat.zero_add, id_eq, Nat.sub_self, Bool.true_and, Bool.and_true, Bool.false_and, Bool.and_false, Bool.true_or, Bool.or_true, Bool.false_or, Bool.or_false, fI_int, sl_from1 t tc, zip_strs, hz, isStr]
  rw [compLoop_map (fun p : Nat × Nat => D.tup [.str [p.1], .str [p.2]]) (fun p => .str [stp p.1 p.2])]
  · have e : ((t.zip (t.drop 1)).map fun p => D.str [stp p.1 p.2]) = ((t.zip (t.drop 1)).map fun p => stp p.1 p.2).map fun c => .str [c] := by rw [List.map_map]; rfl
    rw [e]
    have h1 : ((t.zip (t.drop 1)).map fun p => stp p.1 p.2).length ≤ cap := by rw [List.length_map]; exact hzl
    have h2 : (((t.zip (t.drop 1)).map fun p => stp p.1 p.2).map fun c => D.str [c]).length ≤ cap := by rw [List.length_map]; exact h1
    simp -implicitDefEqProofs only [startE, exs_nil, exs_cons, ex_pass, ex_expr, ex_asg, ex_ifs, ex_for, ex_ret, ex_retN, ex_brk, ex_cont, ex_never, ev_var, ev_lit, ev_op1, ev_op2, ev_op3, ev_opN, ev_opM, ev_meth, ev_frz, ev_lst, ev_tup, ev_and, ev_or, ev_not, ev_ite, ev_chain, ev_call, ev_comp, evs_nil, evs_cons, Res.bind_assoc, evT, asgT_name, asgT_sub, asgT_tup, asgTs_nil, asgTs_cons, Res.bind_ok, Res.bind_exc, lift_some, noExc_ok, truth_bl, finish_rt, finish_nx, List.map_cons, List.map_nil, List.length_cons, List.length_nil, List.replicate_zero, List.replicate_succ, List.cons_append, List.nil_append, List.getElem?_cons_zero, List.getElem?_cons_succ, List.set_cons_zero, List.set_cons_succ, Bool.not_true, Bool.not_false, ↓reduceIte, Bool.false_eq_true, Nat.reduceAdd, Nat.reduceSub, Nat.reduceLT, Nat.reduceLeDiff, Nat.zero_add, id_eq, Nat.sub_self, Bool.true_and, Bool.and_true, Bool.false_and, Bool.and_false, Bool.true_or, Bool.or_true, Bool.false_or, Bool.or_false, mkL_val _ _ h2, join_signs _ h1]
  · intro p hp
    obtain ⟨a, b⟩ := p
    simp -implicitDefEqProofs only [startE, exs_nil, exs_cons, ex_pass, ex_expr, ex_asg, ex_ifs, ex_for, ex_ret, ex_retN, ex_brk, ex_cont, ex_never, ev_var, ev_lit, ev_op1, ev_op2, ev_op3, ev_opN, ev_opM, ev_meth, ev_frz, ev_lst, ev_tup, ev_and, ev_or, ev_not, ev_ite, ev_chain, ev_call, ev_comp, evs_nil, evs_cons, Res.bind_assoc, evT, asgT_name, asgT_sub, asgT_tup, asgTs_nil, asgTs_cons, Res.bind_ok, Res.bind_exc, lift_some, noExc_ok, truth_bl, finish_rt, finish_nx, List.map_cons, List.map_nil, List.length_cons, List.length_nil, List.replicate_zero, List.replicate_succ, List.cons_append, List.nil_append, List.getElem?_cons_zero, List.getElem?_cons_succ, List.set_cons_zero, List.set_cons_succ, Bool.not_true, Bool.not_false, ↓reduceIte, Bool.false_eq_true, Nat.reduceAdd, Nat.reduceSub, Nat.reduceLT, Nat.reduceLeDiff, Nat.zero_add, id_eq, Nat.sub_self, Bool.true_and, Bool.and_true, Bool.false_and, Bool.and_false, Bool.true_or, Bool.or_true, Bool.false_or, Bool.or_false, compStep, forStep, bindT_name, bindT_tup, bindT_str, bindTs_nil, bindTs_cons, wipeE, List.length_set, step_between_ok hN hF hS (ht a (List.of_mem_zip hp).1) (ht b (List.mem_of_mem_drop (List.of_mem_zip hp).2))]
theorem ring_zip {s : List Nat} (h : 1 ≤ s.length) (f : Nat → Nat → Nat) : (((s ++ [at' s 0]).zip ((s ++ [at' s 0]).drop 1)).map fun p => f p.1 p.2) = (List.range s.length).map fun i => f (at' s i) (at' s ((i + 1) % s.length)) := by
  apply List.ext_getElem
  · simp
  · intro i h1 h2
    have hi : i < s.length := by simpa using h2
    have g : ∀ j (hj : j < (s ++ [at' s 0]).length), (s ++ [at' s 0])[j] = at' s (j % s.length) := fun j hj => by
      have hj' : j ≤ s.length := by simp at hj; omega
      by_cases h : j < s.length
      · rw [List.getElem_append_left h, Nat.mod_eq_of_lt h]; simp [at', List.getD, h]
      · have e : j = s.length := by omega
        subst e
        rw [Nat.mod_self]; simp
    rw [List.getElem_map, List.getElem_zip, List.getElem_map, List.getElem_range]
    simp only [List.getElem_drop]
    rw [g, g, Nat.mod_eq_of_lt hi, Nat.add_comm 1 i]
end
end Ev
namespace Ev
open Res
/-! ## the law's closed ones: rows of signs that go round -/
def fl (c : Nat) : Nat := if c == 43 then 45 else 43
def Sg (s : List Nat) : Prop := ∀ c ∈ s, c = 43 ∨ c = 45
theorem Sg.at {s : List Nat} (h : Sg s) {i : Nat} (hi : i < s.length) : at' s i = 43 ∨ at' s i = 45 := h _ (at_mem hi)
theorem Sg.lt {s : List Nat} (h : Sg s) {c : Nat} (hc : c ∈ s) : c < 1114112 := by rcases h c hc with q | q <;> omega
/-! ### letters by steps -/
def fur (a c : Nat) : Nat := if c == 43 then 65 + (a - 65 + 1) % 3 else 65 + (a - 65 + 2) % 3
def lay (f : List Nat) : List Nat → List Nat
  | [] => f
  | c :: cs => lay (f ++ [fur (lastD f) c]) cs
theorem fur_isL (a c : Nat) : isL (fur a c) = true := by
  unfold fur
  have h1 := Nat.mod_lt (a - 65 + 1) (show 0 < 3 by decide)
  have h2 := Nat.mod_lt (a - 65 + 2) (show 0 < 3 by decide)
  split
  · generalize (a - 65 + 1) % 3 = x at *
    have : x = 0 ∨ x = 1 ∨ x = 2 := by omega
    rcases this with rfl | rfl | rfl <;> rfl
  · generalize (a - 65 + 2) % 3 = x at *
    have : x = 0 ∨ x = 1 ∨ x = 2 := by omega
    rcases this with rfl | rfl | rfl <;> rfl
theorem fur_ne {a : Nat} (h : isL a = true) (c : Nat) : fur a c ≠ a := by
  unfold fur
  rcases isL_cases h with rfl | rfl | rfl <;> split <;> decide
theorem lay_len : ∀ (cs f : List Nat), (lay f cs).length = f.length + cs.length
  | [], f => by simp [lay]
  | c :: cs, f => by rw [lay, lay_len cs, List.length_append, List.length_singleton, List.length_cons]; omega
theorem lay_pre : ∀ (cs f : List Nat), Pre f → 1 ≤ f.length → Pre (lay f cs)
  | [], f, h, _ => h
  | c :: cs, f, h, h1 => by
    refine lay_pre cs _ (h.app (fur_isL _ _) fun _ => ?_) (by simp)
    exact fur_ne (h.ltr _ (at_mem (by omega))) c
/-! ### the walk -/
theorem whileLoop_inv {cond : Env → Store → Res Bool} {body : Env → Store → Res Fl} (I : Nat → Env → Store → Prop)
    (hs : ∀ k ρ μ, I k ρ μ → ∃ t, cond ρ μ = .ok t μ ∧ (t = true → ∃ k' ρ' μ', k' < k ∧ body ρ μ = .ok (.nx ρ') μ' ∧ I k' ρ' μ')) :
    ∀ (n k : Nat) (ρ : Env) (μ : Store), k < n → I k ρ μ → ∃ k' ρ' μ', whileLoop cond body n ρ μ = .ok (.nx ρ') μ' ∧ I k' ρ' μ' ∧ cond ρ' μ' = .ok false μ'
  | 0, k, ρ, μ, h, _ => by omega
  | n + 1, k, ρ, μ, h, hi => by
    obtain ⟨t, e, ht⟩ := hs k ρ μ hi
    cases t with
    | false => exact ⟨k, ρ, μ, by rw [whileLoop, e, bind_ok]; rfl, hi, e⟩
    | true =>
      obtain ⟨k', ρ', μ', hk, eb, hi'⟩ := ht rfl
      obtain ⟨k2, ρ2, μ2, e2, hi2, ec⟩ := whileLoop_inv I hs n k' ρ' μ' (by omega) hi'
      refine ⟨k2, ρ2, μ2, ?_, hi2, ec⟩
      rw [whileLoop, e, bind_ok, if_pos rfl, eb, bind_ok]
      exact e2
section
variable {P : String → Option FD} {n : Nat} {μ : Store}
theorem law_further_ok (K : K96 P) {a c : Nat} (h : isL a = true) : callD P (n + 1) "_law_further" [.str [a], .int (if c == 43 then 1 else 2)] μ = .ok (.str [fur a c]) μ := by
  rw [callD_eq K.lfur rfl]
  have m := mod_pos μ ((a : Int) - 65 + (if c == 43 then 1 else 2)) (show (0 : Int) < 3 by decide)
  have x : fIx μ (.str [65, 66, 67]) (.int (((a : Int) - 65 + (if c == 43 then 1 else 2)) % 3)) = some (.str [fur a c]) := by
    unfold fur
    cases hb : (c == 43) <;> rcases isL_cases h with rfl | rfl | rfl <;> rfl
  simp -implicitDefEqProofs only [Law.d__law_further, startE, exs_nil, exs_cons, ex_pass, ex_expr, ex_asg, ex_ifs, ex_for, ex_ret, ex_retN, ex_brk, ex_cont, ex_never, ev_var, ev_lit, ev_op1, ev_op2, ev_op3, ev_opN, ev_opM, ev_meth, ev_frz, ev_lst, ev_tup, ev_and, ev_or, ev_not, ev_ite, ev_chain, ev_call, ev_comp, evs_nil, evs_cons, Res.bind_assoc, evT, asgT_name, asgT_sub, asgT_tup, asgTs_nil, asgTs_cons, Res.bind_ok, Res.bind_exc, lift_some, noExc_ok, truth_bl, finish_rt, finish_nx, List.map_cons, List.map_nil, List.length_cons, List.length_nil, List.replicate_zero, List.replicate_succ, List.cons_append, List.nil_append, List.getElem?_cons_zero, List.getElem?_cons_succ, List.set_cons_zero, List.set_cons_succ, Bool.not_true, Bool.not_false, ↓reduceIte, Bool.false_eq_true, Nat.reduceAdd, Nat.reduceSub, Nat.reduceLT, Nat.reduceLeDiff, Nat.zero_add, id_eq, Nat.sub_self, Bool.true_and, Bool.and_true, Bool.false_and, Bool.and_false, Bool.true_or, Bool.or_true, Bool.false_or, Bool.or_false, isStr, index_abc μ h, add_int, int_int, m, x]
theorem lay_loop (K : K96 P) {st : Env → D → Store → Res Fl} (a : List Nat) (ss : List Nat) (hst : st = forStep (callD P (n + 1)) (.name 3) [.asg (.name 2) (.op2 fAdd (.var 2) (.call "_law_further" id [.op2 fIx (.var 2) (.op1 fNeg (.lit (.int 1))), .ite (.op2 fEq (.var 3) (.lit (.str [43]))) (.lit (.int 1)) (.lit (.int 2))]))]) :
    ∀ (cs f : List Nat) (o : Option D), (∀ c ∈ cs, c < 1114112) → 1 ≤ f.length → f.length + cs.length ≤ 99 → isL (lastD f) = true →
      ∃ o', forLoop st (cs.map fun c => D.str [c]) [some (.str a), some (.str ss), some (.str f), o] μ = .ok (.nx [some (.str a), some (.str ss), some (.str (lay f cs)), o']) μ
  | [], f, o, _, _, _, _ => ⟨o, rfl⟩
  | c :: cs, f, o, hc, h1, hl, hL => by
    rw [List.length_cons] at hl
    have fc : f.length ≤ cap := cap100 (by omega)
    have xl := ix_last μ fc h1
    have eq := eq_sign μ c 43 (hc c List.mem_cons_self) (by decide)
    have lf := law_further_ok (n := n) (μ := μ) K (c := c) hL
    have ad : fAdd μ (.str f) (.str [fur (lastD f) c]) = some (.str (f ++ [fur (lastD f) c])) := add_str μ (cap100 (by rw [List.length_singleton]; omega))
    have e : st [some (.str a), some (.str ss), some (.str f), o] (.str [c]) μ = .ok (.nx [some (.str a), some (.str ss), some (.str (f ++ [fur (lastD f) c])), some (.str [c])]) μ := by
      subst hst
      cases hb : (c == 43) with
      | true =>
        rw [hb] at eq lf
        simp only [↓reduceIte] at lf
        simp -implicitDefEqProofs only [startE, exs_nil, exs_cons, ex_pass, ex_expr, ex_asg, ex_ifs, ex_for, ex_ret, ex_retN, ex_brk, ex_cont, ex_never, ev_var, ev_lit, ev_op1, ev_op2, ev_op3, ev_opN, ev_opM, ev_meth, ev_frz, ev_lst, ev_tup, ev_and, ev_or, ev_not, ev_ite, ev_chain, ev_call, ev_comp, evs_nil, evs_cons, Res.bind_assoc, evT, asgT_name, asgT_sub, asgT_tup, asgTs_nil, asgTs_cons, Res.bind_ok, Res.bind_exc, lift_some, noExc_ok, truth_bl, finish_rt, finish_nx, List.map_cons, List.map_nil, List.length_cons, List.length_nil, List.replicate_zero, List.replicate_succ, List.cons_append, List.nil_append, List.getElem?_cons_zero, List.getElem?_cons_succ, List.set_cons_zero, List.set_cons_succ, Bool.not_true, Bool.not_false, ↓reduceIte, Bool.false_eq_true, Nat.reduceAdd, Nat.reduceSub, Nat.reduceLT, Nat.reduceLeDiff, Nat.zero_add, id_eq, Nat.sub_self, Bool.true_and, Bool.and_true, Bool.false_and, Bool.and_false, Bool.true_or, Bool.or_true, Bool.false_or, Bool.or_false, compStep, forStep, bindT_name, bindT_tup, bindT_str, bindTs_nil, bindTs_cons, wipeE, List.length_set, neg_int, xl, eq, lf, ad]
      | false =>
        rw [hb] at eq lf
        simp only [↓reduceIte, Bool.false_eq_true] at lf
        simp -implicitDefEqProofs only [startE, exs_nil, exs_cons, ex_pass, ex_expr, ex_asg, ex_ifs, ex_for, ex_ret, ex_retN, ex_brk, ex_cont, ex_never, ev_var, ev_lit, ev_op1, ev_op2, ev_op3, ev_opN, ev_opM, ev_meth, ev_frz, ev_lst, ev_tup, ev_and, ev_or, ev_not, ev_ite, ev_chain, ev_call, ev_comp, evs_nil, evs_cons, Res.bind_assoc, evT, asgT_name, asgT_sub, asgT_tup, asgTs_nil, asgTs_cons, Res.bind_ok, Res.bind_exc, lift_some, noExc_ok, truth_bl, finish_rt, finish_nx, List.map_cons, List.map_nil, List.length_cons, List.length_nil, List.replicate_zero, List.replicate_succ, List.cons_append, List.nil_append, List.getElem?_cons_zero, List.getElem?_cons_succ, List.set_cons_zero, List.set_cons_succ, Bool.not_true, Bool.not_false, ↓reduceIte, Bool.false_eq_true, Nat.reduceAdd, Nat.reduceSub, Nat.reduceLT, Nat.reduceLeDiff, Nat.zero_add, id_eq, Nat.sub_self, Bool.true_and, Bool.and_true, Bool.false_and, Bool.and_false, Bool.true_or, Bool.or_true, Bool.false_or, Bool.or_false, compStep, forStep, bindT_name, bindT_tup, bindT_str, bindTs_nil, bindTs_cons, wipeE, List.length_set, neg_int, xl, eq, lf, ad]
    obtain ⟨o', e2⟩ := lay_loop K a ss hst cs (f ++ [fur (lastD f) c]) (some (.str [c])) (fun d hd => hc d (List.mem_cons_of_mem _ hd)) (by simp) (by rw [List.length_append, List.length_singleton]; omega) (by rw [lastD_app]; exact fur_isL _ _)
    refine ⟨o', ?_⟩
    rw [List.map_cons, forLoop, e]
    exact e2
theorem law_by_ok (K : K96 P) {a : Nat} (ha : isL a = true) {cs : List Nat} (hc : ∀ c ∈ cs, c < 1114112) (hl : cs.length ≤ 90) : callD P (n + 2) "_law_by" [.str [a], .str cs] μ = .ok (.str (lay [a] cs)) μ := by
  rw [callD_eq K.lby rfl]
  simp -implicitDefEqProofs only [Law.d__law_by, startE, exs_nil, exs_cons, ex_pass, ex_expr, ex_asg, ex_ifs, ex_for, ex_ret, ex_retN, ex_brk, ex_cont, ex_never, ev_var, ev_lit, ev_op1, ev_op2, ev_op3, ev_opN, ev_opM, ev_meth, ev_frz, ev_lst, ev_tup, ev_and, ev_or, ev_not, ev_ite, ev_chain, ev_call, ev_comp, evs_nil, evs_cons, Res.bind_assoc, evT, asgT_name, asgT_sub, asgT_tup, asgTs_nil, asgTs_cons, Res.bind_ok, Res.bind_exc, lift_some, noExc_ok, truth_bl, finish_rt, finish_nx, List.map_cons, List.map_nil, List.length_cons, List.length_nil, List.replicate_zero, List.replicate_succ, List.cons_append, List.nil_append, List.getElem?_cons_zero, List.getElem?_cons_succ, List.set_cons_zero, List.set_cons_succ, Bool.not_true, Bool.not_false, ↓reduceIte, Bool.false_eq_true, Nat.reduceAdd, Nat.reduceSub, Nat.reduceLT, Nat.reduceLeDiff, Nat.zero_add, id_eq, Nat.sub_self, Bool.true_and, Bool.and_true, Bool.false_and, Bool.and_false, Bool.true_or, Bool.or_true, Bool.false_or, Bool.or_false, val_str]
  generalize hst : forStep _ _ _ = st
  obtain ⟨o', e⟩ := lay_loop (n := n) (μ := μ) K [a] cs hst.symm cs [a] none hc (by simp) (by simp; omega) ha
  simp -implicitDefEqProofs only [startE, exs_nil, exs_cons, ex_pass, ex_expr, ex_asg, ex_ifs, ex_for, ex_ret, ex_retN, ex_brk, ex_cont, ex_never, ev_var, ev_lit, ev_op1, ev_op2, ev_op3, ev_opN, ev_opM, ev_meth, ev_frz, ev_lst, ev_tup, ev_and, ev_or, ev_not, ev_ite, ev_chain, ev_call, ev_comp, evs_nil, evs_cons, Res.bind_assoc, evT, asgT_name, asgT_sub, asgT_tup, asgTs_nil, asgTs_cons, Res.bind_ok, Res.bind_exc, lift_some, noExc_ok, truth_bl, finish_rt, finish_nx, List.map_cons, List.map_nil, List.length_cons, List.length_nil, List.replicate_zero, List.replicate_succ, List.cons_append, List.nil_append, List.getElem?_cons_zero, List.getElem?_cons_succ, List.set_cons_zero, List.set_cons_succ, Bool.not_true, Bool.not_false, ↓reduceIte, Bool.false_eq_true, Nat.reduceAdd, Nat.reduceSub, Nat.reduceLT, Nat.reduceLeDiff, Nat.zero_add, id_eq, Nat.sub_self, Bool.true_and, Bool.and_true, Bool.false_and, Bool.and_false, Bool.true_or, Bool.or_true, Bool.false_or, Bool.or_false, e]
end
end Ev
namespace Ev
open Res
/-! ## marks -/
def mk2 (a b : Nat) : Nat := if a == b then 104 else 99
def Mf (s : List Nat) (x : Int) : Nat := mk2 (Ln s (x - 1)) (Ln s (x + 1))
def rm (s : List Nat) : List Nat := (List.range s.length).map fun k => Mf s (k : Nat)
theorem mk2_or (a b : Nat) : mk2 a b = 104 ∨ mk2 a b = 99 := by unfold mk2; split <;> simp
theorem rm_len (s : List Nat) : (rm s).length = s.length := by simp [rm]
theorem rm_or (s : List Nat) : ∀ c ∈ rm s, c = 104 ∨ c = 99 := fun c hc => by
  obtain ⟨k, _, rfl⟩ := List.mem_map.mp hc
  exact mk2_or _ _
theorem zip_drop (l : List Nat) (k : Nat) (f : Nat → Nat → Nat) : ((l.zip (l.drop k)).map fun p => f p.1 p.2) = (List.range (l.length - k)).map fun i => f (at' l i) (at' l (i + k)) := by
  apply List.ext_getElem
  · simp
  · intro i h1 h2
    have hi : i < l.length - k := by simpa using h2
    rw [List.getElem_map, List.getElem_zip, List.getElem_map, List.getElem_range]
    have e1 : at' l i = l[i] := by simp [at', List.getD, show i < l.length by omega]
    have e2 : at' l (i + k) = l[i + k] := by simp [at', List.getD, show i + k < l.length by omega]
    have e3 : (l.drop k)[i]'(by rw [List.length_drop]; omega) = l[i + k] := by rw [List.getElem_drop]; congr 1; omega
    rw [e1, e2, e3]
theorem Ln_mod (s : List Nat) (x : Int) : Ln s (x % s.length) = Ln s x := by
  unfold Ln; rw [Int.emod_emod]
theorem Ln_mod_add (s : List Nat) (x t : Int) : Ln s (x % s.length + t) = Ln s (x + t) := by
  unfold Ln; rw [Int.emod_add_emod]
theorem Mf_mod (s : List Nat) (x : Int) : Mf s (x % s.length) = Mf s x := by
  unfold Mf
  rw [Int.sub_eq_add_neg, Ln_mod_add, Ln_mod_add, ← Int.sub_eq_add_neg]
theorem at_ring {s : List Nat} (h : 1 ≤ s.length) {i : Nat} (hi : i ≤ s.length + 1) : at' (([at' s (s.length - 1)] ++ s) ++ [at' s 0]) i = Ln s ((i : Nat) - 1) := by
  match i, hi with
  | 0, _ =>
    show at' s (s.length - 1) = _
    rw [← Ln_at (s := s) (k := s.length - 1) (by omega), ← Ln_per s (((0 : Nat) : Int) - 1)]
    congr 1; omega
  | i + 1, hi =>
    have e : (((i + 1 : Nat) : Int) - 1) = (i : Nat) := by omega
    rw [e]
    show at' (s ++ [at' s 0]) i = _
    by_cases h1 : i < s.length
    · rw [at_app h1, Ln_at h1]
    · have e1 : i = s.length := by omega
      rw [e1, at_last]
      have := Ln_per s 0
      rw [Int.zero_add] at this
      rw [this]
      exact (Ln_at (s := s) (k := 0) (by omega)).symm
theorem law_rm {s : List Nat} (h : 1 ≤ s.length) : (((([at' s (s.length - 1)] ++ s) ++ [at' s 0]).zip ((([at' s (s.length - 1)] ++ s) ++ [at' s 0]).drop 2)).map fun p => mk2 p.1 p.2) = rm s := by
  rw [zip_drop _ 2 mk2]
  have hl : ((([at' s (s.length - 1)] ++ s) ++ [at' s 0]).length - 2) = s.length := by simp
  rw [hl]
  unfold rm Mf
  refine List.map_congr_left fun i hi => ?_
  have hi := List.mem_range.mp hi
  rw [at_ring h (by omega), at_ring h (by omega)]
  congr 2
  omega
/-- the step at a layer, for all numbers -/
def Sf (s : List Nat) (x : Int) : Nat := stp (Ln s x) (Ln s (x + 1))
theorem rs_at {s : List Nat} (h : 1 ≤ s.length) {k : Nat} (hk : k < s.length) : at' (rs s) k = Sf s (k : Nat) := by
  have e : at' (rs s) k = stp (at' s k) (at' s ((k + 1) % s.length)) := by
    unfold rs; simp [at', List.getD, hk]
  rw [e]
  unfold Sf
  rw [Ln_at hk, ← Ln_at (Nat.mod_lt _ (show 0 < s.length by omega))]
  congr 1
  push_cast
  exact Ln_mod s _
theorem rs_len (s : List Nat) : (rs s).length = s.length := by simp [rs]
theorem rs_Sg (s : List Nat) : Sg (rs s) := fun c hc => by
  obtain ⟨k, _, rfl⟩ := List.mem_map.mp hc
  exact stp_or _ _
def unl (a b : Nat) : Nat := if a == b then 99 else 104
theorem unl_stp {s : List Nat} (h : Clo s) (x : Int) : unl (Sf s (x - 1)) (Sf s x) = Mf s x := by
  unfold unl Sf Mf mk2
  rw [show x - 1 + 1 = x by omega]
  have h1 := h.ln (x - 1)
  rw [show x - 1 + 1 = x by omega] at h1
  rw [stp_ne (h.ltrs _) (h.ltrs _) (h.ltrs _) h1 (h.ln x)]
  cases (Ln s (x - 1) == Ln s (x + 1)) <;> rfl
theorem prog_rm {s : List Nat} (h : Clo s) : ((([at' (rs s) ((rs s).length - 1)] ++ rs s).zip (([at' (rs s) ((rs s).length - 1)] ++ rs s).drop 1)).map fun p => unl p.1 p.2) = rm s := by
  have hp := h.pos
  rw [zip_drop _ 1 unl]
  have hl : (([at' (rs s) ((rs s).length - 1)] ++ rs s).length - 1) = s.length := by simp [rs_len]
  rw [hl]
  unfold rm
  refine List.map_congr_left fun i hi => ?_
  have hi := List.mem_range.mp hi
  rw [← unl_stp h]
  have g : ∀ j, j ≤ s.length → at' ([at' (rs s) ((rs s).length - 1)] ++ rs s) j = Sf s ((j : Nat) - 1) := fun j hj => by
    match j, hj with
    | 0, _ =>
      show at' (rs s) ((rs s).length - 1) = _
      rw [rs_len, rs_at hp (by omega)]
      unfold Sf
      rw [← Ln_per s (((0 : Nat) : Int) - 1), ← Ln_per s (((0 : Nat) : Int) - 1 + 1)]
      congr 2 <;> omega
    | j + 1, hj =>
      show at' (rs s) j = _
      rw [rs_at hp (by omega)]
      congr 1; omega
  rw [g i (by omega), g (i + 1) (by omega)]
  congr 2
  omega
/-! ### motions -/
theorem ext_Ln {s t : List Nat} (hl : s.length = t.length) (h : ∀ x, Ln s x = Ln t x) : s = t := by
  apply List.ext_getElem hl
  intro i h1 h2
  have := h (i : Nat)
  rw [Ln_at h1, Ln_at h2] at this
  simpa [at', List.getD, h1, h2] using this
theorem Ln_rm {s : List Nat} (h0 : 0 < s.length) (x : Int) : Ln (rm s) x = Mf s x := by
  have hk := toNat_emod_lt x h0
  have h2 := Int.emod_nonneg x (show (s.length : Int) ≠ 0 by omega)
  unfold Ln
  rw [rm_len]
  have e : (rm s).getD (x % s.length).toNat 0 = Mf s (((x % s.length).toNat : Nat) : Int) := by
    unfold rm; simp [List.getD, hk]
  rw [e, Int.toNat_of_nonneg h2, Mf_mod]
end Ev
namespace Ev
open Res
/-! ## stackings by their steps; marks; slips -/
/-- marks -/
def ml (s : List Nat) : List Nat := (List.range (s.length - 2)).map fun i => mk2 (at' s i) (at' s (i + 2))
theorem ml_zip (s : List Nat) : ((s.zip (s.drop 2)).map fun p => mk2 p.1 p.2) = ml s := zip_drop s 2 mk2
/-! ### letters by steps -/
theorem lay_stk {a : Nat} (ha : isL a = true) {σ : List Nat} (hl : σ.length ≤ 23) : Stk (lay [a] σ) := by
  have l : (lay [a] σ).length = σ.length + 1 := by rw [lay_len, List.length_singleton]; omega
  exact (lay_pre σ [a] (.one ha) (by simp)).stk (by omega) (by omega)
/-! ### slips -/
/-! ### marks lead back -/
/-! ### other names, backward, parts -/
end Ev
namespace Ev
open Res
section
variable {P : String → Option FD} {n : Nat} {μ : Store}
theorem marks_between_ok (K : K96 P) {l : List Nat} (hl : l.length ≤ 100) (hc : ∀ c ∈ l, c < 1114112) : callD P (n + 1) "marks_between" [.str l] μ = .ok (.str ((l.zip (l.drop 1)).map fun p => unl p.1 p.2)) μ := by
  rw [callD_eq K.marksB rfl]
  have tc : l.length ≤ cap := cap100 hl
  have hzl : (l.zip (l.drop 1)).length ≤ cap := by rw [List.length_zip]; exact Nat.le_trans (Nat.min_le_left _ _) tc
  have hz : ((l.zip (l.drop 1)).map fun p => D.tup [D.str [p.1], D.str [p.2]]).length ≤ cap := by rw [List.length_map]; exact hzl
  simp -implicitDefEqProofs only [Law.d_marks_between, startE, exs_nil, exs_cons, ex_pass, ex_expr, ex_asg, ex_ifs, ex_for, ex_ret, ex_retN, ex_brk, ex_cont, ex_never, ev_var, ev_lit, ev_op1, ev_op2, ev_op3, ev_opN, ev_opM, ev_meth, ev_frz, ev_lst, ev_tup, ev_and, ev_or, ev_not, ev_ite, ev_chain, ev_call, ev_comp, evs_nil, evs_cons, Res.bind_assoc, evT, asgT_name, asgT_sub, asgT_tup, asgTs_nil, asgTs_cons, Res.bind_ok, Res.bind_exc, lift_some, noExc_ok, truth_bl, finish_rt, finish_nx, List.map_cons, List.map_nil, List.length_cons, List.length_nil, List.replicate_zero, List.replicate_succ, List.cons_append, List.nil_append, List.getElem?_cons_zero, List.getElem?_cons_succ, List.set_cons_zero, List.set_cons_succ, Bool.not_true, Bool.not_false, ↓reduceIte, Bool.false_eq_true, Nat.reduceAdd, Nat.reduceSub, Nat.reduceLT, Nat.reduceLeDiff, Nat.zero_add, id_eq, Nat.sub_self, Bool.true_and, Bool.and_true, Bool.false_and, Bool.and_false, Bool.true_or, Bool.or_true, Bool.false_or, Bool.or_false, fI_int, sl_from1 l tc, zip_strs, hz, isStr]
  rw [compLoop_map (fun p : Nat × Nat => D.tup [.str [p.1], .str [p.2]]) (fun p => .str [unl p.1 p.2])]
  · have e : ((l.zip (l.drop 1)).map fun p => D.str [unl p.1 p.2]) = ((l.zip (l.drop 1)).map fun p => unl p.1 p.2).map fun c => .str [c] := by rw [List.map_map]; rfl
    rw [e]
    have h1 : ((l.zip (l.drop 1)).map fun p => unl p.1 p.2).length ≤ cap := by rw [List.length_map]; exact hzl
    have h2 : (((l.zip (l.drop 1)).map fun p => unl p.1 p.2).map fun c => D.str [c]).length ≤ cap := by rw [List.length_map]; exact h1
    simp -implicitDefEqProofs only [startE, exs_nil, exs_cons, ex_pass, ex_expr, ex_asg, ex_ifs, ex_for, ex_ret, ex_retN, ex_brk, ex_cont, ex_never, ev_var, ev_lit, ev_op1, ev_op2, ev_op3, ev_opN, ev_opM, ev_meth, ev_frz, ev_lst, ev_tup, ev_and, ev_or, ev_not, ev_ite, ev_chain, ev_call, ev_comp, evs_nil, evs_cons, Res.bind_assoc, evT, asgT_name, asgT_sub, asgT_tup, asgTs_nil, asgTs_cons, Res.bind_ok, Res.bind_exc, lift_some, noExc_ok, truth_bl, finish_rt, finish_nx, List.map_cons, List.map_nil, List.length_cons, List.length_nil, List.replicate_zero, List.replicate_succ, List.cons_append, List.nil_append, List.getElem?_cons_zero, List.getElem?_cons_succ, List.set_cons_zero, List.set_cons_succ, Bool.not_true, Bool.not_false, ↓reduceIte, Bool.false_eq_true, Nat.reduceAdd, Nat.reduceSub, Nat.reduceLT, Nat.reduceLeDiff, Nat.zero_add, id_eq, Nat.sub_self, Bool.true_and, Bool.and_true, Bool.false_and, Bool.and_false, Bool.true_or, Bool.or_true, Bool.false_or, Bool.or_false, mkL_val _ _ h2, join_signs _ h1]
  · intro p hp
    obtain ⟨a, b⟩ := p
    have eq := eq_sign μ a b (hc a (List.of_mem_zip hp).1) (hc b (List.mem_of_mem_drop (List.of_mem_zip hp).2))
    unfold unl
    cases hb : (a == b) with
    | true => rw [hb] at eq; simp -implicitDefEqProofs only [startE, exs_nil, exs_cons, ex_pass, ex_expr, ex_asg, ex_ifs, ex_for, ex_ret, ex_retN, ex_brk, ex_cont, ex_never, ev_var, ev_lit, ev_op1, ev_op2, ev_op3, ev_opN, ev_opM, ev_meth, ev_frz, ev_lst, ev_tup, ev_and, ev_or, ev_not, ev_ite, ev_chain, ev_call, ev_comp, evs_nil, evs_cons, Res.bind_assoc, evT, asgT_name, asgT_sub, asgT_tup, asgTs_nil, asgTs_cons, Res.bind_ok, Res.bind_exc, lift_some, noExc_ok, truth_bl, finish_rt, finish_nx, List.map_cons, List.map_nil, List.length_cons, List.length_nil, List.replicate_zero, List.replicate_succ, List.cons_append, List.nil_append, List.getElem?_cons_zero, List.getElem?_cons_succ, List.set_cons_zero, List.set_cons_succ, Bool.not_true, Bool.not_false, ↓reduceIte, Bool.false_eq_true, Nat.reduceAdd, Nat.reduceSub, Nat.reduceLT, Nat.reduceLeDiff, Nat.zero_add, id_eq, Nat.sub_self, Bool.true_and, Bool.and_true, Bool.false_and, Bool.and_false, Bool.true_or, Bool.or_true, Bool.false_or, Bool.or_false, compStep, forStep, bindT_name, bindT_tup, bindT_str, bindTs_nil, bindTs_cons, wipeE, List.length_set, eq, hb]
    | false => rw [hb] at eq; simp -implicitDefEqProofs only [startE, exs_nil, exs_cons, ex_pass, ex_expr, ex_asg, ex_ifs, ex_for, ex_ret, ex_retN, ex_brk, ex_cont, ex_never, ev_var, ev_lit, ev_op1, ev_op2, ev_op3, ev_opN, ev_opM, ev_meth, ev_frz, ev_lst, ev_tup, ev_and, ev_or, ev_not, ev_ite, ev_chain, ev_call, ev_comp, evs_nil, evs_cons, Res.bind_assoc, evT, asgT_name, asgT_sub, asgT_tup, asgTs_nil, asgTs_cons, Res.bind_ok, Res.bind_exc, lift_some, noExc_ok, truth_bl, finish_rt, finish_nx, List.map_cons, List.map_nil, List.length_cons, List.length_nil, List.replicate_zero, List.replicate_succ, List.cons_append, List.nil_append, List.getElem?_cons_zero, List.getElem?_cons_succ, List.set_cons_zero, List.set_cons_succ, Bool.not_true, Bool.not_false, ↓reduceIte, Bool.false_eq_true, Nat.reduceAdd, Nat.reduceSub, Nat.reduceLT, Nat.reduceLeDiff, Nat.zero_add, id_eq, Nat.sub_self, Bool.true_and, Bool.and_true, Bool.false_and, Bool.and_false, Bool.true_or, Bool.or_true, Bool.false_or, Bool.or_false, compStep, forStep, bindT_name, bindT_tup, bindT_str, bindTs_nil, bindTs_cons, wipeE, List.length_set, eq, hb]
/-! ### stackings of marks -/
/-! ### slips -/
/-! ### the law's own -/
theorem law_marks_ok (K : K96 P) {s : List Nat} (h2 : 2 ≤ s.length) (hl : s.length ≤ 100) (hc : ∀ c ∈ s, c < 1114112) : callD P (n + 1) "_law_marks" [.str s] μ = .ok (.str (ml s)) μ := by
  rw [← ml_zip, callD_eq K.lmarks rfl]
  have tc : s.length ≤ cap := cap100 hl
  have hzl : (s.zip (s.drop 2)).length ≤ cap := by rw [List.length_zip]; exact Nat.le_trans (Nat.min_le_left _ _) tc
  have hz : ((s.zip (s.drop 2)).map fun p => D.tup [D.str [p.1], D.str [p.2]]).length ≤ cap := by rw [List.length_map]; exact hzl
  have s2 : fSl μ (.str s) (.int 2) .non = some (.str (s.drop 2)) := sl_from (a := 2) s tc h2
  simp -implicitDefEqProofs only [Law.d__law_marks, startE, exs_nil, exs_cons, ex_pass, ex_expr, ex_asg, ex_ifs, ex_for, ex_ret, ex_retN, ex_brk, ex_cont, ex_never, ev_var, ev_lit, ev_op1, ev_op2, ev_op3, ev_opN, ev_opM, ev_meth, ev_frz, ev_lst, ev_tup, ev_and, ev_or, ev_not, ev_ite, ev_chain, ev_call, ev_comp, evs_nil, evs_cons, Res.bind_assoc, evT, asgT_name, asgT_sub, asgT_tup, asgTs_nil, asgTs_cons, Res.bind_ok, Res.bind_exc, lift_some, noExc_ok, truth_bl, finish_rt, finish_nx, List.map_cons, List.map_nil, List.length_cons, List.length_nil, List.replicate_zero, List.replicate_succ, List.cons_append, List.nil_append, List.getElem?_cons_zero, List.getElem?_cons_succ, List.set_cons_zero, List.set_cons_succ, Bool.not_true, Bool.not_false, ↓reduceIte, Bool.false_eq_true, Nat.reduceAdd, Nat.reduceSub, Nat.reduceLT, Nat.reduceLeDiff, Nat.zero_add, id_eq, Nat.sub_self, Bool.true_and, Bool.and_true, Bool.false_and, Bool.and_false, Bool.true_or, Bool.or_true, Bool.false_or, Bool.or_false, fI_int, s2, zip_strs, hz, isStr]
  rw [compLoop_map (fun p : Nat × Nat => D.tup [.str [p.1], .str [p.2]]) (fun p => .str [mk2 p.1 p.2])]
  · have e : ((s.zip (s.drop 2)).map fun p => D.str [mk2 p.1 p.2]) = ((s.zip (s.drop 2)).map fun p => mk2 p.1 p.2).map fun c => .str [c] := by rw [List.map_map]; rfl
    rw [e]
    have h1 : ((s.zip (s.drop 2)).map fun p => mk2 p.1 p.2).length ≤ cap := by rw [List.length_map]; exact hzl
    have h2 : (((s.zip (s.drop 2)).map fun p => mk2 p.1 p.2).map fun c => D.str [c]).length ≤ cap := by rw [List.length_map]; exact h1
    simp -implicitDefEqProofs only [startE, exs_nil, exs_cons, ex_pass, ex_expr, ex_asg, ex_ifs, ex_for, ex_ret, ex_retN, ex_brk, ex_cont, ex_never, ev_var, ev_lit, ev_op1, ev_op2, ev_op3, ev_opN, ev_opM, ev_meth, ev_frz, ev_lst, ev_tup, ev_and, ev_or, ev_not, ev_ite, ev_chain, ev_call, ev_comp, evs_nil, evs_cons, Res.bind_assoc, evT, asgT_name, asgT_sub, asgT_tup, asgTs_nil, asgTs_cons, Res.bind_ok, Res.bind_exc, lift_some, noExc_ok, truth_bl, finish_rt, finish_nx, List.map_cons, List.map_nil, List.length_cons, List.length_nil, List.replicate_zero, List.replicate_succ, List.cons_append, List.nil_append, List.getElem?_cons_zero, List.getElem?_cons_succ, List.set_cons_zero, List.set_cons_succ, Bool.not_true, Bool.not_false, ↓reduceIte, Bool.false_eq_true, Nat.reduceAdd, Nat.reduceSub, Nat.reduceLT, Nat.reduceLeDiff, Nat.zero_add, id_eq, Nat.sub_self, Bool.true_and, Bool.and_true, Bool.false_and, Bool.and_false, Bool.true_or, Bool.or_true, Bool.false_or, Bool.or_false, mkL_val _ _ h2, join_signs _ h1]
  · intro p hp
    obtain ⟨a, b⟩ := p
    have eq := eq_sign μ a b (hc a (List.of_mem_zip hp).1) (hc b (List.mem_of_mem_drop (List.of_mem_zip hp).2))
    unfold mk2
    cases hb : (a == b) with
    | true => rw [hb] at eq; simp -implicitDefEqProofs only [startE, exs_nil, exs_cons, ex_pass, ex_expr, ex_asg, ex_ifs, ex_for, ex_ret, ex_retN, ex_brk, ex_cont, ex_never, ev_var, ev_lit, ev_op1, ev_op2, ev_op3, ev_opN, ev_opM, ev_meth, ev_frz, ev_lst, ev_tup, ev_and, ev_or, ev_not, ev_ite, ev_chain, ev_call, ev_comp, evs_nil, evs_cons, Res.bind_assoc, evT, asgT_name, asgT_sub, asgT_tup, asgTs_nil, asgTs_cons, Res.bind_ok, Res.bind_exc, lift_some, noExc_ok, truth_bl, finish_rt, finish_nx, List.map_cons, List.map_nil, List.length_cons, List.length_nil, List.replicate_zero, List.replicate_succ, List.cons_append, List.nil_append, List.getElem?_cons_zero, List.getElem?_cons_succ, List.set_cons_zero, List.set_cons_succ, Bool.not_true, Bool.not_false, ↓reduceIte, Bool.false_eq_true, Nat.reduceAdd, Nat.reduceSub, Nat.reduceLT, Nat.reduceLeDiff, Nat.zero_add, id_eq, Nat.sub_self, Bool.true_and, Bool.and_true, Bool.false_and, Bool.and_false, Bool.true_or, Bool.or_true, Bool.false_or, Bool.or_false, compStep, forStep, bindT_name, bindT_tup, bindT_str, bindTs_nil, bindTs_cons, wipeE, List.length_set, eq, hb]
    | false => rw [hb] at eq; simp -implicitDefEqProofs only [startE, exs_nil, exs_cons, ex_pass, ex_expr, ex_asg, ex_ifs, ex_for, ex_ret, ex_retN, ex_brk, ex_cont, ex_never, ev_var, ev_lit, ev_op1, ev_op2, ev_op3, ev_opN, ev_opM, ev_meth, ev_frz, ev_lst, ev_tup, ev_and, ev_or, ev_not, ev_ite, ev_chain, ev_call, ev_comp, evs_nil, evs_cons, Res.bind_assoc, evT, asgT_name, asgT_sub, asgT_tup, asgTs_nil, asgTs_cons, Res.bind_ok, Res.bind_exc, lift_some, noExc_ok, truth_bl, finish_rt, finish_nx, List.map_cons, List.map_nil, List.length_cons, List.length_nil, List.replicate_zero, List.replicate_succ, List.cons_append, List.nil_append, List.getElem?_cons_zero, List.getElem?_cons_succ, List.set_cons_zero, List.set_cons_succ, Bool.not_true, Bool.not_false, ↓reduceIte, Bool.false_eq_true, Nat.reduceAdd, Nat.reduceSub, Nat.reduceLT, Nat.reduceLeDiff, Nat.zero_add, id_eq, Nat.sub_self, Bool.true_and, Bool.and_true, Bool.false_and, Bool.and_false, Bool.true_or, Bool.or_true, Bool.false_or, Bool.or_false, compStep, forStep, bindT_name, bindT_tup, bindT_str, bindTs_nil, bindTs_cons, wipeE, List.length_set, eq, hb]
end
end Ev
namespace Ev
open Res
/-! ## closed ones, their parts, claims -/
abbrev wO : List Nat := [111, 119, 110]
abbrev wA : List Nat := [97, 103, 97, 105, 110]
abbrev wOs : List Nat := [111, 119, 110, 115]
def nilV : D → Bool
  | .tup [] => true
  | _ => false
/-- plain values -/
structure OkP (v : D) : Prop where
  g : gd 2 v = true
  s : ∀ s, v = .str s → s.length ≤ 1000
theorem OkP.cases {μ : Store} {v : D} (h : OkP v) : (∃ s, v = .str s ∧ s.length ≤ 1000 ∧ ∀ c ∈ s, c < 1114112) ∨ (fIsi μ [v, .ty "str"] = some (.bl false) ∧ ∀ s, v ≠ .str s) := by
  have g := h.g
  cases v with
  | str s =>
    refine .inl ⟨s, rfl, h.s s rfl, ?_⟩
    unfold gd at g
    exact fun c hc => of_decide_eq_true (List.all_eq_true.mp g c hc)
  | non => exact .inr ⟨rfl, fun s e => by cases e⟩
  | bl b => exact .inr ⟨rfl, fun s e => by cases e⟩
  | int i => exact .inr ⟨rfl, fun s e => by cases e⟩
  | tup ds => exact .inr ⟨rfl, fun s e => by cases e⟩
  | lst ds => exact .inr ⟨rfl, fun s e => by cases e⟩
  | _ => unfold gd at g; cases g
theorem okp_str {s : List Nat} (h : ∀ c ∈ s, c < 1114112) (hl : s.length ≤ 1000) : OkP (.str s) := ⟨gd_s h, fun t e => by cases e; exact hl⟩
theorem okp_of {v : D} (h : gd 2 v = true) (hn : ∀ s, v ≠ .str s) : OkP v := ⟨h, fun s e => absurd e (hn s)⟩
theorem okp_non : OkP .non := okp_of (by unfold gd; rfl) fun s e => by cases e
theorem okp_i (i : Int) : OkP (.int i) := okp_of (gd_i i) fun s e => by cases e
theorem okp_b (b : Bool) : OkP (.bl b) := okp_of (gd_b b) fun s e => by cases e
theorem okp_t0 : OkP (.tup []) := okp_of (gd_t gds_n (by decide)) fun s e => by cases e
theorem gds_strs {k : Nat} {s : List Nat} (h : ∀ c ∈ s, c < 1114112) : gds k (s.map fun c => D.str [c]) = true := by
  induction s with
  | nil => exact gds_n
  | cons c s ih => exact gds_c (gd_s fun d hd => by rw [List.mem_singleton.mp hd]; exact h c List.mem_cons_self) (ih fun d hd => h d (List.mem_cons_of_mem _ hd))
theorem cmps_strs (k : Nat) {s : List Nat} (h : ∀ c ∈ s, c < 1114112) : cmpOks k (s.map fun c => D.str [c]) = true := by
  induction s with
  | nil => unfold cmpOks; rfl
  | cons c s ih =>
    rw [List.map_cons]
    unfold cmpOks
    rw [ih fun d hd => h d (List.mem_cons_of_mem _ hd), cmp_str k fun d hd => by rw [List.mem_singleton.mp hd]; exact h c List.mem_cons_self]
    rfl
def clV : D → Bool
  | .str s => cloB s
  | _ => false
/-- the numbers of layers behind which a text comes again -/
def perB (s : List Nat) (k : Nat) : Bool := (((s.length : Nat) : Int) % ((1 + k : Nat) : Int) == 0) && ((List.replicate (((s.length : Nat) : Int) / ((1 + k : Nat) : Int)).toNat (s.take (1 + k))).flatten == s)
def pers (s : List Nat) : List Nat := ((List.range (s.length - 1)).filter (perB s)).map fun k => 1 + k
def perD (s : List Nat) : D := .lst ((pers s).map fun k => .int (k : Nat))
def own (s : List Nat) : List Nat := if pers s = [] then s else s.take ((pers s).getD 0 0)
theorem pers_len (s : List Nat) : (pers s).length ≤ s.length - 1 := by
  unfold pers
  rw [List.length_map]
  exact Nat.le_trans (List.length_filter_le _ _) (by rw [List.length_range]; exact Nat.le_refl _)
theorem eq_nats (μ : Store) (l : List Nat) : fEq μ (.lst (l.map fun k => D.int (k : Nat))) (.lst []) = some (.bl l.isEmpty) := eq_nil_ints μ (fun k : Nat => ((k : Nat) : Int)) l
theorem ne_nats (μ : Store) (xs : List Nat) : fNe μ (.lst (xs.map fun k => D.int (k : Nat))) (.lst []) = some (.bl (!xs.isEmpty)) := by
  have h0 : ∀ ys : List Nat, cmpOks 7 (ys.map fun k => D.int (k : Nat)) = true := by
    intro ys
    induction ys with
    | nil => unfold cmpOks; rfl
    | cons y ys ih => rw [List.map_cons]; unfold cmpOks; rw [ih]; unfold cmpOk; rfl
  have h1 : cmpOk 8 (.lst (xs.map fun k => D.int (k : Nat))) = true := by unfold cmpOk; exact h0 xs
  have h2 : cmpOk 8 (.lst []) = true := by unfold cmpOk cmpOks; rfl
  simp only [fNe, rd, asL, h1, h2, Bool.and_self, ↓reduceIte]
  cases xs with
  | nil => unfold eqD eqDs; rfl
  | cons c xs => unfold eqD; rw [List.map_cons]; unfold eqDs; rfl
/-- a comp of the periods -/
theorem per_comp {st : D → Store → Res (Option D)} {μ : Store} {s : List Nat} (h : ∀ k, k < s.length - 1 → st (.int ((1 + k : Nat) : Int)) μ = .ok (if perB s k then some (.int ((1 + k : Nat) : Int)) else none) μ) :
    compLoop st ((List.range (s.length - 1)).map fun k => D.int ((1 + k : Nat) : Int)) μ = .ok ((pers s).map fun k => .int (k : Nat)) μ := by
  rw [compLoop_filter (fun k : Nat => D.int ((1 + k : Nat) : Int)) (fun k : Nat => D.int ((1 + k : Nat) : Int)) (perB s)]
  · unfold pers
    rw [List.map_map]; rfl
  · intro k hk
    exact h k (List.mem_range.mp hk)
section
variable {P : String → Option FD} {n : Nat} {μ : Store}
theorem is_stacked_any (K : K96 P) {v : D} (h : OkP v) : callD P (n + 4) "is_stacked" [v] μ = .ok (.bl (stV v)) μ := by
  rcases h.cases (μ := μ) with ⟨s, rfl, hl, hu⟩ | ⟨t, hn⟩
  · exact is_stacked_str K.toBase s (cap1000 hl) hu
  · have e : stV v = false := by
      cases v with
      | str s => exact absurd rfl (hn s)
      | _ => rfl
    rw [e, callD_eq K.stacked rfl]
    have tx : callD P (n + 3) "is_text_of" [v, .str [65, 66, 67]] μ = .ok (.bl false) μ := by
      rw [callD_eq K.text rfl]
      simp -implicitDefEqProofs only [Law.d_is_text_of, startE, exs_nil, exs_cons, ex_pass, ex_expr, ex_asg, ex_ifs, ex_for, ex_ret, ex_retN, ex_brk, ex_cont, ex_never, ev_var, ev_lit, ev_op1, ev_op2, ev_op3, ev_opN, ev_opM, ev_meth, ev_frz, ev_lst, ev_tup, ev_and, ev_or, ev_not, ev_ite, ev_chain, ev_call, ev_comp, evs_nil, evs_cons, Res.bind_assoc, evT, asgT_name, asgT_sub, asgT_tup, asgTs_nil, asgTs_cons, Res.bind_ok, Res.bind_exc, lift_some, noExc_ok, truth_bl, finish_rt, finish_nx, List.map_cons, List.map_nil, List.length_cons, List.length_nil, List.replicate_zero, List.replicate_succ, List.cons_append, List.nil_append, List.getElem?_cons_zero, List.getElem?_cons_succ, List.set_cons_zero, List.set_cons_succ, Bool.not_true, Bool.not_false, ↓reduceIte, Bool.false_eq_true, Nat.reduceAdd, Nat.reduceSub, Nat.reduceLT, Nat.reduceLeDiff, Nat.zero_add, id_eq, Nat.sub_self, Bool.true_and, Bool.and_true, Bool.false_and, Bool.and_false, Bool.true_or, Bool.or_true, Bool.false_or, Bool.or_false, t]
    simp -implicitDefEqProofs only [Law.d_is_stacked, startE, exs_nil, exs_cons, ex_pass, ex_expr, ex_asg, ex_ifs, ex_for, ex_ret, ex_retN, ex_brk, ex_cont, ex_never, ev_var, ev_lit, ev_op1, ev_op2, ev_op3, ev_opN, ev_opM, ev_meth, ev_frz, ev_lst, ev_tup, ev_and, ev_or, ev_not, ev_ite, ev_chain, ev_call, ev_comp, evs_nil, evs_cons, Res.bind_assoc, evT, asgT_name, asgT_sub, asgT_tup, asgTs_nil, asgTs_cons, Res.bind_ok, Res.bind_exc, lift_some, noExc_ok, truth_bl, finish_rt, finish_nx, List.map_cons, List.map_nil, List.length_cons, List.length_nil, List.replicate_zero, List.replicate_succ, List.cons_append, List.nil_append, List.getElem?_cons_zero, List.getElem?_cons_succ, List.set_cons_zero, List.set_cons_succ, Bool.not_true, Bool.not_false, ↓reduceIte, Bool.false_eq_true, Nat.reduceAdd, Nat.reduceSub, Nat.reduceLT, Nat.reduceLeDiff, Nat.zero_add, id_eq, Nat.sub_self, Bool.true_and, Bool.and_true, Bool.false_and, Bool.and_false, Bool.true_or, Bool.or_true, Bool.false_or, Bool.or_false, tx]
theorem is_closed_any (K : K96 P) {v : D} (h : OkP v) : callD P (n + 5) "is_closed_one" [v] μ = .ok (.bl (clV v)) μ := by
  have st := is_stacked_any (n := n) (μ := μ) K h
  rw [callD_eq K.closed1 rfl]
  rcases h.cases (μ := μ) with ⟨s, rfl, hl, hu⟩ | ⟨t, hn⟩
  · show _ = Res.ok (D.bl (cloB s)) μ
    unfold cloB
    have st : callD P (n + 4) "is_stacked" [.str s] μ = .ok (.bl (stkB s)) μ := st
    cases hb : stkB s with
    | false => rw [hb] at st; simp -implicitDefEqProofs only [Law.d_is_closed_one, startE, exs_nil, exs_cons, ex_pass, ex_expr, ex_asg, ex_ifs, ex_for, ex_ret, ex_retN, ex_brk, ex_cont, ex_never, ev_var, ev_lit, ev_op1, ev_op2, ev_op3, ev_opN, ev_opM, ev_meth, ev_frz, ev_lst, ev_tup, ev_and, ev_or, ev_not, ev_ite, ev_chain, ev_call, ev_comp, evs_nil, evs_cons, Res.bind_assoc, evT, asgT_name, asgT_sub, asgT_tup, asgTs_nil, asgTs_cons, Res.bind_ok, Res.bind_exc, lift_some, noExc_ok, truth_bl, finish_rt, finish_nx, List.map_cons, List.map_nil, List.length_cons, List.length_nil, List.replicate_zero, List.replicate_succ, List.cons_append, List.nil_append, List.getElem?_cons_zero, List.getElem?_cons_succ, List.set_cons_zero, List.set_cons_succ, Bool.not_true, Bool.not_false, ↓reduceIte, Bool.false_eq_true, Nat.reduceAdd, Nat.reduceSub, Nat.reduceLT, Nat.reduceLeDiff, Nat.zero_add, id_eq, Nat.sub_self, Bool.true_and, Bool.and_true, Bool.false_and, Bool.and_false, Bool.true_or, Bool.or_true, Bool.false_or, Bool.or_false, st]
    | true =>
      rw [hb] at st
      obtain ⟨x0, x1, ne⟩ := ends_ne μ ((stkB_iff s).mp hb)
      simp -implicitDefEqProofs only [Law.d_is_closed_one, startE, exs_nil, exs_cons, ex_pass, ex_expr, ex_asg, ex_ifs, ex_for, ex_ret, ex_retN, ex_brk, ex_cont, ex_never, ev_var, ev_lit, ev_op1, ev_op2, ev_op3, ev_opN, ev_opM, ev_meth, ev_frz, ev_lst, ev_tup, ev_and, ev_or, ev_not, ev_ite, ev_chain, ev_call, ev_comp, evs_nil, evs_cons, Res.bind_assoc, evT, asgT_name, asgT_sub, asgT_tup, asgTs_nil, asgTs_cons, Res.bind_ok, Res.bind_exc, lift_some, noExc_ok, truth_bl, finish_rt, finish_nx, List.map_cons, List.map_nil, List.length_cons, List.length_nil, List.replicate_zero, List.replicate_succ, List.cons_append, List.nil_append, List.getElem?_cons_zero, List.getElem?_cons_succ, List.set_cons_zero, List.set_cons_succ, Bool.not_true, Bool.not_false, ↓reduceIte, Bool.false_eq_true, Nat.reduceAdd, Nat.reduceSub, Nat.reduceLT, Nat.reduceLeDiff, Nat.zero_add, id_eq, Nat.sub_self, Bool.true_and, Bool.and_true, Bool.false_and, Bool.and_false, Bool.true_or, Bool.or_true, Bool.false_or, Bool.or_false, st, x0, neg_int, x1, ne]
  · have e : stV v = false := by
      cases v with
      | str s => exact absurd rfl (hn s)
      | _ => rfl
    have e2 : clV v = false := by
      cases v with
      | str s => exact absurd rfl (hn s)
      | _ => rfl
    rw [e2]
    rw [e] at st
    simp -implicitDefEqProofs only [Law.d_is_closed_one, startE, exs_nil, exs_cons, ex_pass, ex_expr, ex_asg, ex_ifs, ex_for, ex_ret, ex_retN, ex_brk, ex_cont, ex_never, ev_var, ev_lit, ev_op1, ev_op2, ev_op3, ev_opN, ev_opM, ev_meth, ev_frz, ev_lst, ev_tup, ev_and, ev_or, ev_not, ev_ite, ev_chain, ev_call, ev_comp, evs_nil, evs_cons, Res.bind_assoc, evT, asgT_name, asgT_sub, asgT_tup, asgTs_nil, asgTs_cons, Res.bind_ok, Res.bind_exc, lift_some, noExc_ok, truth_bl, finish_rt, finish_nx, List.map_cons, List.map_nil, List.length_cons, List.length_nil, List.replicate_zero, List.replicate_succ, List.cons_append, List.nil_append, List.getElem?_cons_zero, List.getElem?_cons_succ, List.set_cons_zero, List.set_cons_succ, Bool.not_true, Bool.not_false, ↓reduceIte, Bool.false_eq_true, Nat.reduceAdd, Nat.reduceSub, Nat.reduceLT, Nat.reduceLeDiff, Nat.zero_add, id_eq, Nat.sub_self, Bool.true_and, Bool.and_true, Bool.false_and, Bool.and_false, Bool.true_or, Bool.or_true, Bool.false_or, Bool.or_false, st]
theorem okp_stk {s : List Nat} (h : Stk s) : OkP (.str s) := okp_str (fun c hc => isL_lt (h.ltr c hc)) (by have := h.le; omega)
theorem closed1_ok' (K : K96 P) {s : List Nat} (h : Clo s) : callD P (n + 5) "is_closed_one" [.str s] μ = .ok (.bl true) μ := by
  have := is_closed_any (n := n) (μ := μ) K (okp_stk h.toStk)
  rw [show clV (.str s) = true from h.b] at this
  exact this
theorem check_clo_ok (K : K96 P) {s : List Nat} (h : Clo s) : callD P (n + 6) "check_closed" [.str s] μ = .ok .non μ := by
  have e := closed1_ok' (n := n) (μ := μ) K h
  rw [callD_eq K.checkC rfl]
  simp -implicitDefEqProofs only [Law.d_check_closed, startE, exs_nil, exs_cons, ex_pass, ex_expr, ex_asg, ex_ifs, ex_for, ex_ret, ex_retN, ex_brk, ex_cont, ex_never, ev_var, ev_lit, ev_op1, ev_op2, ev_op3, ev_opN, ev_opM, ev_meth, ev_frz, ev_lst, ev_tup, ev_and, ev_or, ev_not, ev_ite, ev_chain, ev_call, ev_comp, evs_nil, evs_cons, Res.bind_assoc, evT, asgT_name, asgT_sub, asgT_tup, asgTs_nil, asgTs_cons, Res.bind_ok, Res.bind_exc, lift_some, noExc_ok, truth_bl, finish_rt, finish_nx, List.map_cons, List.map_nil, List.length_cons, List.length_nil, List.replicate_zero, List.replicate_succ, List.cons_append, List.nil_append, List.getElem?_cons_zero, List.getElem?_cons_succ, List.set_cons_zero, List.set_cons_succ, Bool.not_true, Bool.not_false, ↓reduceIte, Bool.false_eq_true, Nat.reduceAdd, Nat.reduceSub, Nat.reduceLT, Nat.reduceLeDiff, Nat.zero_add, id_eq, Nat.sub_self, Bool.true_and, Bool.and_true, Bool.false_and, Bool.and_false, Bool.true_or, Bool.or_true, Bool.false_or, Bool.or_false, e]
theorem is_clo_ok (K : K96 P) {s : List Nat} (h : Clo s) : callD P (n + 6) "is_closed" [.str s] μ = .ok (.bl true) μ := by
  rw [callD_eq K.isClo rfl]
  simp -implicitDefEqProofs only [Law.d_is_closed, startE, exs_nil, exs_cons, ex_pass, ex_expr, ex_asg, ex_ifs, ex_for, ex_ret, ex_retN, ex_brk, ex_cont, ex_never, ev_var, ev_lit, ev_op1, ev_op2, ev_op3, ev_opN, ev_opM, ev_meth, ev_frz, ev_lst, ev_tup, ev_and, ev_or, ev_not, ev_ite, ev_chain, ev_call, ev_comp, evs_nil, evs_cons, Res.bind_assoc, evT, asgT_name, asgT_sub, asgT_tup, asgTs_nil, asgTs_cons, Res.bind_ok, Res.bind_exc, lift_some, noExc_ok, truth_bl, finish_rt, finish_nx, List.map_cons, List.map_nil, List.length_cons, List.length_nil, List.replicate_zero, List.replicate_succ, List.cons_append, List.nil_append, List.getElem?_cons_zero, List.getElem?_cons_succ, List.set_cons_zero, List.set_cons_succ, Bool.not_true, Bool.not_false, ↓reduceIte, Bool.false_eq_true, Nat.reduceAdd, Nat.reduceSub, Nat.reduceLT, Nat.reduceLeDiff, Nat.zero_add, id_eq, Nat.sub_self, Bool.true_and, Bool.and_true, Bool.false_and, Bool.and_false, Bool.true_or, Bool.or_true, Bool.false_or, Bool.or_false, closed1_ok' K h]
theorem round_by_ok (K : K96 P) {s : List Nat} (h : Clo s) : callD P (n + 5) "round_steps_by" [.str s] μ = .ok (.str (rs s)) μ := by
  have hp := h.pos
  have hle := h.le
  have x0 : fIx μ (.str s) (.int 0) = some (.str [at' s 0]) := ix_strN μ h.cap (i := 0) (by omega)
  have ad := add_str μ (s := s) (t := [at' s 0]) (cap100 (by rw [List.length_singleton]; omega))
  have sb := steps_by_ok (n := n) (μ := μ) K.num K.fur K.stepB K.steps (t := s ++ [at' s 0]) (by rw [List.length_append, List.length_singleton]; omega) (fun c hc => by
    rcases List.mem_append.mp hc with z | z
    · exact h.ltr c z
    · rw [List.mem_singleton.mp z]; exact h.at (by omega))
  have e : (((s ++ [at' s 0]).zip ((s ++ [at' s 0]).drop 1)).map fun p => stp p.1 p.2) = rs s := ring_zip hp stp
  rw [e] at sb
  rw [callD_eq K.roundBy rfl]
  simp -implicitDefEqProofs only [Law.d_round_steps_by, startE, exs_nil, exs_cons, ex_pass, ex_expr, ex_asg, ex_ifs, ex_for, ex_ret, ex_retN, ex_brk, ex_cont, ex_never, ev_var, ev_lit, ev_op1, ev_op2, ev_op3, ev_opN, ev_opM, ev_meth, ev_frz, ev_lst, ev_tup, ev_and, ev_or, ev_not, ev_ite, ev_chain, ev_call, ev_comp, evs_nil, evs_cons, Res.bind_assoc, evT, asgT_name, asgT_sub, asgT_tup, asgTs_nil, asgTs_cons, Res.bind_ok, Res.bind_exc, lift_some, noExc_ok, truth_bl, finish_rt, finish_nx, List.map_cons, List.map_nil, List.length_cons, List.length_nil, List.replicate_zero, List.replicate_succ, List.cons_append, List.nil_append, List.getElem?_cons_zero, List.getElem?_cons_succ, List.set_cons_zero, List.set_cons_succ, Bool.not_true, Bool.not_false, ↓reduceIte, Bool.false_eq_true, Nat.reduceAdd, Nat.reduceSub, Nat.reduceLT, Nat.reduceLeDiff, Nat.zero_add, id_eq, Nat.sub_self, Bool.true_and, Bool.and_true, Bool.false_and, Bool.and_false, Bool.true_or, Bool.or_true, Bool.false_or, Bool.or_false, x0, ad, sb]
theorem round_marks_by_ok (K : K96 P) {s : List Nat} (h : Clo s) : callD P (n + 6) "round_marks_by" [.str s] μ = .ok (.str (rm s)) μ := by
  have hp := h.pos
  have hle := h.le
  have r := round_by_ok (n := n) (μ := μ) K h
  have rl := rs_len s
  have xl : fIx μ (.str (rs s)) (.int (-1)) = some (.str [at' (rs s) ((rs s).length - 1)]) := ix_strE μ (cap100 (by omega)) (j := 1) (by omega) (by omega)
  have ad : fAdd μ (.str [at' (rs s) ((rs s).length - 1)]) (.str (rs s)) = some (.str ([at' (rs s) ((rs s).length - 1)] ++ rs s)) := add_str μ (cap100 (by rw [List.length_singleton]; omega))
  have mb := marks_between_ok (n := n + 4) (μ := μ) K (l := [at' (rs s) ((rs s).length - 1)] ++ rs s) (by rw [List.length_append, List.length_singleton]; omega) (fun c hc => by
    rcases List.mem_append.mp hc with z | z
    · rw [List.mem_singleton.mp z]
      exact (rs_Sg s).lt (at_mem (by omega))
    · exact (rs_Sg s).lt z)
  rw [prog_rm h] at mb
  have mb : callD P (n + 5) "marks_between" [.str (at' (rs s) ((rs s).length - 1) :: rs s)] μ = .ok (.str (rm s)) μ := mb
  rw [callD_eq K.roundMarksBy rfl]
  simp -implicitDefEqProofs only [Law.d_round_marks_by, startE, exs_nil, exs_cons, ex_pass, ex_expr, ex_asg, ex_ifs, ex_for, ex_ret, ex_retN, ex_brk, ex_cont, ex_never, ev_var, ev_lit, ev_op1, ev_op2, ev_op3, ev_opN, ev_opM, ev_meth, ev_frz, ev_lst, ev_tup, ev_and, ev_or, ev_not, ev_ite, ev_chain, ev_call, ev_comp, evs_nil, evs_cons, Res.bind_assoc, evT, asgT_name, asgT_sub, asgT_tup, asgTs_nil, asgTs_cons, Res.bind_ok, Res.bind_exc, lift_some, noExc_ok, truth_bl, finish_rt, finish_nx, List.map_cons, List.map_nil, List.length_cons, List.length_nil, List.replicate_zero, List.replicate_succ, List.cons_append, List.nil_append, List.getElem?_cons_zero, List.getElem?_cons_succ, List.set_cons_zero, List.set_cons_succ, Bool.not_true, Bool.not_false, ↓reduceIte, Bool.false_eq_true, Nat.reduceAdd, Nat.reduceSub, Nat.reduceLT, Nat.reduceLeDiff, Nat.zero_add, id_eq, Nat.sub_self, Bool.true_and, Bool.and_true, Bool.false_and, Bool.and_false, Bool.true_or, Bool.or_true, Bool.false_or, Bool.or_false, r, neg_int, xl, ad, mb]
theorem marks_ok (K : K96 P) {s : List Nat} (h : Clo s) : callD P (n + 7) "round_marks" [.str s] μ = .ok (.str (rm s)) μ := by
  have c := check_clo_ok (n := n) (μ := μ) K h
  have rb := round_marks_by_ok (n := n) (μ := μ) K h
  rw [callD_eq K.roundMarks rfl]
  simp -implicitDefEqProofs only [Law.d_round_marks, startE, exs_nil, exs_cons, ex_pass, ex_expr, ex_asg, ex_ifs, ex_for, ex_ret, ex_retN, ex_brk, ex_cont, ex_never, ev_var, ev_lit, ev_op1, ev_op2, ev_op3, ev_opN, ev_opM, ev_meth, ev_frz, ev_lst, ev_tup, ev_and, ev_or, ev_not, ev_ite, ev_chain, ev_call, ev_comp, evs_nil, evs_cons, Res.bind_assoc, evT, asgT_name, asgT_sub, asgT_tup, asgTs_nil, asgTs_cons, Res.bind_ok, Res.bind_exc, lift_some, noExc_ok, truth_bl, finish_rt, finish_nx, List.map_cons, List.map_nil, List.length_cons, List.length_nil, List.replicate_zero, List.replicate_succ, List.cons_append, List.nil_append, List.getElem?_cons_zero, List.getElem?_cons_succ, List.set_cons_zero, List.set_cons_succ, Bool.not_true, Bool.not_false, ↓reduceIte, Bool.false_eq_true, Nat.reduceAdd, Nat.reduceSub, Nat.reduceLT, Nat.reduceLeDiff, Nat.zero_add, id_eq, Nat.sub_self, Bool.true_and, Bool.and_true, Bool.false_and, Bool.and_false, Bool.true_or, Bool.or_true, Bool.false_or, Bool.or_false, c, rb]
theorem h_count_ok (K : K96 P) {s : List Nat} (h : Clo s) : callD P (n + 8) "h_count" [.str s] μ = .ok (.int ((rm s).count 104 : Nat)) μ := by
  have c := check_clo_ok (n := n + 1) (μ := μ) K h
  have rb := round_marks_by_ok (n := n) (μ := μ) K h
  have hc : callD P (n + 7) "h_count_of" [.str s] μ = .ok (.int ((rm s).count 104 : Nat)) μ := by
    rw [callD_eq K.hCountOf rfl]
    simp -implicitDefEqProofs only [Law.d_h_count_of, startE, exs_nil, exs_cons, ex_pass, ex_expr, ex_asg, ex_ifs, ex_for, ex_ret, ex_retN, ex_brk, ex_cont, ex_never, ev_var, ev_lit, ev_op1, ev_op2, ev_op3, ev_opN, ev_opM, ev_meth, ev_frz, ev_lst, ev_tup, ev_and, ev_or, ev_not, ev_ite, ev_chain, ev_call, ev_comp, evs_nil, evs_cons, Res.bind_assoc, evT, asgT_name, asgT_sub, asgT_tup, asgTs_nil, asgTs_cons, Res.bind_ok, Res.bind_exc, lift_some, noExc_ok, truth_bl, finish_rt, finish_nx, List.map_cons, List.map_nil, List.length_cons, List.length_nil, List.replicate_zero, List.replicate_succ, List.cons_append, List.nil_append, List.getElem?_cons_zero, List.getElem?_cons_succ, List.set_cons_zero, List.set_cons_succ, Bool.not_true, Bool.not_false, ↓reduceIte, Bool.false_eq_true, Nat.reduceAdd, Nat.reduceSub, Nat.reduceLT, Nat.reduceLeDiff, Nat.zero_add, id_eq, Nat.sub_self, Bool.true_and, Bool.and_true, Bool.false_and, Bool.and_false, Bool.true_or, Bool.or_true, Bool.false_or, Bool.or_false, rb, isStr, mcount]
  rw [callD_eq K.hCount rfl]
  simp -implicitDefEqProofs only [Law.d_h_count, startE, exs_nil, exs_cons, ex_pass, ex_expr, ex_asg, ex_ifs, ex_for, ex_ret, ex_retN, ex_brk, ex_cont, ex_never, ev_var, ev_lit, ev_op1, ev_op2, ev_op3, ev_opN, ev_opM, ev_meth, ev_frz, ev_lst, ev_tup, ev_and, ev_or, ev_not, ev_ite, ev_chain, ev_call, ev_comp, evs_nil, evs_cons, Res.bind_assoc, evT, asgT_name, asgT_sub, asgT_tup, asgTs_nil, asgTs_cons, Res.bind_ok, Res.bind_exc, lift_some, noExc_ok, truth_bl, finish_rt, finish_nx, List.map_cons, List.map_nil, List.length_cons, List.length_nil, List.replicate_zero, List.replicate_succ, List.cons_append, List.nil_append, List.getElem?_cons_zero, List.getElem?_cons_succ, List.set_cons_zero, List.set_cons_succ, Bool.not_true, Bool.not_false, ↓reduceIte, Bool.false_eq_true, Nat.reduceAdd, Nat.reduceSub, Nat.reduceLT, Nat.reduceLeDiff, Nat.zero_add, id_eq, Nat.sub_self, Bool.true_and, Bool.and_true, Bool.false_and, Bool.and_false, Bool.true_or, Bool.or_true, Bool.false_or, Bool.or_false, c, hc]
theorem isi_tuple (μ : Store) {v : D} (h : OkP v) : fIsi μ [v, .ty "tuple"] = some (.bl (match v with | .tup _ => true | _ => false)) := by
  have g := h.g
  cases v with
  | non => rfl
  | bl b => rfl
  | int i => rfl
  | str s => rfl
  | tup ds => rfl
  | lst ds => rfl
  | _ => unfold gd at g; cases g
theorem nothing_ok (K : K96 P) {v : D} (h : OkP v) : callD P (n + 2) "is_nothing" [v] μ = .ok (.bl (nilV v)) μ := by
  have it := isi_tuple μ h
  have e : callD P (n + 1) "is_tuple_of" [v, .int 0] μ = .ok (.bl (nilV v)) μ := by
    rw [callD_eq K.isTupleOf rfl]
    cases v with
    | tup ds =>
      have it : fIsi μ [.tup ds, .ty "tuple"] = some (.bl true) := it
      have ll : fLen μ [.tup ds] = some (.int (ds.length : Nat)) := rfl
      cases ds with
      | nil =>
        have e0 : fEq μ (.int ((0 : Nat) : Int)) (.int 0) = some (.bl true) := rfl
        have ll : fLen μ [.tup []] = some (.int ((0 : Nat) : Int)) := rfl
        simp -implicitDefEqProofs only [Law.d_is_tuple_of, startE, exs_nil, exs_cons, ex_pass, ex_expr, ex_asg, ex_ifs, ex_for, ex_ret, ex_retN, ex_brk, ex_cont, ex_never, ev_var, ev_lit, ev_op1, ev_op2, ev_op3, ev_opN, ev_opM, ev_meth, ev_frz, ev_lst, ev_tup, ev_and, ev_or, ev_not, ev_ite, ev_chain, ev_call, ev_comp, evs_nil, evs_cons, Res.bind_assoc, evT, asgT_name, asgT_sub, asgT_tup, asgTs_nil, asgTs_cons, Res.bind_ok, Res.bind_exc, lift_some, noExc_ok, truth_bl, finish_rt, finish_nx, List.map_cons, List.map_nil, List.length_cons, List.length_nil, List.replicate_zero, List.replicate_succ, List.cons_append, List.nil_append, List.getElem?_cons_zero, List.getElem?_cons_succ, List.set_cons_zero, List.set_cons_succ, Bool.not_true, Bool.not_false, ↓reduceIte, Bool.false_eq_true, Nat.reduceAdd, Nat.reduceSub, Nat.reduceLT, Nat.reduceLeDiff, Nat.zero_add, id_eq, Nat.sub_self, Bool.true_and, Bool.and_true, Bool.false_and, Bool.and_false, Bool.true_or, Bool.or_true, Bool.false_or, Bool.or_false, it, ll, e0]
        rfl
      | cons d ds =>
        have ll : fLen μ [.tup (d :: ds)] = some (.int ((ds.length + 1 : Nat) : Int)) := rfl
        have e0 : fEq μ (.int ((ds.length + 1 : Nat) : Int)) (.int 0) = some (.bl false) := by
          rw [eq_intX, show (((ds.length + 1 : Nat) : Int) == 0) = false by rw [beq_eq_false_iff_ne]; omega]
        simp -implicitDefEqProofs only [Law.d_is_tuple_of, startE, exs_nil, exs_cons, ex_pass, ex_expr, ex_asg, ex_ifs, ex_for, ex_ret, ex_retN, ex_brk, ex_cont, ex_never, ev_var, ev_lit, ev_op1, ev_op2, ev_op3, ev_opN, ev_opM, ev_meth, ev_frz, ev_lst, ev_tup, ev_and, ev_or, ev_not, ev_ite, ev_chain, ev_call, ev_comp, evs_nil, evs_cons, Res.bind_assoc, evT, asgT_name, asgT_sub, asgT_tup, asgTs_nil, asgTs_cons, Res.bind_ok, Res.bind_exc, lift_some, noExc_ok, truth_bl, finish_rt, finish_nx, List.map_cons, List.map_nil, List.length_cons, List.length_nil, List.replicate_zero, List.replicate_succ, List.cons_append, List.nil_append, List.getElem?_cons_zero, List.getElem?_cons_succ, List.set_cons_zero, List.set_cons_succ, Bool.not_true, Bool.not_false, ↓reduceIte, Bool.false_eq_true, Nat.reduceAdd, Nat.reduceSub, Nat.reduceLT, Nat.reduceLeDiff, Nat.zero_add, id_eq, Nat.sub_self, Bool.true_and, Bool.and_true, Bool.false_and, Bool.and_false, Bool.true_or, Bool.or_true, Bool.false_or, Bool.or_false, it, ll, e0]
        rfl
    | _ =>
      simp -implicitDefEqProofs only [Law.d_is_tuple_of, startE, exs_nil, exs_cons, ex_pass, ex_expr, ex_asg, ex_ifs, ex_for, ex_ret, ex_retN, ex_brk, ex_cont, ex_never, ev_var, ev_lit, ev_op1, ev_op2, ev_op3, ev_opN, ev_opM, ev_meth, ev_frz, ev_lst, ev_tup, ev_and, ev_or, ev_not, ev_ite, ev_chain, ev_call, ev_comp, evs_nil, evs_cons, Res.bind_assoc, evT, asgT_name, asgT_sub, asgT_tup, asgTs_nil, asgTs_cons, Res.bind_ok, Res.bind_exc, lift_some, noExc_ok, truth_bl, finish_rt, finish_nx, List.map_cons, List.map_nil, List.length_cons, List.length_nil, List.replicate_zero, List.replicate_succ, List.cons_append, List.nil_append, List.getElem?_cons_zero, List.getElem?_cons_succ, List.set_cons_zero, List.set_cons_succ, Bool.not_true, Bool.not_false, ↓reduceIte, Bool.false_eq_true, Nat.reduceAdd, Nat.reduceSub, Nat.reduceLT, Nat.reduceLeDiff, Nat.zero_add, id_eq, Nat.sub_self, Bool.true_and, Bool.and_true, Bool.false_and, Bool.and_false, Bool.true_or, Bool.or_true, Bool.false_or, Bool.or_false, it]
      rfl
  rw [callD_eq K.isNothing rfl]
  simp -implicitDefEqProofs only [Law.d_is_nothing, startE, exs_nil, exs_cons, ex_pass, ex_expr, ex_asg, ex_ifs, ex_for, ex_ret, ex_retN, ex_brk, ex_cont, ex_never, ev_var, ev_lit, ev_op1, ev_op2, ev_op3, ev_opN, ev_opM, ev_meth, ev_frz, ev_lst, ev_tup, ev_and, ev_or, ev_not, ev_ite, ev_chain, ev_call, ev_comp, evs_nil, evs_cons, Res.bind_assoc, evT, asgT_name, asgT_sub, asgT_tup, asgTs_nil, asgTs_cons, Res.bind_ok, Res.bind_exc, lift_some, noExc_ok, truth_bl, finish_rt, finish_nx, List.map_cons, List.map_nil, List.length_cons, List.length_nil, List.replicate_zero, List.replicate_succ, List.cons_append, List.nil_append, List.getElem?_cons_zero, List.getElem?_cons_succ, List.set_cons_zero, List.set_cons_succ, Bool.not_true, Bool.not_false, ↓reduceIte, Bool.false_eq_true, Nat.reduceAdd, Nat.reduceSub, Nat.reduceLT, Nat.reduceLeDiff, Nat.zero_add, id_eq, Nat.sub_self, Bool.true_and, Bool.and_true, Bool.false_and, Bool.and_false, Bool.true_or, Bool.or_true, Bool.false_or, Bool.or_false, e]
theorem whole_no (K : K96 P) {v : D} (h : OkP v) (hn : ∀ i, v ≠ .int i) : callD P (n + 1) "is_whole" [v] μ = .ok (.bl false) μ := by
  rw [callD_eq K.whole rfl]
  have g := h.g
  have no : fIsi μ [v, .ty "int"] = some (.bl false) → exs (callD P n) Law.d_is_whole.body (startE Law.d_is_whole [v]) μ = .ok (.rt (.bl false)) μ := fun e => by
    simp -implicitDefEqProofs only [Law.d_is_whole, startE, exs_nil, exs_cons, ex_pass, ex_expr, ex_asg, ex_ifs, ex_for, ex_ret, ex_retN, ex_brk, ex_cont, ex_never, ev_var, ev_lit, ev_op1, ev_op2, ev_op3, ev_opN, ev_opM, ev_meth, ev_frz, ev_lst, ev_tup, ev_and, ev_or, ev_not, ev_ite, ev_chain, ev_call, ev_comp, evs_nil, evs_cons, Res.bind_assoc, evT, asgT_name, asgT_sub, asgT_tup, asgTs_nil, asgTs_cons, Res.bind_ok, Res.bind_exc, lift_some, noExc_ok, truth_bl, finish_rt, finish_nx, List.map_cons, List.map_nil, List.length_cons, List.length_nil, List.replicate_zero, List.replicate_succ, List.cons_append, List.nil_append, List.getElem?_cons_zero, List.getElem?_cons_succ, List.set_cons_zero, List.set_cons_succ, Bool.not_true, Bool.not_false, ↓reduceIte, Bool.false_eq_true, Nat.reduceAdd, Nat.reduceSub, Nat.reduceLT, Nat.reduceLeDiff, Nat.zero_add, id_eq, Nat.sub_self, Bool.true_and, Bool.and_true, Bool.false_and, Bool.and_false, Bool.true_or, Bool.or_true, Bool.false_or, Bool.or_false, e]
  cases v with
  | bl b =>
    have t1 : fIsi μ [.bl b, .ty "int"] = some (.bl true) := rfl
    have t2 : fIsi μ [.bl b, .ty "bool"] = some (.bl true) := rfl
    simp -implicitDefEqProofs only [Law.d_is_whole, startE, exs_nil, exs_cons, ex_pass, ex_expr, ex_asg, ex_ifs, ex_for, ex_ret, ex_retN, ex_brk, ex_cont, ex_never, ev_var, ev_lit, ev_op1, ev_op2, ev_op3, ev_opN, ev_opM, ev_meth, ev_frz, ev_lst, ev_tup, ev_and, ev_or, ev_not, ev_ite, ev_chain, ev_call, ev_comp, evs_nil, evs_cons, Res.bind_assoc, evT, asgT_name, asgT_sub, asgT_tup, asgTs_nil, asgTs_cons, Res.bind_ok, Res.bind_exc, lift_some, noExc_ok, truth_bl, finish_rt, finish_nx, List.map_cons, List.map_nil, List.length_cons, List.length_nil, List.replicate_zero, List.replicate_succ, List.cons_append, List.nil_append, List.getElem?_cons_zero, List.getElem?_cons_succ, List.set_cons_zero, List.set_cons_succ, Bool.not_true, Bool.not_false, ↓reduceIte, Bool.false_eq_true, Nat.reduceAdd, Nat.reduceSub, Nat.reduceLT, Nat.reduceLeDiff, Nat.zero_add, id_eq, Nat.sub_self, Bool.true_and, Bool.and_true, Bool.false_and, Bool.and_false, Bool.true_or, Bool.or_true, Bool.false_or, Bool.or_false, t1, t2]
  | int i => exact absurd rfl (hn i)
  | non => rw [no rfl]; exact finish_rt _ _
  | str s => rw [no rfl]; exact finish_rt _ _
  | tup ds => rw [no rfl]; exact finish_rt _ _
  | lst ds => rw [no rfl]; exact finish_rt _ _
  | _ => unfold gd at g; cases g
theorem h_count_of_ok (K : K96 P) {s : List Nat} (h : Clo s) : callD P (n + 7) "h_count_of" [.str s] μ = .ok (.int ((rm s).count 104 : Nat)) μ := by
  have rb := round_marks_by_ok (n := n) (μ := μ) K h
  rw [callD_eq K.hCountOf rfl]
  simp -implicitDefEqProofs only [Law.d_h_count_of, startE, exs_nil, exs_cons, ex_pass, ex_expr, ex_asg, ex_ifs, ex_for, ex_ret, ex_retN, ex_brk, ex_cont, ex_never, ev_var, ev_lit, ev_op1, ev_op2, ev_op3, ev_opN, ev_opM, ev_meth, ev_frz, ev_lst, ev_tup, ev_and, ev_or, ev_not, ev_ite, ev_chain, ev_call, ev_comp, evs_nil, evs_cons, Res.bind_assoc, evT, asgT_name, asgT_sub, asgT_tup, asgTs_nil, asgTs_cons, Res.bind_ok, Res.bind_exc, lift_some, noExc_ok, truth_bl, finish_rt, finish_nx, List.map_cons, List.map_nil, List.length_cons, List.length_nil, List.replicate_zero, List.replicate_succ, List.cons_append, List.nil_append, List.getElem?_cons_zero, List.getElem?_cons_succ, List.set_cons_zero, List.set_cons_succ, Bool.not_true, Bool.not_false, ↓reduceIte, Bool.false_eq_true, Nat.reduceAdd, Nat.reduceSub, Nat.reduceLT, Nat.reduceLeDiff, Nat.zero_add, id_eq, Nat.sub_self, Bool.true_and, Bool.and_true, Bool.false_and, Bool.and_false, Bool.true_or, Bool.or_true, Bool.false_or, Bool.or_false, rb, isStr, mcount]
theorem per_step (s : List Nat) (hs : Stk s) {k : Nat} (hk : k < s.length - 1) (μ : Store) : fMod μ (.int (s.length : Nat)) (.int ((1 + k : Nat) : Int)) = some (.int (((s.length : Nat) : Int) % ((1 + k : Nat) : Int))) ∧
    fDiv μ (.int (s.length : Nat)) (.int ((1 + k : Nat) : Int)) = some (.int (((s.length : Nat) : Int) / ((1 + k : Nat) : Int))) ∧
    fSl μ (.str s) .non (.int ((1 + k : Nat) : Int)) = some (.str (s.take (1 + k))) ∧
    fMul μ (.str (s.take (1 + k))) (.int (((s.length : Nat) : Int) / ((1 + k : Nat) : Int))) = some (.str (List.replicate (((s.length : Nat) : Int) / ((1 + k : Nat) : Int)).toNat (s.take (1 + k))).flatten) ∧
    fEq μ (.str (List.replicate (((s.length : Nat) : Int) / ((1 + k : Nat) : Int)).toNat (s.take (1 + k))).flatten) (.str s) = some (.bl ((List.replicate (((s.length : Nat) : Int) / ((1 + k : Nat) : Int)).toNat (s.take (1 + k))).flatten == s)) ∧
    fEq μ (.int (((s.length : Nat) : Int) % ((1 + k : Nat) : Int))) (.int 0) = some (.bl (((s.length : Nat) : Int) % ((1 + k : Nat) : Int) == 0)) := by
  have hle := hs.le
  have hu : ∀ c ∈ s, c < 1114112 := fun c hc => isL_lt (hs.ltr c hc)
  have dq : ((s.length : Nat) : Int) / ((1 + k : Nat) : Int) = ((s.length / (1 + k) : Nat) : Int) := by push_cast; rfl
  have dle : s.length / (1 + k) ≤ s.length := Nat.div_le_self _ _
  refine ⟨mod_pos μ _ (by omega), div_pos μ _ (by omega) (by
      have : ((1 + k : Nat) : Int).natAbs ≤ 24 := by omega
      exact Nat.lt_of_le_of_lt (Nat.le_trans (Nat.log2_le_self _) this) (by decide)), sl_to (μ := μ) s hs.cap (a := 1 + k) (by omega), ?_, eq_strg μ (fun c hc => ?_) hu, eq_intX μ _ 0⟩
  · simp only [fMul]
    rw [if_pos ⟨by rw [dq]; exact Int.le_trans (by decide) (Int.natCast_nonneg _), by rw [dq]; exact Int.ofNat_le.mpr (Nat.le_trans dle (by omega : s.length ≤ 1000)), by rw [List.length_take]; omega⟩]
  · obtain ⟨l, hl, hc⟩ := List.mem_flatten.mp hc
    rw [List.eq_of_mem_replicate hl] at hc
    exact hu c (List.mem_of_mem_take hc)
theorem periods_ok (K : K96 P) {s : List Nat} (hs : Stk s) : callD P (n + 1) "periods_of" [.str s] μ = .ok (perD s) μ := by
  have hp := hs.pos
  have hle := hs.le
  have rg : fRng2 μ [.int 1, .int (s.length : Nat)] = some ((List.range (s.length - 1)).map fun k => D.int ((1 + k : Nat) : Int)) := rng2 μ (i := 1) (j := s.length) (by omega) hp
  have rl : ((List.range (s.length - 1)).map fun k => D.int ((1 + k : Nat) : Int)).length ≤ cap := by rw [List.length_map, List.length_range]; exact cap100 (by omega)
  have lg := per_comp (s := s) (μ := μ) (st := compStep (callD P n) (.var 2) (.name 2) (.and (.op2 fEq (.op2 fMod (.var 1) (.var 2)) (.lit (.int 0))) (.op2 fEq (.op2 fMul (.op3 fSl (.var 0) (.lit .non) (.op1 fI (.var 2))) (.op2 fDiv (.var 1) (.var 2))) (.var 0))) [some (.str s), some (.int (s.length : Nat)), none]) (fun k hk => by
    obtain ⟨md, dv, tk, ml, e1, e0⟩ := per_step s hs hk μ
    unfold perB
    generalize ((List.replicate (((s.length : Nat) : Int) / ((1 + k : Nat) : Int)).toNat (s.take (1 + k))).flatten == s) = bb at *
    generalize (((s.length : Nat) : Int) % ((1 + k : Nat) : Int) == 0) = aa at *
    cases aa with
    | false => simp -implicitDefEqProofs only [startE, exs_nil, exs_cons, ex_pass, ex_expr, ex_asg, ex_ifs, ex_for, ex_ret, ex_retN, ex_brk, ex_cont, ex_never, ev_var, ev_lit, ev_op1, ev_op2, ev_op3, ev_opN, ev_opM, ev_meth, ev_frz, ev_lst, ev_tup, ev_and, ev_or, ev_not, ev_ite, ev_chain, ev_call, ev_comp, evs_nil, evs_cons, Res.bind_assoc, evT, asgT_name, asgT_sub, asgT_tup, asgTs_nil, asgTs_cons, Res.bind_ok, Res.bind_exc, lift_some, noExc_ok, truth_bl, finish_rt, finish_nx, List.map_cons, List.map_nil, List.length_cons, List.length_nil, List.replicate_zero, List.replicate_succ, List.cons_append, List.nil_append, List.getElem?_cons_zero, List.getElem?_cons_succ, List.set_cons_zero, List.set_cons_succ, Bool.not_true, Bool.not_false, ↓reduceIte, Bool.false_eq_true, Nat.reduceAdd, Nat.reduceSub, Nat.reduceLT, Nat.reduceLeDiff, Nat.zero_add, id_eq, Nat.sub_self, Bool.true_and, Bool.and_true, Bool.false_and, Bool.and_false, Bool.true_or, Bool.or_true, Bool.false_or, Bool.or_false, compStep, forStep, bindT_name, bindT_tup, bindT_str, bindTs_nil, bindTs_cons, wipeE, List.length_set, md, e0]
    | true =>
      cases bb with
      | false => simp -implicitDefEqProofs only [startE, exs_nil, exs_cons, ex_pass, ex_expr, ex_asg, ex_ifs, ex_for, ex_ret, ex_retN, ex_brk, ex_cont, ex_never, ev_var, ev_lit, ev_op1, ev_op2, ev_op3, ev_opN, ev_opM, ev_meth, ev_frz, ev_lst, ev_tup, ev_and, ev_or, ev_not, ev_ite, ev_chain, ev_call, ev_comp, evs_nil, evs_cons, Res.bind_assoc, evT, asgT_name, asgT_sub, asgT_tup, asgTs_nil, asgTs_cons, Res.bind_ok, Res.bind_exc, lift_some, noExc_ok, truth_bl, finish_rt, finish_nx, List.map_cons, List.map_nil, List.length_cons, List.length_nil, List.replicate_zero, List.replicate_succ, List.cons_append, List.nil_append, List.getElem?_cons_zero, List.getElem?_cons_succ, List.set_cons_zero, List.set_cons_succ, Bool.not_true, Bool.not_false, ↓reduceIte, Bool.false_eq_true, Nat.reduceAdd, Nat.reduceSub, Nat.reduceLT, Nat.reduceLeDiff, Nat.zero_add, id_eq, Nat.sub_self, Bool.true_and, Bool.and_true, Bool.false_and, Bool.and_false, Bool.true_or, Bool.or_true, Bool.false_or, Bool.or_false, compStep, forStep, bindT_name, bindT_tup, bindT_str, bindTs_nil, bindTs_cons, wipeE, List.length_set, md, e0, fI_int, tk, dv, ml, e1]
      | true => simp -implicitDefEqProofs only [startE, exs_nil, exs_cons, ex_pass, ex_expr, ex_asg, ex_ifs, ex_for, ex_ret, ex_retN, ex_brk, ex_cont, ex_never, ev_var, ev_lit, ev_op1, ev_op2, ev_op3, ev_opN, ev_opM, ev_meth, ev_frz, ev_lst, ev_tup, ev_and, ev_or, ev_not, ev_ite, ev_chain, ev_call, ev_comp, evs_nil, evs_cons, Res.bind_assoc, evT, asgT_name, asgT_sub, asgT_tup, asgTs_nil, asgTs_cons, Res.bind_ok, Res.bind_exc, lift_some, noExc_ok, truth_bl, finish_rt, finish_nx, List.map_cons, List.map_nil, List.length_cons, List.length_nil, List.replicate_zero, List.replicate_succ, List.cons_append, List.nil_append, List.getElem?_cons_zero, List.getElem?_cons_succ, List.set_cons_zero, List.set_cons_succ, Bool.not_true, Bool.not_false, ↓reduceIte, Bool.false_eq_true, Nat.reduceAdd, Nat.reduceSub, Nat.reduceLT, Nat.reduceLeDiff, Nat.zero_add, id_eq, Nat.sub_self, Bool.true_and, Bool.and_true, Bool.false_and, Bool.and_false, Bool.true_or, Bool.or_true, Bool.false_or, Bool.or_false, compStep, forStep, bindT_name, bindT_tup, bindT_str, bindTs_nil, bindTs_cons, wipeE, List.length_set, md, e0, fI_int, tk, dv, ml, e1])
  have gl : ((pers s).map fun k => D.int (k : Nat)).length ≤ cap := by
    rw [List.length_map]; exact cap100 (Nat.le_trans (pers_len s) (by omega))
  rw [callD_eq K.periods rfl]
  simp -implicitDefEqProofs only [Law.d_periods_of, startE, exs_nil, exs_cons, ex_pass, ex_expr, ex_asg, ex_ifs, ex_for, ex_ret, ex_retN, ex_brk, ex_cont, ex_never, ev_var, ev_lit, ev_op1, ev_op2, ev_op3, ev_opN, ev_opM, ev_meth, ev_frz, ev_lst, ev_tup, ev_and, ev_or, ev_not, ev_ite, ev_chain, ev_call, ev_comp, evs_nil, evs_cons, Res.bind_assoc, evT, asgT_name, asgT_sub, asgT_tup, asgTs_nil, asgTs_cons, Res.bind_ok, Res.bind_exc, lift_some, noExc_ok, truth_bl, finish_rt, finish_nx, List.map_cons, List.map_nil, List.length_cons, List.length_nil, List.replicate_zero, List.replicate_succ, List.cons_append, List.nil_append, List.getElem?_cons_zero, List.getElem?_cons_succ, List.set_cons_zero, List.set_cons_succ, Bool.not_true, Bool.not_false, ↓reduceIte, Bool.false_eq_true, Nat.reduceAdd, Nat.reduceSub, Nat.reduceLT, Nat.reduceLeDiff, Nat.zero_add, id_eq, Nat.sub_self, Bool.true_and, Bool.and_true, Bool.false_and, Bool.and_false, Bool.true_or, Bool.or_true, Bool.false_or, Bool.or_false, wipeE, len_str μ s hs.cap, rg, rl, lg, mkL_val _ _ gl]
  rfl
theorem own_by_ok (K : K96 P) {s : List Nat} (hs : Stk s) : callD P (n + 2) "is_own_by" [.str s] μ = .ok (.bl (pers s).isEmpty) μ := by
  have ep := periods_ok (n := n) (μ := μ) K hs
  have m0 := mkL0 μ
  have en : fEq μ (perD s) (.lst []) = some (.bl (pers s).isEmpty) := eq_nats μ _
  rw [callD_eq K.ownBy rfl]
  simp -implicitDefEqProofs only [Law.d_is_own_by, startE, exs_nil, exs_cons, ex_pass, ex_expr, ex_asg, ex_ifs, ex_for, ex_ret, ex_retN, ex_brk, ex_cont, ex_never, ev_var, ev_lit, ev_op1, ev_op2, ev_op3, ev_opN, ev_opM, ev_meth, ev_frz, ev_lst, ev_tup, ev_and, ev_or, ev_not, ev_ite, ev_chain, ev_call, ev_comp, evs_nil, evs_cons, Res.bind_assoc, evT, asgT_name, asgT_sub, asgT_tup, asgTs_nil, asgTs_cons, Res.bind_ok, Res.bind_exc, lift_some, noExc_ok, truth_bl, finish_rt, finish_nx, List.map_cons, List.map_nil, List.length_cons, List.length_nil, List.replicate_zero, List.replicate_succ, List.cons_append, List.nil_append, List.getElem?_cons_zero, List.getElem?_cons_succ, List.set_cons_zero, List.set_cons_succ, Bool.not_true, Bool.not_false, ↓reduceIte, Bool.false_eq_true, Nat.reduceAdd, Nat.reduceSub, Nat.reduceLT, Nat.reduceLeDiff, Nat.zero_add, id_eq, Nat.sub_self, Bool.true_and, Bool.and_true, Bool.false_and, Bool.and_false, Bool.true_or, Bool.or_true, Bool.false_or, Bool.or_false, ep, m0, en]
theorem is_own_ok (K : K96 P) {s : List Nat} (h : Clo s) : callD P (n + 7) "is_own" [.str s] μ = .ok (.bl (pers s).isEmpty) μ := by
  have c := check_clo_ok (n := n) (μ := μ) K h
  have o := own_by_ok (n := n + 4) (μ := μ) K h.toStk
  rw [callD_eq K.isOwn rfl]
  simp -implicitDefEqProofs only [Law.d_is_own, startE, exs_nil, exs_cons, ex_pass, ex_expr, ex_asg, ex_ifs, ex_for, ex_ret, ex_retN, ex_brk, ex_cont, ex_never, ev_var, ev_lit, ev_op1, ev_op2, ev_op3, ev_opN, ev_opM, ev_meth, ev_frz, ev_lst, ev_tup, ev_and, ev_or, ev_not, ev_ite, ev_chain, ev_call, ev_comp, evs_nil, evs_cons, Res.bind_assoc, evT, asgT_name, asgT_sub, asgT_tup, asgTs_nil, asgTs_cons, Res.bind_ok, Res.bind_exc, lift_some, noExc_ok, truth_bl, finish_rt, finish_nx, List.map_cons, List.map_nil, List.length_cons, List.length_nil, List.replicate_zero, List.replicate_succ, List.cons_append, List.nil_append, List.getElem?_cons_zero, List.getElem?_cons_succ, List.set_cons_zero, List.set_cons_succ, Bool.not_true, Bool.not_false, ↓reduceIte, Bool.false_eq_true, Nat.reduceAdd, Nat.reduceSub, Nat.reduceLT, Nat.reduceLeDiff, Nat.zero_add, id_eq, Nat.sub_self, Bool.true_and, Bool.and_true, Bool.false_and, Bool.and_false, Bool.true_or, Bool.or_true, Bool.false_or, Bool.or_false, c, o]
/-- the first one of the periods -/
theorem per_first (μ : Store) {s : List Nat} (hs : Stk s) {p : Nat} {ps : List Nat} (h : pers s = p :: ps) : fIx μ (perD s) (.int 0) = some (.int (p : Nat)) ∧ fSl μ (.str s) .non (.int (p : Nat)) = some (.str (s.take p)) ∧ own s = s.take p ∧ 1 ≤ p ∧ p < s.length ∧ perB s (p - 1) = true := by
  have hm : p ∈ pers s := by rw [h]; exact List.mem_cons_self
  obtain ⟨k, hk, rfl⟩ := List.mem_map.mp hm
  obtain ⟨h1, h2⟩ := List.mem_filter.mp hk
  have h1 := List.mem_range.mp h1
  refine ⟨?_, sl_to (μ := μ) s hs.cap (a := 1 + k) (by omega), ?_, by omega, by omega, by rw [Nat.add_sub_cancel_left]; exact h2⟩
  · unfold perD
    rw [h, ix_lst μ (by decide) (by simp)]; rfl
  · unfold own
    rw [if_neg (by rw [h]; simp), h]; rfl
theorem own_part_by_ok (K : K96 P) {s : List Nat} (hs : Stk s) : callD P (n + 2) "own_part_by" [.str s] μ = .ok (.str (own s)) μ := by
  have ep := periods_ok (n := n) (μ := μ) K hs
  have m0 := mkL0 μ
  have nn : fNe μ (perD s) (.lst []) = some (.bl !(pers s).isEmpty) := ne_nats μ _
  rw [callD_eq K.ownPartBy rfl]
  cases hq : pers s with
  | nil =>
    rw [hq] at nn
    have nn : fNe μ (perD s) (.lst []) = some (.bl false) := nn
    have : own s = s := by unfold own; rw [if_pos hq]
    rw [this]
    simp -implicitDefEqProofs only [Law.d_own_part_by, startE, exs_nil, exs_cons, ex_pass, ex_expr, ex_asg, ex_ifs, ex_for, ex_ret, ex_retN, ex_brk, ex_cont, ex_never, ev_var, ev_lit, ev_op1, ev_op2, ev_op3, ev_opN, ev_opM, ev_meth, ev_frz, ev_lst, ev_tup, ev_and, ev_or, ev_not, ev_ite, ev_chain, ev_call, ev_comp, evs_nil, evs_cons, Res.bind_assoc, evT, asgT_name, asgT_sub, asgT_tup, asgTs_nil, asgTs_cons, Res.bind_ok, Res.bind_exc, lift_some, noExc_ok, truth_bl, finish_rt, finish_nx, List.map_cons, List.map_nil, List.length_cons, List.length_nil, List.replicate_zero, List.replicate_succ, List.cons_append, List.nil_append, List.getElem?_cons_zero, List.getElem?_cons_succ, List.set_cons_zero, List.set_cons_succ, Bool.not_true, Bool.not_false, ↓reduceIte, Bool.false_eq_true, Nat.reduceAdd, Nat.reduceSub, Nat.reduceLT, Nat.reduceLeDiff, Nat.zero_add, id_eq, Nat.sub_self, Bool.true_and, Bool.and_true, Bool.false_and, Bool.and_false, Bool.true_or, Bool.or_true, Bool.false_or, Bool.or_false, ep, m0, nn]
  | cons p ps =>
    obtain ⟨x0, sl, ow, _⟩ := per_first μ hs hq
    rw [hq] at nn
    have nn : fNe μ (perD s) (.lst []) = some (.bl true) := nn
    rw [ow]
    simp -implicitDefEqProofs only [Law.d_own_part_by, startE, exs_nil, exs_cons, ex_pass, ex_expr, ex_asg, ex_ifs, ex_for, ex_ret, ex_retN, ex_brk, ex_cont, ex_never, ev_var, ev_lit, ev_op1, ev_op2, ev_op3, ev_opN, ev_opM, ev_meth, ev_frz, ev_lst, ev_tup, ev_and, ev_or, ev_not, ev_ite, ev_chain, ev_call, ev_comp, evs_nil, evs_cons, Res.bind_assoc, evT, asgT_name, asgT_sub, asgT_tup, asgTs_nil, asgTs_cons, Res.bind_ok, Res.bind_exc, lift_some, noExc_ok, truth_bl, finish_rt, finish_nx, List.map_cons, List.map_nil, List.length_cons, List.length_nil, List.replicate_zero, List.replicate_succ, List.cons_append, List.nil_append, List.getElem?_cons_zero, List.getElem?_cons_succ, List.set_cons_zero, List.set_cons_succ, Bool.not_true, Bool.not_false, ↓reduceIte, Bool.false_eq_true, Nat.reduceAdd, Nat.reduceSub, Nat.reduceLT, Nat.reduceLeDiff, Nat.zero_add, id_eq, Nat.sub_self, Bool.true_and, Bool.and_true, Bool.false_and, Bool.and_false, Bool.true_or, Bool.or_true, Bool.false_or, Bool.or_false, ep, m0, nn, x0, fI_int, sl]
theorem own_part_ok (K : K96 P) {s : List Nat} (h : Clo s) : callD P (n + 7) "own_part" [.str s] μ = .ok (.str (own s)) μ := by
  have c := check_clo_ok (n := n) (μ := μ) K h
  have o := own_part_by_ok (n := n + 4) (μ := μ) K h.toStk
  rw [callD_eq K.ownPart rfl]
  simp -implicitDefEqProofs only [Law.d_own_part, startE, exs_nil, exs_cons, ex_pass, ex_expr, ex_asg, ex_ifs, ex_for, ex_ret, ex_retN, ex_brk, ex_cont, ex_never, ev_var, ev_lit, ev_op1, ev_op2, ev_op3, ev_opN, ev_opM, ev_meth, ev_frz, ev_lst, ev_tup, ev_and, ev_or, ev_not, ev_ite, ev_chain, ev_call, ev_comp, evs_nil, evs_cons, Res.bind_assoc, evT, asgT_name, asgT_sub, asgT_tup, asgTs_nil, asgTs_cons, Res.bind_ok, Res.bind_exc, lift_some, noExc_ok, truth_bl, finish_rt, finish_nx, List.map_cons, List.map_nil, List.length_cons, List.length_nil, List.replicate_zero, List.replicate_succ, List.cons_append, List.nil_append, List.getElem?_cons_zero, List.getElem?_cons_succ, List.set_cons_zero, List.set_cons_succ, Bool.not_true, Bool.not_false, ↓reduceIte, Bool.false_eq_true, Nat.reduceAdd, Nat.reduceSub, Nat.reduceLT, Nat.reduceLeDiff, Nat.zero_add, id_eq, Nat.sub_self, Bool.true_and, Bool.and_true, Bool.false_and, Bool.and_false, Bool.true_or, Bool.or_true, Bool.false_or, Bool.or_false, c, o]
def shr (s : List Nat) : Nat × Nat := ((rm s).count 104 / Nat.gcd ((rm s).count 104) s.length, s.length / Nat.gcd ((rm s).count 104) s.length)
theorem share_ok (K : K96 P) {s : List Nat} (h : Clo s) : callD P (n + 9) "share" [.str s] μ = .ok (.tup [.int ((shr s).1 : Nat), .int ((shr s).2 : Nat)]) μ := by
  have hp := h.pos
  have hle := h.le
  have c := check_clo_ok (n := n + 2) (μ := μ) K h
  have hc := h_count_of_ok (n := n) (μ := μ) K h
  have ln := len_str μ s h.cap
  have g0 : 0 < Nat.gcd ((rm s).count 104) s.length := Nat.gcd_pos_of_pos_right _ (by omega)
  have gl : Nat.gcd ((rm s).count 104) s.length ≤ 24 := Nat.le_trans (Nat.gcd_le_right _ (by omega)) hle
  have gc : fGcd μ [.int ((rm s).count 104 : Nat), .int (s.length : Nat)] = some (.int ((Nat.gcd ((rm s).count 104) s.length : Nat) : Int)) := rfl
  have dv : ∀ x : Nat, fDiv μ (.int (x : Nat)) (.int ((Nat.gcd ((rm s).count 104) s.length : Nat) : Int)) = some (.int ((x / Nat.gcd ((rm s).count 104) s.length : Nat) : Int)) := fun x => by
    have := div_pos μ ((x : Nat) : Int) (j := ((Nat.gcd ((rm s).count 104) s.length : Nat) : Int)) (by omega) (by
      have : ((Nat.gcd ((rm s).count 104) s.length : Nat) : Int).natAbs ≤ 24 := by omega
      exact Nat.lt_of_le_of_lt (Nat.le_trans (Nat.log2_le_self _) this) (by decide))
    rw [this]; push_cast; rfl
  have d1 := dv ((rm s).count 104)
  have d2 := dv s.length
  have c2 : 2 ≤ cap := by decide
  have lw : callD P (n + 7) "lowest" [.int ((rm s).count 104 : Nat), .int (s.length : Nat)] μ = .ok (.tup [.int ((shr s).1 : Nat), .int ((shr s).2 : Nat)]) μ := by
    rw [callD_eq K.lowest rfl]
    unfold shr
    simp -implicitDefEqProofs only [Law.d_lowest, startE, exs_nil, exs_cons, ex_pass, ex_expr, ex_asg, ex_ifs, ex_for, ex_ret, ex_retN, ex_brk, ex_cont, ex_never, ev_var, ev_lit, ev_op1, ev_op2, ev_op3, ev_opN, ev_opM, ev_meth, ev_frz, ev_lst, ev_tup, ev_and, ev_or, ev_not, ev_ite, ev_chain, ev_call, ev_comp, evs_nil, evs_cons, Res.bind_assoc, evT, asgT_name, asgT_sub, asgT_tup, asgTs_nil, asgTs_cons, Res.bind_ok, Res.bind_exc, lift_some, noExc_ok, truth_bl, finish_rt, finish_nx, List.map_cons, List.map_nil, List.length_cons, List.length_nil, List.replicate_zero, List.replicate_succ, List.cons_append, List.nil_append, List.getElem?_cons_zero, List.getElem?_cons_succ, List.set_cons_zero, List.set_cons_succ, Bool.not_true, Bool.not_false, ↓reduceIte, Bool.false_eq_true, Nat.reduceAdd, Nat.reduceSub, Nat.reduceLT, Nat.reduceLeDiff, Nat.zero_add, id_eq, Nat.sub_self, Bool.true_and, Bool.and_true, Bool.false_and, Bool.and_false, Bool.true_or, Bool.or_true, Bool.false_or, Bool.or_false, gc, d1, d2, c2]
  have sb : callD P (n + 8) "share_by" [.str s] μ = .ok (.tup [.int ((shr s).1 : Nat), .int ((shr s).2 : Nat)]) μ := by
    rw [callD_eq K.shareBy rfl]
    simp -implicitDefEqProofs only [Law.d_share_by, startE, exs_nil, exs_cons, ex_pass, ex_expr, ex_asg, ex_ifs, ex_for, ex_ret, ex_retN, ex_brk, ex_cont, ex_never, ev_var, ev_lit, ev_op1, ev_op2, ev_op3, ev_opN, ev_opM, ev_meth, ev_frz, ev_lst, ev_tup, ev_and, ev_or, ev_not, ev_ite, ev_chain, ev_call, ev_comp, evs_nil, evs_cons, Res.bind_assoc, evT, asgT_name, asgT_sub, asgT_tup, asgTs_nil, asgTs_cons, Res.bind_ok, Res.bind_exc, lift_some, noExc_ok, truth_bl, finish_rt, finish_nx, List.map_cons, List.map_nil, List.length_cons, List.length_nil, List.replicate_zero, List.replicate_succ, List.cons_append, List.nil_append, List.getElem?_cons_zero, List.getElem?_cons_succ, List.set_cons_zero, List.set_cons_succ, Bool.not_true, Bool.not_false, ↓reduceIte, Bool.false_eq_true, Nat.reduceAdd, Nat.reduceSub, Nat.reduceLT, Nat.reduceLeDiff, Nat.zero_add, id_eq, Nat.sub_self, Bool.true_and, Bool.and_true, Bool.false_and, Bool.and_false, Bool.true_or, Bool.or_true, Bool.false_or, Bool.or_false, hc, ln, lw]
  rw [callD_eq K.share rfl]
  simp -implicitDefEqProofs only [Law.d_share, startE, exs_nil, exs_cons, ex_pass, ex_expr, ex_asg, ex_ifs, ex_for, ex_ret, ex_retN, ex_brk, ex_cont, ex_never, ev_var, ev_lit, ev_op1, ev_op2, ev_op3, ev_opN, ev_opM, ev_meth, ev_frz, ev_lst, ev_tup, ev_and, ev_or, ev_not, ev_ite, ev_chain, ev_call, ev_comp, evs_nil, evs_cons, Res.bind_assoc, evT, asgT_name, asgT_sub, asgT_tup, asgTs_nil, asgTs_cons, Res.bind_ok, Res.bind_exc, lift_some, noExc_ok, truth_bl, finish_rt, finish_nx, List.map_cons, List.map_nil, List.length_cons, List.length_nil, List.replicate_zero, List.replicate_succ, List.cons_append, List.nil_append, List.getElem?_cons_zero, List.getElem?_cons_succ, List.set_cons_zero, List.set_cons_succ, Bool.not_true, Bool.not_false, ↓reduceIte, Bool.false_eq_true, Nat.reduceAdd, Nat.reduceSub, Nat.reduceLT, Nat.reduceLeDiff, Nat.zero_add, id_eq, Nat.sub_self, Bool.true_and, Bool.and_true, Bool.false_and, Bool.and_false, Bool.true_or, Bool.or_true, Bool.false_or, Bool.or_false, c, sb]
/-! ### claims -/
/-- whether a value is one of the periods -/
def inP (s : List Nat) : D → Bool
  | .int i => decide (∃ k ∈ pers s, ((k : Nat) : Int) = i)
  | _ => false
theorem in_per (μ : Store) (s : List Nat) (i : Int) : fIn μ (.int i) (perD s) = some (.bl (inP s (.int i))) := by
  unfold perD inP
  generalize pers s = l
  have hf : (l.map fun q => D.int (q : Nat)).all flatD = true := by
    rw [List.all_eq_true]
    intro d hd
    obtain ⟨q, _, rfl⟩ := List.mem_map.mp hd
    rfl
  have hs : seqOf μ (.lst (l.map fun q => .int (q : Nat))) = some (l.map fun q => .int (q : Nat)) := rfl
  have ha : ((l.map fun q => D.int (q : Nat)).any fun y => eqD y (.int i)) = decide (∃ k ∈ l, ((k : Nat) : Int) = i) := by
    rw [Bool.eq_iff_iff, List.any_eq_true, decide_eq_true_iff]
    constructor
    · rintro ⟨d, hd, e⟩
      obtain ⟨q, hq, rfl⟩ := List.mem_map.mp hd
      refine ⟨q, hq, ?_⟩
      unfold eqD at e
      simpa using e
    · rintro ⟨q, hq, e⟩
      refine ⟨.int (q : Nat), List.mem_map.mpr ⟨q, hq, rfl⟩, ?_⟩
      unfold eqD
      simpa using e
  show (match seqOf μ (.lst (l.map fun q => .int (q : Nat))) with | some ds => if flatD (.int i) && ds.all flatD then some (D.bl (ds.any fun y => eqD y (.int i))) else none | none => none) = _
  rw [hs]
  dsimp only
  rw [hf, ha]; rfl
theorem shows_own_ok (K : K96 P) {s : List Nat} (hs : Stk s) {v : D} (hv : OkP v) : callD P (n + 3) "shows_own" [.str s, v] μ = .ok (.bl (nilV v && (pers s).isEmpty)) μ := by
  have a := nothing_ok (n := n) (μ := μ) K hv
  have d := own_by_ok (n := n) (μ := μ) K hs
  rw [callD_eq K.showsOwn rfl]
  cases hb : nilV v <;> (rw [hb] at a; simp -implicitDefEqProofs only [Law.d_shows_own, startE, exs_nil, exs_cons, ex_pass, ex_expr, ex_asg, ex_ifs, ex_for, ex_ret, ex_retN, ex_brk, ex_cont, ex_never, ev_var, ev_lit, ev_op1, ev_op2, ev_op3, ev_opN, ev_opM, ev_meth, ev_frz, ev_lst, ev_tup, ev_and, ev_or, ev_not, ev_ite, ev_chain, ev_call, ev_comp, evs_nil, evs_cons, Res.bind_assoc, evT, asgT_name, asgT_sub, asgT_tup, asgTs_nil, asgTs_cons, Res.bind_ok, Res.bind_exc, lift_some, noExc_ok, truth_bl, finish_rt, finish_nx, List.map_cons, List.map_nil, List.length_cons, List.length_nil, List.replicate_zero, List.replicate_succ, List.cons_append, List.nil_append, List.getElem?_cons_zero, List.getElem?_cons_succ, List.set_cons_zero, List.set_cons_succ, Bool.not_true, Bool.not_false, ↓reduceIte, Bool.false_eq_true, Nat.reduceAdd, Nat.reduceSub, Nat.reduceLT, Nat.reduceLeDiff, Nat.zero_add, id_eq, Nat.sub_self, Bool.true_and, Bool.and_true, Bool.false_and, Bool.and_false, Bool.true_or, Bool.or_true, Bool.false_or, Bool.or_false, a, d])
theorem shows_again_ok (K : K96 P) {s : List Nat} (hs : Stk s) {v : D} (hv : OkP v) : callD P (n + 3) "shows_again" [.str s, v] μ = .ok (.bl (inP s v)) μ := by
  have ep := periods_ok (n := n + 1) (μ := μ) K hs
  rw [callD_eq K.showsAgain rfl]
  by_cases hi : ∃ i, v = .int i
  · obtain ⟨i, rfl⟩ := hi
    have w := is_whole_int (n := n + 1) (μ := μ) K.whole i
    have ip := in_per μ s i
    simp -implicitDefEqProofs only [Law.d_shows_again, startE, exs_nil, exs_cons, ex_pass, ex_expr, ex_asg, ex_ifs, ex_for, ex_ret, ex_retN, ex_brk, ex_cont, ex_never, ev_var, ev_lit, ev_op1, ev_op2, ev_op3, ev_opN, ev_opM, ev_meth, ev_frz, ev_lst, ev_tup, ev_and, ev_or, ev_not, ev_ite, ev_chain, ev_call, ev_comp, evs_nil, evs_cons, Res.bind_assoc, evT, asgT_name, asgT_sub, asgT_tup, asgTs_nil, asgTs_cons, Res.bind_ok, Res.bind_exc, lift_some, noExc_ok, truth_bl, finish_rt, finish_nx, List.map_cons, List.map_nil, List.length_cons, List.length_nil, List.replicate_zero, List.replicate_succ, List.cons_append, List.nil_append, List.getElem?_cons_zero, List.getElem?_cons_succ, List.set_cons_zero, List.set_cons_succ, Bool.not_true, Bool.not_false, ↓reduceIte, Bool.false_eq_true, Nat.reduceAdd, Nat.reduceSub, Nat.reduceLT, Nat.reduceLeDiff, Nat.zero_add, id_eq, Nat.sub_self, Bool.true_and, Bool.and_true, Bool.false_and, Bool.and_false, Bool.true_or, Bool.or_true, Bool.false_or, Bool.or_false, w, ep, ip]
  · have w := whole_no (n := n + 1) (μ := μ) K hv fun i e => hi ⟨i, e⟩
    have : inP s v = false := by
      cases v with
      | int i => exact absurd ⟨i, rfl⟩ hi
      | _ => rfl
    rw [this]
    simp -implicitDefEqProofs only [Law.d_shows_again, startE, exs_nil, exs_cons, ex_pass, ex_expr, ex_asg, ex_ifs, ex_for, ex_ret, ex_retN, ex_brk, ex_cont, ex_never, ev_var, ev_lit, ev_op1, ev_op2, ev_op3, ev_opN, ev_opM, ev_meth, ev_frz, ev_lst, ev_tup, ev_and, ev_or, ev_not, ev_ite, ev_chain, ev_call, ev_comp, evs_nil, evs_cons, Res.bind_assoc, evT, asgT_name, asgT_sub, asgT_tup, asgTs_nil, asgTs_cons, Res.bind_ok, Res.bind_exc, lift_some, noExc_ok, truth_bl, finish_rt, finish_nx, List.map_cons, List.map_nil, List.length_cons, List.length_nil, List.replicate_zero, List.replicate_succ, List.cons_append, List.nil_append, List.getElem?_cons_zero, List.getElem?_cons_succ, List.set_cons_zero, List.set_cons_succ, Bool.not_true, Bool.not_false, ↓reduceIte, Bool.false_eq_true, Nat.reduceAdd, Nat.reduceSub, Nat.reduceLT, Nat.reduceLeDiff, Nat.zero_add, id_eq, Nat.sub_self, Bool.true_and, Bool.and_true, Bool.false_and, Bool.and_false, Bool.true_or, Bool.or_true, Bool.false_or, Bool.or_false, w]
theorem claim2_ok (K : K96 P) {w : List Nat} (hw : w = wO ∨ w = wA) {v : D} (h : OkP v) (hc : cmpOk 7 v = true) : callD P (n + 7) "is_claim" [.tup [.str w, v]] μ = .ok (.bl (clV v)) μ := by
  have t1 : fIsi μ [.tup [.str w, v], .ty "tuple"] = some (.bl true) := rfl
  have e1 : fEq μ (.tup [.str w, v]) (.tup []) = some (.bl false) := by
    have c1 : cmpOk 8 (.tup [.str w, v]) = true := by
      unfold cmpOk cmpOks cmpOks cmpOks
      rw [hc, cmp_str 7 (by rcases hw with rfl | rfl <;> decide)]; rfl
    have c2 : cmpOk 8 (.tup []) = true := by unfold cmpOk cmpOks; rfl
    simp only [fEq, rd, asL, c1, c2, Bool.and_self, ↓reduceIte]
    unfold eqD eqDs; rfl
  have x0 : fIx μ (.tup [.str w, v]) (.int 0) = some (.str w) := rfl
  have t2 : fIsi μ [.str w, .ty "str"] = some (.bl true) := rfl
  have n1 : fTabNin [[111, 119, 110], [97, 103, 97, 105, 110]] [[111, 119, 110, 115]] μ (.str w) = some (.bl false) := by rcases hw with rfl | rfl <;> rfl
  have ix : fTabIx [([111, 119, 110], .tup [.int 1, .gl "tells_closed"]), ([97, 103, 97, 105, 110], .tup [.int 1, .gl "tells_closed"])] μ (.str w) = some (.tup [.int 1, .gl "tells_closed"]) := by rcases hw with rfl | rfl <;> rfl
  have ln : fLen μ [.tup [.str w, v]] = some (.int 2) := rfl
  have e2 : fEq μ (.int 2) (.int (1 + 1)) = some (.bl true) := rfl
  have gl : fGlIs "tells_closed" μ (.gl "tells_closed") = some (.bl true) := rfl
  have sl : fSl μ (.tup [.str w, v]) (.int 1) .non = some (.tup [v]) := rfl
  have c0 : 0 ≤ cap := by decide
  have ts : callD P (n + 6) "tells_closed" [.tup [v]] μ = .ok (.bl (clV v)) μ := by
    have y0 : fIx μ (.tup [v]) (.int 0) = some v := rfl
    have is := is_closed_any (n := n) (μ := μ) K h
    rw [callD_eq K.tellsClosed rfl]
    simp -implicitDefEqProofs only [Law.d_tells_closed, startE, exs_nil, exs_cons, ex_pass, ex_expr, ex_asg, ex_ifs, ex_for, ex_ret, ex_retN, ex_brk, ex_cont, ex_never, ev_var, ev_lit, ev_op1, ev_op2, ev_op3, ev_opN, ev_opM, ev_meth, ev_frz, ev_lst, ev_tup, ev_and, ev_or, ev_not, ev_ite, ev_chain, ev_call, ev_comp, evs_nil, evs_cons, Res.bind_assoc, evT, asgT_name, asgT_sub, asgT_tup, asgTs_nil, asgTs_cons, Res.bind_ok, Res.bind_exc, lift_some, noExc_ok, truth_bl, finish_rt, finish_nx, List.map_cons, List.map_nil, List.length_cons, List.length_nil, List.replicate_zero, List.replicate_succ, List.cons_append, List.nil_append, List.getElem?_cons_zero, List.getElem?_cons_succ, List.set_cons_zero, List.set_cons_succ, Bool.not_true, Bool.not_false, ↓reduceIte, Bool.false_eq_true, Nat.reduceAdd, Nat.reduceSub, Nat.reduceLT, Nat.reduceLeDiff, Nat.zero_add, id_eq, Nat.sub_self, Bool.true_and, Bool.and_true, Bool.false_and, Bool.and_false, Bool.true_or, Bool.or_true, Bool.false_or, Bool.or_false, y0, is]
  rw [callD_eq K.isClaim rfl]
  simp -implicitDefEqProofs only [Law.d_is_claim, startE, exs_nil, exs_cons, ex_pass, ex_expr, ex_asg, ex_ifs, ex_for, ex_ret, ex_retN, ex_brk, ex_cont, ex_never, ev_var, ev_lit, ev_op1, ev_op2, ev_op3, ev_opN, ev_opM, ev_meth, ev_frz, ev_lst, ev_tup, ev_and, ev_or, ev_not, ev_ite, ev_chain, ev_call, ev_comp, evs_nil, evs_cons, Res.bind_assoc, evT, asgT_name, asgT_sub, asgT_tup, asgTs_nil, asgTs_cons, Res.bind_ok, Res.bind_exc, lift_some, noExc_ok, truth_bl, finish_rt, finish_nx, List.map_cons, List.map_nil, List.length_cons, List.length_nil, List.replicate_zero, List.replicate_succ, List.cons_append, List.nil_append, List.getElem?_cons_zero, List.getElem?_cons_succ, List.set_cons_zero, List.set_cons_succ, Bool.not_true, Bool.not_false, ↓reduceIte, Bool.false_eq_true, Nat.reduceAdd, Nat.reduceSub, Nat.reduceLT, Nat.reduceLeDiff, Nat.zero_add, id_eq, Nat.sub_self, Bool.true_and, Bool.and_true, Bool.false_and, Bool.and_false, Bool.true_or, Bool.or_true, Bool.false_or, Bool.or_false, c0, t1, e1, x0, t2, n1, ix, ln, add_int, e2, gl, fI_int, sl, ts]
theorem accepts_O (K : K96 P) {σ : List Nat} (h : Clo σ) {v : D} (hv : OkP v) : callD P (n + 8) "accepts" [.tup [.str wO, .str σ], v] μ = .ok (.bl (nilV v && (pers σ).isEmpty)) μ := by
  have c := claim2_ok (n := n) (μ := μ) K (w := wO) (.inl rfl) (okp_stk h.toStk) (cmp_str 7 fun c hc => isL_lt (h.ltr c hc))
  rw [show clV (.str σ) = true from h.b] at c
  have x0 : fIx μ (.tup [.str wO, .str σ]) (.int 0) = some (.str wO) := rfl
  have x1 : fIx μ (.tup [.str wO, .str σ]) (.int 1) = some (.str σ) := rfl
  have i1 : fTabIn [[111, 119, 110], [97, 103, 97, 105, 110]] [[111, 119, 110, 115]] μ (.str wO) = some (.bl true) := rfl
  have ix : fTabIx [([111, 119, 110], .gl "shows_own"), ([97, 103, 97, 105, 110], .gl "shows_again")] μ (.str wO) = some (.gl "shows_own") := rfl
  have g1 : fGlIs "shows_own" μ (.gl "shows_own") = some (.bl true) := rfl
  have s := shows_own_ok (n := n + 4) (μ := μ) K h.toStk hv
  rw [callD_eq K.accepts rfl]
  simp -implicitDefEqProofs only [Law.d_accepts, startE, exs_nil, exs_cons, ex_pass, ex_expr, ex_asg, ex_ifs, ex_for, ex_ret, ex_retN, ex_brk, ex_cont, ex_never, ev_var, ev_lit, ev_op1, ev_op2, ev_op3, ev_opN, ev_opM, ev_meth, ev_frz, ev_lst, ev_tup, ev_and, ev_or, ev_not, ev_ite, ev_chain, ev_call, ev_comp, evs_nil, evs_cons, Res.bind_assoc, evT, asgT_name, asgT_sub, asgT_tup, asgTs_nil, asgTs_cons, Res.bind_ok, Res.bind_exc, lift_some, noExc_ok, truth_bl, finish_rt, finish_nx, List.map_cons, List.map_nil, List.length_cons, List.length_nil, List.replicate_zero, List.replicate_succ, List.cons_append, List.nil_append, List.getElem?_cons_zero, List.getElem?_cons_succ, List.set_cons_zero, List.set_cons_succ, Bool.not_true, Bool.not_false, ↓reduceIte, Bool.false_eq_true, Nat.reduceAdd, Nat.reduceSub, Nat.reduceLT, Nat.reduceLeDiff, Nat.zero_add, id_eq, Nat.sub_self, Bool.true_and, Bool.and_true, Bool.false_and, Bool.and_false, Bool.true_or, Bool.or_true, Bool.false_or, Bool.or_false, c, x0, x1, i1, ix, g1, s]
theorem accepts_A (K : K96 P) {σ : List Nat} (h : Clo σ) {v : D} (hv : OkP v) : callD P (n + 8) "accepts" [.tup [.str wA, .str σ], v] μ = .ok (.bl (inP σ v)) μ := by
  have c := claim2_ok (n := n) (μ := μ) K (w := wA) (.inr rfl) (okp_stk h.toStk) (cmp_str 7 fun c hc => isL_lt (h.ltr c hc))
  rw [show clV (.str σ) = true from h.b] at c
  have x0 : fIx μ (.tup [.str wA, .str σ]) (.int 0) = some (.str wA) := rfl
  have x1 : fIx μ (.tup [.str wA, .str σ]) (.int 1) = some (.str σ) := rfl
  have i1 : fTabIn [[111, 119, 110], [97, 103, 97, 105, 110]] [[111, 119, 110, 115]] μ (.str wA) = some (.bl true) := rfl
  have ix : fTabIx [([111, 119, 110], .gl "shows_own"), ([97, 103, 97, 105, 110], .gl "shows_again")] μ (.str wA) = some (.gl "shows_again") := rfl
  have g1 : fGlIs "shows_own" μ (.gl "shows_again") = some (.bl false) := by
    show some (D.bl ("shows_again" == "shows_own")) = _
    rw [show ("shows_again" == "shows_own") = false by decide]
  have g2 : fGlIs "shows_again" μ (.gl "shows_again") = some (.bl true) := rfl
  have s := shows_again_ok (n := n + 4) (μ := μ) K h.toStk hv
  rw [callD_eq K.accepts rfl]
  simp -implicitDefEqProofs only [Law.d_accepts, startE, exs_nil, exs_cons, ex_pass, ex_expr, ex_asg, ex_ifs, ex_for, ex_ret, ex_retN, ex_brk, ex_cont, ex_never, ev_var, ev_lit, ev_op1, ev_op2, ev_op3, ev_opN, ev_opM, ev_meth, ev_frz, ev_lst, ev_tup, ev_and, ev_or, ev_not, ev_ite, ev_chain, ev_call, ev_comp, evs_nil, evs_cons, Res.bind_assoc, evT, asgT_name, asgT_sub, asgT_tup, asgTs_nil, asgTs_cons, Res.bind_ok, Res.bind_exc, lift_some, noExc_ok, truth_bl, finish_rt, finish_nx, List.map_cons, List.map_nil, List.length_cons, List.length_nil, List.replicate_zero, List.replicate_succ, List.cons_append, List.nil_append, List.getElem?_cons_zero, List.getElem?_cons_succ, List.set_cons_zero, List.set_cons_succ, Bool.not_true, Bool.not_false, ↓reduceIte, Bool.false_eq_true, Nat.reduceAdd, Nat.reduceSub, Nat.reduceLT, Nat.reduceLeDiff, Nat.zero_add, id_eq, Nat.sub_self, Bool.true_and, Bool.and_true, Bool.false_and, Bool.and_false, Bool.true_or, Bool.or_true, Bool.false_or, Bool.or_false, c, x0, x1, i1, ix, g1, g2, s]
theorem accepts_no (K : K96 P) {c v : D} (h : callD P (n + 6) "is_claim" [c] μ = .ok (.bl false) μ) : callD P (n + 7) "accepts" [c, v] μ = .ok (.bl false) μ := by
  rw [callD_eq K.accepts rfl]
  simp -implicitDefEqProofs only [Law.d_accepts, startE, exs_nil, exs_cons, ex_pass, ex_expr, ex_asg, ex_ifs, ex_for, ex_ret, ex_retN, ex_brk, ex_cont, ex_never, ev_var, ev_lit, ev_op1, ev_op2, ev_op3, ev_opN, ev_opM, ev_meth, ev_frz, ev_lst, ev_tup, ev_and, ev_or, ev_not, ev_ite, ev_chain, ev_call, ev_comp, evs_nil, evs_cons, Res.bind_assoc, evT, asgT_name, asgT_sub, asgT_tup, asgTs_nil, asgTs_cons, Res.bind_ok, Res.bind_exc, lift_some, noExc_ok, truth_bl, finish_rt, finish_nx, List.map_cons, List.map_nil, List.length_cons, List.length_nil, List.replicate_zero, List.replicate_succ, List.cons_append, List.nil_append, List.getElem?_cons_zero, List.getElem?_cons_succ, List.set_cons_zero, List.set_cons_succ, Bool.not_true, Bool.not_false, ↓reduceIte, Bool.false_eq_true, Nat.reduceAdd, Nat.reduceSub, Nat.reduceLT, Nat.reduceLeDiff, Nat.zero_add, id_eq, Nat.sub_self, Bool.true_and, Bool.and_true, Bool.false_and, Bool.and_false, Bool.true_or, Bool.or_true, Bool.false_or, Bool.or_false, h]
theorem claimN_no (K : K96 P) {w : List Nat} (hw : w = wO ∨ w = wA) {ds : List D} (hl : ds.length ≠ 1) (hc : cmpOks 7 ds = true) : callD P (n + 6) "is_claim" [.tup (.str w :: ds)] μ = .ok (.bl false) μ := by
  have t1 : fIsi μ [.tup (.str w :: ds), .ty "tuple"] = some (.bl true) := rfl
  have e1 : fEq μ (.tup (.str w :: ds)) (.tup []) = some (.bl false) := by
    have c1 : cmpOk 8 (.tup (.str w :: ds)) = true := by
      unfold cmpOk cmpOks
      rw [hc, cmp_str 7 (by rcases hw with rfl | rfl <;> decide)]; rfl
    have c2 : cmpOk 8 (.tup []) = true := by unfold cmpOk cmpOks; rfl
    simp only [fEq, rd, asL, c1, c2, Bool.and_self, ↓reduceIte]
    unfold eqD eqDs; rfl
  have x0 : fIx μ (.tup (.str w :: ds)) (.int 0) = some (.str w) := by rw [ix_tup μ (by decide) (by simp)]; rfl
  have t2 : fIsi μ [.str w, .ty "str"] = some (.bl true) := rfl
  have n1 : fTabNin [[111, 119, 110], [97, 103, 97, 105, 110]] [[111, 119, 110, 115]] μ (.str w) = some (.bl false) := by rcases hw with rfl | rfl <;> rfl
  have ix : fTabIx [([111, 119, 110], .tup [.int 1, .gl "tells_closed"]), ([97, 103, 97, 105, 110], .tup [.int 1, .gl "tells_closed"])] μ (.str w) = some (.tup [.int 1, .gl "tells_closed"]) := by rcases hw with rfl | rfl <;> rfl
  have ln : fLen μ [.tup (.str w :: ds)] = some (.int ((ds.length + 1 : Nat) : Int)) := rfl
  have e2 : fEq μ (.int ((ds.length + 1 : Nat) : Int)) (.int (1 + 1)) = some (.bl false) := by
    rw [eq_intX, show (((ds.length + 1 : Nat) : Int) == 1 + 1) = false by rw [beq_eq_false_iff_ne]; omega]
  have c0 : 0 ≤ cap := by decide
  rw [callD_eq K.isClaim rfl]
  simp -implicitDefEqProofs only [Law.d_is_claim, startE, exs_nil, exs_cons, ex_pass, ex_expr, ex_asg, ex_ifs, ex_for, ex_ret, ex_retN, ex_brk, ex_cont, ex_never, ev_var, ev_lit, ev_op1, ev_op2, ev_op3, ev_opN, ev_opM, ev_meth, ev_frz, ev_lst, ev_tup, ev_and, ev_or, ev_not, ev_ite, ev_chain, ev_call, ev_comp, evs_nil, evs_cons, Res.bind_assoc, evT, asgT_name, asgT_sub, asgT_tup, asgTs_nil, asgTs_cons, Res.bind_ok, Res.bind_exc, lift_some, noExc_ok, truth_bl, finish_rt, finish_nx, List.map_cons, List.map_nil, List.length_cons, List.length_nil, List.replicate_zero, List.replicate_succ, List.cons_append, List.nil_append, List.getElem?_cons_zero, List.getElem?_cons_succ, List.set_cons_zero, List.set_cons_succ, Bool.not_true, Bool.not_false, ↓reduceIte, Bool.false_eq_true, Nat.reduceAdd, Nat.reduceSub, Nat.reduceLT, Nat.reduceLeDiff, Nat.zero_add, id_eq, Nat.sub_self, Bool.true_and, Bool.and_true, Bool.false_and, Bool.and_false, Bool.true_or, Bool.or_true, Bool.false_or, Bool.or_false, c0, t1, e1, x0, t2, n1, ix, ln, add_int, e2]
theorem claimL_no (K : K96 P) (ds : List D) : callD P (n + 6) "is_claim" [.lst ds] μ = .ok (.bl false) μ := by
  have t1 : fIsi μ [.lst ds, .ty "tuple"] = some (.bl false) := rfl
  rw [callD_eq K.isClaim rfl]
  simp -implicitDefEqProofs only [Law.d_is_claim, startE, exs_nil, exs_cons, ex_pass, ex_expr, ex_asg, ex_ifs, ex_for, ex_ret, ex_retN, ex_brk, ex_cont, ex_never, ev_var, ev_lit, ev_op1, ev_op2, ev_op3, ev_opN, ev_opM, ev_meth, ev_frz, ev_lst, ev_tup, ev_and, ev_or, ev_not, ev_ite, ev_chain, ev_call, ev_comp, evs_nil, evs_cons, Res.bind_assoc, evT, asgT_name, asgT_sub, asgT_tup, asgTs_nil, asgTs_cons, Res.bind_ok, Res.bind_exc, lift_some, noExc_ok, truth_bl, finish_rt, finish_nx, List.map_cons, List.map_nil, List.length_cons, List.length_nil, List.replicate_zero, List.replicate_succ, List.cons_append, List.nil_append, List.getElem?_cons_zero, List.getElem?_cons_succ, List.set_cons_zero, List.set_cons_succ, Bool.not_true, Bool.not_false, ↓reduceIte, Bool.false_eq_true, Nat.reduceAdd, Nat.reduceSub, Nat.reduceLT, Nat.reduceLeDiff, Nat.zero_add, id_eq, Nat.sub_self, Bool.true_and, Bool.and_true, Bool.false_and, Bool.and_false, Bool.true_or, Bool.or_true, Bool.false_or, Bool.or_false, t1]
theorem claimX_no (K : K96 P) {σ : List Nat} (h : ∀ c ∈ σ, c < 1114112) : callD P (n + 6) "is_claim" [.tup [.str [111, 119, 110, 115], .str σ]] μ = .ok (.bl false) μ := by
  have t1 : fIsi μ [.tup [.str [111, 119, 110, 115], .str σ], .ty "tuple"] = some (.bl true) := rfl
  have e1 : fEq μ (.tup [.str [111, 119, 110, 115], .str σ]) (.tup []) = some (.bl false) := by
    have c1 : cmpOk 8 (.tup [.str [111, 119, 110, 115], .str σ]) = true := by
      unfold cmpOk cmpOks cmpOks cmpOks
      rw [cmp_str 7 (by decide), cmp_str 7 h]; rfl
    have c2 : cmpOk 8 (.tup []) = true := by unfold cmpOk cmpOks; rfl
    simp only [fEq, rd, asL, c1, c2, Bool.and_self, ↓reduceIte]
    unfold eqD eqDs; rfl
  have x0 : fIx μ (.tup [.str [111, 119, 110, 115], .str σ]) (.int 0) = some (.str [111, 119, 110, 115]) := rfl
  have t2 : fIsi μ [.str [111, 119, 110, 115], .ty "str"] = some (.bl true) := rfl
  have n1 : fTabNin [[111, 119, 110], [97, 103, 97, 105, 110]] [[111, 119, 110, 115]] μ (.str [111, 119, 110, 115]) = some (.bl true) := rfl
  have c0 : 0 ≤ cap := by decide
  rw [callD_eq K.isClaim rfl]
  simp -implicitDefEqProofs only [Law.d_is_claim, startE, exs_nil, exs_cons, ex_pass, ex_expr, ex_asg, ex_ifs, ex_for, ex_ret, ex_retN, ex_brk, ex_cont, ex_never, ev_var, ev_lit, ev_op1, ev_op2, ev_op3, ev_opN, ev_opM, ev_meth, ev_frz, ev_lst, ev_tup, ev_and, ev_or, ev_not, ev_ite, ev_chain, ev_call, ev_comp, evs_nil, evs_cons, Res.bind_assoc, evT, asgT_name, asgT_sub, asgT_tup, asgTs_nil, asgTs_cons, Res.bind_ok, Res.bind_exc, lift_some, noExc_ok, truth_bl, finish_rt, finish_nx, List.map_cons, List.map_nil, List.length_cons, List.length_nil, List.replicate_zero, List.replicate_succ, List.cons_append, List.nil_append, List.getElem?_cons_zero, List.getElem?_cons_succ, List.set_cons_zero, List.set_cons_succ, Bool.not_true, Bool.not_false, ↓reduceIte, Bool.false_eq_true, Nat.reduceAdd, Nat.reduceSub, Nat.reduceLT, Nat.reduceLeDiff, Nat.zero_add, id_eq, Nat.sub_self, Bool.true_and, Bool.and_true, Bool.false_and, Bool.and_false, Bool.true_or, Bool.or_true, Bool.false_or, Bool.or_false, c0, t1, e1, x0, t2, n1]
theorem lwhole_int (K : K96 P) (i : Int) : callD P (n + 1) "_law_is_whole" [.int i] μ = .ok (.bl true) μ := by
  have t1 : fIsi μ [.int i, .ty "int"] = some (.bl true) := rfl
  have t2 : fIsi μ [.int i, .ty "bool"] = some (.bl false) := rfl
  rw [callD_eq K.lIsWhole rfl]
  simp -implicitDefEqProofs only [Law.d__law_is_whole, startE, exs_nil, exs_cons, ex_pass, ex_expr, ex_asg, ex_ifs, ex_for, ex_ret, ex_retN, ex_brk, ex_cont, ex_never, ev_var, ev_lit, ev_op1, ev_op2, ev_op3, ev_opN, ev_opM, ev_meth, ev_frz, ev_lst, ev_tup, ev_and, ev_or, ev_not, ev_ite, ev_chain, ev_call, ev_comp, evs_nil, evs_cons, Res.bind_assoc, evT, asgT_name, asgT_sub, asgT_tup, asgTs_nil, asgTs_cons, Res.bind_ok, Res.bind_exc, lift_some, noExc_ok, truth_bl, finish_rt, finish_nx, List.map_cons, List.map_nil, List.length_cons, List.length_nil, List.replicate_zero, List.replicate_succ, List.cons_append, List.nil_append, List.getElem?_cons_zero, List.getElem?_cons_succ, List.set_cons_zero, List.set_cons_succ, Bool.not_true, Bool.not_false, ↓reduceIte, Bool.false_eq_true, Nat.reduceAdd, Nat.reduceSub, Nat.reduceLT, Nat.reduceLeDiff, Nat.zero_add, id_eq, Nat.sub_self, Bool.true_and, Bool.and_true, Bool.false_and, Bool.and_false, Bool.true_or, Bool.or_true, Bool.false_or, Bool.or_false, t1, t2]
theorem lwhole_no (K : K96 P) {v : D} (h : OkP v) (hn : ∀ i, v ≠ .int i) : callD P (n + 1) "_law_is_whole" [v] μ = .ok (.bl false) μ := by
  rw [callD_eq K.lIsWhole rfl]
  have g := h.g
  have no : fIsi μ [v, .ty "int"] = some (.bl false) → exs (callD P n) Law.d__law_is_whole.body (startE Law.d__law_is_whole [v]) μ = .ok (.rt (.bl false)) μ := fun e => by
    simp -implicitDefEqProofs only [Law.d__law_is_whole, startE, exs_nil, exs_cons, ex_pass, ex_expr, ex_asg, ex_ifs, ex_for, ex_ret, ex_retN, ex_brk, ex_cont, ex_never, ev_var, ev_lit, ev_op1, ev_op2, ev_op3, ev_opN, ev_opM, ev_meth, ev_frz, ev_lst, ev_tup, ev_and, ev_or, ev_not, ev_ite, ev_chain, ev_call, ev_comp, evs_nil, evs_cons, Res.bind_assoc, evT, asgT_name, asgT_sub, asgT_tup, asgTs_nil, asgTs_cons, Res.bind_ok, Res.bind_exc, lift_some, noExc_ok, truth_bl, finish_rt, finish_nx, List.map_cons, List.map_nil, List.length_cons, List.length_nil, List.replicate_zero, List.replicate_succ, List.cons_append, List.nil_append, List.getElem?_cons_zero, List.getElem?_cons_succ, List.set_cons_zero, List.set_cons_succ, Bool.not_true, Bool.not_false, ↓reduceIte, Bool.false_eq_true, Nat.reduceAdd, Nat.reduceSub, Nat.reduceLT, Nat.reduceLeDiff, Nat.zero_add, id_eq, Nat.sub_self, Bool.true_and, Bool.and_true, Bool.false_and, Bool.and_false, Bool.true_or, Bool.or_true, Bool.false_or, Bool.or_false, e]
  cases v with
  | bl b =>
    have t1 : fIsi μ [.bl b, .ty "int"] = some (.bl true) := rfl
    have t2 : fIsi μ [.bl b, .ty "bool"] = some (.bl true) := rfl
    simp -implicitDefEqProofs only [Law.d__law_is_whole, startE, exs_nil, exs_cons, ex_pass, ex_expr, ex_asg, ex_ifs, ex_for, ex_ret, ex_retN, ex_brk, ex_cont, ex_never, ev_var, ev_lit, ev_op1, ev_op2, ev_op3, ev_opN, ev_opM, ev_meth, ev_frz, ev_lst, ev_tup, ev_and, ev_or, ev_not, ev_ite, ev_chain, ev_call, ev_comp, evs_nil, evs_cons, Res.bind_assoc, evT, asgT_name, asgT_sub, asgT_tup, asgTs_nil, asgTs_cons, Res.bind_ok, Res.bind_exc, lift_some, noExc_ok, truth_bl, finish_rt, finish_nx, List.map_cons, List.map_nil, List.length_cons, List.length_nil, List.replicate_zero, List.replicate_succ, List.cons_append, List.nil_append, List.getElem?_cons_zero, List.getElem?_cons_succ, List.set_cons_zero, List.set_cons_succ, Bool.not_true, Bool.not_false, ↓reduceIte, Bool.false_eq_true, Nat.reduceAdd, Nat.reduceSub, Nat.reduceLT, Nat.reduceLeDiff, Nat.zero_add, id_eq, Nat.sub_self, Bool.true_and, Bool.and_true, Bool.false_and, Bool.and_false, Bool.true_or, Bool.or_true, Bool.false_or, Bool.or_false, t1, t2]
  | int i => exact absurd rfl (hn i)
  | non => rw [no rfl]; exact finish_rt _ _
  | str s => rw [no rfl]; exact finish_rt _ _
  | tup ds => rw [no rfl]; exact finish_rt _ _
  | lst ds => rw [no rfl]; exact finish_rt _ _
  | _ => unfold gd at g; cases g
theorem same_bl2 (K : K96 P) (x y : Bool) : callD P (n + 7) "_law_same" [.lst [.bl x, .bl y], .lst [.bl x, .bl y]] μ = .ok (.bl true) μ :=
  sameB K.lSame 1 (n + 5) μ _ (gd_l (gds_c (gd_b x) (gds_c (gd_b y) gds_n)) (by simp))
end
end Ev
namespace Ev
open Res
/-! ## the law's own helpers -/
theorem any_false {μ : Store} {ys : List D} (h : ∀ y ∈ ys, y = .bl false) : fAny μ [.lst ys] = some (.bl false) := by
  have e : ys = ys.map fun _ => D.bl false := by
    apply List.ext_getElem
    · simp
    · intro i h1 h2
      rw [List.getElem_map]
      exact h _ (List.getElem_mem h1)
  rw [e]
  show (match blsOf (ys.map fun _ => D.bl false) with | some ns => _ | none => _) = _
  rw [blsOf_map (fun _ : D => false) ys]
  show some (D.bl ((ys.map fun _ => false).any id)) = _
  rw [List.any_map]
  simp
/-- draws, one behind another -/
theorem draws {st : D → Store → Res (Option D)} {w : Nat} {s : List Nat} (hst : ∀ d μ, IsW w μ → ∃ (c : Nat) (μ' : Store), c ∈ s ∧ WL w μ μ' ∧ st d μ = .ok (some (.str [c])) μ') :
    ∀ (items : List D) (μ : Store), IsW w μ → ∃ (cs : List Nat) (μ' : Store), (∀ c ∈ cs, c ∈ s) ∧ cs.length = items.length ∧ WL w μ μ' ∧ compLoop st items μ = .ok (cs.map fun c => .str [c]) μ'
  | [], μ, hw => ⟨[], μ, fun c hc => by simp at hc, rfl, WL.refl hw, rfl⟩
  | d :: items, μ, hw => by
    obtain ⟨c, μ1, hc, k1, e1⟩ := hst d μ hw
    obtain ⟨cs, μ2, hcs, hl, k2, e2⟩ := draws hst items μ1 (k1.isW hw)
    refine ⟨c :: cs, μ2, fun x hx => ?_, by simp [hl], k1.trans k2, ?_⟩
    · rcases List.mem_cons.mp hx with rfl | z
      · exact hc
      · exact hcs x z
    · rw [compLoop, e1, noExc_ok, bind_ok, e2]; rfl
theorem any_map {α : Type} (μ : Store) (p : α → Bool) (xs : List α) : fAny μ [.lst (xs.map fun x => .bl (p x))] = some (.bl (xs.any p)) := by
  show (match blsOf (xs.map fun x => .bl (p x)) with | some ns => _ | none => _) = _
  rw [blsOf_map]
  show some (D.bl ((xs.map p).any id)) = _
  rw [List.any_map]; rfl
theorem zip_any {s : List Nat} (hl : ∀ c ∈ s, isL c = true) (h1 : 1 ≤ s.length) (h24 : s.length ≤ 24) : (!((s.zip (s.drop 1)).any fun p => p.1 == p.2)) = stkB s := by
  rw [Bool.eq_iff_iff, stkB_iff]
  constructor
  · intro h
    refine ⟨h1, h24, hl, fun i hi e => ?_⟩
    have : ((s.zip (s.drop 1)).any fun p => p.1 == p.2) = true := by
      rw [List.any_eq_true]
      refine ⟨(s[i]'(by omega), s[i + 1]'hi), ?_, ?_⟩
      · rw [List.mem_iff_getElem]
        refine ⟨i, by rw [List.length_zip, List.length_drop]; omega, ?_⟩
        rw [List.getElem_zip, List.getElem_drop]
        congr 1
        congr 1
        omega
      · have a1 : at' s i = s[i]'(by omega) := by simp [at', List.getD, show i < s.length by omega]
        have a2 : at' s (i + 1) = s[i + 1]'hi := by simp [at', List.getD, hi]
        rw [a1, a2] at e
        exact beq_iff_eq.mpr e
    rw [this] at h
    cases h
  · intro h
    have : ((s.zip (s.drop 1)).any fun p => p.1 == p.2) = false := by
      rw [List.any_eq_false]
      intro p hp
      obtain ⟨i, hi, e⟩ := List.getElem_of_mem hp
      rw [List.length_zip, List.length_drop] at hi
      have e := e.symm
      rw [List.getElem_zip, List.getElem_drop] at e
      have n1 := h.nb i (by omega)
      have a1 : at' s i = s[i]'(by omega) := by simp [at', List.getD, show i < s.length by omega]
      have a2 : at' s (i + 1) = s[1 + i]'(by omega) := by simp [at', List.getD, show i + 1 < s.length by omega, Nat.add_comm]
      rw [a1, a2] at n1
      rw [e]
      exact fun z => n1 (beq_iff_eq.mp z)
    rw [this]; rfl
section
variable {P : String → Option FD} {n : Nat} {μ : Store}
theorem lis_gen (K : K96 P) {s : List Nat} (hl : ∀ c ∈ s, isL c = true) (hp : 1 ≤ s.length) (hle : s.length ≤ 24) : callD P (n + 1) "_law_is_stacking" [.str s] μ = .ok (.bl (stkB s)) μ := by
  rw [callD_eq K.lis rfl]
  have t : fIsi μ [.str s, .ty "str"] = some (.bl true) := rfl
  have sc : s.length ≤ cap := cap100 (by omega)
  have ln := len_str μ s sc
  have sm : (s.map fun c => D.str [c]).length ≤ cap := by rw [List.length_map]; exact sc
  have d1 : decide ((0 : Int) < (s.length : Nat)) = true := decide_eq_true (by omega)
  have d2 : decide (((s.length : Nat) : Int) < 25) = true := decide_eq_true (by omega)
  have hm : (s.map fun _ => D.bl true).length ≤ cap := by rw [List.length_map]; exact sc
  have al : fAll μ [.lst (s.map fun _ => D.bl true)] = some (.bl true) := all_true fun y hy => by
    obtain ⟨_, _, rfl⟩ := List.mem_map.mp hy; rfl
  have hzl : (s.zip (s.drop 1)).length ≤ cap := by rw [List.length_zip]; exact Nat.le_trans (Nat.min_le_left _ _) sc
  have hz : ((s.zip (s.drop 1)).map fun p => D.tup [D.str [p.1], D.str [p.2]]).length ≤ cap := by rw [List.length_map]; exact hzl
  have hf : ((s.zip (s.drop 1)).map fun p => D.bl (p.1 == p.2)).length ≤ cap := by rw [List.length_map]; exact hzl
  have an : fAny μ [.lst ((s.zip (s.drop 1)).map fun p => D.bl (p.1 == p.2))] = some (.bl ((s.zip (s.drop 1)).any fun p => p.1 == p.2)) := any_map μ (fun p : Nat × Nat => p.1 == p.2) _
  have za := zip_any hl hp hle
  have c1 : ∀ ρ : Env, ρ.length = 4 → compLoop (compStep (callD P n) (.op2 fIn (.var 3) (.lit (.str [65, 66, 67]))) (.name 3) (.lit (.bl true)) ρ) (s.map fun c => D.str [c]) μ = .ok (s.map fun _ => D.bl true) μ := fun ρ hρ => by
    rw [compLoop_map (fun c => D.str [c]) (fun _ => .bl true)]
    intro c hc
    have i1 : fIn μ (.str [c]) (.str [65, 66, 67]) = some (.bl true) := by rw [in_sign, mem_abc, hl c hc]
    have l2 : (3 < ρ.length) = True := eq_true (by omega)
    have q2 : (ρ.set 3 (some (.str [c])))[3]? = some (some (.str [c])) := by rw [List.getElem?_set_self (by omega)]
    simp -implicitDefEqProofs only [startE, exs_nil, exs_cons, ex_pass, ex_expr, ex_asg, ex_ifs, ex_for, ex_ret, ex_retN, ex_brk, ex_cont, ex_never, ev_var, ev_lit, ev_op1, ev_op2, ev_op3, ev_opN, ev_opM, ev_meth, ev_frz, ev_lst, ev_tup, ev_and, ev_or, ev_not, ev_ite, ev_chain, ev_call, ev_comp, evs_nil, evs_cons, Res.bind_assoc, evT, asgT_name, asgT_sub, asgT_tup, asgTs_nil, asgTs_cons, Res.bind_ok, Res.bind_exc, lift_some, noExc_ok, truth_bl, finish_rt, finish_nx, List.map_cons, List.map_nil, List.length_cons, List.length_nil, List.replicate_zero, List.replicate_succ, List.cons_append, List.nil_append, List.getElem?_cons_zero, List.getElem?_cons_succ, List.set_cons_zero, List.set_cons_succ, Bool.not_true, Bool.not_false, ↓reduceIte, Bool.false_eq_true, Nat.reduceAdd, Nat.reduceSub, Nat.reduceLT, Nat.reduceLeDiff, Nat.zero_add, id_eq, Nat.sub_self, Bool.true_and, Bool.and_true, Bool.false_and, Bool.and_false, Bool.true_or, Bool.or_true, Bool.false_or, Bool.or_false, compStep, forStep, bindT_name, bindT_tup, bindT_str, bindTs_nil, bindTs_cons, wipeE, List.length_set, l2, q2, i1]
  have c2 : compLoop (compStep (callD P n) (.op2 fEq (.var 1) (.var 2)) (.tup [.name 1, .name 2]) (.lit (.bl true)) [some (.str s), none, none, none]) ((s.zip (s.drop 1)).map fun p => D.tup [D.str [p.1], D.str [p.2]]) μ = .ok ((s.zip (s.drop 1)).map fun p => D.bl (p.1 == p.2)) μ := by
    rw [compLoop_map (fun p : Nat × Nat => D.tup [.str [p.1], .str [p.2]]) (fun p => .bl (p.1 == p.2))]
    intro p hp
    obtain ⟨a, b⟩ := p
    have l1 := hl a (List.of_mem_zip hp).1
    have l2 := hl b (List.mem_of_mem_drop (List.of_mem_zip hp).2)
    have eq := eq_sign μ a b (isL_lt l1) (isL_lt l2)
    simp -implicitDefEqProofs only [startE, exs_nil, exs_cons, ex_pass, ex_expr, ex_asg, ex_ifs, ex_for, ex_ret, ex_retN, ex_brk, ex_cont, ex_never, ev_var, ev_lit, ev_op1, ev_op2, ev_op3, ev_opN, ev_opM, ev_meth, ev_frz, ev_lst, ev_tup, ev_and, ev_or, ev_not, ev_ite, ev_chain, ev_call, ev_comp, evs_nil, evs_cons, Res.bind_assoc, evT, asgT_name, asgT_sub, asgT_tup, asgTs_nil, asgTs_cons, Res.bind_ok, Res.bind_exc, lift_some, noExc_ok, truth_bl, finish_rt, finish_nx, List.map_cons, List.map_nil, List.length_cons, List.length_nil, List.replicate_zero, List.replicate_succ, List.cons_append, List.nil_append, List.getElem?_cons_zero, List.getElem?_cons_succ, List.set_cons_zero, List.set_cons_succ, Bool.not_true, Bool.not_false, ↓reduceIte, Bool.false_eq_true, Nat.reduceAdd, Nat.reduceSub, Nat.reduceLT, Nat.reduceLeDiff, Nat.zero_add, id_eq, Nat.sub_self, Bool.true_and, Bool.and_true, Bool.false_and, Bool.and_false, Bool.true_or, Bool.or_true, Bool.false_or, Bool.or_false, compStep, forStep, bindT_name, bindT_tup, bindT_str, bindTs_nil, bindTs_cons, wipeE, List.length_set, eq]
  have cc := c1 [some (.str s), none, none, none] rfl
  generalize ((s.zip (s.drop 1)).any fun p => p.1 == p.2) = z at *
  rw [← za]
  cases z <;> simp -implicitDefEqProofs only [Law.d__law_is_stacking, startE, exs_nil, exs_cons, ex_pass, ex_expr, ex_asg, ex_ifs, ex_for, ex_ret, ex_retN, ex_brk, ex_cont, ex_never, ev_var, ev_lit, ev_op1, ev_op2, ev_op3, ev_opN, ev_opM, ev_meth, ev_frz, ev_lst, ev_tup, ev_and, ev_or, ev_not, ev_ite, ev_chain, ev_call, ev_comp, evs_nil, evs_cons, Res.bind_assoc, evT, asgT_name, asgT_sub, asgT_tup, asgTs_nil, asgTs_cons, Res.bind_ok, Res.bind_exc, lift_some, noExc_ok, truth_bl, finish_rt, finish_nx, List.map_cons, List.map_nil, List.length_cons, List.length_nil, List.replicate_zero, List.replicate_succ, List.cons_append, List.nil_append, List.getElem?_cons_zero, List.getElem?_cons_succ, List.set_cons_zero, List.set_cons_succ, Bool.not_true, Bool.not_false, ↓reduceIte, Bool.false_eq_true, Nat.reduceAdd, Nat.reduceSub, Nat.reduceLT, Nat.reduceLeDiff, Nat.zero_add, id_eq, Nat.sub_self, Bool.true_and, Bool.and_true, Bool.false_and, Bool.and_false, Bool.true_or, Bool.or_true, Bool.false_or, Bool.or_false, wipeE, t, lt_int, ln, d1, d2, val_str, sm, cc, mkL_val _ _ hm, al, fI_int, sl_from1 s sc, zip_strs, hz, c2, mkL_val _ _ hf, an]
theorem lic_gen (K : K96 P) {s : List Nat} (hl : ∀ c ∈ s, isL c = true) (h2 : 2 ≤ s.length) (hle : s.length ≤ 24) : callD P (n + 2) "_law_is_closed" [.str s] μ = .ok (.bl (cloB s)) μ := by
  have sc : s.length ≤ cap := cap100 (by omega)
  have li := lis_gen (n := n) (μ := μ) K hl (by omega) hle
  have e0 : fIx μ (.str s) (.int 0) = some (.str [at' s 0]) := ix_strN μ sc (i := 0) (by omega)
  have e1 : fIx μ (.str s) (.int (-1)) = some (.str [at' s (s.length - 1)]) := ix_strE μ sc (j := 1) (by omega) (by omega)
  have e2 := ne_sign μ (at' s 0) (at' s (s.length - 1)) (isL_lt (hl _ (at_mem (by omega)))) (isL_lt (hl _ (at_mem (by omega))))
  have d1 : decide ((1 : Int) < (s.length : Nat)) = true := decide_eq_true (by omega)
  rw [callD_eq K.lic rfl]
  unfold cloB
  cases hb : stkB s with
  | false => rw [hb] at li; simp -implicitDefEqProofs only [Law.d__law_is_closed, startE, exs_nil, exs_cons, ex_pass, ex_expr, ex_asg, ex_ifs, ex_for, ex_ret, ex_retN, ex_brk, ex_cont, ex_never, ev_var, ev_lit, ev_op1, ev_op2, ev_op3, ev_opN, ev_opM, ev_meth, ev_frz, ev_lst, ev_tup, ev_and, ev_or, ev_not, ev_ite, ev_chain, ev_call, ev_comp, evs_nil, evs_cons, Res.bind_assoc, evT, asgT_name, asgT_sub, asgT_tup, asgTs_nil, asgTs_cons, Res.bind_ok, Res.bind_exc, lift_some, noExc_ok, truth_bl, finish_rt, finish_nx, List.map_cons, List.map_nil, List.length_cons, List.length_nil, List.replicate_zero, List.replicate_succ, List.cons_append, List.nil_append, List.getElem?_cons_zero, List.getElem?_cons_succ, List.set_cons_zero, List.set_cons_succ, Bool.not_true, Bool.not_false, ↓reduceIte, Bool.false_eq_true, Nat.reduceAdd, Nat.reduceSub, Nat.reduceLT, Nat.reduceLeDiff, Nat.zero_add, id_eq, Nat.sub_self, Bool.true_and, Bool.and_true, Bool.false_and, Bool.and_false, Bool.true_or, Bool.or_true, Bool.false_or, Bool.or_false, li]
  | true => rw [hb] at li; simp -implicitDefEqProofs only [Law.d__law_is_closed, startE, exs_nil, exs_cons, ex_pass, ex_expr, ex_asg, ex_ifs, ex_for, ex_ret, ex_retN, ex_brk, ex_cont, ex_never, ev_var, ev_lit, ev_op1, ev_op2, ev_op3, ev_opN, ev_opM, ev_meth, ev_frz, ev_lst, ev_tup, ev_and, ev_or, ev_not, ev_ite, ev_chain, ev_call, ev_comp, evs_nil, evs_cons, Res.bind_assoc, evT, asgT_name, asgT_sub, asgT_tup, asgTs_nil, asgTs_cons, Res.bind_ok, Res.bind_exc, lift_some, noExc_ok, truth_bl, finish_rt, finish_nx, List.map_cons, List.map_nil, List.length_cons, List.length_nil, List.replicate_zero, List.replicate_succ, List.cons_append, List.nil_append, List.getElem?_cons_zero, List.getElem?_cons_succ, List.set_cons_zero, List.set_cons_succ, Bool.not_true, Bool.not_false, ↓reduceIte, Bool.false_eq_true, Nat.reduceAdd, Nat.reduceSub, Nat.reduceLT, Nat.reduceLeDiff, Nat.zero_add, id_eq, Nat.sub_self, Bool.true_and, Bool.and_true, Bool.false_and, Bool.and_false, Bool.true_or, Bool.or_true, Bool.false_or, Bool.or_false, li, len_str μ s sc, gt_int, d1, e0, neg_int, e1, e2]
theorem pm_Sg {cs : List Nat} (h : ∀ c ∈ cs, c ∈ [43, 45]) : Sg cs := fun c hc => by
  have := h c hc
  simp only [List.mem_cons, List.not_mem_nil, or_false] at this
  exact this
theorem lstk_ok (K : K96 P) {w : Nat} (hw : IsW w μ) {low most : Nat} (h1 : 1 ≤ low) (h2 : low ≤ most) (h24 : most ≤ 24) :
    ∃ (s : List Nat) (μ' : Store), Stk s ∧ low ≤ s.length ∧ s.length ≤ most ∧ WL w μ μ' ∧ callD P (n + 4) "_law_stacking" [.ref w, .int (low : Nat), .int (most : Nat)] μ = .ok (.str s) μ' := by
  obtain ⟨k, μ1, hk, k1, e1⟩ := draw_n (n := n + 2) (μ := μ) K.lDraw hw (many := most - low + 1) (by omega) (by omega)
  have hw1 := k1.isW hw
  obtain ⟨a, μ2, ha, k2, e2⟩ := one_str (n := n + 1) (μ := μ1) K.lDraw K.lOne hw1 (s := [65, 66, 67]) (by decide) (by decide)
  have hw2 := k2.isW hw1
  obtain ⟨d, μ3, hd, k3, e3⟩ := one_lst (n := n + 1) (μ := μ2) K.lDraw K.lOne hw2 (ds := [.int 24, .int 24, .int 1, .int 2, .int 3, .int 4, .int 6]) (show 0 < 7 by decide) (show 7 ≤ cap by decide)
  have hw3 := k3.isW hw2
  obtain ⟨m, rfl, m1, m24⟩ : ∃ m : Nat, d = .int (m : Nat) ∧ 1 ≤ m ∧ m ≤ 24 := by
    simp only [List.mem_cons, List.not_mem_nil, or_false] at hd
    rcases hd with rfl | rfl | rfl | rfl | rfl | rfl | rfl
    · exact ⟨24, rfl, by decide, by decide⟩
    · exact ⟨24, rfl, by decide, by decide⟩
    · exact ⟨1, rfl, by decide, by decide⟩
    · exact ⟨2, rfl, by decide, by decide⟩
    · exact ⟨3, rfl, by decide, by decide⟩
    · exact ⟨4, rfl, by decide, by decide⟩
    · exact ⟨6, rfl, by decide, by decide⟩
  have al := abc_isL ha
  have e1 : callD P (n + 3) "_law_draw" [.ref w, .int (((most : Nat) : Int) - ((low : Nat) : Int) + 1)] μ = .ok (.int (k : Nat)) μ1 := by
    rw [show ((most : Nat) : Int) - ((low : Nat) : Int) + 1 = ((most - low + 1 : Nat) : Int) by omega]; exact e1
  have m7 : mkL false [D.int 24, .int 24, .int 1, .int 2, .int 3, .int 4, .int 6] μ2 = .ok (.lst [D.int 24, .int 24, .int 1, .int 2, .int 3, .int 4, .int 6]) μ2 := mkL_val _ _ (show 7 ≤ cap by decide)
  have r := rng1 μ3 (n := m) (by omega)
  have hr : ((List.range m).map fun k => D.int (k : Nat)).length ≤ cap := by rw [List.length_map, List.length_range]; exact cap100 (by omega)
  have c0 : 0 ≤ cap := by decide
  have c2 : 2 ≤ cap := by decide
  obtain ⟨cs, μ4, hcs, cl, k4, e4⟩ := draws (st := compStep (callD P (n + 3)) (.call "_law_one" id [.var 0, .lit (.str [43, 45])]) (.name 6) (.lit (.bl true)) [some (.ref w), some (.int (low : Nat)), some (.int (most : Nat)), some (.int (((low : Nat) : Int) + (k : Nat))), some (.str [a]), none, none]) (w := w) (s := [43, 45]) (fun d μ hw => by
    obtain ⟨c, μ', hc, kw, e⟩ := one_str (n := n + 1) (μ := μ) K.lDraw K.lOne hw (s := [43, 45]) (by decide) (by decide)
    exact ⟨c, μ', hc, kw, by simp -implicitDefEqProofs only [startE, exs_nil, exs_cons, ex_pass, ex_expr, ex_asg, ex_ifs, ex_for, ex_ret, ex_retN, ex_brk, ex_cont, ex_never, ev_var, ev_lit, ev_op1, ev_op2, ev_op3, ev_opN, ev_opM, ev_meth, ev_frz, ev_lst, ev_tup, ev_and, ev_or, ev_not, ev_ite, ev_chain, ev_call, ev_comp, evs_nil, evs_cons, Res.bind_assoc, evT, asgT_name, asgT_sub, asgT_tup, asgTs_nil, asgTs_cons, Res.bind_ok, Res.bind_exc, lift_some, noExc_ok, truth_bl, finish_rt, finish_nx, List.map_cons, List.map_nil, List.length_cons, List.length_nil, List.replicate_zero, List.replicate_succ, List.cons_append, List.nil_append, List.getElem?_cons_zero, List.getElem?_cons_succ, List.set_cons_zero, List.set_cons_succ, Bool.not_true, Bool.not_false, ↓reduceIte, Bool.false_eq_true, Nat.reduceAdd, Nat.reduceSub, Nat.reduceLT, Nat.reduceLeDiff, Nat.zero_add, id_eq, Nat.sub_self, Bool.true_and, Bool.and_true, Bool.false_and, Bool.and_false, Bool.true_or, Bool.or_true, Bool.false_or, Bool.or_false, compStep, forStep, bindT_name, bindT_tup, bindT_str, bindTs_nil, bindTs_cons, wipeE, List.length_set, e]⟩) ((List.range m).map fun k => D.int (k : Nat)) μ3 hw3
  rw [List.length_map, List.length_range] at cl
  have h2' : (cs.map fun c => D.str [c]).length ≤ cap := by rw [List.length_map]; exact cap100 (by omega)
  have jl : cs.length ≤ cap := cap100 (by omega)
  have mu := mul_s μ4 cs 24 (by omega) (by decide)
  have mu : fMul μ4 (.str cs) (.int 24) = some (.str (List.replicate 24 cs).flatten) := mu
  have fl : (List.replicate 24 cs).flatten.length = 24 * cs.length := rep_len' cs 24
  have sg : Sg (List.replicate 24 cs).flatten := fun c hc => by
    obtain ⟨l, hl, hcl⟩ := List.mem_flatten.mp hc
    rw [(List.mem_replicate.mp hl).2] at hcl
    exact pm_Sg hcs c hcl
  generalize (List.replicate 24 cs).flatten = r24 at *
  have sl : fSl μ4 (.str r24) .non (.int (((low : Nat) : Int) + (k : Nat) - 1)) = some (.str (r24.take (low + k - 1))) := by
    rw [show ((low : Nat) : Int) + (k : Nat) - 1 = ((low + k - 1 : Nat) : Int) by omega]
    exact sl_to (μ := μ4) r24 (cap1000 (by omega)) (a := low + k - 1) (by omega)
  have by' := law_by_ok (n := n + 1) (μ := μ4) K al (cs := r24.take (low + k - 1)) (fun c hc => sg.lt (List.mem_of_mem_take hc)) (by rw [List.length_take]; omega)
  have ll : (lay [a] (r24.take (low + k - 1))).length = low + k := by rw [lay_len, List.length_take, List.length_singleton]; omega
  have kw := ((k1.trans k2).trans k3).trans k4
  refine ⟨lay [a] (r24.take (low + k - 1)), μ4, lay_stk al (by rw [List.length_take]; omega), by omega, by omega, kw, ?_⟩
  rw [callD_eq K.lstk rfl]
  simp -implicitDefEqProofs only [Law.d__law_stacking, startE, exs_nil, exs_cons, ex_pass, ex_expr, ex_asg, ex_ifs, ex_for, ex_ret, ex_retN, ex_brk, ex_cont, ex_never, ev_var, ev_lit, ev_op1, ev_op2, ev_op3, ev_opN, ev_opM, ev_meth, ev_frz, ev_lst, ev_tup, ev_and, ev_or, ev_not, ev_ite, ev_chain, ev_call, ev_comp, evs_nil, evs_cons, Res.bind_assoc, evT, asgT_name, asgT_sub, asgT_tup, asgTs_nil, asgTs_cons, Res.bind_ok, Res.bind_exc, lift_some, noExc_ok, truth_bl, finish_rt, finish_nx, List.map_cons, List.map_nil, List.length_cons, List.length_nil, List.replicate_zero, List.replicate_succ, List.cons_append, List.nil_append, List.getElem?_cons_zero, List.getElem?_cons_succ, List.set_cons_zero, List.set_cons_succ, Bool.not_true, Bool.not_false, ↓reduceIte, Bool.false_eq_true, Nat.reduceAdd, Nat.reduceSub, Nat.reduceLT, Nat.reduceLeDiff, Nat.zero_add, id_eq, Nat.sub_self, Bool.true_and, Bool.and_true, Bool.false_and, Bool.and_false, Bool.true_or, Bool.or_true, Bool.false_or, Bool.or_false, sub_int, add_int, e1, e2, c2, m7, e3, r, hr, isStr, wipeE, e4, mkL_val _ _ h2', join_signs _ jl, mu, fI_int, sl, by']
  exact finish_len _ kw.len
theorem lclo_ok (K : K96 P) {w : Nat} (hw : IsW w μ) {most : Nat} (h2 : 2 ≤ most) (h24 : most ≤ 24) :
    ∃ (s : List Nat) (μ' : Store), Clo s ∧ WL w μ μ' ∧ callD P (n + 5) "_law_closed" [.ref w, .int 2, .int (most : Nat)] μ = .ok (.str s) μ' := by
  obtain ⟨t, μ1, ht, l2, lm, kw, e⟩ := lstk_ok (n := n) (μ := μ) K hw (low := 2) (most := most) (by decide) h2 h24
  have mx : fMax μ [.int 2, .int 2] = some (.int ((2 : Nat) : Int)) := rfl
  have tc := ht.cap
  have x0 : fIx μ1 (.str t) (.int 0) = some (.str [at' t 0]) := ix_strN μ1 tc (i := 0) (by omega)
  have x1 : fIx μ1 (.str t) (.int (-1)) = some (.str [at' t (t.length - 1)]) := ix_strE μ1 tc (j := 1) (by omega) (by omega)
  have x2 : fIx μ1 (.str t) (.int (-2)) = some (.str [at' t (t.length - 2)]) := ix_strE μ1 tc (j := 2) (by omega) (by omega)
  have l0 := ht.ltr _ (at_mem (s := t) (i := 0) (by omega))
  have l1 := ht.ltr _ (at_mem (s := t) (i := t.length - 1) (by omega))
  have l2' := ht.ltr _ (at_mem (s := t) (i := t.length - 2) (by omega))
  rw [callD_eq K.lclo rfl]
  cases hb : (at' t 0 == at' t (t.length - 1)) with
  | false =>
    refine ⟨t, μ1, ⟨ht, fun z => by rw [z] at hb; simp at hb⟩, kw, ?_⟩
    simp -implicitDefEqProofs only [Law.d__law_closed, startE, exs_nil, exs_cons, ex_pass, ex_expr, ex_asg, ex_ifs, ex_for, ex_ret, ex_retN, ex_brk, ex_cont, ex_never, ev_var, ev_lit, ev_op1, ev_op2, ev_op3, ev_opN, ev_opM, ev_meth, ev_frz, ev_lst, ev_tup, ev_and, ev_or, ev_not, ev_ite, ev_chain, ev_call, ev_comp, evs_nil, evs_cons, Res.bind_assoc, evT, asgT_name, asgT_sub, asgT_tup, asgTs_nil, asgTs_cons, Res.bind_ok, Res.bind_exc, lift_some, noExc_ok, truth_bl, finish_rt, finish_nx, List.map_cons, List.map_nil, List.length_cons, List.length_nil, List.replicate_zero, List.replicate_succ, List.cons_append, List.nil_append, List.getElem?_cons_zero, List.getElem?_cons_succ, List.set_cons_zero, List.set_cons_succ, Bool.not_true, Bool.not_false, ↓reduceIte, Bool.false_eq_true, Nat.reduceAdd, Nat.reduceSub, Nat.reduceLT, Nat.reduceLeDiff, Nat.zero_add, id_eq, Nat.sub_self, Bool.true_and, Bool.and_true, Bool.false_and, Bool.and_false, Bool.true_or, Bool.or_true, Bool.false_or, Bool.or_false, mx, e, x0, neg_int, x1, eq_sign μ1 _ _ (isL_lt l0) (isL_lt l1), hb]
    exact finish_len _ kw.len
  | true =>
    have n3 : 3 ≤ t.length := by
      rcases Nat.lt_or_ge 2 t.length with z | z
      · exact z
      · have e2 : t.length = 2 := by omega
        have := ht.nb 0 (by omega)
        rw [e2] at hb
        exact absurd (beq_iff_eq.mp hb) this
    let p : Nat → Bool := fun c => !(c == at' t 0 || c == at' t (t.length - 2))
    have hpos : 0 < ([65, 66, 67].filter p).length := by
      obtain ⟨c, hc, n1, n2⟩ := abc_ex l0 l2'
      exact List.length_pos_of_mem (List.mem_filter.mpr ⟨hc, by show (!(c == at' t 0 || c == at' t (t.length - 2))) = true; rw [beq_eq_false_iff_ne.mpr n1, beq_eq_false_iff_ne.mpr n2]; rfl⟩)
    have hlen : ([65, 66, 67].filter p).length ≤ 3 := List.length_filter_le _ _
    have hin : at' ([65, 66, 67].filter p) 0 ∈ [65, 66, 67].filter p := at_mem hpos
    have hcm : (([65, 66, 67].filter p).map fun c => D.str [c]).length ≤ cap := by rw [List.length_map]; exact Nat.le_trans hlen (by decide)
    have xc : fIx μ1 (.lst (([65, 66, 67].filter p).map fun c => D.str [c])) (.int 0) = some (.str [at' ([65, 66, 67].filter p) 0]) := by
      rw [ix_lst μ1 (by decide) (by rw [List.length_map]; omega)]
      refine congrArg some ?_
      cases hx : [65, 66, 67].filter p with
      | nil => rw [hx] at hpos; simp at hpos
      | cons a b => rfl
    generalize hc : at' ([65, 66, 67].filter p) 0 = c at *
    obtain ⟨m1, m2⟩ := List.mem_filter.mp hin
    have m2 : c ≠ at' t 0 ∧ c ≠ at' t (t.length - 2) := by
      simp only [p, Bool.not_eq_true', Bool.or_eq_false_iff, beq_eq_false_iff_ne] at m2
      exact m2
    have hcl := abc_isL m1
    have tl : (t.take (t.length - 1)).length = t.length - 1 := by rw [List.length_take]; omega
    have ta : ∀ i, i < t.length - 1 → at' (t.take (t.length - 1)) i = at' t i := fun i hi => by
      show (t.take (t.length - 1)).getD i 0 = t.getD i 0
      rw [List.getD_eq_getElem?_getD, List.getD_eq_getElem?_getD, List.getElem?_take, if_pos hi]
    have pre2 : Pre (t.take (t.length - 1)) := ⟨fun d hd => ht.ltr d (List.mem_of_mem_take hd), fun i hi => by
      rw [tl] at hi
      rw [ta i (by omega), ta (i + 1) hi]
      exact ht.nb i (by omega)⟩
    have pre3 : Pre (t.take (t.length - 1) ++ [c]) := pre2.app hcl fun _ => by
      rw [tl, ta _ (by omega)]
      exact m2.2
    have l3 : (t.take (t.length - 1) ++ [c]).length = t.length := by rw [List.length_append, tl, List.length_singleton]; omega
    have sl := sl_but1 (μ := μ1) t tc (by omega)
    have ad : fAdd μ1 (.str (t.take (t.length - 1))) (.str [c]) = some (.str (t.take (t.length - 1) ++ [c])) := add_str μ1 (by rw [tl, List.length_singleton]; exact Nat.le_trans (by have := ht.le; omega : t.length - 1 + 1 ≤ 24) (by decide))
    have tle := ht.le
    refine ⟨t.take (t.length - 1) ++ [c], μ1, ⟨pre3.stk (by omega) (by omega), ?_⟩, kw, ?_⟩
    · have al := at_last (t.take (t.length - 1)) c
      rw [tl] at al
      rw [l3, al, at_app (by omega), ta 0 (by omega)]
      exact fun z => m2.1 z.symm
    · have h3 : 3 ≤ cap := by decide
      have h22 : 2 ≤ cap := by decide
      have m22 := mkL2 μ1 (.str [at' t 0]) (.str [at' t (t.length - 2)])
      simp -implicitDefEqProofs only [Law.d__law_closed, startE, exs_nil, exs_cons, ex_pass, ex_expr, ex_asg, ex_ifs, ex_for, ex_ret, ex_retN, ex_brk, ex_cont, ex_never, ev_var, ev_lit, ev_op1, ev_op2, ev_op3, ev_opN, ev_opM, ev_meth, ev_frz, ev_lst, ev_tup, ev_and, ev_or, ev_not, ev_ite, ev_chain, ev_call, ev_comp, evs_nil, evs_cons, Res.bind_assoc, evT, asgT_name, asgT_sub, asgT_tup, asgTs_nil, asgTs_cons, Res.bind_ok, Res.bind_exc, lift_some, noExc_ok, truth_bl, finish_rt, finish_nx, List.map_cons, List.map_nil, List.length_cons, List.length_nil, List.replicate_zero, List.replicate_succ, List.cons_append, List.nil_append, List.getElem?_cons_zero, List.getElem?_cons_succ, List.set_cons_zero, List.set_cons_succ, Bool.not_true, Bool.not_false, ↓reduceIte, Bool.false_eq_true, Nat.reduceAdd, Nat.reduceSub, Nat.reduceLT, Nat.reduceLeDiff, Nat.zero_add, id_eq, Nat.sub_self, Bool.true_and, Bool.and_true, Bool.false_and, Bool.and_false, Bool.true_or, Bool.or_true, Bool.false_or, Bool.or_false, mx, e, x0, neg_int, x1, eq_sign μ1 _ _ (isL_lt l0) (isL_lt l1), hb, fI_int, sl, val_str, h3]
      rw [show [D.str [65], D.str [66], D.str [67]] = [65, 66, 67].map (fun c => D.str [c]) from rfl]
      rw [compLoop_filter (fun c => D.str [c]) (fun c => D.str [c]) p]
      rotate_left
      · intro d hd
        have dl := abc_isL hd
        have ni : fNotIn μ1 (.str [d]) (.lst [.str [at' t 0], .str [at' t (t.length - 2)]]) = some (.bl (p d)) := by
          simp only [p]
          rcases isL_cases dl with q | q | q <;> rcases isL_cases l0 with q1 | q1 | q1 <;> rcases isL_cases l2' with q2 | q2 | q2 <;> (rw [q, q1, q2]; rfl)
        simp -implicitDefEqProofs only [startE, exs_nil, exs_cons, ex_pass, ex_expr, ex_asg, ex_ifs, ex_for, ex_ret, ex_retN, ex_brk, ex_cont, ex_never, ev_var, ev_lit, ev_op1, ev_op2, ev_op3, ev_opN, ev_opM, ev_meth, ev_frz, ev_lst, ev_tup, ev_and, ev_or, ev_not, ev_ite, ev_chain, ev_call, ev_comp, evs_nil, evs_cons, Res.bind_assoc, evT, asgT_name, asgT_sub, asgT_tup, asgTs_nil, asgTs_cons, Res.bind_ok, Res.bind_exc, lift_some, noExc_ok, truth_bl, finish_rt, finish_nx, List.map_cons, List.map_nil, List.length_cons, List.length_nil, List.replicate_zero, List.replicate_succ, List.cons_append, List.nil_append, List.getElem?_cons_zero, List.getElem?_cons_succ, List.set_cons_zero, List.set_cons_succ, Bool.not_true, Bool.not_false, ↓reduceIte, Bool.false_eq_true, Nat.reduceAdd, Nat.reduceSub, Nat.reduceLT, Nat.reduceLeDiff, Nat.zero_add, id_eq, Nat.sub_self, Bool.true_and, Bool.and_true, Bool.false_and, Bool.and_false, Bool.true_or, Bool.or_true, Bool.false_or, Bool.or_false, compStep, forStep, bindT_name, bindT_tup, bindT_str, bindTs_nil, bindTs_cons, wipeE, List.length_set, x0, x2, neg_int, h22, m22, ni]
        cases p d <;> simp -implicitDefEqProofs only [startE, exs_nil, exs_cons, ex_pass, ex_expr, ex_asg, ex_ifs, ex_for, ex_ret, ex_retN, ex_brk, ex_cont, ex_never, ev_var, ev_lit, ev_op1, ev_op2, ev_op3, ev_opN, ev_opM, ev_meth, ev_frz, ev_lst, ev_tup, ev_and, ev_or, ev_not, ev_ite, ev_chain, ev_call, ev_comp, evs_nil, evs_cons, Res.bind_assoc, evT, asgT_name, asgT_sub, asgT_tup, asgTs_nil, asgTs_cons, Res.bind_ok, Res.bind_exc, lift_some, noExc_ok, truth_bl, finish_rt, finish_nx, List.map_cons, List.map_nil, List.length_cons, List.length_nil, List.replicate_zero, List.replicate_succ, List.cons_append, List.nil_append, List.getElem?_cons_zero, List.getElem?_cons_succ, List.set_cons_zero, List.set_cons_succ, Bool.not_true, Bool.not_false, ↓reduceIte, Bool.false_eq_true, Nat.reduceAdd, Nat.reduceSub, Nat.reduceLT, Nat.reduceLeDiff, Nat.zero_add, id_eq, Nat.sub_self, Bool.true_and, Bool.and_true, Bool.false_and, Bool.and_false, Bool.true_or, Bool.or_true, Bool.false_or, Bool.or_false]
      simp -implicitDefEqProofs only [startE, exs_nil, exs_cons, ex_pass, ex_expr, ex_asg, ex_ifs, ex_for, ex_ret, ex_retN, ex_brk, ex_cont, ex_never, ev_var, ev_lit, ev_op1, ev_op2, ev_op3, ev_opN, ev_opM, ev_meth, ev_frz, ev_lst, ev_tup, ev_and, ev_or, ev_not, ev_ite, ev_chain, ev_call, ev_comp, evs_nil, evs_cons, Res.bind_assoc, evT, asgT_name, asgT_sub, asgT_tup, asgTs_nil, asgTs_cons, Res.bind_ok, Res.bind_exc, lift_some, noExc_ok, truth_bl, finish_rt, finish_nx, List.map_cons, List.map_nil, List.length_cons, List.length_nil, List.replicate_zero, List.replicate_succ, List.cons_append, List.nil_append, List.getElem?_cons_zero, List.getElem?_cons_succ, List.set_cons_zero, List.set_cons_succ, Bool.not_true, Bool.not_false, ↓reduceIte, Bool.false_eq_true, Nat.reduceAdd, Nat.reduceSub, Nat.reduceLT, Nat.reduceLeDiff, Nat.zero_add, id_eq, Nat.sub_self, Bool.true_and, Bool.and_true, Bool.false_and, Bool.and_false, Bool.true_or, Bool.or_true, Bool.false_or, Bool.or_false, mkL_val _ _ hcm, xc, ad]
      exact finish_len _ kw.len
end
/-! ## own parts, shares -/
theorem count_rep (l : List Nat) (t c : Nat) : (rep l t).count c = t * l.count c := by
  unfold rep
  induction t with
  | zero => simp
  | succ t ih => rw [List.replicate_succ, List.flatten_cons, List.count_append, ih, Nat.succ_mul]; omega
theorem own_ok {s : List Nat} (h : Clo s) : Clo (own s) ∧ shr (own s) = shr s := by
  have hp := h.pos
  have hle := h.le
  cases hq : pers s with
  | nil =>
    have : own s = s := by unfold own; rw [if_pos hq]
    rw [this]
    exact ⟨h, rfl⟩
  | cons p ps =>
    obtain ⟨_, _, ow, p1, pl, pb⟩ := per_first [] h.toStk hq
    rw [ow]
    unfold perB at pb
    rw [show 1 + (p - 1) = p by omega] at pb
    obtain ⟨b1, b2⟩ := Bool.and_eq_true_iff.mp pb
    have b1 := beq_iff_eq.mp b1
    have b2 := beq_iff_eq.mp b2
    have ql : (s.take p).length = p := by rw [List.length_take]; omega
    generalize s.take p = q at *
    have dq : (((s.length : Nat) : Int) / ((p : Nat) : Int)).toNat = s.length / p := by
      rw [show ((s.length : Nat) : Int) / ((p : Nat) : Int) = ((s.length / p : Nat) : Int) by push_cast; rfl]
      rfl
    rw [dq] at b2
    have b1 : s.length % p = 0 := by omega
    have hm : p * (s.length / p) = s.length := by have := Nat.div_add_mod s.length p; omega
    generalize s.length / p = t at *
    have b2 : rep q t = s := b2
    have t0 : 0 < t := by
      rcases Nat.eq_zero_or_pos t with z | z
      · rw [z, Nat.mul_zero] at hm; omega
      · exact z
    have lq : ∀ x, Ln s x = Ln q x := fun x => by rw [← b2]; exact Ln_rep' (by omega) t0 x
    have p2 : 2 ≤ p := by
      rcases Nat.lt_or_ge 1 p with z | z
      · exact z
      · exfalso
        have pe : p = 1 := by omega
        refine h.ln 0 ?_
        rw [lq, lq]
        unfold Ln
        rw [ql, pe, show (0 : Int) % ((1 : Nat) : Int) = 0 by omega, show ((0 : Int) + 1) % ((1 : Nat) : Int) = 0 by omega]
    have cq : Clo q := Clo.ofLn (by omega) (by omega) (fun x => by rw [← lq]; exact h.ltrs x) (fun x => by rw [← lq, ← lq]; exact h.ln x)
    have mf : ∀ x, Mf s x = Mf q x := fun x => by unfold Mf; rw [lq, lq]
    have er : rm s = rep (rm q) t := ext_Ln (by rw [rm_len, rep_len, rm_len, ql]; omega) fun x => by
      rw [Ln_rm (by omega), Ln_rep' (by rw [rm_len]; omega) t0, Ln_rm (by omega), mf]
    refine ⟨cq, ?_⟩
    unfold shr
    rw [er, count_rep, ql, ← hm]
    generalize (rm q).count 104 = a
    rw [Nat.mul_comm p t, Nat.gcd_mul_left, Nat.mul_div_mul_left _ _ t0, Nat.mul_div_mul_left _ _ t0]
end Ev
namespace Ev
open Res
/-! ## what is told of a closed one, claims and papers -/
def cO (σ : List Nat) : D := .tup [.str wO, .str σ]
def cA (σ : List Nat) : D := .tup [.str wA, .str σ]
def certV (σ : List Nat) : D := if pers σ = [] then .tup [cO σ, .tup []] else .tup [cA σ, .int ((pers σ).getD 0 0 : Nat)]
theorem clo_eq {l : List Nat} (h : 0 < l.length) : cloB (l ++ [at' l 0]) = false := by
  have e1 : at' (l ++ [at' l 0]) ((l ++ [at' l 0]).length - 1) = at' l 0 := lastD_app l (at' l 0)
  have e2 : at' (l ++ [at' l 0]) 0 = at' l 0 := at_app h
  unfold cloB
  rw [e1, e2]
  simp
theorem ne_pair (μ : Store) (a b : Nat) : fNe μ (.tup [.int (a : Nat), .int (b : Nat)]) (.tup [.int (a : Nat), .int (b : Nat)]) = some (.bl false) := by
  simp [fNe, rd, asL, cmpOk, cmpOks, eqD, eqDs]
/-- the papers that are tried -/
structure Pap (d : D) : Prop where
  ok : OkP d
  tp : ∀ ds, d = .tup ds → ds = [] ∨ ds = [.int 2]
theorem pap_i (i : Int) : Pap (.int i) := ⟨okp_i i, fun ds e => by cases e⟩
abbrev papL (q : D) (s : List Nat) : List D := [q, .tup [], .non, .str [], .bl true, .str [50], .tup [.int 2], .lst [.int 2], .int (0 - 2), .str s]
theorem pap_ok {q : D} (hq : Pap q) {s : List Nat} (hs : OkP (.str s)) : ∀ d ∈ papL q s, Pap d := fun d hd => by
  simp only [papL, List.mem_cons, List.not_mem_nil, or_false] at hd
  rcases hd with rfl | rfl | rfl | rfl | rfl | rfl | rfl | rfl | rfl | rfl
  · exact hq
  · exact ⟨okp_t0, fun ds e => by cases e; exact .inl rfl⟩
  · exact ⟨okp_non, fun ds e => by cases e⟩
  · exact ⟨okp_str (by decide) (by decide), fun ds e => by cases e⟩
  · exact ⟨okp_b _, fun ds e => by cases e⟩
  · exact ⟨okp_str (by decide) (by decide), fun ds e => by cases e⟩
  · exact ⟨okp_of (gd_t (gds_c (gd_i 2) gds_n) (by decide)) (fun s e => by cases e), fun ds e => by cases e; exact .inr rfl⟩
  · exact ⟨okp_of (gd_l (gds_c (gd_i 2) gds_n) (by decide)) (fun s e => by cases e), fun ds e => by cases e⟩
  · exact pap_i _
  · exact ⟨hs, fun ds e => by cases e⟩
section
variable {P : String → Option FD} {n : Nat} {μ : Store}
theorem certify_ok (K : K96 P) {σ : List Nat} (h : Clo σ) : callD P (n + 7) "certify_own" [.str σ] μ = .ok (certV σ) μ := by
  have c := check_clo_ok (n := n) (μ := μ) K h
  have ep := periods_ok (n := n + 5) (μ := μ) K h.toStk
  have m0 := mkL0 μ
  have c0 : 0 ≤ cap := by decide
  have c2 : 2 ≤ cap := by decide
  have en : fEq μ (perD σ) (.lst []) = some (.bl (pers σ).isEmpty) := eq_nats μ _
  rw [callD_eq K.certifyOwn rfl]
  unfold certV
  cases hq : pers σ with
  | nil =>
    rw [hq] at en
    have en : fEq μ (perD σ) (.lst []) = some (.bl true) := en
    rw [if_pos rfl]
    simp -implicitDefEqProofs only [Law.d_certify_own, startE, exs_nil, exs_cons, ex_pass, ex_expr, ex_asg, ex_ifs, ex_for, ex_ret, ex_retN, ex_brk, ex_cont, ex_never, ev_var, ev_lit, ev_op1, ev_op2, ev_op3, ev_opN, ev_opM, ev_meth, ev_frz, ev_lst, ev_tup, ev_and, ev_or, ev_not, ev_ite, ev_chain, ev_call, ev_comp, evs_nil, evs_cons, Res.bind_assoc, evT, asgT_name, asgT_sub, asgT_tup, asgTs_nil, asgTs_cons, Res.bind_ok, Res.bind_exc, lift_some, noExc_ok, truth_bl, finish_rt, finish_nx, List.map_cons, List.map_nil, List.length_cons, List.length_nil, List.replicate_zero, List.replicate_succ, List.cons_append, List.nil_append, List.getElem?_cons_zero, List.getElem?_cons_succ, List.set_cons_zero, List.set_cons_succ, Bool.not_true, Bool.not_false, ↓reduceIte, Bool.false_eq_true, Nat.reduceAdd, Nat.reduceSub, Nat.reduceLT, Nat.reduceLeDiff, Nat.zero_add, id_eq, Nat.sub_self, Bool.true_and, Bool.and_true, Bool.false_and, Bool.and_false, Bool.true_or, Bool.or_true, Bool.false_or, Bool.or_false, c, ep, m0, en, c0, c2]
    rfl
  | cons p ps =>
    obtain ⟨x0, _⟩ := per_first μ h.toStk hq
    rw [hq] at en
    have en : fEq μ (perD σ) (.lst []) = some (.bl false) := en
    rw [if_neg (by simp)]
    simp -implicitDefEqProofs only [Law.d_certify_own, startE, exs_nil, exs_cons, ex_pass, ex_expr, ex_asg, ex_ifs, ex_for, ex_ret, ex_retN, ex_brk, ex_cont, ex_never, ev_var, ev_lit, ev_op1, ev_op2, ev_op3, ev_opN, ev_opM, ev_meth, ev_frz, ev_lst, ev_tup, ev_and, ev_or, ev_not, ev_ite, ev_chain, ev_call, ev_comp, evs_nil, evs_cons, Res.bind_assoc, evT, asgT_name, asgT_sub, asgT_tup, asgTs_nil, asgTs_cons, Res.bind_ok, Res.bind_exc, lift_some, noExc_ok, truth_bl, finish_rt, finish_nx, List.map_cons, List.map_nil, List.length_cons, List.length_nil, List.replicate_zero, List.replicate_succ, List.cons_append, List.nil_append, List.getElem?_cons_zero, List.getElem?_cons_succ, List.set_cons_zero, List.set_cons_succ, Bool.not_true, Bool.not_false, ↓reduceIte, Bool.false_eq_true, Nat.reduceAdd, Nat.reduceSub, Nat.reduceLT, Nat.reduceLeDiff, Nat.zero_add, id_eq, Nat.sub_self, Bool.true_and, Bool.and_true, Bool.false_and, Bool.and_false, Bool.true_or, Bool.or_true, Bool.false_or, Bool.or_false, c, ep, m0, en, c0, c2, x0]
    rfl
/-- the odd ones -/
abbrev oddL (w σ : List Nat) (a28 : List Nat) : List D := [.tup [.str w], .tup [.str w, .str σ, .int 0], .lst [.str w, .str σ], .tup [.str w, .str (σ ++ [at' σ 0])], .tup [.str w, .non], .tup [.str w, .str [65]], .tup [.str w, .str (σ.take (σ.length - 1) ++ [at' σ 0])], .tup [.str wOs, .str σ], .tup [.str w, .tup (σ.map fun c => .str [c])], .tup [.str w, .str a28], .tup [.str w, .str []]]
theorem odds_no (K : K96 P) {w σ : List Nat} (hw : w = wO ∨ w = wA) (h : Clo σ) : ∀ d ∈ oddL w σ (List.replicate 7 [65, 66, 65, 66]).flatten, callD P (n + 7) "is_claim" [d] μ = .ok (.bl false) μ := fun d hd => by
  have hp := h.pos
  have h2 := h.two
  have hle := h.le
  have hu : ∀ c ∈ σ, c < 1114112 := fun c hc => isL_lt (h.ltr c hc)
  have cs : cmpOk 7 (.str σ) = true := cmp_str 7 hu
  have h0 : at' σ 0 < 1114112 := hu _ (at_mem (by omega))
  have ux : ∀ l : List Nat, (∀ c ∈ l, c < 1114112) → ∀ c ∈ l ++ [at' σ 0], c < 1114112 := fun l hl c hc => (List.mem_append.mp hc).elim (hl c) fun z => by rw [List.mem_singleton.mp z]; exact h0
  have u1 := ux σ hu
  have u2 := ux (σ.take (σ.length - 1)) fun c hc => hu c (List.mem_of_mem_take hc)
  have t0 : at' (σ.take (σ.length - 1)) 0 = at' σ 0 := by
    show (σ.take (σ.length - 1)).getD 0 0 = σ.getD 0 0
    rw [List.getD_eq_getElem?_getD, List.getD_eq_getElem?_getD, List.getElem?_take, if_pos (by omega)]
  have f1 : clV (.str (σ ++ [at' σ 0])) = false := clo_eq (by omega)
  have f2 : clV (.str (σ.take (σ.length - 1) ++ [at' σ 0])) = false := by
    rw [← t0]
    exact clo_eq (by rw [List.length_take]; omega)
  simp only [oddL, List.mem_cons, List.not_mem_nil, or_false] at hd
  rcases hd with rfl | rfl | rfl | rfl | rfl | rfl | rfl | rfl | rfl | rfl | rfl
  · exact claimN_no (n := n + 1) K hw (ds := []) (by simp) (by unfold cmpOks; rfl)
  · exact claimN_no (n := n + 1) K hw (ds := [.str σ, .int 0]) (by simp) (by unfold cmpOks cmpOks cmpOks; rw [cs]; unfold cmpOk; rfl)
  · exact claimL_no (n := n + 1) K _
  · have := claim2_ok (n := n) (μ := μ) K hw (okp_str u1 (by simp; omega)) (cmp_str 7 u1)
    rw [f1] at this
    exact this
  · exact claim2_ok K hw okp_non (by unfold cmpOk; rfl)
  · exact claim2_ok K hw (okp_str (by decide) (by decide)) (cmp_str 7 (by decide))
  · have := claim2_ok (n := n) (μ := μ) K hw (okp_str u2 (by simp; omega)) (cmp_str 7 u2)
    rw [f2] at this
    exact this
  · exact claimX_no (n := n + 1) K hu
  · exact claim2_ok K hw (okp_of (gd_t (gds_strs hu) (by rw [List.length_map]; omega)) fun s e => by cases e) (by unfold cmpOk; exact cmps_strs 6 hu)
  · exact claim2_ok K hw (okp_str (by decide) (by decide)) (cmp_str 7 (by decide))
  · exact claim2_ok K hw (okp_str (by decide) (by decide)) (cmp_str 7 (by decide))
/-- what is wanted of a paper for own -/
theorem want_O {cf : String → List D → Store → Res D} {d : D} (h : Pap d) (s : List Nat) (ρ : Env) (h14 : ρ[14]? = some (some d)) (h3 : ρ[3]? = some (some (perD s))) :
    ev cf (.and (.opN fIsi [.var 14, .lit (.ty "tuple")]) (.and (.op2 fEq (.var 14) (.tup [])) (.op2 fEq (.var 3) (.lst false [])))) ρ μ = .ok (.bl (nilV d && (pers s).isEmpty)) μ := by
  have it := isi_tuple μ h.ok
  have e0 : fEq μ (perD s) (.lst []) = some (.bl (pers s).isEmpty) := eq_nats μ _
  have c0 : 0 ≤ cap := by decide
  have m0 := mkL0 μ
  cases d with
  | tup ds =>
    have it : fIsi μ [.tup ds, .ty "tuple"] = some (.bl true) := it
    rcases h.tp ds rfl with rfl | rfl
    · have e : fEq μ (.tup []) (.tup []) = some (.bl true) := rfl
      simp -implicitDefEqProofs only [startE, exs_nil, exs_cons, ex_pass, ex_expr, ex_asg, ex_ifs, ex_for, ex_ret, ex_retN, ex_brk, ex_cont, ex_never, ev_var, ev_lit, ev_op1, ev_op2, ev_op3, ev_opN, ev_opM, ev_meth, ev_frz, ev_lst, ev_tup, ev_and, ev_or, ev_not, ev_ite, ev_chain, ev_call, ev_comp, evs_nil, evs_cons, Res.bind_assoc, evT, asgT_name, asgT_sub, asgT_tup, asgTs_nil, asgTs_cons, Res.bind_ok, Res.bind_exc, lift_some, noExc_ok, truth_bl, finish_rt, finish_nx, List.map_cons, List.map_nil, List.length_cons, List.length_nil, List.replicate_zero, List.replicate_succ, List.cons_append, List.nil_append, List.getElem?_cons_zero, List.getElem?_cons_succ, List.set_cons_zero, List.set_cons_succ, Bool.not_true, Bool.not_false, ↓reduceIte, Bool.false_eq_true, Nat.reduceAdd, Nat.reduceSub, Nat.reduceLT, Nat.reduceLeDiff, Nat.zero_add, id_eq, Nat.sub_self, Bool.true_and, Bool.and_true, Bool.false_and, Bool.and_false, Bool.true_or, Bool.or_true, Bool.false_or, Bool.or_false, h14, h3, it, c0, e, m0, e0]
      rfl
    · have e : fEq μ (.tup [.int 2]) (.tup []) = some (.bl false) := rfl
      simp -implicitDefEqProofs only [startE, exs_nil, exs_cons, ex_pass, ex_expr, ex_asg, ex_ifs, ex_for, ex_ret, ex_retN, ex_brk, ex_cont, ex_never, ev_var, ev_lit, ev_op1, ev_op2, ev_op3, ev_opN, ev_opM, ev_meth, ev_frz, ev_lst, ev_tup, ev_and, ev_or, ev_not, ev_ite, ev_chain, ev_call, ev_comp, evs_nil, evs_cons, Res.bind_assoc, evT, asgT_name, asgT_sub, asgT_tup, asgTs_nil, asgTs_cons, Res.bind_ok, Res.bind_exc, lift_some, noExc_ok, truth_bl, finish_rt, finish_nx, List.map_cons, List.map_nil, List.length_cons, List.length_nil, List.replicate_zero, List.replicate_succ, List.cons_append, List.nil_append, List.getElem?_cons_zero, List.getElem?_cons_succ, List.set_cons_zero, List.set_cons_succ, Bool.not_true, Bool.not_false, ↓reduceIte, Bool.false_eq_true, Nat.reduceAdd, Nat.reduceSub, Nat.reduceLT, Nat.reduceLeDiff, Nat.zero_add, id_eq, Nat.sub_self, Bool.true_and, Bool.and_true, Bool.false_and, Bool.and_false, Bool.true_or, Bool.or_true, Bool.false_or, Bool.or_false, h14, h3, it, c0, e, m0, e0]
      rfl
  | _ => simp -implicitDefEqProofs only [startE, exs_nil, exs_cons, ex_pass, ex_expr, ex_asg, ex_ifs, ex_for, ex_ret, ex_retN, ex_brk, ex_cont, ex_never, ev_var, ev_lit, ev_op1, ev_op2, ev_op3, ev_opN, ev_opM, ev_meth, ev_frz, ev_lst, ev_tup, ev_and, ev_or, ev_not, ev_ite, ev_chain, ev_call, ev_comp, evs_nil, evs_cons, Res.bind_assoc, evT, asgT_name, asgT_sub, asgT_tup, asgTs_nil, asgTs_cons, Res.bind_ok, Res.bind_exc, lift_some, noExc_ok, truth_bl, finish_rt, finish_nx, List.map_cons, List.map_nil, List.length_cons, List.length_nil, List.replicate_zero, List.replicate_succ, List.cons_append, List.nil_append, List.getElem?_cons_zero, List.getElem?_cons_succ, List.set_cons_zero, List.set_cons_succ, Bool.not_true, Bool.not_false, ↓reduceIte, Bool.false_eq_true, Nat.reduceAdd, Nat.reduceSub, Nat.reduceLT, Nat.reduceLeDiff, Nat.zero_add, id_eq, Nat.sub_self, Bool.true_and, Bool.and_true, Bool.false_and, Bool.and_false, Bool.true_or, Bool.or_true, Bool.false_or, Bool.or_false, h14, it]; rfl
theorem want_A (K : K96 P) {d : D} (h : Pap d) (s : List Nat) (ρ : Env) (h14 : ρ[14]? = some (some d)) (h3 : ρ[3]? = some (some (perD s))) :
    ev (callD P (n + 1)) (.and (.call "_law_is_whole" id [.var 14]) (.op2 fIn (.var 14) (.var 3))) ρ μ = .ok (.bl (inP s d)) μ := by
  by_cases hi : ∃ i, d = .int i
  · obtain ⟨i, rfl⟩ := hi
    have w := lwhole_int (n := n) (μ := μ) K i
    have e := in_per μ s i
    simp -implicitDefEqProofs only [startE, exs_nil, exs_cons, ex_pass, ex_expr, ex_asg, ex_ifs, ex_for, ex_ret, ex_retN, ex_brk, ex_cont, ex_never, ev_var, ev_lit, ev_op1, ev_op2, ev_op3, ev_opN, ev_opM, ev_meth, ev_frz, ev_lst, ev_tup, ev_and, ev_or, ev_not, ev_ite, ev_chain, ev_call, ev_comp, evs_nil, evs_cons, Res.bind_assoc, evT, asgT_name, asgT_sub, asgT_tup, asgTs_nil, asgTs_cons, Res.bind_ok, Res.bind_exc, lift_some, noExc_ok, truth_bl, finish_rt, finish_nx, List.map_cons, List.map_nil, List.length_cons, List.length_nil, List.replicate_zero, List.replicate_succ, List.cons_append, List.nil_append, List.getElem?_cons_zero, List.getElem?_cons_succ, List.set_cons_zero, List.set_cons_succ, Bool.not_true, Bool.not_false, ↓reduceIte, Bool.false_eq_true, Nat.reduceAdd, Nat.reduceSub, Nat.reduceLT, Nat.reduceLeDiff, Nat.zero_add, id_eq, Nat.sub_self, Bool.true_and, Bool.and_true, Bool.false_and, Bool.and_false, Bool.true_or, Bool.or_true, Bool.false_or, Bool.or_false, h14, h3, w, e]
  · have w := lwhole_no (n := n) (μ := μ) K h.ok fun i e => hi ⟨i, e⟩
    have : inP s d = false := by
      cases d with
      | int i => exact absurd ⟨i, rfl⟩ hi
      | _ => rfl
    rw [this]
    simp -implicitDefEqProofs only [startE, exs_nil, exs_cons, ex_pass, ex_expr, ex_asg, ex_ifs, ex_for, ex_ret, ex_retN, ex_brk, ex_cont, ex_never, ev_var, ev_lit, ev_op1, ev_op2, ev_op3, ev_opN, ev_opM, ev_meth, ev_frz, ev_lst, ev_tup, ev_and, ev_or, ev_not, ev_ite, ev_chain, ev_call, ev_comp, evs_nil, evs_cons, Res.bind_assoc, evT, asgT_name, asgT_sub, asgT_tup, asgTs_nil, asgTs_cons, Res.bind_ok, Res.bind_exc, lift_some, noExc_ok, truth_bl, finish_rt, finish_nx, List.map_cons, List.map_nil, List.length_cons, List.length_nil, List.replicate_zero, List.replicate_succ, List.cons_append, List.nil_append, List.getElem?_cons_zero, List.getElem?_cons_succ, List.set_cons_zero, List.set_cons_succ, Bool.not_true, Bool.not_false, ↓reduceIte, Bool.false_eq_true, Nat.reduceAdd, Nat.reduceSub, Nat.reduceLT, Nat.reduceLeDiff, Nat.zero_add, id_eq, Nat.sub_self, Bool.true_and, Bool.and_true, Bool.false_and, Bool.and_false, Bool.true_or, Bool.or_true, Bool.false_or, Bool.or_false, h14, w]
theorem not_both (s : List Nat) (d : D) : ((nilV d && (pers s).isEmpty) && inP s d) = false := by
  cases d <;> try (simp [nilV]; done)
  · simp [inP]
def srB : List CS := match Law.d__law_closed_right.body.getD 12 .pass with
  | .for _ _ _ b => b
  | _ => []
/-- the papers, one by one -/
theorem papers_ok (K : K96 P) {w : Nat} {s : List Nat} (h : Clo s) (o4 o5 o6 o7 o8 o9 o10 o12 o13 : Option D) {ds : List D} (hds : ∀ d ∈ ds, Pap d) :
    ∃ o14 o15 o16 : Option D, forLoop (forStep (callD P (n + 8)) (.name 14) srB) ds [some (.ref w), some (.str s), some (.int (s.length : Nat)), some (perD s), o4, o5, o6, o7, o8, o9, o10, some (.lst [cO s, cA s]), o12, o13, none, none, none, none, none] μ = .ok (.nx [some (.ref w), some (.str s), some (.int (s.length : Nat)), some (perD s), o4, o5, o6, o7, o8, o9, o10, some (.lst [cO s, cA s]), o12, o13, o14, o15, o16, none, none]) μ := by
  generalize hst : forStep (callD P (n + 8)) (.name 14) srB = st
  obtain ⟨ρ', μ', e, ⟨o14, o15, o16, rfl⟩, rfl⟩ := forLoop_inv (step := st) (fun _ ρ μ' => (∃ o14 o15 o16 : Option D, ρ = [some (.ref w), some (.str s), some (.int (s.length : Nat)), some (perD s), o4, o5, o6, o7, o8, o9, o10, some (.lst [cO s, cA s]), o12, o13, o14, o15, o16, none, none]) ∧ μ' = μ) ds 0
    [some (.ref w), some (.str s), some (.int (s.length : Nat)), some (perD s), o4, o5, o6, o7, o8, o9, o10, some (.lst [cO s, cA s]), o12, o13, none, none, none, none, none] μ ⟨⟨none, none, none, rfl⟩, rfl⟩ (by
      rintro j d ρ μ' hj ⟨⟨o14, o15, o16, rfl⟩, rfl⟩
      have hd := hds d (List.mem_of_getElem? hj)
      have a1 : callD P (n + 8) "accepts" [cO s, d] μ' = _ := accepts_O (n := n) (μ := μ') K h hd.ok
      have a2 : callD P (n + 8) "accepts" [cA s, d] μ' = _ := accepts_A (n := n) (μ := μ') K h hd.ok
      have x0 : fIx μ' (.lst [cO s, cA s]) (.int 0) = some (cO s) := rfl
      have x1 : fIx μ' (.lst [cO s, cA s]) (.int 1) = some (cA s) := rfl
      have m2 := fun x y : D => mkL2 μ' x y
      have li := fun x y : Bool => same_bl2 (n := n + 1) (μ := μ') K x y
      have w1 := want_O (cf := callD P (n + 8)) (μ := μ') hd s [some (.ref w), some (.str s), some (.int (s.length : Nat)), some (perD s), o4, o5, o6, o7, o8, o9, o10, some (.lst [cO s, cA s]), o12, o13, some (d), o15, o16, none, none] rfl rfl
      have w2 := want_A (n := n + 7) (μ := μ') K hd s [some (.ref w), some (.str s), some (.int (s.length : Nat)), some (perD s), o4, o5, o6, o7, o8, o9, o10, some (.lst [cO s, cA s]), o12, o13, some (d), o15, o16, none, none] rfl rfl
      have nb := not_both s d
      refine ⟨_, μ', ?_, ⟨some d, some (.lst [.bl (nilV d && (pers s).isEmpty), .bl (inP s d)]), some (.lst [.bl (nilV d && (pers s).isEmpty), .bl (inP s d)]), rfl⟩, rfl⟩
      subst hst
      generalize inP s d = p at *
      generalize (nilV d && (pers s).isEmpty) = q at *
      generalize perD s = pd at *
      generalize cO s = C0 at *
      generalize cA s = C1 at *
      have q2 : ∀ x y : Bool, fEq μ' (.lst [.bl x, .bl y]) (.lst [.bl true, .bl true]) = some (.bl (x && y)) := fun x y => by cases x <;> cases y <;> rfl
      have qq := q2 q p
      rw [nb] at qq
      have p10 : permL [1, 0] [d, C1] = [C1, d] := rfl
      have s1 : srB = [.asg (.name 15) (.lst false [.and (.opN fIsi [.var 14, .lit (.ty "tuple")]) (.and (.op2 fEq (.var 14) (.tup [])) (.op2 fEq (.var 3) (.lst false []))), .and (.call "_law_is_whole" id [.var 14]) (.op2 fIn (.var 14) (.var 3))]), srB.getD 1 .pass, srB.getD 2 .pass] := rfl
      have e1 : ex (callD P (n + 8)) (.asg (.name 15) (.lst false [.and (.opN fIsi [.var 14, .lit (.ty "tuple")]) (.and (.op2 fEq (.var 14) (.tup [])) (.op2 fEq (.var 3) (.lst false []))), .and (.call "_law_is_whole" id [.var 14]) (.op2 fIn (.var 14) (.var 3))])) [some (.ref w), some (.str s), some (.int (s.length : Nat)), some (pd), o4, o5, o6, o7, o8, o9, o10, some (.lst [C0, C1]), o12, o13, some (d), o15, o16, none, none] μ' = .ok (.nx [some (.ref w), some (.str s), some (.int (s.length : Nat)), some (pd), o4, o5, o6, o7, o8, o9, o10, some (.lst [C0, C1]), o12, o13, some (d), some (.lst [.bl q, .bl p]), o16, none, none]) μ' := by
        rw [ex_asg, ev_lst, evs_cons, w1]
        simp only [Res.bind_ok, Res.bind_assoc]
        rw [evs_cons, w2]
        simp -implicitDefEqProofs only [startE, exs_nil, exs_cons, ex_pass, ex_expr, ex_asg, ex_ifs, ex_for, ex_ret, ex_retN, ex_brk, ex_cont, ex_never, ev_var, ev_lit, ev_op1, ev_op2, ev_op3, ev_opN, ev_opM, ev_meth, ev_frz, ev_lst, ev_tup, ev_and, ev_or, ev_not, ev_ite, ev_chain, ev_call, ev_comp, evs_nil, evs_cons, Res.bind_assoc, evT, asgT_name, asgT_sub, asgT_tup, asgTs_nil, asgTs_cons, Res.bind_ok, Res.bind_exc, lift_some, noExc_ok, truth_bl, finish_rt, finish_nx, List.map_cons, List.map_nil, List.length_cons, List.length_nil, List.replicate_zero, List.replicate_succ, List.cons_append, List.nil_append, List.getElem?_cons_zero, List.getElem?_cons_succ, List.set_cons_zero, List.set_cons_succ, Bool.not_true, Bool.not_false, ↓reduceIte, Bool.false_eq_true, Nat.reduceAdd, Nat.reduceSub, Nat.reduceLT, Nat.reduceLeDiff, Nat.zero_add, id_eq, Nat.sub_self, Bool.true_and, Bool.and_true, Bool.false_and, Bool.and_false, Bool.true_or, Bool.or_true, Bool.false_or, Bool.or_false, m2]
      have e2 : ex (callD P (n + 8)) (srB.getD 1 .pass) [some (.ref w), some (.str s), some (.int (s.length : Nat)), some (pd), o4, o5, o6, o7, o8, o9, o10, some (.lst [C0, C1]), o12, o13, some (d), some (.lst [.bl q, .bl p]), o16, none, none] μ' = .ok (.nx [some (.ref w), some (.str s), some (.int (s.length : Nat)), some (pd), o4, o5, o6, o7, o8, o9, o10, some (.lst [C0, C1]), o12, o13, some (d), some (.lst [.bl q, .bl p]), some (.lst [.bl q, .bl p]), none, none]) μ' := by
        simp -implicitDefEqProofs only [srB, Law.d__law_closed_right, List.getD_cons_succ, List.getD_cons_zero, startE, exs_nil, exs_cons, ex_pass, ex_expr, ex_asg, ex_ifs, ex_for, ex_ret, ex_retN, ex_brk, ex_cont, ex_never, ev_var, ev_lit, ev_op1, ev_op2, ev_op3, ev_opN, ev_opM, ev_meth, ev_frz, ev_lst, ev_tup, ev_and, ev_or, ev_not, ev_ite, ev_chain, ev_call, ev_comp, evs_nil, evs_cons, Res.bind_assoc, evT, asgT_name, asgT_sub, asgT_tup, asgTs_nil, asgTs_cons, Res.bind_ok, Res.bind_exc, lift_some, noExc_ok, truth_bl, finish_rt, finish_nx, List.map_cons, List.map_nil, List.length_cons, List.length_nil, List.replicate_zero, List.replicate_succ, List.cons_append, List.nil_append, List.getElem?_cons_zero, List.getElem?_cons_succ, List.set_cons_zero, List.set_cons_succ, Bool.not_true, Bool.not_false, ↓reduceIte, Bool.false_eq_true, Nat.reduceAdd, Nat.reduceSub, Nat.reduceLT, Nat.reduceLeDiff, Nat.zero_add, id_eq, Nat.sub_self, Bool.true_and, Bool.and_true, Bool.false_and, Bool.and_false, Bool.true_or, Bool.or_true, Bool.false_or, Bool.or_false, x0, x1, a1, a2, p10, m2]
      have e3 : ex (callD P (n + 8)) (srB.getD 2 .pass) [some (.ref w), some (.str s), some (.int (s.length : Nat)), some (pd), o4, o5, o6, o7, o8, o9, o10, some (.lst [C0, C1]), o12, o13, some (d), some (.lst [.bl q, .bl p]), some (.lst [.bl q, .bl p]), none, none] μ' = .ok (.nx [some (.ref w), some (.str s), some (.int (s.length : Nat)), some (pd), o4, o5, o6, o7, o8, o9, o10, some (.lst [C0, C1]), o12, o13, some (d), some (.lst [.bl q, .bl p]), some (.lst [.bl q, .bl p]), none, none]) μ' := by
        simp -implicitDefEqProofs only [srB, Law.d__law_closed_right, List.getD_cons_succ, List.getD_cons_zero, startE, exs_nil, exs_cons, ex_pass, ex_expr, ex_asg, ex_ifs, ex_for, ex_ret, ex_retN, ex_brk, ex_cont, ex_never, ev_var, ev_lit, ev_op1, ev_op2, ev_op3, ev_opN, ev_opM, ev_meth, ev_frz, ev_lst, ev_tup, ev_and, ev_or, ev_not, ev_ite, ev_chain, ev_call, ev_comp, evs_nil, evs_cons, Res.bind_assoc, evT, asgT_name, asgT_sub, asgT_tup, asgTs_nil, asgTs_cons, Res.bind_ok, Res.bind_exc, lift_some, noExc_ok, truth_bl, finish_rt, finish_nx, List.map_cons, List.map_nil, List.length_cons, List.length_nil, List.replicate_zero, List.replicate_succ, List.cons_append, List.nil_append, List.getElem?_cons_zero, List.getElem?_cons_succ, List.set_cons_zero, List.set_cons_succ, Bool.not_true, Bool.not_false, ↓reduceIte, Bool.false_eq_true, Nat.reduceAdd, Nat.reduceSub, Nat.reduceLT, Nat.reduceLeDiff, Nat.zero_add, id_eq, Nat.sub_self, Bool.true_and, Bool.and_true, Bool.false_and, Bool.and_false, Bool.true_or, Bool.or_true, Bool.false_or, Bool.or_false, li, m2, qq]
      rw [s1]
      simp only [forStep, bindT_name, List.length_cons, List.length_nil, Nat.reduceAdd, Nat.reduceLT, ↓reduceIte, List.set_cons_succ, List.set_cons_zero]
      rw [exs_cons, e1, bind_ok]
      dsimp only
      rw [exs_cons, e2, bind_ok]
      dsimp only
      rw [exs_cons, e3, bind_ok]
      dsimp only
      rw [exs_nil])
  exact ⟨o14, o15, o16, e⟩
/-- Euclid's way -/
theorem eu_loop {cf : String → List D → Store → Res D} {ρ : Nat → Nat → Env} (hρ : ρ = fun a b => [o0, o1, o2, o3, o4, o5, o6, o7, o8, some (.int (a : Nat)), some (.int (b : Nat)), o11, o12, o13, o14, o15, o16, o17, o18]) {a b : Nat} (hg : Nat.gcd a b = 1) (hb : b < 1000) :
    whileLoop (evT cf (.op2 fGt (.var 10) (.lit (.int 0)))) (fun ρ μ => exs cf [.asg (.tup [.name 9, .name 10]) (.tup [.var 10, .op2 fMod (.var 9) (.var 10)])] ρ μ) 1000 (ρ a b) μ = .ok (.nx (ρ 1 0)) μ := by
  have c2 : 2 ≤ cap := by decide
  have cond : ∀ a b μ, evT cf (.op2 fGt (.var 10) (.lit (.int 0))) (ρ a b) μ = .ok (decide (0 < b)) μ := fun a b μ => by
    subst hρ
    have : decide ((0 : Int) < (b : Nat)) = decide (0 < b) := by rw [decide_eq_decide]; omega
    cases hd : decide (0 < b) <;> (rw [hd] at this; simp -implicitDefEqProofs only [startE, exs_nil, exs_cons, ex_pass, ex_expr, ex_asg, ex_ifs, ex_for, ex_ret, ex_retN, ex_brk, ex_cont, ex_never, ev_var, ev_lit, ev_op1, ev_op2, ev_op3, ev_opN, ev_opM, ev_meth, ev_frz, ev_lst, ev_tup, ev_and, ev_or, ev_not, ev_ite, ev_chain, ev_call, ev_comp, evs_nil, evs_cons, Res.bind_assoc, evT, asgT_name, asgT_sub, asgT_tup, asgTs_nil, asgTs_cons, Res.bind_ok, Res.bind_exc, lift_some, noExc_ok, truth_bl, finish_rt, finish_nx, List.map_cons, List.map_nil, List.length_cons, List.length_nil, List.replicate_zero, List.replicate_succ, List.cons_append, List.nil_append, List.getElem?_cons_zero, List.getElem?_cons_succ, List.set_cons_zero, List.set_cons_succ, Bool.not_true, Bool.not_false, ↓reduceIte, Bool.false_eq_true, Nat.reduceAdd, Nat.reduceSub, Nat.reduceLT, Nat.reduceLeDiff, Nat.zero_add, id_eq, Nat.sub_self, Bool.true_and, Bool.and_true, Bool.false_and, Bool.and_false, Bool.true_or, Bool.or_true, Bool.false_or, Bool.or_false, gt_int, this])
  obtain ⟨k', ρ', μ2, ew, ⟨x, y, rfl, rfl, hg', _⟩, ec⟩ := whileLoop_inv (cond := evT cf (.op2 fGt (.var 10) (.lit (.int 0)))) (body := fun ρ μ => exs cf [.asg (.tup [.name 9, .name 10]) (.tup [.var 10, .op2 fMod (.var 9) (.var 10)])] ρ μ) (fun k r μ' => ∃ a b, r = ρ a b ∧ μ' = μ ∧ Nat.gcd a b = 1 ∧ k = b) (by
    rintro k r μ' ⟨a, b, rfl, rfl, hg, rfl⟩
    refine ⟨decide (0 < k), cond _ _ _, fun ht => ?_⟩
    have hk := of_decide_eq_true ht
    have md := mod_pos μ' ((a : Nat) : Int) (show (0 : Int) < (k : Nat) by omega)
    rw [← Int.natCast_emod] at md
    refine ⟨a % k, ρ k (a % k), μ', Nat.mod_lt _ hk, ?_, k, a % k, rfl, rfl, ?_, rfl⟩
    · subst hρ
      simp -implicitDefEqProofs only [startE, exs_nil, exs_cons, ex_pass, ex_expr, ex_asg, ex_ifs, ex_for, ex_ret, ex_retN, ex_brk, ex_cont, ex_never, ev_var, ev_lit, ev_op1, ev_op2, ev_op3, ev_opN, ev_opM, ev_meth, ev_frz, ev_lst, ev_tup, ev_and, ev_or, ev_not, ev_ite, ev_chain, ev_call, ev_comp, evs_nil, evs_cons, Res.bind_assoc, evT, asgT_name, asgT_sub, asgT_tup, asgTs_nil, asgTs_cons, Res.bind_ok, Res.bind_exc, lift_some, noExc_ok, truth_bl, finish_rt, finish_nx, List.map_cons, List.map_nil, List.length_cons, List.length_nil, List.replicate_zero, List.replicate_succ, List.cons_append, List.nil_append, List.getElem?_cons_zero, List.getElem?_cons_succ, List.set_cons_zero, List.set_cons_succ, Bool.not_true, Bool.not_false, ↓reduceIte, Bool.false_eq_true, Nat.reduceAdd, Nat.reduceSub, Nat.reduceLT, Nat.reduceLeDiff, Nat.zero_add, id_eq, Nat.sub_self, Bool.true_and, Bool.and_true, Bool.false_and, Bool.and_false, Bool.true_or, Bool.or_true, Bool.false_or, Bool.or_false, md, c2]
    · rw [← hg, Nat.gcd_comm k, ← Nat.gcd_rec, Nat.gcd_comm]) 1000 b (ρ a b) μ hb ⟨a, b, rfl, rfl, hg, rfl⟩
  rw [cond] at ec
  have y0 : y = 0 := by
    by_cases z : 0 < y
    · rw [decide_eq_true z] at ec; cases ec
    · omega
  subst y0
  rw [Nat.gcd_zero_right] at hg'
  subst hg'
  exact ew
end
end Ev
namespace Ev
open Res
section
variable {P : String → Option FD} {n : Nat} {μ : Store}
theorem cr_a (K : K96 P) {w : Nat} {s : List Nat} (h : Clo s) : exs (callD P (n + 8)) [(Law.d__law_closed_right.body.getD 0 .pass), (Law.d__law_closed_right.body.getD 1 .pass), (Law.d__law_closed_right.body.getD 2 .pass)] [some (.ref w), some (.str s), none, none, none, none, none, none, none, none, none, none, none, none, none, none, none, none, none] μ = .ok (.nx [some (.ref w), some (.str s), some (.int (s.length : Nat)), some (perD s), some (.str (own s)), some (.str (rm s)), none, none, none, none, none, none, none, none, none, none, none, none, none]) μ := by
  have hs := h.toStk
  have hp := h.pos
  have hle := h.le
  have hu : ∀ c ∈ s, c < 1114112 := fun c hc => isL_lt (h.ltr c hc)
  have rg : fRng2 μ [.int 1, .int (s.length : Nat)] = some ((List.range (s.length - 1)).map fun k => D.int ((1 + k : Nat) : Int)) := rng2 μ (i := 1) (j := s.length) (by omega) hp
  have rl : ((List.range (s.length - 1)).map fun k => D.int ((1 + k : Nat) : Int)).length ≤ cap := by rw [List.length_map, List.length_range]; exact cap100 (by omega)
  have lg := per_comp (s := s) (μ := μ) (st := compStep (callD P (n + 8)) (.var 18) (.name 18) (.and (.op2 fEq (.op2 fMod (.var 2) (.var 18)) (.lit (.int 0))) (.op2 fEq (.op2 fMul (.op3 fSl (.var 1) (.lit .non) (.op1 fI (.var 18))) (.op2 fDiv (.var 2) (.var 18))) (.var 1))) [some (.ref w), some (.str s), some (.int (s.length : Nat)), none, none, none, none, none, none, none, none, none, none, none, none, none, none, none, none]) (fun k hk => by
    obtain ⟨md, dv, tk, ml, x1, x0⟩ := per_step s hs hk μ
    unfold perB
    generalize ((List.replicate (((s.length : Nat) : Int) / ((1 + k : Nat) : Int)).toNat (s.take (1 + k))).flatten == s) = bb at *
    generalize (((s.length : Nat) : Int) % ((1 + k : Nat) : Int) == 0) = aa at *
    cases aa with
    | false => simp -implicitDefEqProofs only [startE, exs_nil, exs_cons, ex_pass, ex_expr, ex_asg, ex_ifs, ex_for, ex_ret, ex_retN, ex_brk, ex_cont, ex_never, ev_var, ev_lit, ev_op1, ev_op2, ev_op3, ev_opN, ev_opM, ev_meth, ev_frz, ev_lst, ev_tup, ev_and, ev_or, ev_not, ev_ite, ev_chain, ev_call, ev_comp, evs_nil, evs_cons, Res.bind_assoc, evT, asgT_name, asgT_sub, asgT_tup, asgTs_nil, asgTs_cons, Res.bind_ok, Res.bind_exc, lift_some, noExc_ok, truth_bl, finish_rt, finish_nx, List.map_cons, List.map_nil, List.length_cons, List.length_nil, List.replicate_zero, List.replicate_succ, List.cons_append, List.nil_append, List.getElem?_cons_zero, List.getElem?_cons_succ, List.set_cons_zero, List.set_cons_succ, Bool.not_true, Bool.not_false, ↓reduceIte, Bool.false_eq_true, Nat.reduceAdd, Nat.reduceSub, Nat.reduceLT, Nat.reduceLeDiff, Nat.zero_add, id_eq, Nat.sub_self, Bool.true_and, Bool.and_true, Bool.false_and, Bool.and_false, Bool.true_or, Bool.or_true, Bool.false_or, Bool.or_false, compStep, forStep, bindT_name, bindT_tup, bindT_str, bindTs_nil, bindTs_cons, wipeE, List.length_set, md, x0]
    | true =>
      cases bb with
      | false => simp -implicitDefEqProofs only [startE, exs_nil, exs_cons, ex_pass, ex_expr, ex_asg, ex_ifs, ex_for, ex_ret, ex_retN, ex_brk, ex_cont, ex_never, ev_var, ev_lit, ev_op1, ev_op2, ev_op3, ev_opN, ev_opM, ev_meth, ev_frz, ev_lst, ev_tup, ev_and, ev_or, ev_not, ev_ite, ev_chain, ev_call, ev_comp, evs_nil, evs_cons, Res.bind_assoc, evT, asgT_name, asgT_sub, asgT_tup, asgTs_nil, asgTs_cons, Res.bind_ok, Res.bind_exc, lift_some, noExc_ok, truth_bl, finish_rt, finish_nx, List.map_cons, List.map_nil, List.length_cons, List.length_nil, List.replicate_zero, List.replicate_succ, List.cons_append, List.nil_append, List.getElem?_cons_zero, List.getElem?_cons_succ, List.set_cons_zero, List.set_cons_succ, Bool.not_true, Bool.not_false, ↓reduceIte, Bool.false_eq_true, Nat.reduceAdd, Nat.reduceSub, Nat.reduceLT, Nat.reduceLeDiff, Nat.zero_add, id_eq, Nat.sub_self, Bool.true_and, Bool.and_true, Bool.false_and, Bool.and_false, Bool.true_or, Bool.or_true, Bool.false_or, Bool.or_false, compStep, forStep, bindT_name, bindT_tup, bindT_str, bindTs_nil, bindTs_cons, wipeE, List.length_set, md, x0, fI_int, tk, dv, ml, x1]
      | true => simp -implicitDefEqProofs only [startE, exs_nil, exs_cons, ex_pass, ex_expr, ex_asg, ex_ifs, ex_for, ex_ret, ex_retN, ex_brk, ex_cont, ex_never, ev_var, ev_lit, ev_op1, ev_op2, ev_op3, ev_opN, ev_opM, ev_meth, ev_frz, ev_lst, ev_tup, ev_and, ev_or, ev_not, ev_ite, ev_chain, ev_call, ev_comp, evs_nil, evs_cons, Res.bind_assoc, evT, asgT_name, asgT_sub, asgT_tup, asgTs_nil, asgTs_cons, Res.bind_ok, Res.bind_exc, lift_some, noExc_ok, truth_bl, finish_rt, finish_nx, List.map_cons, List.map_nil, List.length_cons, List.length_nil, List.replicate_zero, List.replicate_succ, List.cons_append, List.nil_append, List.getElem?_cons_zero, List.getElem?_cons_succ, List.set_cons_zero, List.set_cons_succ, Bool.not_true, Bool.not_false, ↓reduceIte, Bool.false_eq_true, Nat.reduceAdd, Nat.reduceSub, Nat.reduceLT, Nat.reduceLeDiff, Nat.zero_add, id_eq, Nat.sub_self, Bool.true_and, Bool.and_true, Bool.false_and, Bool.and_false, Bool.true_or, Bool.or_true, Bool.false_or, Bool.or_false, compStep, forStep, bindT_name, bindT_tup, bindT_str, bindTs_nil, bindTs_cons, wipeE, List.length_set, md, x0, fI_int, tk, dv, ml, x1])
  have gl : ((pers s).map fun k => D.int (k : Nat)).length ≤ cap := by
    rw [List.length_map]; exact cap100 (Nat.le_trans (pers_len s) (by omega))
  have pe : D.lst ((pers s).map fun k => .int (k : Nat)) = perD s := rfl
  have ml := mkL_val (μ := μ) _ gl
  rw [pe] at ml
  have f0 : ex (callD P (n + 8)) (Law.d__law_closed_right.body.getD 0 .pass) [some (.ref w), some (.str s), none, none, none, none, none, none, none, none, none, none, none, none, none, none, none, none, none] μ = .ok (.nx [some (.ref w), some (.str s), some (.int (s.length : Nat)), none, none, none, none, none, none, none, none, none, none, none, none, none, none, none, none]) μ := by
    simp -implicitDefEqProofs only [Law.d__law_closed_right, List.getD_cons_succ, List.getD_cons_zero, startE, exs_nil, exs_cons, ex_pass, ex_expr, ex_asg, ex_ifs, ex_for, ex_ret, ex_retN, ex_brk, ex_cont, ex_never, ev_var, ev_lit, ev_op1, ev_op2, ev_op3, ev_opN, ev_opM, ev_meth, ev_frz, ev_lst, ev_tup, ev_and, ev_or, ev_not, ev_ite, ev_chain, ev_call, ev_comp, evs_nil, evs_cons, Res.bind_assoc, evT, asgT_name, asgT_sub, asgT_tup, asgTs_nil, asgTs_cons, Res.bind_ok, Res.bind_exc, lift_some, noExc_ok, truth_bl, finish_rt, finish_nx, List.map_cons, List.map_nil, List.length_cons, List.length_nil, List.replicate_zero, List.replicate_succ, List.cons_append, List.nil_append, List.getElem?_cons_zero, List.getElem?_cons_succ, List.set_cons_zero, List.set_cons_succ, Bool.not_true, Bool.not_false, ↓reduceIte, Bool.false_eq_true, Nat.reduceAdd, Nat.reduceSub, Nat.reduceLT, Nat.reduceLeDiff, Nat.zero_add, id_eq, Nat.sub_self, Bool.true_and, Bool.and_true, Bool.false_and, Bool.and_false, Bool.true_or, Bool.or_true, Bool.false_or, Bool.or_false, len_str μ s hs.cap]
  have f1 : ex (callD P (n + 8)) (Law.d__law_closed_right.body.getD 1 .pass) [some (.ref w), some (.str s), some (.int (s.length : Nat)), none, none, none, none, none, none, none, none, none, none, none, none, none, none, none, none] μ = .ok (.nx [some (.ref w), some (.str s), some (.int (s.length : Nat)), some (perD s), none, none, none, none, none, none, none, none, none, none, none, none, none, none, none]) μ := by
    simp -implicitDefEqProofs only [Law.d__law_closed_right, List.getD_cons_succ, List.getD_cons_zero, startE, exs_nil, exs_cons, ex_pass, ex_expr, ex_asg, ex_ifs, ex_for, ex_ret, ex_retN, ex_brk, ex_cont, ex_never, ev_var, ev_lit, ev_op1, ev_op2, ev_op3, ev_opN, ev_opM, ev_meth, ev_frz, ev_lst, ev_tup, ev_and, ev_or, ev_not, ev_ite, ev_chain, ev_call, ev_comp, evs_nil, evs_cons, Res.bind_assoc, evT, asgT_name, asgT_sub, asgT_tup, asgTs_nil, asgTs_cons, Res.bind_ok, Res.bind_exc, lift_some, noExc_ok, truth_bl, finish_rt, finish_nx, List.map_cons, List.map_nil, List.length_cons, List.length_nil, List.replicate_zero, List.replicate_succ, List.cons_append, List.nil_append, List.getElem?_cons_zero, List.getElem?_cons_succ, List.set_cons_zero, List.set_cons_succ, Bool.not_true, Bool.not_false, ↓reduceIte, Bool.false_eq_true, Nat.reduceAdd, Nat.reduceSub, Nat.reduceLT, Nat.reduceLeDiff, Nat.zero_add, id_eq, Nat.sub_self, Bool.true_and, Bool.and_true, Bool.false_and, Bool.and_false, Bool.true_or, Bool.or_true, Bool.false_or, Bool.or_false, wipeE, rg, rl, lg, ml]
  have y0 : fIx μ (.str s) (.int 0) = some (.str [at' s 0]) := ix_strN μ hs.cap (i := 0) (by omega)
  have y1 : fIx μ (.str s) (.int (-1)) = some (.str [at' s (s.length - 1)]) := ix_strE μ hs.cap (j := 1) (by omega) hp
  have a1 : fAdd μ (.str [at' s (s.length - 1)]) (.str s) = some (.str ([at' s (s.length - 1)] ++ s)) := add_str μ (cap100 (by rw [List.length_singleton]; omega))
  have a2 : fAdd μ (.str ([at' s (s.length - 1)] ++ s)) (.str [at' s 0]) = some (.str (([at' s (s.length - 1)] ++ s) ++ [at' s 0])) := add_str μ (cap100 (by rw [List.length_append, List.length_singleton, List.length_singleton]; omega))
  have lm := law_marks_ok (n := n + 7) (μ := μ) K (s := ([at' s (s.length - 1)] ++ s) ++ [at' s 0]) (by rw [List.length_append, List.length_append, List.length_singleton, List.length_singleton]; omega) (by rw [List.length_append, List.length_append, List.length_singleton, List.length_singleton]; omega) (fun c hc => by
    rcases List.mem_append.mp hc with z | z
    · rcases List.mem_append.mp z with z | z
      · rw [List.mem_singleton.mp z]; exact hu _ (at_mem (by omega))
      · exact hu c z
    · rw [List.mem_singleton.mp z]; exact hu _ (at_mem (by omega)))
  rw [← ml_zip, law_rm hp] at lm
  have m0 := mkL0 μ
  have nn : fNe μ (perD s) (.lst []) = some (.bl !(pers s).isEmpty) := ne_nats μ _
  have c2 : 2 ≤ cap := by decide
  have f2 : ex (callD P (n + 8)) (Law.d__law_closed_right.body.getD 2 .pass) [some (.ref w), some (.str s), some (.int (s.length : Nat)), some (perD s), none, none, none, none, none, none, none, none, none, none, none, none, none, none, none] μ = .ok (.nx [some (.ref w), some (.str s), some (.int (s.length : Nat)), some (perD s), some (.str (own s)), some (.str (rm s)), none, none, none, none, none, none, none, none, none, none, none, none, none]) μ := by
    generalize ([at' s (s.length - 1)] ++ s) = z1 at *
    generalize (z1 ++ [at' s 0]) = z2 at *
    cases hq : pers s with
    | nil =>
      rw [hq] at nn
      have nn : fNe μ (perD s) (.lst []) = some (.bl false) := nn
      have : own s = s := by unfold own; rw [if_pos hq]
      rw [this]
      simp -implicitDefEqProofs only [Law.d__law_closed_right, List.getD_cons_succ, List.getD_cons_zero, startE, exs_nil, exs_cons, ex_pass, ex_expr, ex_asg, ex_ifs, ex_for, ex_ret, ex_retN, ex_brk, ex_cont, ex_never, ev_var, ev_lit, ev_op1, ev_op2, ev_op3, ev_opN, ev_opM, ev_meth, ev_frz, ev_lst, ev_tup, ev_and, ev_or, ev_not, ev_ite, ev_chain, ev_call, ev_comp, evs_nil, evs_cons, Res.bind_assoc, evT, asgT_name, asgT_sub, asgT_tup, asgTs_nil, asgTs_cons, Res.bind_ok, Res.bind_exc, lift_some, noExc_ok, truth_bl, finish_rt, finish_nx, List.map_cons, List.map_nil, List.length_cons, List.length_nil, List.replicate_zero, List.replicate_succ, List.cons_append, List.nil_append, List.getElem?_cons_zero, List.getElem?_cons_succ, List.set_cons_zero, List.set_cons_succ, Bool.not_true, Bool.not_false, ↓reduceIte, Bool.false_eq_true, Nat.reduceAdd, Nat.reduceSub, Nat.reduceLT, Nat.reduceLeDiff, Nat.zero_add, id_eq, Nat.sub_self, Bool.true_and, Bool.and_true, Bool.false_and, Bool.and_false, Bool.true_or, Bool.or_true, Bool.false_or, Bool.or_false, m0, nn, neg_int, y0, y1, a1, a2, lm, c2]
    | cons p ps =>
      obtain ⟨x0, sl, ow, _⟩ := per_first μ hs hq
      rw [hq] at nn
      have nn : fNe μ (perD s) (.lst []) = some (.bl true) := nn
      rw [ow]
      simp -implicitDefEqProofs only [Law.d__law_closed_right, List.getD_cons_succ, List.getD_cons_zero, startE, exs_nil, exs_cons, ex_pass, ex_expr, ex_asg, ex_ifs, ex_for, ex_ret, ex_retN, ex_brk, ex_cont, ex_never, ev_var, ev_lit, ev_op1, ev_op2, ev_op3, ev_opN, ev_opM, ev_meth, ev_frz, ev_lst, ev_tup, ev_and, ev_or, ev_not, ev_ite, ev_chain, ev_call, ev_comp, evs_nil, evs_cons, Res.bind_assoc, evT, asgT_name, asgT_sub, asgT_tup, asgTs_nil, asgTs_cons, Res.bind_ok, Res.bind_exc, lift_some, noExc_ok, truth_bl, finish_rt, finish_nx, List.map_cons, List.map_nil, List.length_cons, List.length_nil, List.replicate_zero, List.replicate_succ, List.cons_append, List.nil_append, List.getElem?_cons_zero, List.getElem?_cons_succ, List.set_cons_zero, List.set_cons_succ, Bool.not_true, Bool.not_false, ↓reduceIte, Bool.false_eq_true, Nat.reduceAdd, Nat.reduceSub, Nat.reduceLT, Nat.reduceLeDiff, Nat.zero_add, id_eq, Nat.sub_self, Bool.true_and, Bool.and_true, Bool.false_and, Bool.and_false, Bool.true_or, Bool.or_true, Bool.false_or, Bool.or_false, m0, nn, x0, fI_int, sl, neg_int, y0, y1, a1, a2, lm, c2]
  rw [exs_cons, f0, bind_ok]
  dsimp only
  rw [exs_cons, f1, bind_ok]
  dsimp only
  rw [exs_cons, f2, bind_ok]
  dsimp only
  rw [exs_nil]
theorem cr_b (K : K96 P) {w : Nat} {s : List Nat} (h : Clo s) : exs (callD P (n + 8)) [(Law.d__law_closed_right.body.getD 3 .pass), (Law.d__law_closed_right.body.getD 4 .pass)] [some (.ref w), some (.str s), some (.int (s.length : Nat)), some (perD s), some (.str (own s)), some (.str (rm s)), none, none, none, none, none, none, none, none, none, none, none, none, none] μ = .ok (.nx [some (.ref w), some (.str s), some (.int (s.length : Nat)), some (perD s), some (.str (own s)), some (.str (rm s)), some (.lst [D.bl (pers s).isEmpty, .bl (pers s).isEmpty, .str (own s), .bl true, .str (rm s), .int ((rm s).count 104 : Nat)]), none, none, none, none, none, none, none, none, none, none, none, none]) μ := by
  have ow := (own_ok h).1
  have io := is_own_ok (n := n + 1) (μ := μ) K h
  have op := own_part_ok (n := n + 1) (μ := μ) K h
  have ic := is_clo_ok (n := n + 2) (μ := μ) K h
  have ro := marks_ok (n := n + 1) (μ := μ) K h
  have hc := h_count_ok (n := n) (μ := μ) K h
  have p0 : permL [0] [D.str s] = [D.str s] := rfl
  have hcl : ∀ c ∈ own s, c < 1114112 := fun c z => isL_lt (ow.ltr c z)
  have hrm : ∀ c ∈ rm s, c < 1114112 := fun c z => by rcases rm_or s c z with q | q <;> omega
  have en : fEq μ (perD s) (.lst []) = some (.bl (pers s).isEmpty) := eq_nats μ _
  have m0 := mkL0 μ
  have mk6 : ∀ d1 d2 d3 d4 d5 d6 : D, mkL false [d1, d2, d3, d4, d5, d6] μ = .ok (.lst [d1, d2, d3, d4, d5, d6]) μ := fun _ _ _ _ _ _ => mkL_val _ _ (show 6 ≤ cap by decide)
  have sm := sameB K.lSame 1 (n + 6) μ (.lst [D.bl (pers s).isEmpty, .bl (pers s).isEmpty, .str (own s), .bl true, .str (rm s), .int ((rm s).count 104 : Nat)]) (gd_l (gds_c (gd_b _) (gds_c (gd_b _) (gds_c (gd_s hcl) (gds_c (gd_b _) (gds_c (gd_s hrm) (gds_c (gd_i _) gds_n)))))) (by simp))
  have sm : callD P (n + 8) "_law_same" [.lst [D.bl (pers s).isEmpty, .bl (pers s).isEmpty, .str (own s), .bl true, .str (rm s), .int ((rm s).count 104 : Nat)], .lst [D.bl (pers s).isEmpty, .bl (pers s).isEmpty, .str (own s), .bl true, .str (rm s), .int ((rm s).count 104 : Nat)]] μ = .ok (.bl true) μ := sm
  have f3 : ex (callD P (n + 8)) (Law.d__law_closed_right.body.getD 3 .pass) [some (.ref w), some (.str s), some (.int (s.length : Nat)), some (perD s), some (.str (own s)), some (.str (rm s)), none, none, none, none, none, none, none, none, none, none, none, none, none] μ = .ok (.nx [some (.ref w), some (.str s), some (.int (s.length : Nat)), some (perD s), some (.str (own s)), some (.str (rm s)), some (.lst [D.bl (pers s).isEmpty, .bl (pers s).isEmpty, .str (own s), .bl true, .str (rm s), .int ((rm s).count 104 : Nat)]), none, none, none, none, none, none, none, none, none, none, none, none]) μ := by
    simp -implicitDefEqProofs only [Law.d__law_closed_right, List.getD_cons_succ, List.getD_cons_zero, startE, exs_nil, exs_cons, ex_pass, ex_expr, ex_asg, ex_ifs, ex_for, ex_ret, ex_retN, ex_brk, ex_cont, ex_never, ev_var, ev_lit, ev_op1, ev_op2, ev_op3, ev_opN, ev_opM, ev_meth, ev_frz, ev_lst, ev_tup, ev_and, ev_or, ev_not, ev_ite, ev_chain, ev_call, ev_comp, evs_nil, evs_cons, Res.bind_assoc, evT, asgT_name, asgT_sub, asgT_tup, asgTs_nil, asgTs_cons, Res.bind_ok, Res.bind_exc, lift_some, noExc_ok, truth_bl, finish_rt, finish_nx, List.map_cons, List.map_nil, List.length_cons, List.length_nil, List.replicate_zero, List.replicate_succ, List.cons_append, List.nil_append, List.getElem?_cons_zero, List.getElem?_cons_succ, List.set_cons_zero, List.set_cons_succ, Bool.not_true, Bool.not_false, ↓reduceIte, Bool.false_eq_true, Nat.reduceAdd, Nat.reduceSub, Nat.reduceLT, Nat.reduceLeDiff, Nat.zero_add, id_eq, Nat.sub_self, Bool.true_and, Bool.and_true, Bool.false_and, Bool.and_false, Bool.true_or, Bool.or_true, Bool.false_or, Bool.or_false, io, op, ic, ro, hc, p0, mk6]
  have f4 : ex (callD P (n + 8)) (Law.d__law_closed_right.body.getD 4 .pass) [some (.ref w), some (.str s), some (.int (s.length : Nat)), some (perD s), some (.str (own s)), some (.str (rm s)), some (.lst [D.bl (pers s).isEmpty, .bl (pers s).isEmpty, .str (own s), .bl true, .str (rm s), .int ((rm s).count 104 : Nat)]), none, none, none, none, none, none, none, none, none, none, none, none] μ = .ok (.nx [some (.ref w), some (.str s), some (.int (s.length : Nat)), some (perD s), some (.str (own s)), some (.str (rm s)), some (.lst [D.bl (pers s).isEmpty, .bl (pers s).isEmpty, .str (own s), .bl true, .str (rm s), .int ((rm s).count 104 : Nat)]), none, none, none, none, none, none, none, none, none, none, none, none]) μ := by
    simp -implicitDefEqProofs only [Law.d__law_closed_right, List.getD_cons_succ, List.getD_cons_zero, startE, exs_nil, exs_cons, ex_pass, ex_expr, ex_asg, ex_ifs, ex_for, ex_ret, ex_retN, ex_brk, ex_cont, ex_never, ev_var, ev_lit, ev_op1, ev_op2, ev_op3, ev_opN, ev_opM, ev_meth, ev_frz, ev_lst, ev_tup, ev_and, ev_or, ev_not, ev_ite, ev_chain, ev_call, ev_comp, evs_nil, evs_cons, Res.bind_assoc, evT, asgT_name, asgT_sub, asgT_tup, asgTs_nil, asgTs_cons, Res.bind_ok, Res.bind_exc, lift_some, noExc_ok, truth_bl, finish_rt, finish_nx, List.map_cons, List.map_nil, List.length_cons, List.length_nil, List.replicate_zero, List.replicate_succ, List.cons_append, List.nil_append, List.getElem?_cons_zero, List.getElem?_cons_succ, List.set_cons_zero, List.set_cons_succ, Bool.not_true, Bool.not_false, ↓reduceIte, Bool.false_eq_true, Nat.reduceAdd, Nat.reduceSub, Nat.reduceLT, Nat.reduceLeDiff, Nat.zero_add, id_eq, Nat.sub_self, Bool.true_and, Bool.and_true, Bool.false_and, Bool.and_false, Bool.true_or, Bool.or_true, Bool.false_or, Bool.or_false, m0, en, isStr, mcount, mk6, sm]
  rw [exs_cons, f3, bind_ok]
  dsimp only
  rw [exs_cons, f4, bind_ok]
  dsimp only
  rw [exs_nil]
theorem shr_ok {s : List Nat} (h : Clo s) : 1 ≤ (shr s).2 ∧ (shr s).2 ≤ 24 ∧ Nat.gcd (shr s).1 (shr s).2 = 1 ∧ (shr s).1 * s.length = (rm s).count 104 * (shr s).2 := by
  have hp := h.pos
  have hle := h.le
  have g0 : 0 < Nat.gcd ((rm s).count 104) s.length := Nat.gcd_pos_of_pos_right _ (by omega)
  have d1 := Nat.gcd_dvd_left ((rm s).count 104) s.length
  have d2 := Nat.gcd_dvd_right ((rm s).count 104) s.length
  unfold shr
  dsimp only
  have h3 : Nat.gcd ((rm s).count 104 / Nat.gcd ((rm s).count 104) s.length) (s.length / Nat.gcd ((rm s).count 104) s.length) = 1 := Nat.gcd_div_gcd_div_gcd_of_pos_right (by omega)
  generalize hg : Nat.gcd ((rm s).count 104) s.length = g at *
  obtain ⟨a, ha⟩ := d1
  obtain ⟨b, hb⟩ := d2
  have e1 : (rm s).count 104 / g = a := by rw [ha, Nat.mul_div_cancel_left _ g0]
  have e2 : s.length / g = b := by rw [hb, Nat.mul_div_cancel_left _ g0]
  rw [e1, e2] at h3 ⊢
  refine ⟨?_, ?_, h3, ?_⟩
  · rcases Nat.eq_zero_or_pos b with z | z
    · rw [z, Nat.mul_zero] at hb; omega
    · exact z
  · rw [← e2]
    exact Nat.le_trans (Nat.div_le_self _ _) hle
  · rw [ha, hb, ← Nat.mul_assoc, Nat.mul_comm a g]
end
end Ev
namespace Ev
open Res
section
variable {P : String → Option FD} {n : Nat} {μ : Store}
theorem cr_c (K : K96 P) {w : Nat} {s : List Nat} (h : Clo s) {t1 t2 : Nat} (ht : shr s = (t1, t2)) : exs (callD P (n + 9)) [(Law.d__law_closed_right.body.getD 5 .pass), (Law.d__law_closed_right.body.getD 6 .pass), (Law.d__law_closed_right.body.getD 7 .pass), (Law.d__law_closed_right.body.getD 8 .pass)] [some (.ref w), some (.str s), some (.int (s.length : Nat)), some (perD s), some (.str (own s)), some (.str (rm s)), some (.lst [D.bl (pers s).isEmpty, .bl (pers s).isEmpty, .str (own s), .bl true, .str (rm s), .int ((rm s).count 104 : Nat)]), none, none, none, none, none, none, none, none, none, none, none, none] μ = .ok (.nx [some (.ref w), some (.str s), some (.int (s.length : Nat)), some (perD s), some (.str (own s)), some (.str (rm s)), some (.lst [D.bl (pers s).isEmpty, .bl (pers s).isEmpty, .str (own s), .bl true, .str (rm s), .int ((rm s).count 104 : Nat)]), some (.int (t1 : Nat)), some (.int (t2 : Nat)), some (.int ((1 : Nat) : Int)), some (.int ((0 : Nat) : Int)), none, none, none, none, none, none, none, none]) μ := by
  obtain ⟨b1, b24, hg, hm⟩ := shr_ok h
  have so := share_ok (n := n) (μ := μ) K h
  obtain ⟨oc, oe⟩ := own_ok h
  have so2 := share_ok (n := n) (μ := μ) K oc
  rw [oe] at so2
  rw [ht] at so so2 b1 b24 hg hm
  dsimp only at so so2 b1 b24 hg hm
  have op := own_part_ok (n := n + 2) (μ := μ) K h
  have c2 : 2 ≤ cap := by decide
  have n1 : fNe μ (.int ((1 : Nat) : Int)) (.int 1) = some (.bl false) := rfl
  have mu1 : fMul μ (.int (t1 : Nat)) (.int (s.length : Nat)) = some (.int ((t1 * s.length : Nat) : Int)) := by
    rw [mul_r μ _ (by have := h.le; omega)]; push_cast; rfl
  have mu2 : fMul μ (.int ((rm s).count 104 : Nat)) (.int (t2 : Nat)) = some (.int ((t1 * s.length : Nat) : Int)) := by
    rw [mul_r μ _ (by omega), hm]; push_cast; rfl
  have ne := ne_intX μ ((t1 * s.length : Nat) : Int)
  have lt : decide (((t2 : Nat) : Int) < 1) = false := decide_eq_false (by omega)
  have np := ne_pair μ t1 t2
  have wl := eu_loop (μ := μ) (cf := callD P (n + 9)) (ρ := fun a b => [some (.ref w), some (.str s), some (.int (s.length : Nat)), some (perD s), some (.str (own s)), some (.str (rm s)), some (.lst [D.bl (pers s).isEmpty, .bl (pers s).isEmpty, .str (own s), .bl true, .str (rm s), .int ((rm s).count 104 : Nat)]), some (.int (t1 : Nat)), some (.int (t2 : Nat)), some (.int (a : Nat)), some (.int (b : Nat)), none, none, none, none, none, none, none, none]) rfl hg (by omega)
  have f5 : ex (callD P (n + 9)) (Law.d__law_closed_right.body.getD 5 .pass) [some (.ref w), some (.str s), some (.int (s.length : Nat)), some (perD s), some (.str (own s)), some (.str (rm s)), some (.lst [D.bl (pers s).isEmpty, .bl (pers s).isEmpty, .str (own s), .bl true, .str (rm s), .int ((rm s).count 104 : Nat)]), none, none, none, none, none, none, none, none, none, none, none, none] μ = .ok (.nx [some (.ref w), some (.str s), some (.int (s.length : Nat)), some (perD s), some (.str (own s)), some (.str (rm s)), some (.lst [D.bl (pers s).isEmpty, .bl (pers s).isEmpty, .str (own s), .bl true, .str (rm s), .int ((rm s).count 104 : Nat)]), some (.int (t1 : Nat)), some (.int (t2 : Nat)), none, none, none, none, none, none, none, none, none, none]) μ := by
    simp -implicitDefEqProofs only [Law.d__law_closed_right, List.getD_cons_succ, List.getD_cons_zero, startE, exs_nil, exs_cons, ex_pass, ex_expr, ex_asg, ex_ifs, ex_for, ex_ret, ex_retN, ex_brk, ex_cont, ex_never, ev_var, ev_lit, ev_op1, ev_op2, ev_op3, ev_opN, ev_opM, ev_meth, ev_frz, ev_lst, ev_tup, ev_and, ev_or, ev_not, ev_ite, ev_chain, ev_call, ev_comp, evs_nil, evs_cons, Res.bind_assoc, evT, asgT_name, asgT_sub, asgT_tup, asgTs_nil, asgTs_cons, Res.bind_ok, Res.bind_exc, lift_some, noExc_ok, truth_bl, finish_rt, finish_nx, List.map_cons, List.map_nil, List.length_cons, List.length_nil, List.replicate_zero, List.replicate_succ, List.cons_append, List.nil_append, List.getElem?_cons_zero, List.getElem?_cons_succ, List.set_cons_zero, List.set_cons_succ, Bool.not_true, Bool.not_false, ↓reduceIte, Bool.false_eq_true, Nat.reduceAdd, Nat.reduceSub, Nat.reduceLT, Nat.reduceLeDiff, Nat.zero_add, id_eq, Nat.sub_self, Bool.true_and, Bool.and_true, Bool.false_and, Bool.and_false, Bool.true_or, Bool.or_true, Bool.false_or, Bool.or_false, so]
  have f6 : ex (callD P (n + 9)) (Law.d__law_closed_right.body.getD 6 .pass) [some (.ref w), some (.str s), some (.int (s.length : Nat)), some (perD s), some (.str (own s)), some (.str (rm s)), some (.lst [D.bl (pers s).isEmpty, .bl (pers s).isEmpty, .str (own s), .bl true, .str (rm s), .int ((rm s).count 104 : Nat)]), some (.int (t1 : Nat)), some (.int (t2 : Nat)), none, none, none, none, none, none, none, none, none, none] μ = .ok (.nx [some (.ref w), some (.str s), some (.int (s.length : Nat)), some (perD s), some (.str (own s)), some (.str (rm s)), some (.lst [D.bl (pers s).isEmpty, .bl (pers s).isEmpty, .str (own s), .bl true, .str (rm s), .int ((rm s).count 104 : Nat)]), some (.int (t1 : Nat)), some (.int (t2 : Nat)), some (.int (t1 : Nat)), some (.int (t2 : Nat)), none, none, none, none, none, none, none, none]) μ := by
    simp -implicitDefEqProofs only [Law.d__law_closed_right, List.getD_cons_succ, List.getD_cons_zero, startE, exs_nil, exs_cons, ex_pass, ex_expr, ex_asg, ex_ifs, ex_for, ex_ret, ex_retN, ex_brk, ex_cont, ex_never, ev_var, ev_lit, ev_op1, ev_op2, ev_op3, ev_opN, ev_opM, ev_meth, ev_frz, ev_lst, ev_tup, ev_and, ev_or, ev_not, ev_ite, ev_chain, ev_call, ev_comp, evs_nil, evs_cons, Res.bind_assoc, evT, asgT_name, asgT_sub, asgT_tup, asgTs_nil, asgTs_cons, Res.bind_ok, Res.bind_exc, lift_some, noExc_ok, truth_bl, finish_rt, finish_nx, List.map_cons, List.map_nil, List.length_cons, List.length_nil, List.replicate_zero, List.replicate_succ, List.cons_append, List.nil_append, List.getElem?_cons_zero, List.getElem?_cons_succ, List.set_cons_zero, List.set_cons_succ, Bool.not_true, Bool.not_false, ↓reduceIte, Bool.false_eq_true, Nat.reduceAdd, Nat.reduceSub, Nat.reduceLT, Nat.reduceLeDiff, Nat.zero_add, id_eq, Nat.sub_self, Bool.true_and, Bool.and_true, Bool.false_and, Bool.and_false, Bool.true_or, Bool.or_true, Bool.false_or, Bool.or_false, c2]
  have f7 : ex (callD P (n + 9)) (Law.d__law_closed_right.body.getD 7 .pass) [some (.ref w), some (.str s), some (.int (s.length : Nat)), some (perD s), some (.str (own s)), some (.str (rm s)), some (.lst [D.bl (pers s).isEmpty, .bl (pers s).isEmpty, .str (own s), .bl true, .str (rm s), .int ((rm s).count 104 : Nat)]), some (.int (t1 : Nat)), some (.int (t2 : Nat)), some (.int (t1 : Nat)), some (.int (t2 : Nat)), none, none, none, none, none, none, none, none] μ = .ok (.nx [some (.ref w), some (.str s), some (.int (s.length : Nat)), some (perD s), some (.str (own s)), some (.str (rm s)), some (.lst [D.bl (pers s).isEmpty, .bl (pers s).isEmpty, .str (own s), .bl true, .str (rm s), .int ((rm s).count 104 : Nat)]), some (.int (t1 : Nat)), some (.int (t2 : Nat)), some (.int ((1 : Nat) : Int)), some (.int ((0 : Nat) : Int)), none, none, none, none, none, none, none, none]) μ := by
    rw [show (Law.d__law_closed_right.body.getD 7 .pass) = .whil 1000 (.op2 fGt (.var 10) (.lit (.int 0))) [.asg (.tup [.name 9, .name 10]) (.tup [.var 10, .op2 fMod (.var 9) (.var 10)])] from rfl, ex_whil]
    exact wl
  have f8 : ex (callD P (n + 9)) (Law.d__law_closed_right.body.getD 8 .pass) [some (.ref w), some (.str s), some (.int (s.length : Nat)), some (perD s), some (.str (own s)), some (.str (rm s)), some (.lst [D.bl (pers s).isEmpty, .bl (pers s).isEmpty, .str (own s), .bl true, .str (rm s), .int ((rm s).count 104 : Nat)]), some (.int (t1 : Nat)), some (.int (t2 : Nat)), some (.int ((1 : Nat) : Int)), some (.int ((0 : Nat) : Int)), none, none, none, none, none, none, none, none] μ = .ok (.nx [some (.ref w), some (.str s), some (.int (s.length : Nat)), some (perD s), some (.str (own s)), some (.str (rm s)), some (.lst [D.bl (pers s).isEmpty, .bl (pers s).isEmpty, .str (own s), .bl true, .str (rm s), .int ((rm s).count 104 : Nat)]), some (.int (t1 : Nat)), some (.int (t2 : Nat)), some (.int ((1 : Nat) : Int)), some (.int ((0 : Nat) : Int)), none, none, none, none, none, none, none, none]) μ := by
    simp -implicitDefEqProofs only [Law.d__law_closed_right, List.getD_cons_succ, List.getD_cons_zero, startE, exs_nil, exs_cons, ex_pass, ex_expr, ex_asg, ex_ifs, ex_for, ex_ret, ex_retN, ex_brk, ex_cont, ex_never, ev_var, ev_lit, ev_op1, ev_op2, ev_op3, ev_opN, ev_opM, ev_meth, ev_frz, ev_lst, ev_tup, ev_and, ev_or, ev_not, ev_ite, ev_chain, ev_call, ev_comp, evs_nil, evs_cons, Res.bind_assoc, evT, asgT_name, asgT_sub, asgT_tup, asgTs_nil, asgTs_cons, Res.bind_ok, Res.bind_exc, lift_some, noExc_ok, truth_bl, finish_rt, finish_nx, List.map_cons, List.map_nil, List.length_cons, List.length_nil, List.replicate_zero, List.replicate_succ, List.cons_append, List.nil_append, List.getElem?_cons_zero, List.getElem?_cons_succ, List.set_cons_zero, List.set_cons_succ, Bool.not_true, Bool.not_false, ↓reduceIte, Bool.false_eq_true, Nat.reduceAdd, Nat.reduceSub, Nat.reduceLT, Nat.reduceLeDiff, Nat.zero_add, id_eq, Nat.sub_self, Bool.true_and, Bool.and_true, Bool.false_and, Bool.and_false, Bool.true_or, Bool.or_true, Bool.false_or, Bool.or_false, n1, isStr, mcount, mu1, mu2, ne, lt_int, lt, op, so2, c2, np]
  rw [exs_cons, f5, bind_ok]
  dsimp only
  rw [exs_cons, f6, bind_ok]
  dsimp only
  rw [exs_cons, f7, bind_ok]
  dsimp only
  rw [exs_cons, f8, bind_ok]
  dsimp only
  rw [exs_nil]
theorem cr_d (K : K96 P) {w : Nat} {s : List Nat} (h : Clo s) (t1 t2 : Nat) : ∃ (w0 : List Nat) (q : D), (w0 = wO ∨ w0 = wA) ∧ Pap q ∧
    exs (callD P (n + 8)) [(Law.d__law_closed_right.body.getD 9 .pass), (Law.d__law_closed_right.body.getD 10 .pass), (Law.d__law_closed_right.body.getD 11 .pass)] [some (.ref w), some (.str s), some (.int (s.length : Nat)), some (perD s), some (.str (own s)), some (.str (rm s)), some (.lst [D.bl (pers s).isEmpty, .bl (pers s).isEmpty, .str (own s), .bl true, .str (rm s), .int ((rm s).count 104 : Nat)]), some (.int (t1 : Nat)), some (.int (t2 : Nat)), some (.int ((1 : Nat) : Int)), some (.int ((0 : Nat) : Int)), none, none, none, none, none, none, none, none] μ = .ok (.nx [some (.ref w), some (.str s), some (.int (s.length : Nat)), some (perD s), some (.str (own s)), some (.str (rm s)), some (.lst [D.bl (pers s).isEmpty, .bl (pers s).isEmpty, .str (own s), .bl true, .str (rm s), .int ((rm s).count 104 : Nat)]), some (.int (t1 : Nat)), some (.int (t2 : Nat)), some (.int ((1 : Nat) : Int)), some (.int ((0 : Nat) : Int)), some (.lst [cO s, cA s]), some (.tup [.str w0, .str s]), some (q), none, none, none, none, none]) μ := by
  have cf' := certify_ok (n := n + 1) (μ := μ) K h
  have hs := h.toStk
  have cs : ∀ c ∈ s, c < 1114112 := fun c hc => isL_lt (h.ltr c hc)
  have c2 : 2 ≤ cap := by decide
  have m0 := mkL0 μ
  have mm := fun x y : D => mkL2 μ x y
  have en : fEq μ (perD s) (.lst []) = some (.bl (pers s).isEmpty) := eq_nats μ _
  have x0 : fIx μ (.lst [cO s, cA s]) (.int 0) = some (cO s) := rfl
  have x1 : fIx μ (.lst [cO s, cA s]) (.int 1) = some (cA s) := rfl
  have u1 : D.tup [.str [111, 119, 110], .str s] = cO s := rfl
  have u2 : D.tup [.str [97, 103, 97, 105, 110], .str s] = cA s := rfl
  cases hq : pers s with
  | nil =>
    refine ⟨wO, .tup [], .inl rfl, ⟨okp_t0, fun ds e => by cases e; exact .inl rfl⟩, ?_⟩
    have ac : callD P (n + 8) "accepts" [cO s, .tup []] μ = _ := accepts_O (n := n) (μ := μ) K h okp_t0
    rw [hq, show (nilV (.tup []) && ([] : List Nat).isEmpty) = true from rfl] at ac
    have s2 := sameB K.lSame 2 (n + 5) μ (.lst [cO s, .bl true]) (gd_l (gds_c (gd_t (gds_c (gd_s (by decide)) (gds_c (gd_s cs) gds_n)) (by simp)) (gds_c (gd_b true) gds_n)) (by simp))
    have s2 : callD P (n + 8) "_law_same" [.lst [cO s, .bl true], .lst [cO s, .bl true]] μ = .ok (.bl true) μ := s2
    have cv : certV s = .tup [cO s, .tup []] := by unfold certV; rw [if_pos hq]
    rw [cv] at cf'
    rw [hq] at en
    have en : fEq μ (perD s) (.lst []) = some (.bl true) := en
    rw [show D.tup [.str wO, .str s] = cO s from rfl]
    simp only [List.isEmpty_nil]
    simp -implicitDefEqProofs only [Law.d__law_closed_right, List.getD_cons_succ, List.getD_cons_zero, startE, exs_nil, exs_cons, ex_pass, ex_expr, ex_asg, ex_ifs, ex_for, ex_ret, ex_retN, ex_brk, ex_cont, ex_never, ev_var, ev_lit, ev_op1, ev_op2, ev_op3, ev_opN, ev_opM, ev_meth, ev_frz, ev_lst, ev_tup, ev_and, ev_or, ev_not, ev_ite, ev_chain, ev_call, ev_comp, evs_nil, evs_cons, Res.bind_assoc, evT, asgT_name, asgT_sub, asgT_tup, asgTs_nil, asgTs_cons, Res.bind_ok, Res.bind_exc, lift_some, noExc_ok, truth_bl, finish_rt, finish_nx, List.map_cons, List.map_nil, List.length_cons, List.length_nil, List.replicate_zero, List.replicate_succ, List.cons_append, List.nil_append, List.getElem?_cons_zero, List.getElem?_cons_succ, List.set_cons_zero, List.set_cons_succ, Bool.not_true, Bool.not_false, ↓reduceIte, Bool.false_eq_true, Nat.reduceAdd, Nat.reduceSub, Nat.reduceLT, Nat.reduceLeDiff, Nat.zero_add, id_eq, Nat.sub_self, Bool.true_and, Bool.and_true, Bool.false_and, Bool.and_false, Bool.true_or, Bool.or_true, Bool.false_or, Bool.or_false, c2, u1, u2, mm, cf', x0, ac, m0, en, s2]
  | cons p ps =>
    refine ⟨wA, .int (p : Nat), .inr rfl, pap_i _, ?_⟩
    have ac : callD P (n + 8) "accepts" [cA s, .int (p : Nat)] μ = _ := accepts_A (n := n) (μ := μ) K h (okp_i _)
    have ip : inP s (.int (p : Nat)) = true := by
      unfold inP
      rw [hq]
      exact decide_eq_true ⟨p, List.mem_cons_self, rfl⟩
    rw [ip] at ac
    have s2 := sameB K.lSame 2 (n + 5) μ (.lst [cA s, .bl true]) (gd_l (gds_c (gd_t (gds_c (gd_s (by decide)) (gds_c (gd_s cs) gds_n)) (by simp)) (gds_c (gd_b true) gds_n)) (by simp))
    have s2 : callD P (n + 8) "_law_same" [.lst [cA s, .bl true], .lst [cA s, .bl true]] μ = .ok (.bl true) μ := s2
    have cv : certV s = .tup [cA s, .int (p : Nat)] := by unfold certV; rw [if_neg (by rw [hq]; simp), hq]; rfl
    rw [cv] at cf'
    rw [hq] at en
    have en : fEq μ (perD s) (.lst []) = some (.bl false) := en
    rw [show D.tup [.str wA, .str s] = cA s from rfl]
    simp only [List.isEmpty_cons]
    simp -implicitDefEqProofs only [Law.d__law_closed_right, List.getD_cons_succ, List.getD_cons_zero, startE, exs_nil, exs_cons, ex_pass, ex_expr, ex_asg, ex_ifs, ex_for, ex_ret, ex_retN, ex_brk, ex_cont, ex_never, ev_var, ev_lit, ev_op1, ev_op2, ev_op3, ev_opN, ev_opM, ev_meth, ev_frz, ev_lst, ev_tup, ev_and, ev_or, ev_not, ev_ite, ev_chain, ev_call, ev_comp, evs_nil, evs_cons, Res.bind_assoc, evT, asgT_name, asgT_sub, asgT_tup, asgTs_nil, asgTs_cons, Res.bind_ok, Res.bind_exc, lift_some, noExc_ok, truth_bl, finish_rt, finish_nx, List.map_cons, List.map_nil, List.length_cons, List.length_nil, List.replicate_zero, List.replicate_succ, List.cons_append, List.nil_append, List.getElem?_cons_zero, List.getElem?_cons_succ, List.set_cons_zero, List.set_cons_succ, Bool.not_true, Bool.not_false, ↓reduceIte, Bool.false_eq_true, Nat.reduceAdd, Nat.reduceSub, Nat.reduceLT, Nat.reduceLeDiff, Nat.zero_add, id_eq, Nat.sub_self, Bool.true_and, Bool.and_true, Bool.false_and, Bool.and_false, Bool.true_or, Bool.or_true, Bool.false_or, Bool.or_false, c2, u1, u2, mm, cf', x1, ac, m0, en, s2]
theorem cr_e (K : K96 P) {w : Nat} {s : List Nat} (h : Clo s) (t1 t2 : Nat) (w0 : List Nat) {q : D} (hq : Pap q) : ∃ o14 o15 o16 : Option D,
    ex (callD P (n + 8)) (Law.d__law_closed_right.body.getD 12 .pass) [some (.ref w), some (.str s), some (.int (s.length : Nat)), some (perD s), some (.str (own s)), some (.str (rm s)), some (.lst [D.bl (pers s).isEmpty, .bl (pers s).isEmpty, .str (own s), .bl true, .str (rm s), .int ((rm s).count 104 : Nat)]), some (.int (t1 : Nat)), some (.int (t2 : Nat)), some (.int ((1 : Nat) : Int)), some (.int ((0 : Nat) : Int)), some (.lst [cO s, cA s]), some (.tup [.str w0, .str s]), some (q), none, none, none, none, none] μ = .ok (.nx [some (.ref w), some (.str s), some (.int (s.length : Nat)), some (perD s), some (.str (own s)), some (.str (rm s)), some (.lst [D.bl (pers s).isEmpty, .bl (pers s).isEmpty, .str (own s), .bl true, .str (rm s), .int ((rm s).count 104 : Nat)]), some (.int (t1 : Nat)), some (.int (t2 : Nat)), some (.int ((1 : Nat) : Int)), some (.int ((0 : Nat) : Int)), some (.lst [cO s, cA s]), some (.tup [.str w0, .str s]), some (q), o14, o15, o16, none, none]) μ := by
  have hle := h.le
  have ow := (own_ok h).1
  have c0 : 0 ≤ cap := by decide
  have c1 : 1 ≤ cap := by decide
  have mk1 := fun x : D => mkL1 μ x
  have m10 : mkL false (papL q (own s)) μ = .ok (.lst (papL q (own s))) μ := mkL_val _ _ (show 10 ≤ cap by decide)
  have s02 : fSub μ (.int 0) (.int 2) = some (.int (0 - 2)) := rfl
  obtain ⟨rr, hr, hrl, hri⟩ : ∃ rr : List D, fLstRg1 μ (.int (((s.length : Nat) : Int) + 2)) = some (.lst rr) ∧ rr.length ≤ 26 ∧ ∀ d ∈ rr, ∃ i : Int, d = .int i := by
    have hb : rgB 0 (((s.length : Nat) : Int) + 2) = true := by unfold rgB; simp; omega
    refine ⟨rgD 0 (((s.length : Nat) : Int) + 2), by simp only [fLstRg1, hb, ↓reduceIte], ?_, ?_⟩
    · simp [rgD]; omega
    · intro d hd
      simp only [rgD, List.mem_map] at hd
      obtain ⟨k, _, rfl⟩ := hd
      exact ⟨_, rfl⟩
  have mu : fMul μ (.int 2) (.int (s.length : Nat)) = some (.int (2 * ((s.length : Nat) : Int))) := mul_l μ _ (by decide)
  have a1 : fAdd μ (.lst (papL q (own s))) (.lst rr) = some (.lst (papL q (own s) ++ rr)) := add_lsts μ (cap100 (by simp; omega))
  have a2 : fAdd μ (.lst (papL q (own s) ++ rr)) (.lst [.int (2 * ((s.length : Nat) : Int))]) = some (.lst ((papL q (own s) ++ rr) ++ [.int (2 * ((s.length : Nat) : Int))])) := add_lsts μ (cap100 (by simp; omega))
  obtain ⟨o14, o15, o16, e9⟩ := papers_ok (n := n) (μ := μ) K (w := w) h (some (.str (own s))) (some (.str (rm s))) (some (.lst [D.bl (pers s).isEmpty, .bl (pers s).isEmpty, .str (own s), .bl true, .str (rm s), .int ((rm s).count 104 : Nat)])) (some (.int (t1 : Nat))) (some (.int (t2 : Nat))) (some (.int ((1 : Nat) : Int))) (some (.int ((0 : Nat) : Int))) (some (.tup [.str w0, .str s])) (some q) (ds := (papL q (own s) ++ rr) ++ [.int (2 * ((s.length : Nat) : Int))]) (fun d hd => by
    rcases List.mem_append.mp hd with z | z
    · rcases List.mem_append.mp z with z | z
      · exact pap_ok hq (okp_stk ow.toStk) d z
      · obtain ⟨i, rfl⟩ := hri d z
        exact pap_i i
    · rw [List.mem_singleton.mp z]; exact pap_i _)
  refine ⟨o14, o15, o16, ?_⟩
  have vl := val_lst μ ((papL q (own s) ++ rr) ++ [.int (2 * ((s.length : Nat) : Int))])
  have sp : (Law.d__law_closed_right.body.getD 12 .pass) = .for (.name 14) fVal [.op2 fAdd (.op2 fAdd (.lst false [.var 13, .tup [], .lit .non, .lit (.str []), .lit (.bl true), .lit (.str [50]), .tup [.lit (.int 2)], .lst false [.lit (.int 2)], .op2 fSub (.lit (.int 0)) (.lit (.int 2)), .var 4]) (.op1 fLstRg1 (.op2 fAdd (.var 2) (.lit (.int 2))))) (.lst false [.op2 fMul (.lit (.int 2)) (.var 2)])] srB := rfl
  rw [sp, ex_for]
  simp -implicitDefEqProofs only [startE, exs_nil, exs_cons, ex_pass, ex_expr, ex_asg, ex_ifs, ex_for, ex_ret, ex_retN, ex_brk, ex_cont, ex_never, ev_var, ev_lit, ev_op1, ev_op2, ev_op3, ev_opN, ev_opM, ev_meth, ev_frz, ev_lst, ev_tup, ev_and, ev_or, ev_not, ev_ite, ev_chain, ev_call, ev_comp, evs_nil, evs_cons, Res.bind_assoc, evT, asgT_name, asgT_sub, asgT_tup, asgTs_nil, asgTs_cons, Res.bind_ok, Res.bind_exc, lift_some, noExc_ok, truth_bl, finish_rt, finish_nx, List.map_cons, List.map_nil, List.length_cons, List.length_nil, List.replicate_zero, List.replicate_succ, List.cons_append, List.nil_append, List.getElem?_cons_zero, List.getElem?_cons_succ, List.set_cons_zero, List.set_cons_succ, Bool.not_true, Bool.not_false, ↓reduceIte, Bool.false_eq_true, Nat.reduceAdd, Nat.reduceSub, Nat.reduceLT, Nat.reduceLeDiff, Nat.zero_add, id_eq, Nat.sub_self, Bool.true_and, Bool.and_true, Bool.false_and, Bool.and_false, Bool.true_or, Bool.or_true, Bool.false_or, Bool.or_false, c0, c1, mk1, s02]
  rw [show [q, .tup [], .non, .str [], .bl true, .str [50], .tup [.int 2], .lst [.int 2], .int (0 - 2), .str (own s)] = papL q (own s) from rfl, m10]
  generalize papL q (own s) = pl at *
  generalize hv : (pl ++ rr) ++ [D.int (2 * ((s.length : Nat) : Int))] = vv at *
  simp -implicitDefEqProofs only [startE, exs_nil, exs_cons, ex_pass, ex_expr, ex_asg, ex_ifs, ex_for, ex_ret, ex_retN, ex_brk, ex_cont, ex_never, ev_var, ev_lit, ev_op1, ev_op2, ev_op3, ev_opN, ev_opM, ev_meth, ev_frz, ev_lst, ev_tup, ev_and, ev_or, ev_not, ev_ite, ev_chain, ev_call, ev_comp, evs_nil, evs_cons, Res.bind_assoc, evT, asgT_name, asgT_sub, asgT_tup, asgTs_nil, asgTs_cons, Res.bind_ok, Res.bind_exc, lift_some, noExc_ok, truth_bl, finish_rt, finish_nx, List.map_cons, List.map_nil, List.length_cons, List.length_nil, List.replicate_zero, List.replicate_succ, List.cons_append, List.nil_append, List.getElem?_cons_zero, List.getElem?_cons_succ, List.set_cons_zero, List.set_cons_succ, Bool.not_true, Bool.not_false, ↓reduceIte, Bool.false_eq_true, Nat.reduceAdd, Nat.reduceSub, Nat.reduceLT, Nat.reduceLeDiff, Nat.zero_add, id_eq, Nat.sub_self, Bool.true_and, Bool.and_true, Bool.false_and, Bool.and_false, Bool.true_or, Bool.or_true, Bool.false_or, Bool.or_false, add_int, hr, a1, mu, mk1, a2, vl]
  rw [e9]
theorem cr_f (K : K96 P) {w : Nat} {s : List Nat} (h : Clo s) (t1 t2 : Nat) {w0 : List Nat} (hw0 : w0 = wO ∨ w0 = wA) {q : D} (hq : Pap q) (o14 o15 o16 : Option D) :
    exs (callD P (n + 8)) [(Law.d__law_closed_right.body.getD 13 .pass), (Law.d__law_closed_right.body.getD 14 .pass), (Law.d__law_closed_right.body.getD 15 .pass), (Law.d__law_closed_right.body.getD 16 .pass)] [some (.ref w), some (.str s), some (.int (s.length : Nat)), some (perD s), some (.str (own s)), some (.str (rm s)), some (.lst [D.bl (pers s).isEmpty, .bl (pers s).isEmpty, .str (own s), .bl true, .str (rm s), .int ((rm s).count 104 : Nat)]), some (.int (t1 : Nat)), some (.int (t2 : Nat)), some (.int ((1 : Nat) : Int)), some (.int ((0 : Nat) : Int)), some (.lst [cO s, cA s]), some (.tup [.str w0, .str s]), some (q), o14, o15, o16, none, none] μ = .ok (.rt (.bl true)) μ := by
  have hp := h.pos
  have h2 := h.two
  have hle := h.le
  have sc := h.toStk.cap
  have c0 : 0 ≤ cap := by decide
  have c1 : 1 ≤ cap := by decide
  have c2 : 2 ≤ cap := by decide
  have z0 : fIx μ (.str s) (.int 0) = some (.str [at' s 0]) := ix_strN μ sc (i := 0) (by omega)
  have y0 : fIx μ (.tup [.str w0, .str s]) (.int 0) = some (.str w0) := rfl
  have b1 : fSl μ (.tup [.str w0, .str s]) .non (.int 1) = some (.tup [.str w0]) := rfl
  have b2 : fAdd μ (.tup [.str w0, .str s]) (.tup [.int 0]) = some (.tup [.str w0, .str s, .int 0]) := rfl
  have b3 : fListD μ [.tup [.str w0, .str s]] = some (.lst [.str w0, .str s]) := rfl
  have b4 : fAdd μ (.str s) (.str [at' s 0]) = some (.str (s ++ [at' s 0])) := add_str μ (cap100 (by rw [List.length_singleton]; omega))
  have sl := sl_but1 (μ := μ) s sc hp
  have b5 : fAdd μ (.str (s.take (s.length - 1))) (.str [at' s 0]) = some (.str (s.take (s.length - 1) ++ [at' s 0])) := add_str μ (cap100 (by rw [List.length_singleton, List.length_take]; omega))
  have b6 : fTupleD μ [.str s] = some (.tup (s.map fun c => .str [c])) := by simp only [fTupleD, sc, ↓reduceIte]
  have b7 : fMul μ (.str [65, 66, 65, 66]) (.int 7) = some (.str (List.replicate 7 [65, 66, 65, 66]).flatten) := mul_s μ [65, 66, 65, 66] 7 (by decide) (by decide)
  have no := odds_no (n := n) (μ := μ) K hw0 h
  generalize (List.replicate 7 [65, 66, 65, 66]).flatten = a28 at *
  generalize hts : (s.map fun c => D.str [c]) = ts at *
  have mk6 : ∀ d1 d2 d3 d4 d5 d6 : D, mkL false [d1, d2, d3, d4, d5, d6] μ = .ok (.lst [d1, d2, d3, d4, d5, d6]) μ := fun _ _ _ _ _ _ => mkL_val _ _ (show 6 ≤ cap by decide)
  have mk4 : ∀ d1 d2 d3 d4 : D, mkL false [d1, d2, d3, d4] μ = .ok (.lst [d1, d2, d3, d4]) μ := fun _ _ _ _ => mkL_val _ _ (show 4 ≤ cap by decide)
  have mk1 := fun d : D => mkL1 μ d
  have a61 : ∀ d1 d2 d3 d4 d5 d6 d7 : D, fAdd μ (.lst [d1, d2, d3, d4, d5, d6]) (.lst [d7]) = some (.lst [d1, d2, d3, d4, d5, d6, d7]) := fun _ _ _ _ _ _ _ => rfl
  have a74 : ∀ d1 d2 d3 d4 d5 d6 d7 d8 d9 d10 d11 : D, fAdd μ (.lst [d1, d2, d3, d4, d5, d6, d7]) (.lst [d8, d9, d10, d11]) = some (.lst [d1, d2, d3, d4, d5, d6, d7, d8, d9, d10, d11]) := fun _ _ _ _ _ _ _ _ _ _ _ => rfl
  have e10 : exs (callD P (n + 8)) [(Law.d__law_closed_right.body.getD 13 .pass), (Law.d__law_closed_right.body.getD 14 .pass), (Law.d__law_closed_right.body.getD 15 .pass)] [some (.ref w), some (.str s), some (.int (s.length : Nat)), some (perD s), some (.str (own s)), some (.str (rm s)), some (.lst [D.bl (pers s).isEmpty, .bl (pers s).isEmpty, .str (own s), .bl true, .str (rm s), .int ((rm s).count 104 : Nat)]), some (.int (t1 : Nat)), some (.int (t2 : Nat)), some (.int ((1 : Nat) : Int)), some (.int ((0 : Nat) : Int)), some (.lst [cO s, cA s]), some (.tup [.str w0, .str s]), some (q), o14, o15, o16, none, none] μ = .ok (.nx [some (.ref w), some (.str s), some (.int (s.length : Nat)), some (perD s), some (.str (own s)), some (.str (rm s)), some (.lst [D.bl (pers s).isEmpty, .bl (pers s).isEmpty, .str (own s), .bl true, .str (rm s), .int ((rm s).count 104 : Nat)]), some (.int (t1 : Nat)), some (.int (t2 : Nat)), some (.int ((1 : Nat) : Int)), some (.int ((0 : Nat) : Int)), some (.lst [cO s, cA s]), some (.tup [.str w0, .str s]), some (q), o14, o15, o16, some (.lst [D.tup [.str w0], .tup [.str w0, .str s, .int 0], .lst [.str w0, .str s], .tup [.str w0, .str (s ++ [at' s 0])], .tup [.str w0, .non], .tup [.str w0, .str [65]], .tup [.str w0, .str (s.take (s.length - 1) ++ [at' s 0])], .tup [.str wOs, .str s], .tup [.str w0, .tup ts], .tup [.str w0, .str a28], .tup [.str w0, .str []]]), none]) μ := by
    simp -implicitDefEqProofs only [Law.d__law_closed_right, List.getD_cons_succ, List.getD_cons_zero, startE, exs_nil, exs_cons, ex_pass, ex_expr, ex_asg, ex_ifs, ex_for, ex_ret, ex_retN, ex_brk, ex_cont, ex_never, ev_var, ev_lit, ev_op1, ev_op2, ev_op3, ev_opN, ev_opM, ev_meth, ev_frz, ev_lst, ev_tup, ev_and, ev_or, ev_not, ev_ite, ev_chain, ev_call, ev_comp, evs_nil, evs_cons, Res.bind_assoc, evT, asgT_name, asgT_sub, asgT_tup, asgTs_nil, asgTs_cons, Res.bind_ok, Res.bind_exc, lift_some, noExc_ok, truth_bl, finish_rt, finish_nx, List.map_cons, List.map_nil, List.length_cons, List.length_nil, List.replicate_zero, List.replicate_succ, List.cons_append, List.nil_append, List.getElem?_cons_zero, List.getElem?_cons_succ, List.set_cons_zero, List.set_cons_succ, Bool.not_true, Bool.not_false, ↓reduceIte, Bool.false_eq_true, Nat.reduceAdd, Nat.reduceSub, Nat.reduceLT, Nat.reduceLeDiff, Nat.zero_add, id_eq, Nat.sub_self, Bool.true_and, Bool.and_true, Bool.false_and, Bool.and_false, Bool.true_or, Bool.or_true, Bool.false_or, Bool.or_false, fI_int, neg_int, z0, y0, b1, b2, b3, b4, sl, b5, b6, b7, c0, c1, c2, mk6, mk4, mk1, a61, a74]
  have q0 := okp_t0
  have al11 : ∀ q' : D, ∀ d ∈ [D.tup [.str w0], .tup [.str w0, .str s, .int 0], .lst [.str w0, .str s], .tup [.str w0, .str (s ++ [at' s 0])], .tup [.str w0, .non], .tup [.str w0, .str [65]], .tup [.str w0, .str (s.take (s.length - 1) ++ [at' s 0])], .tup [.str wOs, .str s], .tup [.str w0, .tup ts], .tup [.str w0, .str a28], .tup [.str w0, .str []]], callD P (n + 8) "accepts" [d, q'] μ = .ok (.bl false) μ := fun q' d hd => accepts_no (n := n + 1) K (v := q') (no d (by rw [oddL, hts]; exact hd))
  generalize hO : [D.tup [.str w0], .tup [.str w0, .str s, .int 0], .lst [.str w0, .str s], .tup [.str w0, .str (s ++ [at' s 0])], .tup [.str w0, .non], .tup [.str w0, .str [65]], .tup [.str w0, .str (s.take (s.length - 1) ++ [at' s 0])], .tup [.str wOs, .str s], .tup [.str w0, .tup ts], .tup [.str w0, .str a28], .tup [.str w0, .str []]] = OL at *
  have lO : OL.length = 11 := by rw [← hO]; rfl
  have cO' : OL.length ≤ cap := cap100 (by omega)
  have cO2 : (OL.map fun _ => D.bl false).length ≤ cap := by rw [List.length_map]; exact cO'
  have an : fAny μ [.lst (OL.map fun _ => D.bl false)] = some (.bl false) := any_false fun y hy => by
    obtain ⟨_, _, rfl⟩ := List.mem_map.mp hy; rfl
  have vO := val_lst μ OL
  have e13 : ex (callD P (n + 8)) (Law.d__law_closed_right.body.getD 16 .pass) [some (.ref w), some (.str s), some (.int (s.length : Nat)), some (perD s), some (.str (own s)), some (.str (rm s)), some (.lst [D.bl (pers s).isEmpty, .bl (pers s).isEmpty, .str (own s), .bl true, .str (rm s), .int ((rm s).count 104 : Nat)]), some (.int (t1 : Nat)), some (.int (t2 : Nat)), some (.int ((1 : Nat) : Int)), some (.int ((0 : Nat) : Int)), some (.lst [cO s, cA s]), some (.tup [.str w0, .str s]), some (q), o14, o15, o16, some (.lst OL), none] μ = .ok (.rt (.bl true)) μ := by
    simp -implicitDefEqProofs only [Law.d__law_closed_right, List.getD_cons_succ, List.getD_cons_zero, startE, exs_nil, exs_cons, ex_pass, ex_expr, ex_asg, ex_ifs, ex_for, ex_ret, ex_retN, ex_brk, ex_cont, ex_never, ev_var, ev_lit, ev_op1, ev_op2, ev_op3, ev_opN, ev_opM, ev_meth, ev_frz, ev_lst, ev_tup, ev_and, ev_or, ev_not, ev_ite, ev_chain, ev_call, ev_comp, evs_nil, evs_cons, Res.bind_assoc, evT, asgT_name, asgT_sub, asgT_tup, asgTs_nil, asgTs_cons, Res.bind_ok, Res.bind_exc, lift_some, noExc_ok, truth_bl, finish_rt, finish_nx, List.map_cons, List.map_nil, List.length_cons, List.length_nil, List.replicate_zero, List.replicate_succ, List.cons_append, List.nil_append, List.getElem?_cons_zero, List.getElem?_cons_succ, List.set_cons_zero, List.set_cons_succ, Bool.not_true, Bool.not_false, ↓reduceIte, Bool.false_eq_true, Nat.reduceAdd, Nat.reduceSub, Nat.reduceLT, Nat.reduceLeDiff, Nat.zero_add, id_eq, Nat.sub_self, Bool.true_and, Bool.and_true, Bool.false_and, Bool.and_false, Bool.true_or, Bool.or_true, Bool.false_or, Bool.or_false, vO, cO', wipeE]
    have := compLoop_map (μ := μ) (step := compStep (callD P (n + 8)) (.or (.call "accepts" id [.var 14, .var 13]) (.call "accepts" id [.var 14, .tup []])) (.name 14) (.lit (.bl true)) [some (.ref w), some (.str s), some (.int (s.length : Nat)), some (perD s), some (.str (own s)), some (.str (rm s)), some (.lst [D.bl (pers s).isEmpty, .bl (pers s).isEmpty, .str (own s), .bl true, .str (rm s), .int ((rm s).count 104 : Nat)]), some (.int (t1 : Nat)), some (.int (t2 : Nat)), some (.int ((1 : Nat) : Int)), some (.int ((0 : Nat) : Int)), some (.lst [cO s, cA s]), some (.tup [.str w0, .str s]), some (q), none, o15, o16, some (.lst OL), none]) (fun d : D => d) (fun _ => .bl false) OL (fun d hd => by
      simp -implicitDefEqProofs only [startE, exs_nil, exs_cons, ex_pass, ex_expr, ex_asg, ex_ifs, ex_for, ex_ret, ex_retN, ex_brk, ex_cont, ex_never, ev_var, ev_lit, ev_op1, ev_op2, ev_op3, ev_opN, ev_opM, ev_meth, ev_frz, ev_lst, ev_tup, ev_and, ev_or, ev_not, ev_ite, ev_chain, ev_call, ev_comp, evs_nil, evs_cons, Res.bind_assoc, evT, asgT_name, asgT_sub, asgT_tup, asgTs_nil, asgTs_cons, Res.bind_ok, Res.bind_exc, lift_some, noExc_ok, truth_bl, finish_rt, finish_nx, List.map_cons, List.map_nil, List.length_cons, List.length_nil, List.replicate_zero, List.replicate_succ, List.cons_append, List.nil_append, List.getElem?_cons_zero, List.getElem?_cons_succ, List.set_cons_zero, List.set_cons_succ, Bool.not_true, Bool.not_false, ↓reduceIte, Bool.false_eq_true, Nat.reduceAdd, Nat.reduceSub, Nat.reduceLT, Nat.reduceLeDiff, Nat.zero_add, id_eq, Nat.sub_self, Bool.true_and, Bool.and_true, Bool.false_and, Bool.and_false, Bool.true_or, Bool.or_true, Bool.false_or, Bool.or_false, compStep, forStep, bindT_name, bindT_tup, bindT_str, bindTs_nil, bindTs_cons, wipeE, List.length_set, al11 _ d hd, c0])
    rw [List.map_id'] at this
    rw [this]
    simp -implicitDefEqProofs only [startE, exs_nil, exs_cons, ex_pass, ex_expr, ex_asg, ex_ifs, ex_for, ex_ret, ex_retN, ex_brk, ex_cont, ex_never, ev_var, ev_lit, ev_op1, ev_op2, ev_op3, ev_opN, ev_opM, ev_meth, ev_frz, ev_lst, ev_tup, ev_and, ev_or, ev_not, ev_ite, ev_chain, ev_call, ev_comp, evs_nil, evs_cons, Res.bind_assoc, evT, asgT_name, asgT_sub, asgT_tup, asgTs_nil, asgTs_cons, Res.bind_ok, Res.bind_exc, lift_some, noExc_ok, truth_bl, finish_rt, finish_nx, List.map_cons, List.map_nil, List.length_cons, List.length_nil, List.replicate_zero, List.replicate_succ, List.cons_append, List.nil_append, List.getElem?_cons_zero, List.getElem?_cons_succ, List.set_cons_zero, List.set_cons_succ, Bool.not_true, Bool.not_false, ↓reduceIte, Bool.false_eq_true, Nat.reduceAdd, Nat.reduceSub, Nat.reduceLT, Nat.reduceLeDiff, Nat.zero_add, id_eq, Nat.sub_self, Bool.true_and, Bool.and_true, Bool.false_and, Bool.and_false, Bool.true_or, Bool.or_true, Bool.false_or, Bool.or_false, mkL_val _ _ cO2, an]
  have r2 := exs_app e10 [(Law.d__law_closed_right.body.getD 16 .pass)]
  simp only [List.cons_append, List.nil_append] at r2
  rw [r2, exs_cons, e13, bind_ok]
theorem closed_right_ok (K : K96 P) {w : Nat} {s : List Nat} (h : Clo s) : callD P (n + 10) "_law_closed_right" [.ref w, .str s] μ = .ok (.bl true) μ := by
  obtain ⟨t1, t2, ht⟩ : ∃ t1 t2, shr s = (t1, t2) := ⟨_, _, rfl⟩
  have a := cr_a (n := n + 1) (μ := μ) K (w := w) h
  have b := cr_b (n := n + 1) (μ := μ) K (w := w) h
  have c := cr_c (n := n) (μ := μ) K (w := w) h ht
  obtain ⟨w0, q, hw0, hq, d⟩ := cr_d (n := n + 1) (μ := μ) K (w := w) h t1 t2
  obtain ⟨o14, o15, o16, e⟩ := cr_e (n := n + 1) (μ := μ) K (w := w) h t1 t2 w0 hq
  have f := cr_f (n := n + 1) (μ := μ) K (w := w) h t1 t2 hw0 hq o14 o15 o16
  rw [callD_eq K.lClosedRight rfl]
  have sp : Law.d__law_closed_right.body = [(Law.d__law_closed_right.body.getD 0 .pass), (Law.d__law_closed_right.body.getD 1 .pass), (Law.d__law_closed_right.body.getD 2 .pass)] ++ ([(Law.d__law_closed_right.body.getD 3 .pass), (Law.d__law_closed_right.body.getD 4 .pass)] ++ ([(Law.d__law_closed_right.body.getD 5 .pass), (Law.d__law_closed_right.body.getD 6 .pass), (Law.d__law_closed_right.body.getD 7 .pass), (Law.d__law_closed_right.body.getD 8 .pass)] ++ ([(Law.d__law_closed_right.body.getD 9 .pass), (Law.d__law_closed_right.body.getD 10 .pass), (Law.d__law_closed_right.body.getD 11 .pass)] ++ ((Law.d__law_closed_right.body.getD 12 .pass) :: [(Law.d__law_closed_right.body.getD 13 .pass), (Law.d__law_closed_right.body.getD 14 .pass), (Law.d__law_closed_right.body.getD 15 .pass), (Law.d__law_closed_right.body.getD 16 .pass)])))) := rfl
  rw [sp, show startE Law.d__law_closed_right [.ref w, .str s] = [some (.ref w), some (.str s), none, none, none, none, none, none, none, none, none, none, none, none, none, none, none, none, none] from rfl]
  rw [exs_app a, exs_app b, exs_app c, exs_app d, exs_cons, e, bind_ok]
  dsimp only
  rw [f, bind_ok]
  exact finish_rt _ _
end
end Ev
namespace Ev
open Res
theorem rng_max5 (μ : Store) (k : Nat) : ∃ j : Nat, j ≤ 5 ∧ fMinD μ [.int k, .int 5] = some (.int (if (5 : Int) < k then 5 else k)) ∧ fMax μ [.int 2, .int (if (5 : Int) < k then 5 else (k : Int))] = some (.int j) := by
  by_cases h : (5 : Int) < k
  · refine ⟨5, by omega, rfl, ?_⟩
    rw [if_pos h]; rfl
  · refine ⟨if k ≤ 2 then 2 else k, by split <;> omega, rfl, ?_⟩
    rw [if_neg h]
    show some (D.int (if (k : Int) > 2 then (k : Int) else 2)) = _
    by_cases h2 : (k : Int) > 2
    · rw [if_pos h2, if_neg (by omega)]
    · rw [if_neg h2, if_pos (by omega)]; rfl
def lwI : List CS := match Law.d_law.body.getD 0 .pass with
  | .for _ _ _ [_, .for _ _ _ b] => b
  | _ => []
def lwO : List CS := match Law.d_law.body.getD 0 .pass with
  | .for _ _ _ b => b
  | _ => []
section
variable {P : String → Option FD} {n : Nat} {μ : Store}
theorem lw_a (K : K96 P) {w : Nat} (hw : IsW w μ) (sc i o3 : D) (o4 o5 o6 : Option D) : ∃ (s : List Nat) (μ' : Store), Clo s ∧ WL w μ μ' ∧
    ex (callD P (n + 10)) (lwI.getD 0 .pass) [some sc, some i, some (.ref w), some o3, o4, o5, o6] μ = .ok (.nx [some sc, some i, some (.ref w), some o3, some (.str s), o5, o6]) μ' := by
  obtain ⟨d, μ1, hd, k1, e1⟩ := one_lst (n := n + 8) (μ := μ) K.lDraw K.lOne hw (ds := [.int 4, .int 9, .int 12, .int 24]) (show 0 < 4 by decide) (show 4 ≤ cap by decide)
  obtain ⟨m, rfl, m2, m24⟩ : ∃ m : Nat, d = .int (m : Nat) ∧ 2 ≤ m ∧ m ≤ 24 := by
    simp only [List.mem_cons, List.not_mem_nil, or_false] at hd
    rcases hd with rfl | rfl | rfl | rfl
    · exact ⟨4, rfl, by decide, by decide⟩
    · exact ⟨9, rfl, by decide, by decide⟩
    · exact ⟨12, rfl, by decide, by decide⟩
    · exact ⟨24, rfl, by decide, by decide⟩
  obtain ⟨s, μ2, hc, k2, e2⟩ := lclo_ok (n := n + 5) (μ := μ1) K (k1.isW hw) (most := m) m2 m24
  have m4 : mkL false [D.int 4, .int 9, .int 12, .int 24] μ = .ok (.lst [D.int 4, .int 9, .int 12, .int 24]) μ := mkL_val _ _ (show 4 ≤ cap by decide)
  refine ⟨s, μ2, hc, k1.trans k2, ?_⟩
  simp -implicitDefEqProofs only [lwI, Law.d_law, List.getD_cons_zero, startE, exs_nil, exs_cons, ex_pass, ex_expr, ex_asg, ex_ifs, ex_for, ex_ret, ex_retN, ex_brk, ex_cont, ex_never, ev_var, ev_lit, ev_op1, ev_op2, ev_op3, ev_opN, ev_opM, ev_meth, ev_frz, ev_lst, ev_tup, ev_and, ev_or, ev_not, ev_ite, ev_chain, ev_call, ev_comp, evs_nil, evs_cons, Res.bind_assoc, evT, asgT_name, asgT_sub, asgT_tup, asgTs_nil, asgTs_cons, Res.bind_ok, Res.bind_exc, lift_some, noExc_ok, truth_bl, finish_rt, finish_nx, List.map_cons, List.map_nil, List.length_cons, List.length_nil, List.replicate_zero, List.replicate_succ, List.cons_append, List.nil_append, List.getElem?_cons_zero, List.getElem?_cons_succ, List.set_cons_zero, List.set_cons_succ, Bool.not_true, Bool.not_false, ↓reduceIte, Bool.false_eq_true, Nat.reduceAdd, Nat.reduceSub, Nat.reduceLT, Nat.reduceLeDiff, Nat.zero_add, id_eq, Nat.sub_self, Bool.true_and, Bool.and_true, Bool.false_and, Bool.and_false, Bool.true_or, Bool.or_true, Bool.false_or, Bool.or_false, m4, e1, e2]
theorem lw_b (K : K96 P) {w : Nat} (hw : IsW w μ) (sc i o3 : D) (o5 o6 : Option D) {s : List Nat} (h : Clo s) : ∃ (s' : List Nat) (μ' : Store), Clo s' ∧ WL w μ μ' ∧
    ex (callD P (n + 10)) (lwI.getD 1 .pass) [some sc, some i, some (.ref w), some o3, some (.str s), o5, o6] μ = .ok (.nx [some sc, some i, some (.ref w), some o3, some (.str s'), o5, o6]) μ' := by
  have hp := h.pos
  have hle := h.le
  have ln := fun μ => len_str μ s h.cap
  by_cases h13 : s.length < 13
  · have d1 : decide (((s.length : Nat) : Int) < 13) = true := decide_eq_true (by omega)
    obtain ⟨k, μ1, hk, k1, e1⟩ := draw_n (n := n + 9) (μ := μ) K.lDraw hw (many := 2) (by decide) (by decide)
    have e1 : callD P (n + 10) "_law_draw" [.ref w, .int 2] μ = .ok (.int (k : Nat)) μ1 := e1
    have eq := eq_intX μ1 (k : Nat) 0
    cases hb : (((k : Nat) : Int) == 0) with
    | false =>
      rw [hb] at eq
      exact ⟨s, μ1, h, k1, by simp -implicitDefEqProofs only [lwI, Law.d_law, List.getD_cons_zero, List.getD_cons_succ, startE, exs_nil, exs_cons, ex_pass, ex_expr, ex_asg, ex_ifs, ex_for, ex_ret, ex_retN, ex_brk, ex_cont, ex_never, ev_var, ev_lit, ev_op1, ev_op2, ev_op3, ev_opN, ev_opM, ev_meth, ev_frz, ev_lst, ev_tup, ev_and, ev_or, ev_not, ev_ite, ev_chain, ev_call, ev_comp, evs_nil, evs_cons, Res.bind_assoc, evT, asgT_name, asgT_sub, asgT_tup, asgTs_nil, asgTs_cons, Res.bind_ok, Res.bind_exc, lift_some, noExc_ok, truth_bl, finish_rt, finish_nx, List.map_cons, List.map_nil, List.length_cons, List.length_nil, List.replicate_zero, List.replicate_succ, List.cons_append, List.nil_append, List.getElem?_cons_zero, List.getElem?_cons_succ, List.set_cons_zero, List.set_cons_succ, Bool.not_true, Bool.not_false, ↓reduceIte, Bool.false_eq_true, Nat.reduceAdd, Nat.reduceSub, Nat.reduceLT, Nat.reduceLeDiff, Nat.zero_add, id_eq, Nat.sub_self, Bool.true_and, Bool.and_true, Bool.false_and, Bool.and_false, Bool.true_or, Bool.or_true, Bool.false_or, Bool.or_false, ln, lt_int, d1, e1, eq]⟩
    | true =>
      rw [hb] at eq
      have q2 : 2 ≤ 24 / s.length := (Nat.le_div_iff_mul_le hp).mpr (by omega)
      have q24 : 24 / s.length ≤ 24 := Nat.div_le_self _ _
      obtain ⟨j, μ2, hj, k2, e2⟩ := draw_n (n := n + 9) (μ := μ1) K.lDraw (k1.isW hw) (many := 24 / s.length - 1) (by omega) (by omega)
      have dv : fDiv μ1 (.int 24) (.int (s.length : Nat)) = some (.int ((24 / s.length : Nat) : Int)) := by
        rw [div_pos μ1 24 (j := ((s.length : Nat) : Int)) (by omega) (by
          have : ((s.length : Nat) : Int).natAbs ≤ 24 := by omega
          exact Nat.lt_of_le_of_lt (Nat.le_trans (Nat.log2_le_self _) this) (by decide))]
        push_cast; rfl
      have sb : ((24 / s.length : Nat) : Int) - 1 = ((24 / s.length - 1 : Nat) : Int) := by omega
      have a2 : (2 : Int) + (j : Nat) = ((2 + j : Nat) : Int) := by omega
      have mu : fMul μ2 (.str s) (.int ((2 + j : Nat) : Int)) = some (.str (List.replicate (2 + j) s).flatten) := mul_s μ2 s (2 + j) (by omega) (by omega)
      have hl : s.length * (2 + j) ≤ 24 := Nat.le_trans (Nat.mul_le_mul_left _ (by omega : 2 + j ≤ 24 / s.length)) (Nat.mul_div_le 24 s.length)
      have rc : Clo (List.replicate (2 + j) s).flatten := rep_clo h (t := 2 + j) (by omega) hl
      generalize (24 / s.length : Nat) = z at *
      generalize (List.replicate (2 + j) s).flatten = r at *
      exact ⟨r, μ2, rc, k1.trans k2, by simp -implicitDefEqProofs only [lwI, Law.d_law, List.getD_cons_zero, List.getD_cons_succ, startE, exs_nil, exs_cons, ex_pass, ex_expr, ex_asg, ex_ifs, ex_for, ex_ret, ex_retN, ex_brk, ex_cont, ex_never, ev_var, ev_lit, ev_op1, ev_op2, ev_op3, ev_opN, ev_opM, ev_meth, ev_frz, ev_lst, ev_tup, ev_and, ev_or, ev_not, ev_ite, ev_chain, ev_call, ev_comp, evs_nil, evs_cons, Res.bind_assoc, evT, asgT_name, asgT_sub, asgT_tup, asgTs_nil, asgTs_cons, Res.bind_ok, Res.bind_exc, lift_some, noExc_ok, truth_bl, finish_rt, finish_nx, List.map_cons, List.map_nil, List.length_cons, List.length_nil, List.replicate_zero, List.replicate_succ, List.cons_append, List.nil_append, List.getElem?_cons_zero, List.getElem?_cons_succ, List.set_cons_zero, List.set_cons_succ, Bool.not_true, Bool.not_false, ↓reduceIte, Bool.false_eq_true, Nat.reduceAdd, Nat.reduceSub, Nat.reduceLT, Nat.reduceLeDiff, Nat.zero_add, id_eq, Nat.sub_self, Bool.true_and, Bool.and_true, Bool.false_and, Bool.and_false, Bool.true_or, Bool.or_true, Bool.false_or, Bool.or_false, ln, lt_int, d1, e1, eq, dv, sub_int, sb, e2, add_int, a2, mu]⟩
  · have d1 : decide (((s.length : Nat) : Int) < 13) = false := decide_eq_false (by omega)
    exact ⟨s, μ, h, WL.refl hw, by simp -implicitDefEqProofs only [lwI, Law.d_law, List.getD_cons_zero, List.getD_cons_succ, startE, exs_nil, exs_cons, ex_pass, ex_expr, ex_asg, ex_ifs, ex_for, ex_ret, ex_retN, ex_brk, ex_cont, ex_never, ev_var, ev_lit, ev_op1, ev_op2, ev_op3, ev_opN, ev_opM, ev_meth, ev_frz, ev_lst, ev_tup, ev_and, ev_or, ev_not, ev_ite, ev_chain, ev_call, ev_comp, evs_nil, evs_cons, Res.bind_assoc, evT, asgT_name, asgT_sub, asgT_tup, asgTs_nil, asgTs_cons, Res.bind_ok, Res.bind_exc, lift_some, noExc_ok, truth_bl, finish_rt, finish_nx, List.map_cons, List.map_nil, List.length_cons, List.length_nil, List.replicate_zero, List.replicate_succ, List.cons_append, List.nil_append, List.getElem?_cons_zero, List.getElem?_cons_succ, List.set_cons_zero, List.set_cons_succ, Bool.not_true, Bool.not_false, ↓reduceIte, Bool.false_eq_true, Nat.reduceAdd, Nat.reduceSub, Nat.reduceLT, Nat.reduceLeDiff, Nat.zero_add, id_eq, Nat.sub_self, Bool.true_and, Bool.and_true, Bool.false_and, Bool.and_false, Bool.true_or, Bool.or_true, Bool.false_or, Bool.or_false, ln, lt_int, d1]⟩
theorem lw_c (K : K96 P) {w : Nat} (hw : IsW w μ) (sc i o3 : D) (o5 o6 : Option D) {s : List Nat} (h : Clo s) : ∃ (s' : List Nat) (o5' : Option D) (μ' : Store), Clo s' ∧ WL w μ μ' ∧
    ex (callD P (n + 10)) (lwI.getD 2 .pass) [some sc, some i, some (.ref w), some o3, some (.str s), o5, o6] μ = .ok (.nx [some sc, some i, some (.ref w), some o3, some (.str s'), o5', o6]) μ' := by
  have hp := h.pos
  have h2 := h.two
  have hle := h.le
  obtain ⟨k, μ1, hk, k1, e1⟩ := draw_n (n := n + 9) (μ := μ) K.lDraw hw (many := 6) (by decide) (by decide)
  have e1 : callD P (n + 10) "_law_draw" [.ref w, .int 6] μ = .ok (.int (k : Nat)) μ1 := e1
  have eq := eq_intX μ1 (k : Nat) 0
  cases hb : (((k : Nat) : Int) == 0) with
  | false =>
    rw [hb] at eq
    exact ⟨s, o5, μ1, h, k1, by simp -implicitDefEqProofs only [lwI, Law.d_law, List.getD_cons_zero, List.getD_cons_succ, startE, exs_nil, exs_cons, ex_pass, ex_expr, ex_asg, ex_ifs, ex_for, ex_ret, ex_retN, ex_brk, ex_cont, ex_never, ev_var, ev_lit, ev_op1, ev_op2, ev_op3, ev_opN, ev_opM, ev_meth, ev_frz, ev_lst, ev_tup, ev_and, ev_or, ev_not, ev_ite, ev_chain, ev_call, ev_comp, evs_nil, evs_cons, Res.bind_assoc, evT, asgT_name, asgT_sub, asgT_tup, asgTs_nil, asgTs_cons, Res.bind_ok, Res.bind_exc, lift_some, noExc_ok, truth_bl, finish_rt, finish_nx, List.map_cons, List.map_nil, List.length_cons, List.length_nil, List.replicate_zero, List.replicate_succ, List.cons_append, List.nil_append, List.getElem?_cons_zero, List.getElem?_cons_succ, List.set_cons_zero, List.set_cons_succ, Bool.not_true, Bool.not_false, ↓reduceIte, Bool.false_eq_true, Nat.reduceAdd, Nat.reduceSub, Nat.reduceLT, Nat.reduceLeDiff, Nat.zero_add, id_eq, Nat.sub_self, Bool.true_and, Bool.and_true, Bool.false_and, Bool.and_false, Bool.true_or, Bool.or_true, Bool.false_or, Bool.or_false, e1, eq]⟩
  | true =>
    rw [hb] at eq
    have tc := h.cap
    have x1 : fIx μ1 (.str s) (.int (-1)) = some (.str [at' s (s.length - 1)]) := ix_strE μ1 tc (j := 1) (by omega) (by omega)
    have l1 := h.ltr _ (at_mem (s := s) (i := s.length - 1) (by omega))
    let p : Nat → Bool := fun c => c != at' s (s.length - 1)
    have hpos : 0 < ([65, 66, 67].filter p).length := by
      obtain ⟨c, hc, n1, n2⟩ := abc_ex l1 l1
      exact List.length_pos_of_mem (List.mem_filter.mpr ⟨hc, bne_iff_ne.mpr n1⟩)
    have hlen : ([65, 66, 67].filter p).length ≤ 3 := List.length_filter_le _ _
    have hin : at' ([65, 66, 67].filter p) 0 ∈ [65, 66, 67].filter p := at_mem hpos
    have hcm : (([65, 66, 67].filter p).map fun c => D.str [c]).length ≤ cap := by rw [List.length_map]; exact Nat.le_trans hlen (by decide)
    have xc : fIx μ1 (.lst (([65, 66, 67].filter p).map fun c => D.str [c])) (.int 0) = some (.str [at' ([65, 66, 67].filter p) 0]) := by
      rw [ix_lst μ1 (by decide) (by rw [List.length_map]; omega)]
      refine congrArg some ?_
      cases hx : [65, 66, 67].filter p with
      | nil => rw [hx] at hpos; simp at hpos
      | cons a b => rfl
    generalize hc : at' ([65, 66, 67].filter p) 0 = c at *
    have hcl := abc_isL (List.mem_filter.mp hin).1
    have tl : (s.take (s.length - 1)).length = s.length - 1 := by rw [List.length_take]; omega
    have sl := sl_but1 (μ := μ1) s tc (by omega)
    have ad : fAdd μ1 (.str (s.take (s.length - 1))) (.str [c]) = some (.str (s.take (s.length - 1) ++ [c])) := add_str μ1 (cap100 (by rw [tl, List.length_singleton]; omega))
    have fl : (s.take (s.length - 1) ++ [c]).length = s.length := by rw [List.length_append, tl, List.length_singleton]; omega
    have li := lic_gen (n := n + 8) (μ := μ1) K (s := s.take (s.length - 1) ++ [c]) (fun x hx => by
      rcases List.mem_append.mp hx with z | z
      · exact h.ltr x (List.mem_of_mem_take z)
      · rw [List.mem_singleton.mp z]; exact hcl) (by omega) (by omega)
    have h3 : 3 ≤ cap := by decide
    have key : ex (callD P (n + 10)) (lwI.getD 2 .pass) [some sc, some i, some (.ref w), some o3, some (.str s), o5, o6] μ = .ok (.nx [some sc, some i, some (.ref w), some o3, some (.str (if cloB (s.take (s.length - 1) ++ [c]) = true then s.take (s.length - 1) ++ [c] else s)), some (.str (s.take (s.length - 1) ++ [c])), o6]) μ1 := by
      simp -implicitDefEqProofs only [lwI, Law.d_law, List.getD_cons_zero, List.getD_cons_succ, startE, exs_nil, exs_cons, ex_pass, ex_expr, ex_asg, ex_ifs, ex_for, ex_ret, ex_retN, ex_brk, ex_cont, ex_never, ev_var, ev_lit, ev_op1, ev_op2, ev_op3, ev_opN, ev_opM, ev_meth, ev_frz, ev_lst, ev_tup, ev_and, ev_or, ev_not, ev_ite, ev_chain, ev_call, ev_comp, evs_nil, evs_cons, Res.bind_assoc, evT, asgT_name, asgT_sub, asgT_tup, asgTs_nil, asgTs_cons, Res.bind_ok, Res.bind_exc, lift_some, noExc_ok, truth_bl, finish_rt, finish_nx, List.map_cons, List.map_nil, List.length_cons, List.length_nil, List.replicate_zero, List.replicate_succ, List.cons_append, List.nil_append, List.getElem?_cons_zero, List.getElem?_cons_succ, List.set_cons_zero, List.set_cons_succ, Bool.not_true, Bool.not_false, ↓reduceIte, Bool.false_eq_true, Nat.reduceAdd, Nat.reduceSub, Nat.reduceLT, Nat.reduceLeDiff, Nat.zero_add, id_eq, Nat.sub_self, Bool.true_and, Bool.and_true, Bool.false_and, Bool.and_false, Bool.true_or, Bool.or_true, Bool.false_or, Bool.or_false, e1, eq, neg_int, fI_int, sl, val_str, h3, wipeE]
      rw [show [D.str [65], D.str [66], D.str [67]] = [65, 66, 67].map (fun c => D.str [c]) from rfl]
      rw [compLoop_filter (fun c => D.str [c]) (fun c => D.str [c]) p]
      rotate_left
      · intro d hd
        have dl := isL_lt (abc_isL hd)
        have ne := ne_sign μ1 d (at' s (s.length - 1)) dl (isL_lt l1)
        cases hpd : (d != at' s (s.length - 1)) <;> (rw [hpd] at ne; simp -implicitDefEqProofs only [startE, exs_nil, exs_cons, ex_pass, ex_expr, ex_asg, ex_ifs, ex_for, ex_ret, ex_retN, ex_brk, ex_cont, ex_never, ev_var, ev_lit, ev_op1, ev_op2, ev_op3, ev_opN, ev_opM, ev_meth, ev_frz, ev_lst, ev_tup, ev_and, ev_or, ev_not, ev_ite, ev_chain, ev_call, ev_comp, evs_nil, evs_cons, Res.bind_assoc, evT, asgT_name, asgT_sub, asgT_tup, asgTs_nil, asgTs_cons, Res.bind_ok, Res.bind_exc, lift_some, noExc_ok, truth_bl, finish_rt, finish_nx, List.map_cons, List.map_nil, List.length_cons, List.length_nil, List.replicate_zero, List.replicate_succ, List.cons_append, List.nil_append, List.getElem?_cons_zero, List.getElem?_cons_succ, List.set_cons_zero, List.set_cons_succ, Bool.not_true, Bool.not_false, ↓reduceIte, Bool.false_eq_true, Nat.reduceAdd, Nat.reduceSub, Nat.reduceLT, Nat.reduceLeDiff, Nat.zero_add, id_eq, Nat.sub_self, Bool.true_and, Bool.and_true, Bool.false_and, Bool.and_false, Bool.true_or, Bool.or_true, Bool.false_or, Bool.or_false, compStep, forStep, bindT_name, bindT_tup, bindT_str, bindTs_nil, bindTs_cons, wipeE, List.length_set, neg_int, x1, ne, p, hpd])
      simp -implicitDefEqProofs only [startE, exs_nil, exs_cons, ex_pass, ex_expr, ex_asg, ex_ifs, ex_for, ex_ret, ex_retN, ex_brk, ex_cont, ex_never, ev_var, ev_lit, ev_op1, ev_op2, ev_op3, ev_opN, ev_opM, ev_meth, ev_frz, ev_lst, ev_tup, ev_and, ev_or, ev_not, ev_ite, ev_chain, ev_call, ev_comp, evs_nil, evs_cons, Res.bind_assoc, evT, asgT_name, asgT_sub, asgT_tup, asgTs_nil, asgTs_cons, Res.bind_ok, Res.bind_exc, lift_some, noExc_ok, truth_bl, finish_rt, finish_nx, List.map_cons, List.map_nil, List.length_cons, List.length_nil, List.replicate_zero, List.replicate_succ, List.cons_append, List.nil_append, List.getElem?_cons_zero, List.getElem?_cons_succ, List.set_cons_zero, List.set_cons_succ, Bool.not_true, Bool.not_false, ↓reduceIte, Bool.false_eq_true, Nat.reduceAdd, Nat.reduceSub, Nat.reduceLT, Nat.reduceLeDiff, Nat.zero_add, id_eq, Nat.sub_self, Bool.true_and, Bool.and_true, Bool.false_and, Bool.and_false, Bool.true_or, Bool.or_true, Bool.false_or, Bool.or_false, mkL_val _ _ hcm, xc, ad]
      generalize (s.take (s.length - 1) ++ [c]) = far at *
      cases hcb : cloB far with
      | true => rw [hcb] at li; simp -implicitDefEqProofs only [startE, exs_nil, exs_cons, ex_pass, ex_expr, ex_asg, ex_ifs, ex_for, ex_ret, ex_retN, ex_brk, ex_cont, ex_never, ev_var, ev_lit, ev_op1, ev_op2, ev_op3, ev_opN, ev_opM, ev_meth, ev_frz, ev_lst, ev_tup, ev_and, ev_or, ev_not, ev_ite, ev_chain, ev_call, ev_comp, evs_nil, evs_cons, Res.bind_assoc, evT, asgT_name, asgT_sub, asgT_tup, asgTs_nil, asgTs_cons, Res.bind_ok, Res.bind_exc, lift_some, noExc_ok, truth_bl, finish_rt, finish_nx, List.map_cons, List.map_nil, List.length_cons, List.length_nil, List.replicate_zero, List.replicate_succ, List.cons_append, List.nil_append, List.getElem?_cons_zero, List.getElem?_cons_succ, List.set_cons_zero, List.set_cons_succ, Bool.not_true, Bool.not_false, ↓reduceIte, Bool.false_eq_true, Nat.reduceAdd, Nat.reduceSub, Nat.reduceLT, Nat.reduceLeDiff, Nat.zero_add, id_eq, Nat.sub_self, Bool.true_and, Bool.and_true, Bool.false_and, Bool.and_false, Bool.true_or, Bool.or_true, Bool.false_or, Bool.or_false, li]
      | false => rw [hcb] at li; simp -implicitDefEqProofs only [startE, exs_nil, exs_cons, ex_pass, ex_expr, ex_asg, ex_ifs, ex_for, ex_ret, ex_retN, ex_brk, ex_cont, ex_never, ev_var, ev_lit, ev_op1, ev_op2, ev_op3, ev_opN, ev_opM, ev_meth, ev_frz, ev_lst, ev_tup, ev_and, ev_or, ev_not, ev_ite, ev_chain, ev_call, ev_comp, evs_nil, evs_cons, Res.bind_assoc, evT, asgT_name, asgT_sub, asgT_tup, asgTs_nil, asgTs_cons, Res.bind_ok, Res.bind_exc, lift_some, noExc_ok, truth_bl, finish_rt, finish_nx, List.map_cons, List.map_nil, List.length_cons, List.length_nil, List.replicate_zero, List.replicate_succ, List.cons_append, List.nil_append, List.getElem?_cons_zero, List.getElem?_cons_succ, List.set_cons_zero, List.set_cons_succ, Bool.not_true, Bool.not_false, ↓reduceIte, Bool.false_eq_true, Nat.reduceAdd, Nat.reduceSub, Nat.reduceLT, Nat.reduceLeDiff, Nat.zero_add, id_eq, Nat.sub_self, Bool.true_and, Bool.and_true, Bool.false_and, Bool.and_false, Bool.true_or, Bool.or_true, Bool.false_or, Bool.or_false, li]
    refine ⟨_, _, μ1, ?_, k1, key⟩
    split
    · exact cloB_iff (by assumption)
    · exact h
theorem lw_turn (K : K96 P) {w : Nat} (hw : IsW w μ) (sc i : D) (o3 o4 o5 o6 : Option D) (d : D) : ∃ (o4' o5' : Option D) (μ' : Store), WL w μ μ' ∧
    forStep (callD P (n + 10)) (.name 3) lwI [some sc, some i, some (.ref w), o3, o4, o5, o6] d μ = .ok (.nx [some sc, some i, some (.ref w), some d, o4', o5', o6]) μ' := by
  obtain ⟨s1, μ1, g1, k1, e1⟩ := lw_a (n := n) (μ := μ) K hw sc i d o4 o5 o6
  have hw1 := k1.isW hw
  obtain ⟨s2, μ2, g2, k2, e2⟩ := lw_b (n := n) (μ := μ1) K hw1 sc i d o5 o6 g1
  have hw2 := k2.isW hw1
  obtain ⟨s3, o5', μ3, g3, k3, e3⟩ := lw_c (n := n) (μ := μ2) K hw2 sc i d o5 o6 g2
  have e4 := closed_right_ok (n := n) (μ := μ3) K (w := w) g3
  refine ⟨some (.str s3), o5', μ3, (k1.trans k2).trans k3, ?_⟩
  have sp : lwI = [lwI.getD 0 .pass, lwI.getD 1 .pass, lwI.getD 2 .pass, lwI.getD 3 .pass] := rfl
  have f4 : ex (callD P (n + 10)) (lwI.getD 3 .pass) [some sc, some i, some (.ref w), some d, some (.str s3), o5', o6] μ3 = .ok (.nx [some sc, some i, some (.ref w), some d, some (.str s3), o5', o6]) μ3 := by
    simp -implicitDefEqProofs only [lwI, Law.d_law, List.getD_cons_zero, List.getD_cons_succ, startE, exs_nil, exs_cons, ex_pass, ex_expr, ex_asg, ex_ifs, ex_for, ex_ret, ex_retN, ex_brk, ex_cont, ex_never, ev_var, ev_lit, ev_op1, ev_op2, ev_op3, ev_opN, ev_opM, ev_meth, ev_frz, ev_lst, ev_tup, ev_and, ev_or, ev_not, ev_ite, ev_chain, ev_call, ev_comp, evs_nil, evs_cons, Res.bind_assoc, evT, asgT_name, asgT_sub, asgT_tup, asgTs_nil, asgTs_cons, Res.bind_ok, Res.bind_exc, lift_some, noExc_ok, truth_bl, finish_rt, finish_nx, List.map_cons, List.map_nil, List.length_cons, List.length_nil, List.replicate_zero, List.replicate_succ, List.cons_append, List.nil_append, List.getElem?_cons_zero, List.getElem?_cons_succ, List.set_cons_zero, List.set_cons_succ, Bool.not_true, Bool.not_false, ↓reduceIte, Bool.false_eq_true, Nat.reduceAdd, Nat.reduceSub, Nat.reduceLT, Nat.reduceLeDiff, Nat.zero_add, id_eq, Nat.sub_self, Bool.true_and, Bool.and_true, Bool.false_and, Bool.and_false, Bool.true_or, Bool.or_true, Bool.false_or, Bool.or_false, e4]
  rw [sp]
  simp only [forStep, bindT_name, List.length_cons, List.length_nil, Nat.reduceAdd, Nat.reduceLT, ↓reduceIte, List.set_cons_succ, List.set_cons_zero]
  rw [exs_cons, e1, bind_ok]
  dsimp only
  rw [exs_cons, e2, bind_ok]
  dsimp only
  rw [exs_cons, e3, bind_ok]
  dsimp only
  rw [exs_cons, f4, bind_ok]
  dsimp only
  rw [exs_nil]
theorem lw_round (K : K96 P) (ns : List Int) (hns : ns.length ≤ 63) (i : Nat) (o1 o2 o3 o4 o5 o6 : Option D) : ∃ (o2' o3' o4' o5' o6' : Option D) (μ' : Store),
    forStep (callD P (n + 10)) (.name 1) lwO [some (.scr ns), o1, o2, o3, o4, o5, o6] (.int (i : Nat)) μ = .ok (.nx [some (.scr ns), some (.int (i : Nat)), o2', o3', o4', o5', o6']) μ' := by
  obtain ⟨a, b, c, ew⟩ := bag_ok (n := n + 9) (μ := μ) K.lBag ns i hns
  have hw : IsW μ.length (μ ++ [.lst [.int a, .int b, .int c]]) := ⟨a, b, c, get_mid μ _ []⟩
  generalize μ ++ [MO.lst [.int a, .int b, .int c]] = μ1 at *
  generalize μ.length = w at *
  have r := rng1 μ1 (n := 10) (by decide)
  have r : fRng1 μ1 [.int 10] = some ((List.range 10).map fun k => .int (k : Nat)) := r
  obtain ⟨ρ', μ2, e2, o3', o4', o5', o6', rfl, kw⟩ := forLoop_inv (step := forStep (callD P (n + 10)) (.name 3) lwI) (fun _ ρ μ' => ∃ (o3 o4 o5 o6 : Option D), ρ = [some (.scr ns), some (.int (i : Nat)), some (.ref w), o3, o4, o5, o6] ∧ WL w μ1 μ')
    ((List.range 10).map fun k => .int (k : Nat)) 0 [some (.scr ns), some (.int (i : Nat)), some (.ref w), o3, o4, o5, o6] μ1 ⟨o3, o4, o5, o6, rfl, WL.refl hw⟩ (by
      rintro j d ρ μ' hj ⟨o3, o4, o5, o6, rfl, kw⟩
      obtain ⟨o4', o5', μ3, k3, e3⟩ := lw_turn (n := n) (μ := μ') K (kw.isW hw) (.scr ns) (.int (i : Nat)) o3 o4 o5 o6 d
      exact ⟨_, μ3, e3, some d, o4', o5', o6, rfl, kw.trans k3⟩)
  refine ⟨some (.ref w), o3', o4', o5', o6', μ2, ?_⟩
  have sp : lwO = [.asg (.name 2) (.call "_law_bag" id [.var 0, .var 1]), .for (.name 3) fRng1 [.lit (.int 10)] lwI] := rfl
  rw [sp]
  generalize (List.range 10).map (fun k => D.int (k : Nat)) = rr at *
  simp only [forStep, bindT_name, List.length_cons, List.length_nil, Nat.reduceAdd, Nat.reduceLT, ↓reduceIte, List.set_cons_succ, List.set_cons_zero]
  simp -implicitDefEqProofs only [startE, exs_nil, exs_cons, ex_pass, ex_expr, ex_asg, ex_ifs, ex_for, ex_ret, ex_retN, ex_brk, ex_cont, ex_never, ev_var, ev_lit, ev_op1, ev_op2, ev_op3, ev_opN, ev_opM, ev_meth, ev_frz, ev_lst, ev_tup, ev_and, ev_or, ev_not, ev_ite, ev_chain, ev_call, ev_comp, evs_nil, evs_cons, Res.bind_assoc, evT, asgT_name, asgT_sub, asgT_tup, asgTs_nil, asgTs_cons, Res.bind_ok, Res.bind_exc, lift_some, noExc_ok, truth_bl, finish_rt, finish_nx, List.map_cons, List.map_nil, List.length_cons, List.length_nil, List.replicate_zero, List.replicate_succ, List.cons_append, List.nil_append, List.getElem?_cons_zero, List.getElem?_cons_succ, List.set_cons_zero, List.set_cons_succ, Bool.not_true, Bool.not_false, ↓reduceIte, Bool.false_eq_true, Nat.reduceAdd, Nat.reduceSub, Nat.reduceLT, Nat.reduceLeDiff, Nat.zero_add, id_eq, Nat.sub_self, Bool.true_and, Bool.and_true, Bool.false_and, Bool.and_false, Bool.true_or, Bool.or_true, Bool.false_or, Bool.or_false, ew, r]
  have e2 : forLoop (forStep (callD P (n + 10)) (.name 3) lwI) rr [some (.scr ns), some (.int (i : Nat)), some (.ref w), o3, o4, o5, o6] μ1 = _ := e2
  rw [e2, bind_ok]
theorem law_ok (K : K96 P) (ns : List Int) (hns : ns.length ≤ 63) : ∃ μ', callD P (n + 11) "law" [.scr ns] μ = .ok (.bl true) μ' := by
  obtain ⟨j, hj, mn, mx⟩ := rng_max5 μ ns.length
  rw [callD_eq K.law rfl]
  have r1 : fRng1 μ [.int j] = some ((List.range j).map fun k => .int (k : Nat)) := rng1 μ (by omega)
  obtain ⟨ρ', μ2, e2, o1, o2, o3, o4, o5, o6, rfl⟩ := forLoop_inv (step := forStep (callD P (n + 10)) (.name 1) lwO) (fun _ ρ _ => ∃ (o1 o2 o3 o4 o5 o6 : Option D), ρ = [some (.scr ns), o1, o2, o3, o4, o5, o6])
    ((List.range j).map fun k => .int (k : Nat)) 0 [some (.scr ns), none, none, none, none, none, none] μ ⟨none, none, none, none, none, none, rfl⟩ (by
      rintro k d ρ μ' hk ⟨o1, o2, o3, o4, o5, o6, rfl⟩
      obtain ⟨_, rfl⟩ := get_rng0 hk
      obtain ⟨o2', o3', o4', o5', o6', μ3, e3⟩ := lw_round (n := n) (μ := μ') K ns hns k o1 o2 o3 o4 o5 o6
      exact ⟨_, μ3, e3, _, o2', o3', o4', o5', o6', rfl⟩)
  have sp : Law.d_law.body = [.for (.name 1) fRng1 [.opN fMax [.lit (.int 2), .opN fMinD [.opN fLen [.var 0], .lit (.int 5)]]] lwO, .ret (.lit (.bl true))] := rfl
  rw [sp, show startE Law.d_law [.scr ns] = [some (.scr ns), none, none, none, none, none, none] from rfl]
  simp -implicitDefEqProofs only [startE, exs_nil, exs_cons, ex_pass, ex_expr, ex_asg, ex_ifs, ex_for, ex_ret, ex_retN, ex_brk, ex_cont, ex_never, ev_var, ev_lit, ev_op1, ev_op2, ev_op3, ev_opN, ev_opM, ev_meth, ev_frz, ev_lst, ev_tup, ev_and, ev_or, ev_not, ev_ite, ev_chain, ev_call, ev_comp, evs_nil, evs_cons, Res.bind_assoc, evT, asgT_name, asgT_sub, asgT_tup, asgTs_nil, asgTs_cons, Res.bind_ok, Res.bind_exc, lift_some, noExc_ok, truth_bl, finish_rt, finish_nx, List.map_cons, List.map_nil, List.length_cons, List.length_nil, List.replicate_zero, List.replicate_succ, List.cons_append, List.nil_append, List.getElem?_cons_zero, List.getElem?_cons_succ, List.set_cons_zero, List.set_cons_succ, Bool.not_true, Bool.not_false, ↓reduceIte, Bool.false_eq_true, Nat.reduceAdd, Nat.reduceSub, Nat.reduceLT, Nat.reduceLeDiff, Nat.zero_add, id_eq, Nat.sub_self, Bool.true_and, Bool.and_true, Bool.false_and, Bool.and_false, Bool.true_or, Bool.or_true, Bool.false_or, Bool.or_false, len_scr, mn, mx, r1, e2]
  exact ⟨_, rfl⟩
end
end Ev
namespace Law
open PySem PySem.Spec L2 Ev Res
def top (i : Nat) : Stmt := PySem.Challenge.pw_layerballs_k96_whole_own_claims.main.body.getD i (.Pass ⟨0, 0, 0, 0⟩)
abbrev s_is_whole : Stmt := top 3
abbrev s_is_between : Stmt := top 4
abbrev s_is_tuple_of : Stmt := top 5
abbrev s_is_text_of : Stmt := top 7
abbrev s_lowest : Stmt := top 8
abbrev s_is_layer_number : Stmt := top 15
abbrev s_is_stacked : Stmt := top 16
abbrev s_is_closed_one : Stmt := top 17
abbrev s_number_of : Stmt := top 19
abbrev s_further : Stmt := top 20
abbrev s_step_between : Stmt := top 23
abbrev s_steps_by : Stmt := top 24
abbrev s_round_steps_by : Stmt := top 25
abbrev s_periods_of : Stmt := top 31
abbrev s_is_own_by : Stmt := top 32
abbrev s_check_closed : Stmt := top 44
abbrev s_marks_between : Stmt := top 69
abbrev s_round_marks_by : Stmt := top 70
abbrev s_h_count_of : Stmt := top 71
abbrev s_tells_closed : Stmt := top 77
abbrev s_is_claim : Stmt := top 83
abbrev s_certify_own : Stmt := top 85
abbrev s_is_nothing : Stmt := top 87
abbrev s_shows_own : Stmt := top 99
abbrev s_shows_again : Stmt := top 100
abbrev s_accepts : Stmt := top 104
abbrev s_round_marks : Stmt := top 106
abbrev s_h_count : Stmt := top 107
abbrev s_share_by : Stmt := top 109
abbrev s_own_part_by : Stmt := top 110
abbrev s_share : Stmt := top 112
abbrev s_own_part : Stmt := top 113
abbrev s_is_closed : Stmt := top 115
abbrev s_is_own : Stmt := top 116
abbrev s__law_bag : Stmt := top 118
abbrev s__law_draw : Stmt := top 119
abbrev s__law_one : Stmt := top 120
abbrev s__law_same : Stmt := top 121
abbrev s__law_is_whole : Stmt := top 122
abbrev s__law_is_stacking : Stmt := top 123
abbrev s__law_is_closed : Stmt := top 124
abbrev s__law_further : Stmt := top 125
abbrev s__law_by : Stmt := top 126
abbrev s__law_marks : Stmt := top 127
abbrev s__law_stacking : Stmt := top 128
abbrev s__law_closed : Stmt := top 129
abbrev s__law_closed_right : Stmt := top 130
abbrev s_law : Stmt := top 131
def gc (K : PySem.W.Frag) : GC := ⟨K, glob K, none⟩
structure Txt (K : PySem.W.Frag) (mg : Str → Option Value) (fa : Nat → Addr) (fdd : Nat → FuncData) (w : World) : Prop where
  d_is_whole : Df K mg "is_whole" s_is_whole ["value"] (fa 0) (fdd 0)
  d_is_between : Df K mg "is_between" s_is_between ["value", "low", "high"] (fa 1) (fdd 1)
  d_is_tuple_of : Df K mg "is_tuple_of" s_is_tuple_of ["value", "many"] (fa 2) (fdd 2)
  d_is_text_of : Df K mg "is_text_of" s_is_text_of ["value", "signs"] (fa 3) (fdd 3)
  d_lowest : Df K mg "lowest" s_lowest ["top", "low"] (fa 4) (fdd 4)
  d_is_layer_number : Df K mg "is_layer_number" s_is_layer_number ["value"] (fa 5) (fdd 5)
  d_is_stacked : Df K mg "is_stacked" s_is_stacked ["value"] (fa 6) (fdd 6)
  d_is_closed_one : Df K mg "is_closed_one" s_is_closed_one ["value"] (fa 7) (fdd 7)
  d_number_of : Df K mg "number_of" s_number_of ["letter"] (fa 8) (fdd 8)
  d_further : Df K mg "further" s_further ["letter", "number"] (fa 9) (fdd 9)
  d_step_between : Df K mg "step_between" s_step_between ["letter", "other_letter"] (fa 10) (fdd 10)
  d_steps_by : Df K mg "steps_by" s_steps_by ["stacking"] (fa 11) (fdd 11)
  d_round_steps_by : Df K mg "round_steps_by" s_round_steps_by ["closed"] (fa 12) (fdd 12)
  d_periods_of : Df K mg "periods_of" s_periods_of ["closed"] (fa 13) (fdd 13)
  d_is_own_by : Df K mg "is_own_by" s_is_own_by ["closed"] (fa 14) (fdd 14)
  d_check_closed : Df K mg "check_closed" s_check_closed ["closed"] (fa 15) (fdd 15)
  d_marks_between : Df K mg "marks_between" s_marks_between ["steps"] (fa 16) (fdd 16)
  d_round_marks_by : Df K mg "round_marks_by" s_round_marks_by ["closed"] (fa 17) (fdd 17)
  d_h_count_of : Df K mg "h_count_of" s_h_count_of ["closed"] (fa 18) (fdd 18)
  d_tells_closed : Df K mg "tells_closed" s_tells_closed ["parts"] (fa 19) (fdd 19)
  d_is_claim : Df K mg "is_claim" s_is_claim ["value"] (fa 20) (fdd 20)
  d_certify_own : Df K mg "certify_own" s_certify_own ["closed"] (fa 21) (fdd 21)
  d_is_nothing : Df K mg "is_nothing" s_is_nothing ["paper"] (fa 22) (fdd 22)
  d_shows_own : Df K mg "shows_own" s_shows_own ["closed", "paper"] (fa 23) (fdd 23)
  d_shows_again : Df K mg "shows_again" s_shows_again ["closed", "paper"] (fa 24) (fdd 24)
  d_accepts : Df K mg "accepts" s_accepts ["claim", "paper"] (fa 25) (fdd 25)
  d_round_marks : Df K mg "round_marks" s_round_marks ["closed"] (fa 26) (fdd 26)
  d_h_count : Df K mg "h_count" s_h_count ["closed"] (fa 27) (fdd 27)
  d_share_by : Df K mg "share_by" s_share_by ["closed"] (fa 28) (fdd 28)
  d_own_part_by : Df K mg "own_part_by" s_own_part_by ["closed"] (fa 29) (fdd 29)
  d_share : Df K mg "share" s_share ["closed"] (fa 30) (fdd 30)
  d_own_part : Df K mg "own_part" s_own_part ["closed"] (fa 31) (fdd 31)
  d_is_closed : Df K mg "is_closed" s_is_closed ["value"] (fa 32) (fdd 32)
  d_is_own : Df K mg "is_own" s_is_own ["closed"] (fa 33) (fdd 33)
  d__law_bag : Df K mg "_law_bag" s__law_bag ["script", "at"] (fa 34) (fdd 34)
  d__law_draw : Df K mg "_law_draw" s__law_draw ["bag", "many"] (fa 35) (fdd 35)
  d__law_one : Df K mg "_law_one" s__law_one ["bag", "some"] (fa 36) (fdd 36)
  d__law_same : Df K mg "_law_same" s__law_same ["told", "due"] (fa 37) (fdd 37)
  d__law_is_whole : Df K mg "_law_is_whole" s__law_is_whole ["value"] (fa 38) (fdd 38)
  d__law_is_stacking : Df K mg "_law_is_stacking" s__law_is_stacking ["value"] (fa 39) (fdd 39)
  d__law_is_closed : Df K mg "_law_is_closed" s__law_is_closed ["value"] (fa 40) (fdd 40)
  d__law_further : Df K mg "_law_further" s__law_further ["letter", "k"] (fa 41) (fdd 41)
  d__law_by : Df K mg "_law_by" s__law_by ["letter", "steps"] (fa 42) (fdd 42)
  d__law_marks : Df K mg "_law_marks" s__law_marks ["text"] (fa 43) (fdd 43)
  d__law_stacking : Df K mg "_law_stacking" s__law_stacking ["bag", "low", "most"] (fa 44) (fdd 44)
  d__law_closed : Df K mg "_law_closed" s__law_closed ["bag", "low", "most"] (fa 45) (fdd 45)
  d__law_closed_right : Df K mg "_law_closed_right" s__law_closed_right ["bag", "text"] (fa 46) (fdd 46)
  d_law : Df K mg "law" s_law ["script"] (fa 47) (fdd 47)
  n_abs : mg "abs" = none
  n_all : mg "all" = none
  n_any : mg "any" = none
  n_bool : mg "bool" = none
  n_divmod : mg "divmod" = none
  n_enumerate : mg "enumerate" = none
  n_int : mg "int" = none
  n_isinstance : mg "isinstance" = none
  n_len : mg "len" = none
  n_list : mg "list" = none
  n_max : mg "max" = none
  n_min : mg "min" = none
  n_range : mg "range" = none
  n_str : mg "str" = none
  n_tuple : mg "tuple" = none
  n_zip : mg "zip" = none
  v_C : ∃ u : Tok, mg "C" = some (.str "c" u)
  v_DOWN : ∃ u : Tok, mg "DOWN" = some (.str "-" u)
  v_H : ∃ u : Tok, mg "H" = some (.str "h" u)
  v_LETTERS : ∃ u : Tok, mg "LETTERS" = some (.str "ABC" u)
  v_MOST_LAYERS : ∃ u : Tok, mg "MOST_LAYERS" = some (.int 24 u)
  v_UP : ∃ u : Tok, mg "UP" = some (.str "+" u)
  m_gcd : mg "gcd" = some (.builtin "math.gcd")
  g_shows_again : (gc K).FA "shows_again" = some (fa 24)
  g_shows_own : (gc K).FA "shows_own" = some (fa 23)
  g_tells_closed : (gc K).FA "tells_closed" = some (fa 19)
  t_FORMS : TabW (gc K) K w mg "FORMS" [[111, 119, 110], [97, 103, 97, 105, 110]] [[111, 119, 110, 115]] [([111, 119, 110], .tup [.int 1, .gl "tells_closed"]), ([97, 103, 97, 105, 110], .tup [.int 1, .gl "tells_closed"])]
  t_OF_ONE : TabW (gc K) K w mg "OF_ONE" [[111, 119, 110], [97, 103, 97, 105, 110]] [[111, 119, 110, 115]] [([111, 119, 110], .gl "shows_own"), ([97, 103, 97, 105, 110], .gl "shows_again")]
structure All (P : Program) (w : World) (K : PySem.W.Frag) (mg : Str → Option Value) (base : Heap) (fa : Nat → Addr) (fdd : Nat → FuncData) (n : Nat) : Prop where
  c_is_whole : FnOk P w K mg base (L2.CX P w) (n + 2) (fa 0) (fdd 0) ["value"] (spF (gc K) 1 (callD prg n "is_whole"))
  c_is_between : FnOk P w K mg base (L2.CX P w) (n + 2) (fa 1) (fdd 1) ["value", "low", "high"] (spF (gc K) 3 (callD prg n "is_between"))
  c_is_tuple_of : FnOk P w K mg base (L2.CX P w) (n + 2) (fa 2) (fdd 2) ["value", "many"] (spF (gc K) 2 (callD prg n "is_tuple_of"))
  c_is_text_of : FnOk P w K mg base (L2.CX P w) (n + 2) (fa 3) (fdd 3) ["value", "signs"] (spF (gc K) 2 (callD prg n "is_text_of"))
  c_lowest : FnOk P w K mg base (L2.CX P w) (n + 2) (fa 4) (fdd 4) ["top", "low"] (spF (gc K) 2 (callD prg n "lowest"))
  c_is_layer_number : FnOk P w K mg base (L2.CX P w) (n + 2) (fa 5) (fdd 5) ["value"] (spF (gc K) 1 (callD prg n "is_layer_number"))
  c_is_stacked : FnOk P w K mg base (L2.CX P w) (n + 2) (fa 6) (fdd 6) ["value"] (spF (gc K) 1 (callD prg n "is_stacked"))
  c_is_closed_one : FnOk P w K mg base (L2.CX P w) (n + 2) (fa 7) (fdd 7) ["value"] (spF (gc K) 1 (callD prg n "is_closed_one"))
  c_number_of : FnOk P w K mg base (L2.CX P w) (n + 2) (fa 8) (fdd 8) ["letter"] (spF (gc K) 1 (callD prg n "number_of"))
  c_further : FnOk P w K mg base (L2.CX P w) (n + 2) (fa 9) (fdd 9) ["letter", "number"] (spF (gc K) 2 (callD prg n "further"))
  c_step_between : FnOk P w K mg base (L2.CX P w) (n + 2) (fa 10) (fdd 10) ["letter", "other_letter"] (spF (gc K) 2 (callD prg n "step_between"))
  c_steps_by : FnOk P w K mg base (L2.CX P w) (n + 2) (fa 11) (fdd 11) ["stacking"] (spF (gc K) 1 (callD prg n "steps_by"))
  c_round_steps_by : FnOk P w K mg base (L2.CX P w) (n + 2) (fa 12) (fdd 12) ["closed"] (spF (gc K) 1 (callD prg n "round_steps_by"))
  c_periods_of : FnOk P w K mg base (L2.CX P w) (n + 2) (fa 13) (fdd 13) ["closed"] (spF (gc K) 1 (callD prg n "periods_of"))
  c_is_own_by : FnOk P w K mg base (L2.CX P w) (n + 2) (fa 14) (fdd 14) ["closed"] (spF (gc K) 1 (callD prg n "is_own_by"))
  c_check_closed : FnOk P w K mg base (L2.CX P w) (n + 2) (fa 15) (fdd 15) ["closed"] (spF (gc K) 1 (callD prg n "check_closed"))
  c_marks_between : FnOk P w K mg base (L2.CX P w) (n + 2) (fa 16) (fdd 16) ["steps"] (spF (gc K) 1 (callD prg n "marks_between"))
  c_round_marks_by : FnOk P w K mg base (L2.CX P w) (n + 2) (fa 17) (fdd 17) ["closed"] (spF (gc K) 1 (callD prg n "round_marks_by"))
  c_h_count_of : FnOk P w K mg base (L2.CX P w) (n + 2) (fa 18) (fdd 18) ["closed"] (spF (gc K) 1 (callD prg n "h_count_of"))
  c_tells_closed : FnOk P w K mg base (L2.CX P w) (n + 2) (fa 19) (fdd 19) ["parts"] (spF (gc K) 1 (callD prg n "tells_closed"))
  c_is_claim : FnOk P w K mg base (L2.CX P w) (n + 2) (fa 20) (fdd 20) ["value"] (spF (gc K) 1 (callD prg n "is_claim"))
  c_certify_own : FnOk P w K mg base (L2.CX P w) (n + 2) (fa 21) (fdd 21) ["closed"] (spF (gc K) 1 (callD prg n "certify_own"))
  c_is_nothing : FnOk P w K mg base (L2.CX P w) (n + 2) (fa 22) (fdd 22) ["paper"] (spF (gc K) 1 (callD prg n "is_nothing"))
  c_shows_own : FnOk P w K mg base (L2.CX P w) (n + 2) (fa 23) (fdd 23) ["closed", "paper"] (spF (gc K) 2 (callD prg n "shows_own"))
  c_shows_again : FnOk P w K mg base (L2.CX P w) (n + 2) (fa 24) (fdd 24) ["closed", "paper"] (spF (gc K) 2 (callD prg n "shows_again"))
  c_accepts : FnOk P w K mg base (L2.CX P w) (n + 2) (fa 25) (fdd 25) ["claim", "paper"] (spF (gc K) 2 (callD prg n "accepts"))
  c_round_marks : FnOk P w K mg base (L2.CX P w) (n + 2) (fa 26) (fdd 26) ["closed"] (spF (gc K) 1 (callD prg n "round_marks"))
  c_h_count : FnOk P w K mg base (L2.CX P w) (n + 2) (fa 27) (fdd 27) ["closed"] (spF (gc K) 1 (callD prg n "h_count"))
  c_share_by : FnOk P w K mg base (L2.CX P w) (n + 2) (fa 28) (fdd 28) ["closed"] (spF (gc K) 1 (callD prg n "share_by"))
  c_own_part_by : FnOk P w K mg base (L2.CX P w) (n + 2) (fa 29) (fdd 29) ["closed"] (spF (gc K) 1 (callD prg n "own_part_by"))
  c_share : FnOk P w K mg base (L2.CX P w) (n + 2) (fa 30) (fdd 30) ["closed"] (spF (gc K) 1 (callD prg n "share"))
  c_own_part : FnOk P w K mg base (L2.CX P w) (n + 2) (fa 31) (fdd 31) ["closed"] (spF (gc K) 1 (callD prg n "own_part"))
  c_is_closed : FnOk P w K mg base (L2.CX P w) (n + 2) (fa 32) (fdd 32) ["value"] (spF (gc K) 1 (callD prg n "is_closed"))
  c_is_own : FnOk P w K mg base (L2.CX P w) (n + 2) (fa 33) (fdd 33) ["closed"] (spF (gc K) 1 (callD prg n "is_own"))
  c__law_bag : FnOk P w K mg base (L2.CX P w) (n + 2) (fa 34) (fdd 34) ["script", "at"] (spF (gc K) 2 (callD prg n "_law_bag"))
  c__law_draw : FnOk P w K mg base (L2.CX P w) (n + 2) (fa 35) (fdd 35) ["bag", "many"] (spF (gc K) 2 (callD prg n "_law_draw"))
  c__law_one : FnOk P w K mg base (L2.CX P w) (n + 2) (fa 36) (fdd 36) ["bag", "some"] (spF (gc K) 2 (callD prg n "_law_one"))
  c__law_same : FnOk P w K mg base (L2.CX P w) (n + 2) (fa 37) (fdd 37) ["told", "due"] (spF (gc K) 2 (callD prg n "_law_same"))
  c__law_is_whole : FnOk P w K mg base (L2.CX P w) (n + 2) (fa 38) (fdd 38) ["value"] (spF (gc K) 1 (callD prg n "_law_is_whole"))
  c__law_is_stacking : FnOk P w K mg base (L2.CX P w) (n + 2) (fa 39) (fdd 39) ["value"] (spF (gc K) 1 (callD prg n "_law_is_stacking"))
  c__law_is_closed : FnOk P w K mg base (L2.CX P w) (n + 2) (fa 40) (fdd 40) ["value"] (spF (gc K) 1 (callD prg n "_law_is_closed"))
  c__law_further : FnOk P w K mg base (L2.CX P w) (n + 2) (fa 41) (fdd 41) ["letter", "k"] (spF (gc K) 2 (callD prg n "_law_further"))
  c__law_by : FnOk P w K mg base (L2.CX P w) (n + 2) (fa 42) (fdd 42) ["letter", "steps"] (spF (gc K) 2 (callD prg n "_law_by"))
  c__law_marks : FnOk P w K mg base (L2.CX P w) (n + 2) (fa 43) (fdd 43) ["text"] (spF (gc K) 1 (callD prg n "_law_marks"))
  c__law_stacking : FnOk P w K mg base (L2.CX P w) (n + 2) (fa 44) (fdd 44) ["bag", "low", "most"] (spF (gc K) 3 (callD prg n "_law_stacking"))
  c__law_closed : FnOk P w K mg base (L2.CX P w) (n + 2) (fa 45) (fdd 45) ["bag", "low", "most"] (spF (gc K) 3 (callD prg n "_law_closed"))
  c__law_closed_right : FnOk P w K mg base (L2.CX P w) (n + 2) (fa 46) (fdd 46) ["bag", "text"] (spF (gc K) 2 (callD prg n "_law_closed_right"))
  c_law : FnOk P w K mg base (L2.CX P w) (n + 2) (fa 47) (fdd 47) ["script"] (spF (gc K) 1 (callD prg n "law"))
section
variable {P : Program} {w : World} {K : PySem.W.Frag} {mg : Str → Option Value} {base : Heap} {fa : Nat → Addr} {fdd : Nat → FuncData} {n : Nat}
theorem sc_is_whole : FnScope ["value"] ["value"] (defScope s_is_whole) := ⟨rfl, rfl, rfl, by decide +kernel, rfl, by decide +kernel, by decide +kernel⟩
theorem ok_is_whole (T : Txt K mg fa fdd w) (A : All P w K mg base fa fdd n) : FnOk P w K mg base (L2.CX P w) (n + 3) (fa 0) (fdd 0) ["value"] (spF (gc K) 1 (callD prg (n + 1) "is_whole")) := by
  refine fun_ok (ps := ["value"]) (N := ["value"]) (body := d_is_whole.body) (cf := callD prg n) T.d_is_whole.F sc_is_whole (fun ds μ hl => ?_) (fun cdv A' outer s H E hr => ?_)
  · show (if ds.length = 1 then _ else _) = _
    rw [if_pos (show ds.length = 1 from hl)]; rfl
  · have hu := hr.units
    have nd := sc_is_whole.nd
    exact (sss_cons (ss_ret (se_and rfl (se_blt (b_isi rfl) rfl T.n_isinstance bt_isinstance (sa_cons (se_var 0) (sa_cons (se_ty rfl T.n_int bt_int) sa_nil))) (se_one (se_not rfl (se_blt (b_isi rfl) rfl T.n_isinstance bt_isinstance (sa_cons (se_var 0) (sa_cons (se_ty rfl T.n_bool bt_bool) sa_nil)))))))
      sss_nil)
theorem sc_is_between : FnScope ["value", "low", "high"] ["value", "low", "high"] (defScope s_is_between) := ⟨rfl, rfl, rfl, by decide +kernel, rfl, by decide +kernel, by decide +kernel⟩
theorem ok_is_between (T : Txt K mg fa fdd w) (A : All P w K mg base fa fdd n) : FnOk P w K mg base (L2.CX P w) (n + 3) (fa 1) (fdd 1) ["value", "low", "high"] (spF (gc K) 3 (callD prg (n + 1) "is_between")) := by
  refine fun_ok (ps := ["value", "low", "high"]) (N := ["value", "low", "high"]) (body := d_is_between.body) (cf := callD prg n) T.d_is_between.F sc_is_between (fun ds μ hl => ?_) (fun cdv A' outer s H E hr => ?_)
  · show (if ds.length = 3 then _ else _) = _
    rw [if_pos (show ds.length = 3 from hl)]; rfl
  · have hu := hr.units
    have nd := sc_is_between.nd
    exact (sss_cons (ss_ret (se_and rfl (se_call A.c_is_whole hr rfl T.d_is_whole.g T.d_is_whole.k T.d_is_whole.b (takes_of rfl rfl rfl rfl) (sa_cons (se_var 0) sa_nil) rfl) (se_one (se_chain (o_le) (o_le) (se_var 1) (se_var 0) (se_var 2)))))
      sss_nil)
theorem sc_is_tuple_of : FnScope ["value", "many"] ["value", "many"] (defScope s_is_tuple_of) := ⟨rfl, rfl, rfl, by decide +kernel, rfl, by decide +kernel, by decide +kernel⟩
theorem ok_is_tuple_of (T : Txt K mg fa fdd w) (A : All P w K mg base fa fdd n) : FnOk P w K mg base (L2.CX P w) (n + 3) (fa 2) (fdd 2) ["value", "many"] (spF (gc K) 2 (callD prg (n + 1) "is_tuple_of")) := by
  refine fun_ok (ps := ["value", "many"]) (N := ["value", "many"]) (body := d_is_tuple_of.body) (cf := callD prg n) T.d_is_tuple_of.F sc_is_tuple_of (fun ds μ hl => ?_) (fun cdv A' outer s H E hr => ?_)
  · show (if ds.length = 2 then _ else _) = _
    rw [if_pos (show ds.length = 2 from hl)]; rfl
  · have hu := hr.units
    have nd := sc_is_tuple_of.nd
    exact (sss_cons (ss_ret (se_and rfl (se_blt (b_isi rfl) rfl T.n_isinstance bt_isinstance (sa_cons (se_var 0) (sa_cons (se_ty rfl T.n_tuple bt_tuple) sa_nil))) (se_one (se_cmp (o_eq rfl hu) (se_blt (b_len rfl) rfl T.n_len bt_len (sa_cons (se_var 0) sa_nil)) (se_var 1) (nomark _)))))
      sss_nil)
theorem sc_is_text_of : FnScope ["value", "signs", "sign"] ["value", "signs"] (defScope s_is_text_of) := ⟨rfl, rfl, rfl, by decide +kernel, rfl, by decide +kernel, by decide +kernel⟩
theorem ok_is_text_of (T : Txt K mg fa fdd w) (A : All P w K mg base fa fdd n) : FnOk P w K mg base (L2.CX P w) (n + 3) (fa 3) (fdd 3) ["value", "signs"] (spF (gc K) 2 (callD prg (n + 1) "is_text_of")) := by
  refine fun_ok (ps := ["value", "signs"]) (N := ["value", "signs", "sign"]) (body := d_is_text_of.body) (cf := callD prg n) T.d_is_text_of.F sc_is_text_of (fun ds μ hl => ?_) (fun cdv A' outer s H E hr => ?_)
  · show (if ds.length = 2 then _ else _) = _
    rw [if_pos (show ds.length = 2 from hl)]; rfl
  · have hu := hr.units
    have nd := sc_is_text_of.nd
    exact (sss_cons (ss_ret (se_and rfl (se_blt (b_isi rfl) rfl T.n_isinstance bt_isinstance (sa_cons (se_var 0) (sa_cons (se_ty rfl T.n_str bt_str) sa_nil))) (se_one (se_blt (b_all rfl) rfl T.n_all bt_all (sa_cons (se_comp (own := [("sign", 2)]) rfl nd rfl (si_val rfl (se_var 0)) rfl (fun _ _ _ _ _ => sg_name 2 nd) (fun _ _ _ _ _ => se_cmp (o_in rfl) (se_var 2) (se_var 1) (by with_unfolding_all rfl))) sa_nil)))))
      sss_nil)
theorem sc_lowest : FnScope ["top", "low", "common"] ["top", "low"] (defScope s_lowest) := ⟨rfl, rfl, rfl, by decide +kernel, rfl, by decide +kernel, by decide +kernel⟩
theorem ok_lowest (T : Txt K mg fa fdd w) (A : All P w K mg base fa fdd n) : FnOk P w K mg base (L2.CX P w) (n + 3) (fa 4) (fdd 4) ["top", "low"] (spF (gc K) 2 (callD prg (n + 1) "lowest")) := by
  refine fun_ok (ps := ["top", "low"]) (N := ["top", "low", "common"]) (body := d_lowest.body) (cf := callD prg n) T.d_lowest.F sc_lowest (fun ds μ hl => ?_) (fun cdv A' outer s H E hr => ?_)
  · show (if ds.length = 2 then _ else _) = _
    rw [if_pos (show ds.length = 2 from hl)]; rfl
  · have hu := hr.units
    have nd := sc_lowest.nd
    exact (sss_cons (ss_asg (se_bfun b_gcd rfl T.m_gcd (sa_cons (se_var 0) (sa_cons (se_var 1) sa_nil))) (sa_name 2 nd))
      (sss_cons (ss_ret (se_tup (sa_cons (se_bin (o_div) (se_var 0) (se_var 2)) (sa_cons (se_bin (o_div) (se_var 1) (se_var 2)) sa_nil))))
      sss_nil))
theorem sc_is_layer_number : FnScope ["value"] ["value"] (defScope s_is_layer_number) := ⟨rfl, rfl, rfl, by decide +kernel, rfl, by decide +kernel, by decide +kernel⟩
theorem ok_is_layer_number (T : Txt K mg fa fdd w) (A : All P w K mg base fa fdd n) : FnOk P w K mg base (L2.CX P w) (n + 3) (fa 5) (fdd 5) ["value"] (spF (gc K) 1 (callD prg (n + 1) "is_layer_number")) := by
  refine fun_ok (ps := ["value"]) (N := ["value"]) (body := d_is_layer_number.body) (cf := callD prg n) T.d_is_layer_number.F sc_is_layer_number (fun ds μ hl => ?_) (fun cdv A' outer s H E hr => ?_)
  · show (if ds.length = 1 then _ else _) = _
    rw [if_pos (show ds.length = 1 from hl)]; rfl
  · have hu := hr.units
    have nd := sc_is_layer_number.nd
    exact (sss_cons (ss_ret (se_call A.c_is_between hr rfl T.d_is_between.g T.d_is_between.k T.d_is_between.b (takes_of rfl rfl rfl rfl) (sa_cons (se_var 0) (sa_cons (se_int) (sa_cons (se_gint rfl T.v_MOST_LAYERS.choose_spec) sa_nil))) rfl))
      sss_nil)
theorem sc_is_stacked : FnScope ["value", "one", "two"] ["value"] (defScope s_is_stacked) := ⟨rfl, rfl, rfl, by decide +kernel, rfl, by decide +kernel, by decide +kernel⟩
theorem ok_is_stacked (T : Txt K mg fa fdd w) (A : All P w K mg base fa fdd n) : FnOk P w K mg base (L2.CX P w) (n + 3) (fa 6) (fdd 6) ["value"] (spF (gc K) 1 (callD prg (n + 1) "is_stacked")) := by
  refine fun_ok (ps := ["value"]) (N := ["value", "one", "two"]) (body := d_is_stacked.body) (cf := callD prg n) T.d_is_stacked.F sc_is_stacked (fun ds μ hl => ?_) (fun cdv A' outer s H E hr => ?_)
  · show (if ds.length = 1 then _ else _) = _
    rw [if_pos (show ds.length = 1 from hl)]; rfl
  · have hu := hr.units
    have nd := sc_is_stacked.nd
    exact (sss_cons (ss_if (PW.pt (sw_or (st_not (st_truth rfl (se_call A.c_is_text_of hr rfl T.d_is_text_of.g T.d_is_text_of.k T.d_is_text_of.b (takes_of rfl rfl rfl rfl) (sa_cons (se_var 0) (sa_cons (se_gstr rfl T.v_LETTERS.choose_spec rfl) sa_nil)) rfl) (fun _ => rfl))) (sw_one_or (st_not (st_truth rfl (se_call A.c_is_layer_number hr rfl T.d_is_layer_number.g T.d_is_layer_number.k T.d_is_layer_number.b (takes_of rfl rfl rfl rfl) (sa_cons (se_blt (b_len rfl) rfl T.n_len bt_len (sa_cons (se_var 0) sa_nil)) sa_nil) rfl) (fun _ => rfl)))))) (sss_cons (ss_ret (se_bl)) sss_nil) sss_nil)
      (sss_cons (ss_ret (se_blt (b_all rfl) rfl T.n_all bt_all (sa_cons (se_comp (own := [("one", 1), ("two", 2)]) rfl nd rfl (si_zip rfl rfl T.n_zip (se_var 0) (se_sl rfl (se_var 0) (so_some (se_int)) (so_none))) rfl (fun _ _ _ _ _ => sg_tup rfl rfl (sgs_cons (sg_name 1 nd) (sgs_cons (sg_name 2 nd) sgs_nil))) (fun _ _ _ _ _ => se_cmp (o_ne rfl hu) (se_var 1) (se_var 2) (nomark _))) sa_nil)))
      sss_nil))
theorem sc_is_closed_one : FnScope ["value"] ["value"] (defScope s_is_closed_one) := ⟨rfl, rfl, rfl, by decide +kernel, rfl, by decide +kernel, by decide +kernel⟩
theorem ok_is_closed_one (T : Txt K mg fa fdd w) (A : All P w K mg base fa fdd n) : FnOk P w K mg base (L2.CX P w) (n + 3) (fa 7) (fdd 7) ["value"] (spF (gc K) 1 (callD prg (n + 1) "is_closed_one")) := by
  refine fun_ok (ps := ["value"]) (N := ["value"]) (body := d_is_closed_one.body) (cf := callD prg n) T.d_is_closed_one.F sc_is_closed_one (fun ds μ hl => ?_) (fun cdv A' outer s H E hr => ?_)
  · show (if ds.length = 1 then _ else _) = _
    rw [if_pos (show ds.length = 1 from hl)]; rfl
  · have hu := hr.units
    have nd := sc_is_closed_one.nd
    exact (sss_cons (ss_ret (se_and rfl (se_call A.c_is_stacked hr rfl T.d_is_stacked.g T.d_is_stacked.k T.d_is_stacked.b (takes_of rfl rfl rfl rfl) (sa_cons (se_var 0) sa_nil) rfl) (se_one (se_cmp (o_ne rfl hu) (se_ix (o_ix rfl) (se_var 0) (se_int) (fun _ _ => rfl)) (se_ix (o_ix rfl) (se_var 0) (se_un o_neg (se_int)) (fun _ _ => rfl)) (nomark _)))))
      sss_nil)
theorem sc_number_of : FnScope ["letter"] ["letter"] (defScope s_number_of) := ⟨rfl, rfl, rfl, by decide +kernel, rfl, by decide +kernel, by decide +kernel⟩
theorem ok_number_of (T : Txt K mg fa fdd w) (A : All P w K mg base fa fdd n) : FnOk P w K mg base (L2.CX P w) (n + 3) (fa 8) (fdd 8) ["letter"] (spF (gc K) 1 (callD prg (n + 1) "number_of")) := by
  refine fun_ok (ps := ["letter"]) (N := ["letter"]) (body := d_number_of.body) (cf := callD prg n) T.d_number_of.F sc_number_of (fun ds μ hl => ?_) (fun cdv A' outer s H E hr => ?_)
  · show (if ds.length = 1 then _ else _) = _
    rw [if_pos (show ds.length = 1 from hl)]; rfl
  · have hu := hr.units
    have nd := sc_number_of.nd
    exact (sss_cons (ss_ret (se_meth F.plainAttrs_str F.slot_str_index F.type_str_index (m_index) isStr_ok (se_gstr rfl T.v_LETTERS.choose_spec rfl) (sa_cons (se_var 0) sa_nil)))
      sss_nil)
theorem sc_further : FnScope ["letter", "number"] ["letter", "number"] (defScope s_further) := ⟨rfl, rfl, rfl, by decide +kernel, rfl, by decide +kernel, by decide +kernel⟩
theorem ok_further (T : Txt K mg fa fdd w) (A : All P w K mg base fa fdd n) : FnOk P w K mg base (L2.CX P w) (n + 3) (fa 9) (fdd 9) ["letter", "number"] (spF (gc K) 2 (callD prg (n + 1) "further")) := by
  refine fun_ok (ps := ["letter", "number"]) (N := ["letter", "number"]) (body := d_further.body) (cf := callD prg n) T.d_further.F sc_further (fun ds μ hl => ?_) (fun cdv A' outer s H E hr => ?_)
  · show (if ds.length = 2 then _ else _) = _
    rw [if_pos (show ds.length = 2 from hl)]; rfl
  · have hu := hr.units
    have nd := sc_further.nd
    exact (sss_cons (ss_ret (se_ix (o_ix rfl) (se_gstr rfl T.v_LETTERS.choose_spec rfl) (se_bin (o_mod) (se_bin (o_add rfl) (se_call A.c_number_of hr rfl T.d_number_of.g T.d_number_of.k T.d_number_of.b (takes_of rfl rfl rfl rfl) (sa_cons (se_var 0) sa_nil) rfl) (se_var 1)) (se_blt (b_len rfl) rfl T.n_len bt_len (sa_cons (se_gstr rfl T.v_LETTERS.choose_spec rfl) sa_nil))) (fun _ _ => rfl)))
      sss_nil)
theorem sc_step_between : FnScope ["letter", "other_letter"] ["letter", "other_letter"] (defScope s_step_between) := ⟨rfl, rfl, rfl, by decide +kernel, rfl, by decide +kernel, by decide +kernel⟩
theorem ok_step_between (T : Txt K mg fa fdd w) (A : All P w K mg base fa fdd n) : FnOk P w K mg base (L2.CX P w) (n + 3) (fa 10) (fdd 10) ["letter", "other_letter"] (spF (gc K) 2 (callD prg (n + 1) "step_between")) := by
  refine fun_ok (ps := ["letter", "other_letter"]) (N := ["letter", "other_letter"]) (body := d_step_between.body) (cf := callD prg n) T.d_step_between.F sc_step_between (fun ds μ hl => ?_) (fun cdv A' outer s H E hr => ?_)
  · show (if ds.length = 2 then _ else _) = _
    rw [if_pos (show ds.length = 2 from hl)]; rfl
  · have hu := hr.units
    have nd := sc_step_between.nd
    exact (sss_cons (ss_ret (st_ite (st_cmp (o_eq rfl hu) bl_fEq (se_call A.c_further hr rfl T.d_further.g T.d_further.k T.d_further.b (takes_of rfl rfl rfl rfl) (sa_cons (se_var 0) (sa_cons (se_int) sa_nil)) rfl) (se_var 1) (nomark _)) (se_gstr rfl T.v_UP.choose_spec rfl) (se_gstr rfl T.v_DOWN.choose_spec rfl)))
      sss_nil)
theorem sc_steps_by : FnScope ["stacking", "one", "two"] ["stacking"] (defScope s_steps_by) := ⟨rfl, rfl, rfl, by decide +kernel, rfl, by decide +kernel, by decide +kernel⟩
theorem ok_steps_by (T : Txt K mg fa fdd w) (A : All P w K mg base fa fdd n) : FnOk P w K mg base (L2.CX P w) (n + 3) (fa 11) (fdd 11) ["stacking"] (spF (gc K) 1 (callD prg (n + 1) "steps_by")) := by
  refine fun_ok (ps := ["stacking"]) (N := ["stacking", "one", "two"]) (body := d_steps_by.body) (cf := callD prg n) T.d_steps_by.F sc_steps_by (fun ds μ hl => ?_) (fun cdv A' outer s H E hr => ?_)
  · show (if ds.length = 1 then _ else _) = _
    rw [if_pos (show ds.length = 1 from hl)]; rfl
  · have hu := hr.units
    have nd := sc_steps_by.nd
    exact (sss_cons (ss_ret (se_meth F.plainAttrs_str F.slot_str_join F.type_str_join (m_join rfl) isStr_ok (se_str rfl) (sa_cons (se_comp (own := [("one", 1), ("two", 2)]) rfl nd rfl (si_zip rfl rfl T.n_zip (se_var 0) (se_sl rfl (se_var 0) (so_some (se_int)) (so_none))) rfl (fun _ _ _ _ _ => sg_tup rfl rfl (sgs_cons (sg_name 1 nd) (sgs_cons (sg_name 2 nd) sgs_nil))) (fun _ _ _ _ _ => se_call A.c_step_between hr rfl T.d_step_between.g T.d_step_between.k T.d_step_between.b takes0 (sa_cons (se_var 1) (sa_cons (se_var 2) sa_nil)) rfl)) sa_nil)))
      sss_nil)
theorem sc_round_steps_by : FnScope ["closed"] ["closed"] (defScope s_round_steps_by) := ⟨rfl, rfl, rfl, by decide +kernel, rfl, by decide +kernel, by decide +kernel⟩
theorem ok_round_steps_by (T : Txt K mg fa fdd w) (A : All P w K mg base fa fdd n) : FnOk P w K mg base (L2.CX P w) (n + 3) (fa 12) (fdd 12) ["closed"] (spF (gc K) 1 (callD prg (n + 1) "round_steps_by")) := by
  refine fun_ok (ps := ["closed"]) (N := ["closed"]) (body := d_round_steps_by.body) (cf := callD prg n) T.d_round_steps_by.F sc_round_steps_by (fun ds μ hl => ?_) (fun cdv A' outer s H E hr => ?_)
  · show (if ds.length = 1 then _ else _) = _
    rw [if_pos (show ds.length = 1 from hl)]; rfl
  · have hu := hr.units
    have nd := sc_round_steps_by.nd
    exact (sss_cons (ss_ret (se_call A.c_steps_by hr rfl T.d_steps_by.g T.d_steps_by.k T.d_steps_by.b (takes_of rfl rfl rfl rfl) (sa_cons (se_bin (o_add rfl) (se_var 0) (se_ix (o_ix rfl) (se_var 0) (se_int) (fun _ _ => rfl))) sa_nil) rfl))
      sss_nil)
theorem sc_periods_of : FnScope ["closed", "many", "size"] ["closed"] (defScope s_periods_of) := ⟨rfl, rfl, rfl, by decide +kernel, rfl, by decide +kernel, by decide +kernel⟩
theorem ok_periods_of (T : Txt K mg fa fdd w) (A : All P w K mg base fa fdd n) : FnOk P w K mg base (L2.CX P w) (n + 3) (fa 13) (fdd 13) ["closed"] (spF (gc K) 1 (callD prg (n + 1) "periods_of")) := by
  refine fun_ok (ps := ["closed"]) (N := ["closed", "many", "size"]) (body := d_periods_of.body) (cf := callD prg n) T.d_periods_of.F sc_periods_of (fun ds μ hl => ?_) (fun cdv A' outer s H E hr => ?_)
  · show (if ds.length = 1 then _ else _) = _
    rw [if_pos (show ds.length = 1 from hl)]; rfl
  · have hu := hr.units
    have nd := sc_periods_of.nd
    exact (sss_cons (ss_asg (se_blt (b_len rfl) rfl T.n_len bt_len (sa_cons (se_var 0) sa_nil)) (sa_name 1 nd))
      (sss_cons (ss_ret (se_compif (own := [("size", 2)]) rfl nd rfl (si_rng2 rfl T.n_range (se_int) (se_var 1)) rfl (fun _ _ _ _ _ => sg_name 2 nd) (fun _ _ _ _ _ => PW.pt (sw_and (st_cmp (o_eq rfl hu) bl_fEq (se_bin (o_mod) (se_var 1) (se_var 2)) (se_int) (nomark _)) (sw_one_and (st_cmp (o_eq rfl hu) bl_fEq (se_bin (o_mul) (se_sl rfl (se_var 0) (so_none) (so_some (se_var 2))) (se_bin (o_div) (se_var 1) (se_var 2))) (se_var 0) (nomark _))))) (fun _ _ _ _ _ => se_var 2)))
      sss_nil))
theorem sc_is_own_by : FnScope ["closed"] ["closed"] (defScope s_is_own_by) := ⟨rfl, rfl, rfl, by decide +kernel, rfl, by decide +kernel, by decide +kernel⟩
theorem ok_is_own_by (T : Txt K mg fa fdd w) (A : All P w K mg base fa fdd n) : FnOk P w K mg base (L2.CX P w) (n + 3) (fa 14) (fdd 14) ["closed"] (spF (gc K) 1 (callD prg (n + 1) "is_own_by")) := by
  refine fun_ok (ps := ["closed"]) (N := ["closed"]) (body := d_is_own_by.body) (cf := callD prg n) T.d_is_own_by.F sc_is_own_by (fun ds μ hl => ?_) (fun cdv A' outer s H E hr => ?_)
  · show (if ds.length = 1 then _ else _) = _
    rw [if_pos (show ds.length = 1 from hl)]; rfl
  · have hu := hr.units
    have nd := sc_is_own_by.nd
    exact (sss_cons (ss_ret (se_cmp (o_eq rfl hu) (se_call A.c_periods_of hr rfl T.d_periods_of.g T.d_periods_of.k T.d_periods_of.b (takes_of rfl rfl rfl rfl) (sa_cons (se_var 0) sa_nil) rfl) (se_lst sa_nil) (nomark _)))
      sss_nil)
theorem sc_check_closed : FnScope ["closed"] ["closed"] (defScope s_check_closed) := ⟨rfl, rfl, rfl, by decide +kernel, rfl, by decide +kernel, by decide +kernel⟩
theorem ok_check_closed (T : Txt K mg fa fdd w) (A : All P w K mg base fa fdd n) : FnOk P w K mg base (L2.CX P w) (n + 3) (fa 15) (fdd 15) ["closed"] (spF (gc K) 1 (callD prg (n + 1) "check_closed")) := by
  refine fun_ok (ps := ["closed"]) (N := ["closed"]) (body := d_check_closed.body) (cf := callD prg n) T.d_check_closed.F sc_check_closed (fun ds μ hl => ?_) (fun cdv A' outer s H E hr => ?_)
  · show (if ds.length = 1 then _ else _) = _
    rw [if_pos (show ds.length = 1 from hl)]; rfl
  · have hu := hr.units
    have nd := sc_check_closed.nd
    exact (sss_cons (ss_if (st_not (st_truth rfl (se_call A.c_is_closed_one hr rfl T.d_is_closed_one.g T.d_is_closed_one.k T.d_is_closed_one.b (takes_of rfl rfl rfl rfl) (sa_cons (se_var 0) sa_nil) rfl) (fun _ => rfl))) (sss_cons (ss_never) sss_nil) sss_nil)
      sss_nil)
theorem sc_marks_between : FnScope ["steps", "one", "two"] ["steps"] (defScope s_marks_between) := ⟨rfl, rfl, rfl, by decide +kernel, rfl, by decide +kernel, by decide +kernel⟩
theorem ok_marks_between (T : Txt K mg fa fdd w) (A : All P w K mg base fa fdd n) : FnOk P w K mg base (L2.CX P w) (n + 3) (fa 16) (fdd 16) ["steps"] (spF (gc K) 1 (callD prg (n + 1) "marks_between")) := by
  refine fun_ok (ps := ["steps"]) (N := ["steps", "one", "two"]) (body := d_marks_between.body) (cf := callD prg n) T.d_marks_between.F sc_marks_between (fun ds μ hl => ?_) (fun cdv A' outer s H E hr => ?_)
  · show (if ds.length = 1 then _ else _) = _
    rw [if_pos (show ds.length = 1 from hl)]; rfl
  · have hu := hr.units
    have nd := sc_marks_between.nd
    exact (sss_cons (ss_ret (se_meth F.plainAttrs_str F.slot_str_join F.type_str_join (m_join rfl) isStr_ok (se_str rfl) (sa_cons (se_comp (own := [("one", 1), ("two", 2)]) rfl nd rfl (si_zip rfl rfl T.n_zip (se_var 0) (se_sl rfl (se_var 0) (so_some (se_int)) (so_none))) rfl (fun _ _ _ _ _ => sg_tup rfl rfl (sgs_cons (sg_name 1 nd) (sgs_cons (sg_name 2 nd) sgs_nil))) (fun _ _ _ _ _ => st_ite (st_cmp (o_eq rfl hu) bl_fEq (se_var 1) (se_var 2) (nomark _)) (se_gstr rfl T.v_C.choose_spec rfl) (se_gstr rfl T.v_H.choose_spec rfl))) sa_nil)))
      sss_nil)
theorem sc_round_marks_by : FnScope ["closed", "steps"] ["closed"] (defScope s_round_marks_by) := ⟨rfl, rfl, rfl, by decide +kernel, rfl, by decide +kernel, by decide +kernel⟩
theorem ok_round_marks_by (T : Txt K mg fa fdd w) (A : All P w K mg base fa fdd n) : FnOk P w K mg base (L2.CX P w) (n + 3) (fa 17) (fdd 17) ["closed"] (spF (gc K) 1 (callD prg (n + 1) "round_marks_by")) := by
  refine fun_ok (ps := ["closed"]) (N := ["closed", "steps"]) (body := d_round_marks_by.body) (cf := callD prg n) T.d_round_marks_by.F sc_round_marks_by (fun ds μ hl => ?_) (fun cdv A' outer s H E hr => ?_)
  · show (if ds.length = 1 then _ else _) = _
    rw [if_pos (show ds.length = 1 from hl)]; rfl
  · have hu := hr.units
    have nd := sc_round_marks_by.nd
    exact (sss_cons (ss_asg (se_call A.c_round_steps_by hr rfl T.d_round_steps_by.g T.d_round_steps_by.k T.d_round_steps_by.b (takes_of rfl rfl rfl rfl) (sa_cons (se_var 0) sa_nil) rfl) (sa_name 1 nd))
      (sss_cons (ss_ret (se_call A.c_marks_between hr rfl T.d_marks_between.g T.d_marks_between.k T.d_marks_between.b (takes_of rfl rfl rfl rfl) (sa_cons (se_bin (o_add rfl) (se_ix (o_ix rfl) (se_var 1) (se_un o_neg (se_int)) (fun _ _ => rfl)) (se_var 1)) sa_nil) rfl))
      sss_nil))
theorem sc_h_count_of : FnScope ["closed"] ["closed"] (defScope s_h_count_of) := ⟨rfl, rfl, rfl, by decide +kernel, rfl, by decide +kernel, by decide +kernel⟩
theorem ok_h_count_of (T : Txt K mg fa fdd w) (A : All P w K mg base fa fdd n) : FnOk P w K mg base (L2.CX P w) (n + 3) (fa 18) (fdd 18) ["closed"] (spF (gc K) 1 (callD prg (n + 1) "h_count_of")) := by
  refine fun_ok (ps := ["closed"]) (N := ["closed"]) (body := d_h_count_of.body) (cf := callD prg n) T.d_h_count_of.F sc_h_count_of (fun ds μ hl => ?_) (fun cdv A' outer s H E hr => ?_)
  · show (if ds.length = 1 then _ else _) = _
    rw [if_pos (show ds.length = 1 from hl)]; rfl
  · have hu := hr.units
    have nd := sc_h_count_of.nd
    exact (sss_cons (ss_ret (se_meth F.plainAttrs_str F.slot_str_count F.type_str_count (m_count) isStr_ok (se_call A.c_round_marks_by hr rfl T.d_round_marks_by.g T.d_round_marks_by.k T.d_round_marks_by.b (takes_of rfl rfl rfl rfl) (sa_cons (se_var 0) sa_nil) rfl) (sa_cons (se_gstr rfl T.v_H.choose_spec rfl) sa_nil)))
      sss_nil)
theorem sc_tells_closed : FnScope ["parts"] ["parts"] (defScope s_tells_closed) := ⟨rfl, rfl, rfl, by decide +kernel, rfl, by decide +kernel, by decide +kernel⟩
theorem ok_tells_closed (T : Txt K mg fa fdd w) (A : All P w K mg base fa fdd n) : FnOk P w K mg base (L2.CX P w) (n + 3) (fa 19) (fdd 19) ["parts"] (spF (gc K) 1 (callD prg (n + 1) "tells_closed")) := by
  refine fun_ok (ps := ["parts"]) (N := ["parts"]) (body := d_tells_closed.body) (cf := callD prg n) T.d_tells_closed.F sc_tells_closed (fun ds μ hl => ?_) (fun cdv A' outer s H E hr => ?_)
  · show (if ds.length = 1 then _ else _) = _
    rw [if_pos (show ds.length = 1 from hl)]; rfl
  · have hu := hr.units
    have nd := sc_tells_closed.nd
    exact (sss_cons (ss_ret (se_call A.c_is_closed_one hr rfl T.d_is_closed_one.g T.d_is_closed_one.k T.d_is_closed_one.b (takes_of rfl rfl rfl rfl) (sa_cons (se_ix (o_ix rfl) (se_var 0) (se_int) (fun _ _ => rfl)) sa_nil) rfl))
      sss_nil)
theorem sc_is_claim : FnScope ["value", "many", "is_told"] ["value"] (defScope s_is_claim) := ⟨rfl, rfl, rfl, by decide +kernel, rfl, by decide +kernel, by decide +kernel⟩
theorem ok_is_claim (T : Txt K mg fa fdd w) (A : All P w K mg base fa fdd n) : FnOk P w K mg base (L2.CX P w) (n + 3) (fa 20) (fdd 20) ["value"] (spF (gc K) 1 (callD prg (n + 1) "is_claim")) := by
  refine fun_ok (ps := ["value"]) (N := ["value", "many", "is_told"]) (body := d_is_claim.body) (cf := callD prg n) T.d_is_claim.F sc_is_claim (fun ds μ hl => ?_) (fun cdv A' outer s H E hr => ?_)
  · show (if ds.length = 1 then _ else _) = _
    rw [if_pos (show ds.length = 1 from hl)]; rfl
  · have hu := hr.units
    have nd := sc_is_claim.nd
    exact (sss_cons (ss_if (PW.pt (sw_or (st_not (st_truth rfl (se_blt (b_isi rfl) rfl T.n_isinstance bt_isinstance (sa_cons (se_var 0) (sa_cons (se_ty rfl T.n_tuple bt_tuple) sa_nil))) (fun _ => rfl))) (sw_or (st_cmp (o_eq rfl hu) bl_fEq (se_var 0) (se_tup sa_nil) (nomark _)) (sw_or (st_not (st_truth rfl (se_blt (b_isi rfl) rfl T.n_isinstance bt_isinstance (sa_cons (se_ix (o_ix rfl) (se_var 0) (se_int) (fun _ _ => rfl)) (sa_cons (se_ty rfl T.n_str bt_str) sa_nil))) (fun _ => rfl))) (sw_one_or (st_tabnin rfl T.t_FORMS (se_ix (o_ix rfl) (se_var 0) (se_int) (fun _ _ => rfl)))))))) (sss_cons (ss_ret (se_bl)) sss_nil) sss_nil)
      (sss_cons (ss_asg (se_tabix rfl T.t_FORMS (se_ix (o_ix rfl) (se_var 0) (se_int) (fun _ _ => rfl)) (fun _ _ => rfl)) (sa_tup rfl rfl (sas_cons (sa_name 1 nd) (sas_cons (sa_name 2 nd) sas_nil))))
      (sss_cons (ss_ret (se_and rfl (se_cmp (o_eq rfl hu) (se_blt (b_len rfl) rfl T.n_len bt_len (sa_cons (se_var 0) sa_nil)) (se_bin (o_add rfl) (se_var 1) (se_int)) (nomark _)) (se_one (se_loc (i := 2) T.g_tells_closed A.c_tells_closed hr rfl T.d_tells_closed.k T.d_tells_closed.b (takes_of rfl rfl rfl rfl) (sa_cons (se_sl rfl (se_var 0) (so_some (se_int)) (so_none)) sa_nil) rfl (se_no)))))
      sss_nil)))
theorem sc_certify_own : FnScope ["closed", "periods"] ["closed"] (defScope s_certify_own) := ⟨rfl, rfl, rfl, by decide +kernel, rfl, by decide +kernel, by decide +kernel⟩
theorem ok_certify_own (T : Txt K mg fa fdd w) (A : All P w K mg base fa fdd n) : FnOk P w K mg base (L2.CX P w) (n + 3) (fa 21) (fdd 21) ["closed"] (spF (gc K) 1 (callD prg (n + 1) "certify_own")) := by
  refine fun_ok (ps := ["closed"]) (N := ["closed", "periods"]) (body := d_certify_own.body) (cf := callD prg n) T.d_certify_own.F sc_certify_own (fun ds μ hl => ?_) (fun cdv A' outer s H E hr => ?_)
  · show (if ds.length = 1 then _ else _) = _
    rw [if_pos (show ds.length = 1 from hl)]; rfl
  · have hu := hr.units
    have nd := sc_certify_own.nd
    exact (sss_cons (ss_expr (se_call A.c_check_closed hr rfl T.d_check_closed.g T.d_check_closed.k T.d_check_closed.b (takes_of rfl rfl rfl rfl) (sa_cons (se_var 0) sa_nil) rfl))
      (sss_cons (ss_asg (se_call A.c_periods_of hr rfl T.d_periods_of.g T.d_periods_of.k T.d_periods_of.b (takes_of rfl rfl rfl rfl) (sa_cons (se_var 0) sa_nil) rfl) (sa_name 1 nd))
      (sss_cons (ss_ret (st_ite (st_cmp (o_eq rfl hu) bl_fEq (se_var 1) (se_lst sa_nil) (nomark _)) (se_tup (sa_cons (se_tup (sa_cons (se_str rfl) (sa_cons (se_var 0) sa_nil))) (sa_cons (se_tup sa_nil) sa_nil))) (se_tup (sa_cons (se_tup (sa_cons (se_str rfl) (sa_cons (se_var 0) sa_nil))) (sa_cons (se_ix (o_ix rfl) (se_var 1) (se_int) (fun _ _ => rfl)) sa_nil)))))
      sss_nil)))
theorem sc_is_nothing : FnScope ["paper"] ["paper"] (defScope s_is_nothing) := ⟨rfl, rfl, rfl, by decide +kernel, rfl, by decide +kernel, by decide +kernel⟩
theorem ok_is_nothing (T : Txt K mg fa fdd w) (A : All P w K mg base fa fdd n) : FnOk P w K mg base (L2.CX P w) (n + 3) (fa 22) (fdd 22) ["paper"] (spF (gc K) 1 (callD prg (n + 1) "is_nothing")) := by
  refine fun_ok (ps := ["paper"]) (N := ["paper"]) (body := d_is_nothing.body) (cf := callD prg n) T.d_is_nothing.F sc_is_nothing (fun ds μ hl => ?_) (fun cdv A' outer s H E hr => ?_)
  · show (if ds.length = 1 then _ else _) = _
    rw [if_pos (show ds.length = 1 from hl)]; rfl
  · have hu := hr.units
    have nd := sc_is_nothing.nd
    exact (sss_cons (ss_ret (se_call A.c_is_tuple_of hr rfl T.d_is_tuple_of.g T.d_is_tuple_of.k T.d_is_tuple_of.b (takes_of rfl rfl rfl rfl) (sa_cons (se_var 0) (sa_cons (se_int) sa_nil)) rfl))
      sss_nil)
theorem sc_shows_own : FnScope ["closed", "paper"] ["closed", "paper"] (defScope s_shows_own) := ⟨rfl, rfl, rfl, by decide +kernel, rfl, by decide +kernel, by decide +kernel⟩
theorem ok_shows_own (T : Txt K mg fa fdd w) (A : All P w K mg base fa fdd n) : FnOk P w K mg base (L2.CX P w) (n + 3) (fa 23) (fdd 23) ["closed", "paper"] (spF (gc K) 2 (callD prg (n + 1) "shows_own")) := by
  refine fun_ok (ps := ["closed", "paper"]) (N := ["closed", "paper"]) (body := d_shows_own.body) (cf := callD prg n) T.d_shows_own.F sc_shows_own (fun ds μ hl => ?_) (fun cdv A' outer s H E hr => ?_)
  · show (if ds.length = 2 then _ else _) = _
    rw [if_pos (show ds.length = 2 from hl)]; rfl
  · have hu := hr.units
    have nd := sc_shows_own.nd
    exact (sss_cons (ss_ret (se_and rfl (se_call A.c_is_nothing hr rfl T.d_is_nothing.g T.d_is_nothing.k T.d_is_nothing.b (takes_of rfl rfl rfl rfl) (sa_cons (se_var 1) sa_nil) rfl) (se_one (se_call A.c_is_own_by hr rfl T.d_is_own_by.g T.d_is_own_by.k T.d_is_own_by.b (takes_of rfl rfl rfl rfl) (sa_cons (se_var 0) sa_nil) rfl))))
      sss_nil)
theorem sc_shows_again : FnScope ["closed", "paper"] ["closed", "paper"] (defScope s_shows_again) := ⟨rfl, rfl, rfl, by decide +kernel, rfl, by decide +kernel, by decide +kernel⟩
theorem ok_shows_again (T : Txt K mg fa fdd w) (A : All P w K mg base fa fdd n) : FnOk P w K mg base (L2.CX P w) (n + 3) (fa 24) (fdd 24) ["closed", "paper"] (spF (gc K) 2 (callD prg (n + 1) "shows_again")) := by
  refine fun_ok (ps := ["closed", "paper"]) (N := ["closed", "paper"]) (body := d_shows_again.body) (cf := callD prg n) T.d_shows_again.F sc_shows_again (fun ds μ hl => ?_) (fun cdv A' outer s H E hr => ?_)
  · show (if ds.length = 2 then _ else _) = _
    rw [if_pos (show ds.length = 2 from hl)]; rfl
  · have hu := hr.units
    have nd := sc_shows_again.nd
    exact (sss_cons (ss_ret (se_and rfl (se_call A.c_is_whole hr rfl T.d_is_whole.g T.d_is_whole.k T.d_is_whole.b (takes_of rfl rfl rfl rfl) (sa_cons (se_var 1) sa_nil) rfl) (se_one (se_cmp (o_in rfl) (se_var 1) (se_call A.c_periods_of hr rfl T.d_periods_of.g T.d_periods_of.k T.d_periods_of.b (takes_of rfl rfl rfl rfl) (sa_cons (se_var 0) sa_nil) rfl) (by with_unfolding_all rfl)))))
      sss_nil)
theorem sc_accepts : FnScope ["claim", "paper", "word", "judge"] ["claim", "paper"] (defScope s_accepts) := ⟨rfl, rfl, rfl, by decide +kernel, rfl, by decide +kernel, by decide +kernel⟩
theorem ok_accepts (T : Txt K mg fa fdd w) (A : All P w K mg base fa fdd n) : FnOk P w K mg base (L2.CX P w) (n + 3) (fa 25) (fdd 25) ["claim", "paper"] (spF (gc K) 2 (callD prg (n + 1) "accepts")) := by
  refine fun_ok (ps := ["claim", "paper"]) (N := ["claim", "paper", "word", "judge"]) (body := d_accepts.body) (cf := callD prg n) T.d_accepts.F sc_accepts (fun ds μ hl => ?_) (fun cdv A' outer s H E hr => ?_)
  · show (if ds.length = 2 then _ else _) = _
    rw [if_pos (show ds.length = 2 from hl)]; rfl
  · have hu := hr.units
    have nd := sc_accepts.nd
    exact (sss_cons (ss_if (st_not (st_truth rfl (se_call A.c_is_claim hr rfl T.d_is_claim.g T.d_is_claim.k T.d_is_claim.b (takes_of rfl rfl rfl rfl) (sa_cons (se_var 0) sa_nil) rfl) (fun _ => rfl))) (sss_cons (ss_ret (se_bl)) sss_nil) sss_nil)
      (sss_cons (ss_asg (se_ix (o_ix rfl) (se_var 0) (se_int) (fun _ _ => rfl)) (sa_name 2 nd))
      (sss_cons (ss_if (st_tabin rfl T.t_OF_ONE (se_var 2)) (sss_cons (ss_asg (se_tabix rfl T.t_OF_ONE (se_var 2) (fun _ _ => rfl)) (sa_name 3 nd)) (sss_cons (ss_ret (se_loc (i := 3) T.g_shows_own A.c_shows_own hr rfl T.d_shows_own.k T.d_shows_own.b (takes_of rfl rfl rfl rfl) (sa_cons (se_ix (o_ix rfl) (se_var 0) (se_int) (fun _ _ => rfl)) (sa_cons (se_var 1) sa_nil)) rfl (se_loc (i := 3) T.g_shows_again A.c_shows_again hr rfl T.d_shows_again.k T.d_shows_again.b (takes_of rfl rfl rfl rfl) (sa_cons (se_ix (o_ix rfl) (se_var 0) (se_int) (fun _ _ => rfl)) (sa_cons (se_var 1) sa_nil)) rfl (se_no)))) sss_nil)) sss_nil)
      (sss_cons (ss_if (st_no) (sss_cons (ss_asg (se_no) (sa_name 3 nd)) (sss_cons (ss_ret (se_no)) sss_nil)) sss_nil)
      (sss_cons (ss_ret (se_no))
      sss_nil)))))
theorem sc_round_marks : FnScope ["closed"] ["closed"] (defScope s_round_marks) := ⟨rfl, rfl, rfl, by decide +kernel, rfl, by decide +kernel, by decide +kernel⟩
theorem ok_round_marks (T : Txt K mg fa fdd w) (A : All P w K mg base fa fdd n) : FnOk P w K mg base (L2.CX P w) (n + 3) (fa 26) (fdd 26) ["closed"] (spF (gc K) 1 (callD prg (n + 1) "round_marks")) := by
  refine fun_ok (ps := ["closed"]) (N := ["closed"]) (body := d_round_marks.body) (cf := callD prg n) T.d_round_marks.F sc_round_marks (fun ds μ hl => ?_) (fun cdv A' outer s H E hr => ?_)
  · show (if ds.length = 1 then _ else _) = _
    rw [if_pos (show ds.length = 1 from hl)]; rfl
  · have hu := hr.units
    have nd := sc_round_marks.nd
    exact (sss_cons (ss_expr (se_call A.c_check_closed hr rfl T.d_check_closed.g T.d_check_closed.k T.d_check_closed.b (takes_of rfl rfl rfl rfl) (sa_cons (se_var 0) sa_nil) rfl))
      (sss_cons (ss_ret (se_call A.c_round_marks_by hr rfl T.d_round_marks_by.g T.d_round_marks_by.k T.d_round_marks_by.b (takes_of rfl rfl rfl rfl) (sa_cons (se_var 0) sa_nil) rfl))
      sss_nil))
theorem sc_h_count : FnScope ["closed"] ["closed"] (defScope s_h_count) := ⟨rfl, rfl, rfl, by decide +kernel, rfl, by decide +kernel, by decide +kernel⟩
theorem ok_h_count (T : Txt K mg fa fdd w) (A : All P w K mg base fa fdd n) : FnOk P w K mg base (L2.CX P w) (n + 3) (fa 27) (fdd 27) ["closed"] (spF (gc K) 1 (callD prg (n + 1) "h_count")) := by
  refine fun_ok (ps := ["closed"]) (N := ["closed"]) (body := d_h_count.body) (cf := callD prg n) T.d_h_count.F sc_h_count (fun ds μ hl => ?_) (fun cdv A' outer s H E hr => ?_)
  · show (if ds.length = 1 then _ else _) = _
    rw [if_pos (show ds.length = 1 from hl)]; rfl
  · have hu := hr.units
    have nd := sc_h_count.nd
    exact (sss_cons (ss_expr (se_call A.c_check_closed hr rfl T.d_check_closed.g T.d_check_closed.k T.d_check_closed.b (takes_of rfl rfl rfl rfl) (sa_cons (se_var 0) sa_nil) rfl))
      (sss_cons (ss_ret (se_call A.c_h_count_of hr rfl T.d_h_count_of.g T.d_h_count_of.k T.d_h_count_of.b (takes_of rfl rfl rfl rfl) (sa_cons (se_var 0) sa_nil) rfl))
      sss_nil))
theorem sc_share_by : FnScope ["closed"] ["closed"] (defScope s_share_by) := ⟨rfl, rfl, rfl, by decide +kernel, rfl, by decide +kernel, by decide +kernel⟩
theorem ok_share_by (T : Txt K mg fa fdd w) (A : All P w K mg base fa fdd n) : FnOk P w K mg base (L2.CX P w) (n + 3) (fa 28) (fdd 28) ["closed"] (spF (gc K) 1 (callD prg (n + 1) "share_by")) := by
  refine fun_ok (ps := ["closed"]) (N := ["closed"]) (body := d_share_by.body) (cf := callD prg n) T.d_share_by.F sc_share_by (fun ds μ hl => ?_) (fun cdv A' outer s H E hr => ?_)
  · show (if ds.length = 1 then _ else _) = _
    rw [if_pos (show ds.length = 1 from hl)]; rfl
  · have hu := hr.units
    have nd := sc_share_by.nd
    exact (sss_cons (ss_ret (se_call A.c_lowest hr rfl T.d_lowest.g T.d_lowest.k T.d_lowest.b (takes_of rfl rfl rfl rfl) (sa_cons (se_call A.c_h_count_of hr rfl T.d_h_count_of.g T.d_h_count_of.k T.d_h_count_of.b (takes_of rfl rfl rfl rfl) (sa_cons (se_var 0) sa_nil) rfl) (sa_cons (se_blt (b_len rfl) rfl T.n_len bt_len (sa_cons (se_var 0) sa_nil)) sa_nil)) rfl))
      sss_nil)
theorem sc_own_part_by : FnScope ["closed", "periods"] ["closed"] (defScope s_own_part_by) := ⟨rfl, rfl, rfl, by decide +kernel, rfl, by decide +kernel, by decide +kernel⟩
theorem ok_own_part_by (T : Txt K mg fa fdd w) (A : All P w K mg base fa fdd n) : FnOk P w K mg base (L2.CX P w) (n + 3) (fa 29) (fdd 29) ["closed"] (spF (gc K) 1 (callD prg (n + 1) "own_part_by")) := by
  refine fun_ok (ps := ["closed"]) (N := ["closed", "periods"]) (body := d_own_part_by.body) (cf := callD prg n) T.d_own_part_by.F sc_own_part_by (fun ds μ hl => ?_) (fun cdv A' outer s H E hr => ?_)
  · show (if ds.length = 1 then _ else _) = _
    rw [if_pos (show ds.length = 1 from hl)]; rfl
  · have hu := hr.units
    have nd := sc_own_part_by.nd
    exact (sss_cons (ss_asg (se_call A.c_periods_of hr rfl T.d_periods_of.g T.d_periods_of.k T.d_periods_of.b (takes_of rfl rfl rfl rfl) (sa_cons (se_var 0) sa_nil) rfl) (sa_name 1 nd))
      (sss_cons (ss_ret (st_ite (st_cmp (o_ne rfl hu) bl_fNe (se_var 1) (se_lst sa_nil) (nomark _)) (se_sl rfl (se_var 0) (so_none) (so_some (se_ix (o_ix rfl) (se_var 1) (se_int) (fun _ _ => rfl)))) (se_var 0)))
      sss_nil))
theorem sc_share : FnScope ["closed"] ["closed"] (defScope s_share) := ⟨rfl, rfl, rfl, by decide +kernel, rfl, by decide +kernel, by decide +kernel⟩
theorem ok_share (T : Txt K mg fa fdd w) (A : All P w K mg base fa fdd n) : FnOk P w K mg base (L2.CX P w) (n + 3) (fa 30) (fdd 30) ["closed"] (spF (gc K) 1 (callD prg (n + 1) "share")) := by
  refine fun_ok (ps := ["closed"]) (N := ["closed"]) (body := d_share.body) (cf := callD prg n) T.d_share.F sc_share (fun ds μ hl => ?_) (fun cdv A' outer s H E hr => ?_)
  · show (if ds.length = 1 then _ else _) = _
    rw [if_pos (show ds.length = 1 from hl)]; rfl
  · have hu := hr.units
    have nd := sc_share.nd
    exact (sss_cons (ss_expr (se_call A.c_check_closed hr rfl T.d_check_closed.g T.d_check_closed.k T.d_check_closed.b (takes_of rfl rfl rfl rfl) (sa_cons (se_var 0) sa_nil) rfl))
      (sss_cons (ss_ret (se_call A.c_share_by hr rfl T.d_share_by.g T.d_share_by.k T.d_share_by.b (takes_of rfl rfl rfl rfl) (sa_cons (se_var 0) sa_nil) rfl))
      sss_nil))
theorem sc_own_part : FnScope ["closed"] ["closed"] (defScope s_own_part) := ⟨rfl, rfl, rfl, by decide +kernel, rfl, by decide +kernel, by decide +kernel⟩
theorem ok_own_part (T : Txt K mg fa fdd w) (A : All P w K mg base fa fdd n) : FnOk P w K mg base (L2.CX P w) (n + 3) (fa 31) (fdd 31) ["closed"] (spF (gc K) 1 (callD prg (n + 1) "own_part")) := by
  refine fun_ok (ps := ["closed"]) (N := ["closed"]) (body := d_own_part.body) (cf := callD prg n) T.d_own_part.F sc_own_part (fun ds μ hl => ?_) (fun cdv A' outer s H E hr => ?_)
  · show (if ds.length = 1 then _ else _) = _
    rw [if_pos (show ds.length = 1 from hl)]; rfl
  · have hu := hr.units
    have nd := sc_own_part.nd
    exact (sss_cons (ss_expr (se_call A.c_check_closed hr rfl T.d_check_closed.g T.d_check_closed.k T.d_check_closed.b (takes_of rfl rfl rfl rfl) (sa_cons (se_var 0) sa_nil) rfl))
      (sss_cons (ss_ret (se_call A.c_own_part_by hr rfl T.d_own_part_by.g T.d_own_part_by.k T.d_own_part_by.b (takes_of rfl rfl rfl rfl) (sa_cons (se_var 0) sa_nil) rfl))
      sss_nil))
theorem sc_is_closed : FnScope ["value"] ["value"] (defScope s_is_closed) := ⟨rfl, rfl, rfl, by decide +kernel, rfl, by decide +kernel, by decide +kernel⟩
theorem ok_is_closed (T : Txt K mg fa fdd w) (A : All P w K mg base fa fdd n) : FnOk P w K mg base (L2.CX P w) (n + 3) (fa 32) (fdd 32) ["value"] (spF (gc K) 1 (callD prg (n + 1) "is_closed")) := by
  refine fun_ok (ps := ["value"]) (N := ["value"]) (body := d_is_closed.body) (cf := callD prg n) T.d_is_closed.F sc_is_closed (fun ds μ hl => ?_) (fun cdv A' outer s H E hr => ?_)
  · show (if ds.length = 1 then _ else _) = _
    rw [if_pos (show ds.length = 1 from hl)]; rfl
  · have hu := hr.units
    have nd := sc_is_closed.nd
    exact (sss_cons (ss_ret (se_call A.c_is_closed_one hr rfl T.d_is_closed_one.g T.d_is_closed_one.k T.d_is_closed_one.b (takes_of rfl rfl rfl rfl) (sa_cons (se_var 0) sa_nil) rfl))
      sss_nil)
theorem sc_is_own : FnScope ["closed"] ["closed"] (defScope s_is_own) := ⟨rfl, rfl, rfl, by decide +kernel, rfl, by decide +kernel, by decide +kernel⟩
theorem ok_is_own (T : Txt K mg fa fdd w) (A : All P w K mg base fa fdd n) : FnOk P w K mg base (L2.CX P w) (n + 3) (fa 33) (fdd 33) ["closed"] (spF (gc K) 1 (callD prg (n + 1) "is_own")) := by
  refine fun_ok (ps := ["closed"]) (N := ["closed"]) (body := d_is_own.body) (cf := callD prg n) T.d_is_own.F sc_is_own (fun ds μ hl => ?_) (fun cdv A' outer s H E hr => ?_)
  · show (if ds.length = 1 then _ else _) = _
    rw [if_pos (show ds.length = 1 from hl)]; rfl
  · have hu := hr.units
    have nd := sc_is_own.nd
    exact (sss_cons (ss_expr (se_call A.c_check_closed hr rfl T.d_check_closed.g T.d_check_closed.k T.d_check_closed.b (takes_of rfl rfl rfl rfl) (sa_cons (se_var 0) sa_nil) rfl))
      (sss_cons (ss_ret (se_call A.c_is_own_by hr rfl T.d_is_own_by.g T.d_is_own_by.k T.d_is_own_by.b (takes_of rfl rfl rfl rfl) (sa_cons (se_var 0) sa_nil) rfl))
      sss_nil))
theorem sc__law_bag : FnScope ["script", "at", "stirred", "place", "cell", "own", "digits"] ["script", "at"] (defScope s__law_bag) := ⟨rfl, rfl, rfl, by decide +kernel, rfl, by decide +kernel, by decide +kernel⟩
theorem ok__law_bag (T : Txt K mg fa fdd w) (A : All P w K mg base fa fdd n) : FnOk P w K mg base (L2.CX P w) (n + 3) (fa 34) (fdd 34) ["script", "at"] (spF (gc K) 2 (callD prg (n + 1) "_law_bag")) := by
  refine fun_ok (ps := ["script", "at"]) (N := ["script", "at", "stirred", "place", "cell", "own", "digits"]) (body := d__law_bag.body) (cf := callD prg n) T.d__law_bag.F sc__law_bag (fun ds μ hl => ?_) (fun cdv A' outer s H E hr => ?_)
  · show (if ds.length = 2 then _ else _) = _
    rw [if_pos (show ds.length = 2 from hl)]; rfl
  · have hu := hr.units
    have nd := sc__law_bag.nd
    exact (sss_cons (ss_asg (se_bin (o_add rfl) (se_int) (se_bin (o_mul) (se_int) (se_var 1))) (sa_name 2 nd))
      (sss_cons (ss_for (passes_of rfl) rfl (si_enum rfl rfl T.n_enumerate (se_sl rfl (se_var 0) (so_none) (so_some (se_int)))) (sg_tup rfl rfl (sgs_cons (sg_name 3 nd) (sgs_cons (sg_name 4 nd) sgs_nil))) (sss_cons (ss_asg (se_bin (o_mod) (se_bty (b_int) rfl T.n_int bt_int (sa_cons (se_bin (o_add rfl) (se_bin (o_add rfl) (se_bin (o_add rfl) (se_bin (o_mul) (se_var 2) (se_int)) (se_bin (o_mod) (se_bty (b_int) rfl T.n_int bt_int (sa_cons (se_var 4) sa_nil)) (se_int))) (se_bin (o_mul) (se_int) (se_var 3))) (se_int)) sa_nil)) (se_int)) (sa_name 2 nd)) sss_nil))
      (sss_cons (ss_asg (st_ite (st_cmp (o_lt) bl_fLt (se_var 1) (se_blt (b_len rfl) rfl T.n_len bt_len (sa_cons (se_var 0) sa_nil)) (nomark _)) (se_bty (b_int) rfl T.n_int bt_int (sa_cons (se_ix (o_ix rfl) (se_var 0) (se_var 1) (fun _ _ => rfl)) sa_nil)) (se_int)) (sa_name 5 nd))
      (sss_cons (ss_asg (st_ite (st_cmp (o_ge) bl_fGe (se_blt (b_abs) rfl T.n_abs bt_abs (sa_cons (se_var 5) sa_nil)) (se_bin (o_pow) (se_int) (se_int)) (nomark _)) (se_bin (o_mod) (se_blt (b_abs) rfl T.n_abs bt_abs (sa_cons (se_var 5) sa_nil)) (se_int)) (se_int)) (sa_name 6 nd))
      (sss_cons (ss_ret (se_lst (sa_cons (se_var 6) (sa_cons (se_bin (o_mod) (se_bty (b_int) rfl T.n_int bt_int (sa_cons (se_bin (o_add rfl) (se_var 2) (se_bin (o_mul) (se_int) (se_bin (o_mod) (se_bty (b_int) rfl T.n_int bt_int (sa_cons (se_var 5) sa_nil)) (se_int)))) sa_nil)) (se_int)) (sa_cons (se_int) sa_nil)))))
      sss_nil)))))
theorem sc__law_draw : FnScope ["bag", "many", "digit", "old"] ["bag", "many"] (defScope s__law_draw) := ⟨rfl, rfl, rfl, by decide +kernel, rfl, by decide +kernel, by decide +kernel⟩
theorem ok__law_draw (T : Txt K mg fa fdd w) (A : All P w K mg base fa fdd n) : FnOk P w K mg base (L2.CX P w) (n + 3) (fa 35) (fdd 35) ["bag", "many"] (spF (gc K) 2 (callD prg (n + 1) "_law_draw")) := by
  refine fun_ok (ps := ["bag", "many"]) (N := ["bag", "many", "digit", "old"]) (body := d__law_draw.body) (cf := callD prg n) T.d__law_draw.F sc__law_draw (fun ds μ hl => ?_) (fun cdv A' outer s H E hr => ?_)
  · show (if ds.length = 2 then _ else _) = _
    rw [if_pos (show ds.length = 2 from hl)]; rfl
  · have hu := hr.units
    have nd := sc__law_draw.nd
    exact (sss_cons (ss_if (st_cmp (o_gt) bl_fGt (se_ix (o_ix rfl) (se_var 0) (se_int) (fun _ _ => rfl)) (se_int) (nomark _)) (sss_cons (ss_asg (se_blt (b_divmod) rfl T.n_divmod bt_divmod (sa_cons (se_ix (o_ix rfl) (se_var 0) (se_int) (fun _ _ => rfl)) (sa_cons (se_var 1) sa_nil))) (sa_tup rfl rfl (sas_cons (sa_sub (se_var 0) (se_int)) (sas_cons (sa_name 2 nd) sas_nil)))) (sss_cons (ss_ret (se_var 2)) sss_nil)) sss_nil)
      (sss_cons (ss_asg (se_bin (o_add rfl) (se_ix (o_ix rfl) (se_var 0) (se_int) (fun _ _ => rfl)) (se_int)) (sa_sub (se_var 0) (se_int)))
      (sss_cons (ss_asg (se_bty (b_int) rfl T.n_int bt_int (sa_cons (se_ix (o_ix rfl) (se_var 0) (se_int) (fun _ _ => rfl)) sa_nil)) (sa_name 3 nd))
      (sss_cons (ss_asg (se_bin (o_mod) (se_bty (b_int) rfl T.n_int bt_int (sa_cons (se_bin (o_add rfl) (se_bin (o_add rfl) (se_bin (o_mul) (se_var 3) (se_bin (o_add rfl) (se_bin (o_mod) (se_bty (b_int) rfl T.n_int bt_int (sa_cons (se_var 3) sa_nil)) (se_int)) (se_int))) (se_bin (o_mul) (se_int) (se_ix (o_ix rfl) (se_var 0) (se_int) (fun _ _ => rfl)))) (se_int)) sa_nil)) (se_int)) (sa_sub (se_var 0) (se_int)))
      (sss_cons (ss_ret (se_bin (o_mod) (se_bty (b_int) rfl T.n_int bt_int (sa_cons (se_bin (o_div) (se_ix (o_ix rfl) (se_var 0) (se_int) (fun _ _ => rfl)) (se_int)) sa_nil)) (se_var 1)))
      sss_nil)))))
theorem sc__law_one : FnScope ["bag", "some"] ["bag", "some"] (defScope s__law_one) := ⟨rfl, rfl, rfl, by decide +kernel, rfl, by decide +kernel, by decide +kernel⟩
theorem ok__law_one (T : Txt K mg fa fdd w) (A : All P w K mg base fa fdd n) : FnOk P w K mg base (L2.CX P w) (n + 3) (fa 36) (fdd 36) ["bag", "some"] (spF (gc K) 2 (callD prg (n + 1) "_law_one")) := by
  refine fun_ok (ps := ["bag", "some"]) (N := ["bag", "some"]) (body := d__law_one.body) (cf := callD prg n) T.d__law_one.F sc__law_one (fun ds μ hl => ?_) (fun cdv A' outer s H E hr => ?_)
  · show (if ds.length = 2 then _ else _) = _
    rw [if_pos (show ds.length = 2 from hl)]; rfl
  · have hu := hr.units
    have nd := sc__law_one.nd
    exact (sss_cons (ss_ret (se_ix (o_ix rfl) (se_var 1) (se_call A.c__law_draw hr rfl T.d__law_draw.g T.d__law_draw.k T.d__law_draw.b (takes_of rfl rfl rfl rfl) (sa_cons (se_var 0) (sa_cons (se_blt (b_len rfl) rfl T.n_len bt_len (sa_cons (se_var 1) sa_nil)) sa_nil)) rfl) (fun _ _ => rfl)))
      sss_nil)
theorem sc__law_same : FnScope ["told", "due", "alike", "k"] ["told", "due"] (defScope s__law_same) := ⟨rfl, rfl, rfl, by decide +kernel, rfl, by decide +kernel, by decide +kernel⟩
theorem ok__law_same (T : Txt K mg fa fdd w) (A : All P w K mg base fa fdd n) : FnOk P w K mg base (L2.CX P w) (n + 3) (fa 37) (fdd 37) ["told", "due"] (spF (gc K) 2 (callD prg (n + 1) "_law_same")) := by
  refine fun_ok (ps := ["told", "due"]) (N := ["told", "due", "alike", "k"]) (body := d__law_same.body) (cf := callD prg n) T.d__law_same.F sc__law_same (fun ds μ hl => ?_) (fun cdv A' outer s H E hr => ?_)
  · show (if ds.length = 2 then _ else _) = _
    rw [if_pos (show ds.length = 2 from hl)]; rfl
  · have hu := hr.units
    have nd := sc__law_same.nd
    exact (sss_cons (ss_if (st_cmp (o_is) bl_fIs (se_var 1) (se_non) (nomark _)) (sss_cons (ss_ret (se_cmp (o_is) (se_var 0) (se_non) (nomark _))) sss_nil) sss_nil)
      (sss_cons (ss_if (PW.pt (sw_or (st_truth rfl (se_blt (b_isi rfl) rfl T.n_isinstance bt_isinstance (sa_cons (se_var 1) (sa_cons (se_ty rfl T.n_tuple bt_tuple) sa_nil))) (fun _ => rfl)) (sw_one_or (st_truth rfl (se_blt (b_isi rfl) rfl T.n_isinstance bt_isinstance (sa_cons (se_var 1) (sa_cons (se_ty rfl T.n_list bt_list) sa_nil))) (fun _ => rfl))))) (sss_cons (ss_asg (st_ite (st_truth rfl (se_blt (b_isi rfl) rfl T.n_isinstance bt_isinstance (sa_cons (se_var 1) (sa_cons (se_ty rfl T.n_tuple bt_tuple) sa_nil))) (fun _ => rfl)) (se_blt (b_isi rfl) rfl T.n_isinstance bt_isinstance (sa_cons (se_var 0) (sa_cons (se_ty rfl T.n_tuple bt_tuple) sa_nil))) (se_blt (b_isi rfl) rfl T.n_isinstance bt_isinstance (sa_cons (se_var 0) (sa_cons (se_ty rfl T.n_list bt_list) sa_nil)))) (sa_name 2 nd)) (sss_cons (ss_ret (se_and rfl (se_var 2) (se_and rfl (se_cmp (o_eq rfl hu) (se_blt (b_len rfl) rfl T.n_len bt_len (sa_cons (se_var 0) sa_nil)) (se_blt (b_len rfl) rfl T.n_len bt_len (sa_cons (se_var 1) sa_nil)) (nomark _)) (se_one (se_blt (b_all rfl) rfl T.n_all bt_all (sa_cons (se_comp (own := [("k", 3)]) rfl nd rfl (si_rng1 rfl T.n_range (se_blt (b_len rfl) rfl T.n_len bt_len (sa_cons (se_var 1) sa_nil))) rfl (fun _ _ _ _ _ => sg_name 3 nd) (fun _ _ _ _ _ => se_call A.c__law_same hr rfl T.d__law_same.g T.d__law_same.k T.d__law_same.b takes0 (sa_cons (se_ix (o_ix rfl) (se_var 0) (se_var 3) (fun _ _ => rfl)) (sa_cons (se_ix (o_ix rfl) (se_var 1) (se_var 3) (fun _ _ => rfl)) sa_nil)) rfl)) sa_nil)))))) sss_nil)) sss_nil)
      (sss_cons (ss_if (st_truth rfl (se_blt (b_isi rfl) rfl T.n_isinstance bt_isinstance (sa_cons (se_var 1) (sa_cons (se_ty rfl T.n_int bt_int) sa_nil))) (fun _ => rfl)) (sss_cons (ss_ret (se_and rfl (se_blt (b_isi rfl) rfl T.n_isinstance bt_isinstance (sa_cons (se_var 0) (sa_cons (se_ty rfl T.n_int bt_int) sa_nil))) (se_and rfl (se_cmp (o_eq rfl hu) (se_blt (b_isi rfl) rfl T.n_isinstance bt_isinstance (sa_cons (se_var 0) (sa_cons (se_ty rfl T.n_bool bt_bool) sa_nil))) (se_blt (b_isi rfl) rfl T.n_isinstance bt_isinstance (sa_cons (se_var 1) (sa_cons (se_ty rfl T.n_bool bt_bool) sa_nil))) (nomark _)) (se_one (se_cmp (o_eq rfl hu) (se_var 0) (se_var 1) (nomark _)))))) sss_nil) sss_nil)
      (sss_cons (ss_ret (se_and rfl (se_blt (b_isi rfl) rfl T.n_isinstance bt_isinstance (sa_cons (se_var 1) (sa_cons (se_ty rfl T.n_str bt_str) sa_nil))) (se_and rfl (se_blt (b_isi rfl) rfl T.n_isinstance bt_isinstance (sa_cons (se_var 0) (sa_cons (se_ty rfl T.n_str bt_str) sa_nil))) (se_one (se_cmp (o_eq rfl hu) (se_var 0) (se_var 1) (nomark _))))))
      sss_nil))))
theorem sc__law_is_whole : FnScope ["value"] ["value"] (defScope s__law_is_whole) := ⟨rfl, rfl, rfl, by decide +kernel, rfl, by decide +kernel, by decide +kernel⟩
theorem ok__law_is_whole (T : Txt K mg fa fdd w) (A : All P w K mg base fa fdd n) : FnOk P w K mg base (L2.CX P w) (n + 3) (fa 38) (fdd 38) ["value"] (spF (gc K) 1 (callD prg (n + 1) "_law_is_whole")) := by
  refine fun_ok (ps := ["value"]) (N := ["value"]) (body := d__law_is_whole.body) (cf := callD prg n) T.d__law_is_whole.F sc__law_is_whole (fun ds μ hl => ?_) (fun cdv A' outer s H E hr => ?_)
  · show (if ds.length = 1 then _ else _) = _
    rw [if_pos (show ds.length = 1 from hl)]; rfl
  · have hu := hr.units
    have nd := sc__law_is_whole.nd
    exact (sss_cons (ss_ret (se_and rfl (se_blt (b_isi rfl) rfl T.n_isinstance bt_isinstance (sa_cons (se_var 0) (sa_cons (se_ty rfl T.n_int bt_int) sa_nil))) (se_one (se_not rfl (se_blt (b_isi rfl) rfl T.n_isinstance bt_isinstance (sa_cons (se_var 0) (sa_cons (se_ty rfl T.n_bool bt_bool) sa_nil)))))))
      sss_nil)
theorem sc__law_is_stacking : FnScope ["value", "one", "two", "letter"] ["value"] (defScope s__law_is_stacking) := ⟨rfl, rfl, rfl, by decide +kernel, rfl, by decide +kernel, by decide +kernel⟩
theorem ok__law_is_stacking (T : Txt K mg fa fdd w) (A : All P w K mg base fa fdd n) : FnOk P w K mg base (L2.CX P w) (n + 3) (fa 39) (fdd 39) ["value"] (spF (gc K) 1 (callD prg (n + 1) "_law_is_stacking")) := by
  refine fun_ok (ps := ["value"]) (N := ["value", "one", "two", "letter"]) (body := d__law_is_stacking.body) (cf := callD prg n) T.d__law_is_stacking.F sc__law_is_stacking (fun ds μ hl => ?_) (fun cdv A' outer s H E hr => ?_)
  · show (if ds.length = 1 then _ else _) = _
    rw [if_pos (show ds.length = 1 from hl)]; rfl
  · have hu := hr.units
    have nd := sc__law_is_stacking.nd
    exact (sss_cons (ss_if (PW.pt (sw_or (st_not (st_truth rfl (se_blt (b_isi rfl) rfl T.n_isinstance bt_isinstance (sa_cons (se_var 0) (sa_cons (se_ty rfl T.n_str bt_str) sa_nil))) (fun _ => rfl))) (sw_or (st_not (st_chain (o_lt) (o_lt) bl_fLt bl_fLt (se_int) (se_blt (b_len rfl) rfl T.n_len bt_len (sa_cons (se_var 0) sa_nil)) (se_int))) (sw_one_or (st_not (st_truth rfl (se_blt (b_all rfl) rfl T.n_all bt_all (sa_cons (se_comp (own := [("letter", 3)]) rfl nd rfl (si_val rfl (se_var 0)) rfl (fun _ _ _ _ _ => sg_name 3 nd) (fun _ _ _ _ _ => se_cmp (o_in rfl) (se_var 3) (se_str rfl) (by with_unfolding_all rfl))) sa_nil)) (fun _ => rfl))))))) (sss_cons (ss_ret (se_bl)) sss_nil) sss_nil)
      (sss_cons (ss_ret (se_not rfl (se_blt (b_any rfl) rfl T.n_any bt_any (sa_cons (se_comp (own := [("one", 1), ("two", 2)]) rfl nd rfl (si_zip rfl rfl T.n_zip (se_var 0) (se_sl rfl (se_var 0) (so_some (se_int)) (so_none))) rfl (fun _ _ _ _ _ => sg_tup rfl rfl (sgs_cons (sg_name 1 nd) (sgs_cons (sg_name 2 nd) sgs_nil))) (fun _ _ _ _ _ => se_cmp (o_eq rfl hu) (se_var 1) (se_var 2) (nomark _))) sa_nil))))
      sss_nil))
theorem sc__law_is_closed : FnScope ["value"] ["value"] (defScope s__law_is_closed) := ⟨rfl, rfl, rfl, by decide +kernel, rfl, by decide +kernel, by decide +kernel⟩
theorem ok__law_is_closed (T : Txt K mg fa fdd w) (A : All P w K mg base fa fdd n) : FnOk P w K mg base (L2.CX P w) (n + 3) (fa 40) (fdd 40) ["value"] (spF (gc K) 1 (callD prg (n + 1) "_law_is_closed")) := by
  refine fun_ok (ps := ["value"]) (N := ["value"]) (body := d__law_is_closed.body) (cf := callD prg n) T.d__law_is_closed.F sc__law_is_closed (fun ds μ hl => ?_) (fun cdv A' outer s H E hr => ?_)
  · show (if ds.length = 1 then _ else _) = _
    rw [if_pos (show ds.length = 1 from hl)]; rfl
  · have hu := hr.units
    have nd := sc__law_is_closed.nd
    exact (sss_cons (ss_ret (se_and rfl (se_call A.c__law_is_stacking hr rfl T.d__law_is_stacking.g T.d__law_is_stacking.k T.d__law_is_stacking.b (takes_of rfl rfl rfl rfl) (sa_cons (se_var 0) sa_nil) rfl) (se_and rfl (se_cmp (o_gt) (se_blt (b_len rfl) rfl T.n_len bt_len (sa_cons (se_var 0) sa_nil)) (se_int) (nomark _)) (se_one (se_cmp (o_ne rfl hu) (se_ix (o_ix rfl) (se_var 0) (se_int) (fun _ _ => rfl)) (se_ix (o_ix rfl) (se_var 0) (se_un o_neg (se_int)) (fun _ _ => rfl)) (nomark _))))))
      sss_nil)
theorem sc__law_further : FnScope ["letter", "k"] ["letter", "k"] (defScope s__law_further) := ⟨rfl, rfl, rfl, by decide +kernel, rfl, by decide +kernel, by decide +kernel⟩
theorem ok__law_further (T : Txt K mg fa fdd w) (A : All P w K mg base fa fdd n) : FnOk P w K mg base (L2.CX P w) (n + 3) (fa 41) (fdd 41) ["letter", "k"] (spF (gc K) 2 (callD prg (n + 1) "_law_further")) := by
  refine fun_ok (ps := ["letter", "k"]) (N := ["letter", "k"]) (body := d__law_further.body) (cf := callD prg n) T.d__law_further.F sc__law_further (fun ds μ hl => ?_) (fun cdv A' outer s H E hr => ?_)
  · show (if ds.length = 2 then _ else _) = _
    rw [if_pos (show ds.length = 2 from hl)]; rfl
  · have hu := hr.units
    have nd := sc__law_further.nd
    exact (sss_cons (ss_ret (se_ix (o_ix rfl) (se_str rfl) (se_bin (o_mod) (se_bin (o_add rfl) (se_meth F.plainAttrs_str F.slot_str_index F.type_str_index (m_index) isStr_ok (se_str rfl) (sa_cons (se_var 0) sa_nil)) (se_var 1)) (se_int)) (fun _ _ => rfl)))
      sss_nil)
theorem sc__law_by : FnScope ["letter", "steps", "found", "step"] ["letter", "steps"] (defScope s__law_by) := ⟨rfl, rfl, rfl, by decide +kernel, rfl, by decide +kernel, by decide +kernel⟩
theorem ok__law_by (T : Txt K mg fa fdd w) (A : All P w K mg base fa fdd n) : FnOk P w K mg base (L2.CX P w) (n + 3) (fa 42) (fdd 42) ["letter", "steps"] (spF (gc K) 2 (callD prg (n + 1) "_law_by")) := by
  refine fun_ok (ps := ["letter", "steps"]) (N := ["letter", "steps", "found", "step"]) (body := d__law_by.body) (cf := callD prg n) T.d__law_by.F sc__law_by (fun ds μ hl => ?_) (fun cdv A' outer s H E hr => ?_)
  · show (if ds.length = 2 then _ else _) = _
    rw [if_pos (show ds.length = 2 from hl)]; rfl
  · have hu := hr.units
    have nd := sc__law_by.nd
    exact (sss_cons (ss_asg (se_var 0) (sa_name 2 nd))
      (sss_cons (ss_for (passes_of rfl) rfl (si_val rfl (se_var 1)) (sg_name 3 nd) (sss_cons (ss_asg (se_bin (o_add rfl) (se_var 2) (se_call A.c__law_further hr rfl T.d__law_further.g T.d__law_further.k T.d__law_further.b (takes_of rfl rfl rfl rfl) (sa_cons (se_ix (o_ix rfl) (se_var 2) (se_un o_neg (se_int)) (fun _ _ => rfl)) (sa_cons (st_ite (st_cmp (o_eq rfl hu) bl_fEq (se_var 3) (se_str rfl) (nomark _)) (se_int) (se_int)) sa_nil)) rfl)) (sa_name 2 nd)) sss_nil))
      (sss_cons (ss_ret (se_var 2))
      sss_nil)))
theorem sc__law_marks : FnScope ["text", "one", "two"] ["text"] (defScope s__law_marks) := ⟨rfl, rfl, rfl, by decide +kernel, rfl, by decide +kernel, by decide +kernel⟩
theorem ok__law_marks (T : Txt K mg fa fdd w) (A : All P w K mg base fa fdd n) : FnOk P w K mg base (L2.CX P w) (n + 3) (fa 43) (fdd 43) ["text"] (spF (gc K) 1 (callD prg (n + 1) "_law_marks")) := by
  refine fun_ok (ps := ["text"]) (N := ["text", "one", "two"]) (body := d__law_marks.body) (cf := callD prg n) T.d__law_marks.F sc__law_marks (fun ds μ hl => ?_) (fun cdv A' outer s H E hr => ?_)
  · show (if ds.length = 1 then _ else _) = _
    rw [if_pos (show ds.length = 1 from hl)]; rfl
  · have hu := hr.units
    have nd := sc__law_marks.nd
    exact (sss_cons (ss_ret (se_meth F.plainAttrs_str F.slot_str_join F.type_str_join (m_join rfl) isStr_ok (se_str rfl) (sa_cons (se_comp (own := [("one", 1), ("two", 2)]) rfl nd rfl (si_zip rfl rfl T.n_zip (se_var 0) (se_sl rfl (se_var 0) (so_some (se_int)) (so_none))) rfl (fun _ _ _ _ _ => sg_tup rfl rfl (sgs_cons (sg_name 1 nd) (sgs_cons (sg_name 2 nd) sgs_nil))) (fun _ _ _ _ _ => st_ite (st_cmp (o_eq rfl hu) bl_fEq (se_var 1) (se_var 2) (nomark _)) (se_str rfl) (se_str rfl))) sa_nil)))
      sss_nil)
theorem sc__law_stacking : FnScope ["bag", "low", "most", "many", "letter", "row", "turn"] ["bag", "low", "most"] (defScope s__law_stacking) := ⟨rfl, rfl, rfl, by decide +kernel, rfl, by decide +kernel, by decide +kernel⟩
theorem ok__law_stacking (T : Txt K mg fa fdd w) (A : All P w K mg base fa fdd n) : FnOk P w K mg base (L2.CX P w) (n + 3) (fa 44) (fdd 44) ["bag", "low", "most"] (spF (gc K) 3 (callD prg (n + 1) "_law_stacking")) := by
  refine fun_ok (ps := ["bag", "low", "most"]) (N := ["bag", "low", "most", "many", "letter", "row", "turn"]) (body := d__law_stacking.body) (cf := callD prg n) T.d__law_stacking.F sc__law_stacking (fun ds μ hl => ?_) (fun cdv A' outer s H E hr => ?_)
  · show (if ds.length = 3 then _ else _) = _
    rw [if_pos (show ds.length = 3 from hl)]; rfl
  · have hu := hr.units
    have nd := sc__law_stacking.nd
    exact (sss_cons (ss_par (i := 3) (j := 4) rfl nd rfl rfl (by decide) rfl rfl (sa_cons (se_bin (o_add rfl) (se_var 1) (se_call A.c__law_draw hr rfl T.d__law_draw.g T.d__law_draw.k T.d__law_draw.b (takes_of rfl rfl rfl rfl) (sa_cons (se_var 0) (sa_cons (se_bin (o_add rfl) (se_bin (o_sub) (se_var 2) (se_var 1)) (se_int)) sa_nil)) rfl)) (sa_cons (se_call A.c__law_one hr rfl T.d__law_one.g T.d__law_one.k T.d__law_one.b (takes_of rfl rfl rfl rfl) (sa_cons (se_var 0) (sa_cons (se_str rfl) sa_nil)) rfl) sa_nil)) rfl)
      (sss_cons (ss_asg (se_meth F.plainAttrs_str F.slot_str_join F.type_str_join (m_join rfl) isStr_ok (se_str rfl) (sa_cons (se_comp (own := [("turn", 6)]) rfl nd rfl (si_rng1 rfl T.n_range (se_call A.c__law_one hr rfl T.d__law_one.g T.d__law_one.k T.d__law_one.b (takes_of rfl rfl rfl rfl) (sa_cons (se_var 0) (sa_cons (se_lst (sa_cons (se_int) (sa_cons (se_int) (sa_cons (se_int) (sa_cons (se_int) (sa_cons (se_int) (sa_cons (se_int) (sa_cons (se_int) sa_nil)))))))) sa_nil)) rfl)) rfl (fun _ _ _ _ _ => sg_name 6 nd) (fun _ _ _ _ _ => se_call A.c__law_one hr rfl T.d__law_one.g T.d__law_one.k T.d__law_one.b takes0 (sa_cons (se_var 0) (sa_cons (se_str rfl) sa_nil)) rfl)) sa_nil)) (sa_name 5 nd))
      (sss_cons (ss_ret (se_call A.c__law_by hr rfl T.d__law_by.g T.d__law_by.k T.d__law_by.b (takes_of rfl rfl rfl rfl) (sa_cons (se_var 4) (sa_cons (se_sl rfl (se_bin (o_mul) (se_var 5) (se_int)) (so_none) (so_some (se_bin (o_sub) (se_var 3) (se_int)))) sa_nil)) rfl))
      sss_nil)))
theorem sc__law_closed : FnScope ["bag", "low", "most", "text", "letter"] ["bag", "low", "most"] (defScope s__law_closed) := ⟨rfl, rfl, rfl, by decide +kernel, rfl, by decide +kernel, by decide +kernel⟩
theorem ok__law_closed (T : Txt K mg fa fdd w) (A : All P w K mg base fa fdd n) : FnOk P w K mg base (L2.CX P w) (n + 3) (fa 45) (fdd 45) ["bag", "low", "most"] (spF (gc K) 3 (callD prg (n + 1) "_law_closed")) := by
  refine fun_ok (ps := ["bag", "low", "most"]) (N := ["bag", "low", "most", "text", "letter"]) (body := d__law_closed.body) (cf := callD prg n) T.d__law_closed.F sc__law_closed (fun ds μ hl => ?_) (fun cdv A' outer s H E hr => ?_)
  · show (if ds.length = 3 then _ else _) = _
    rw [if_pos (show ds.length = 3 from hl)]; rfl
  · have hu := hr.units
    have nd := sc__law_closed.nd
    exact (sss_cons (ss_asg (se_call A.c__law_stacking hr rfl T.d__law_stacking.g T.d__law_stacking.k T.d__law_stacking.b (takes_of rfl rfl rfl rfl) (sa_cons (se_var 0) (sa_cons (se_blt (b_max rfl) rfl T.n_max bt_max (sa_cons (se_var 1) (sa_cons (se_int) sa_nil))) (sa_cons (se_var 2) sa_nil))) rfl) (sa_name 3 nd))
      (sss_cons (ss_if (st_cmp (o_eq rfl hu) bl_fEq (se_ix (o_ix rfl) (se_var 3) (se_int) (fun _ _ => rfl)) (se_ix (o_ix rfl) (se_var 3) (se_un o_neg (se_int)) (fun _ _ => rfl)) (nomark _)) (sss_cons (ss_asg (se_bin (o_add rfl) (se_sl rfl (se_var 3) (so_none) (so_some (se_un o_neg (se_int)))) (se_ix (o_ix rfl) (se_compif (own := [("letter", 4)]) rfl nd rfl (si_val rfl (se_str rfl)) rfl (fun _ _ _ _ _ => sg_name 4 nd) (fun _ _ _ _ _ => st_cmp (o_notIn rfl) bl_fNotIn (se_var 4) (se_lst (sa_cons (se_ix (o_ix rfl) (se_var 3) (se_int) (fun _ _ => rfl)) (sa_cons (se_ix (o_ix rfl) (se_var 3) (se_un o_neg (se_int)) (fun _ _ => rfl)) sa_nil))) (by with_unfolding_all rfl)) (fun _ _ _ _ _ => se_var 4)) (se_int) (fun _ _ => rfl))) (sa_name 3 nd)) sss_nil) sss_nil)
      (sss_cons (ss_ret (se_var 3))
      sss_nil)))
theorem sc__law_closed_right : FnScope ["bag", "text", "many", "parts", "least", "marks", "told", "top", "bottom", "one", "two", "claims", "claim", "paper", "each", "wanted", "answers", "odd", "k"] ["bag", "text"] (defScope s__law_closed_right) := ⟨rfl, rfl, rfl, by decide +kernel, rfl, by decide +kernel, by decide +kernel⟩
theorem ok__law_closed_right (T : Txt K mg fa fdd w) (A : All P w K mg base fa fdd n) : FnOk P w K mg base (L2.CX P w) (n + 3) (fa 46) (fdd 46) ["bag", "text"] (spF (gc K) 2 (callD prg (n + 1) "_law_closed_right")) := by
  refine fun_ok (ps := ["bag", "text"]) (N := ["bag", "text", "many", "parts", "least", "marks", "told", "top", "bottom", "one", "two", "claims", "claim", "paper", "each", "wanted", "answers", "odd", "k"]) (body := d__law_closed_right.body) (cf := callD prg n) T.d__law_closed_right.F sc__law_closed_right (fun ds μ hl => ?_) (fun cdv A' outer s H E hr => ?_)
  · show (if ds.length = 2 then _ else _) = _
    rw [if_pos (show ds.length = 2 from hl)]; rfl
  · have hu := hr.units
    have nd := sc__law_closed_right.nd
    exact (sss_cons (ss_asg (se_blt (b_len rfl) rfl T.n_len bt_len (sa_cons (se_var 1) sa_nil)) (sa_name 2 nd))
      (sss_cons (ss_setLcif (i := 3) (own := [("k", 18)]) rfl nd rfl rfl rfl rfl (si_rng2 rfl T.n_range (se_int) (se_var 2)) rfl (fun _ _ _ _ _ => sg_name 18 nd) (fun _ _ _ _ _ => PW.pt (sw_and (st_cmp (o_eq rfl hu) bl_fEq (se_bin (o_mod) (se_var 2) (se_var 18)) (se_int) (nomark _)) (sw_one_and (st_cmp (o_eq rfl hu) bl_fEq (se_bin (o_mul) (se_sl rfl (se_var 1) (so_none) (so_some (se_var 18))) (se_bin (o_div) (se_var 2) (se_var 18))) (se_var 1) (nomark _))))) (fun _ _ _ _ _ => se_var 18))
      (sss_cons (ss_par (i := 4) (j := 5) rfl nd rfl rfl (by decide) rfl rfl (sa_cons (st_ite (st_cmp (o_ne rfl hu) bl_fNe (se_var 3) (se_lst sa_nil) (nomark _)) (se_sl rfl (se_var 1) (so_none) (so_some (se_ix (o_ix rfl) (se_var 3) (se_int) (fun _ _ => rfl)))) (se_var 1)) (sa_cons (se_call A.c__law_marks hr rfl T.d__law_marks.g T.d__law_marks.k T.d__law_marks.b (takes_of rfl rfl rfl rfl) (sa_cons (se_bin (o_add rfl) (se_bin (o_add rfl) (se_ix (o_ix rfl) (se_var 1) (se_un o_neg (se_int)) (fun _ _ => rfl)) (se_var 1)) (se_ix (o_ix rfl) (se_var 1) (se_int) (fun _ _ => rfl))) sa_nil) rfl) sa_nil)) rfl)
      (sss_cons (ss_asg (se_lst (sa_cons (se_call A.c_is_own hr rfl T.d_is_own.g T.d_is_own.k T.d_is_own.b (takes_of rfl rfl rfl rfl) (sa_cons (se_var 1) sa_nil) rfl) (sa_cons (se_callK0 (pl := [0]) (ks := ["closed"]) A.c_is_own hr rfl T.d_is_own.g T.d_is_own.k (takes_of rfl rfl rfl rfl) (T.d_is_own.kw0 (m := 1) (ks := ["closed"]) (pl := [0]) (fun _ _ _ _ _ _ ws h2 => match ws, h2 with | [_], _ => rfl)) (fun vs h => match vs, h with | [_], _ => rfl) (sk_cons (se_var 1) sk_nil)) (sa_cons (se_call A.c_own_part hr rfl T.d_own_part.g T.d_own_part.k T.d_own_part.b (takes_of rfl rfl rfl rfl) (sa_cons (se_var 1) sa_nil) rfl) (sa_cons (se_call A.c_is_closed hr rfl T.d_is_closed.g T.d_is_closed.k T.d_is_closed.b (takes_of rfl rfl rfl rfl) (sa_cons (se_var 1) sa_nil) rfl) (sa_cons (se_call A.c_round_marks hr rfl T.d_round_marks.g T.d_round_marks.k T.d_round_marks.b (takes_of rfl rfl rfl rfl) (sa_cons (se_var 1) sa_nil) rfl) (sa_cons (se_call A.c_h_count hr rfl T.d_h_count.g T.d_h_count.k T.d_h_count.b (takes_of rfl rfl rfl rfl) (sa_cons (se_var 1) sa_nil) rfl) sa_nil))))))) (sa_name 6 nd))
      (sss_cons (ss_if (st_not (st_truth rfl (se_call A.c__law_same hr rfl T.d__law_same.g T.d__law_same.k T.d__law_same.b (takes_of rfl rfl rfl rfl) (sa_cons (se_var 6) (sa_cons (se_lst (sa_cons (se_cmp (o_eq rfl hu) (se_var 3) (se_lst sa_nil) (nomark _)) (sa_cons (se_cmp (o_eq rfl hu) (se_var 3) (se_lst sa_nil) (nomark _)) (sa_cons (se_var 4) (sa_cons (se_bl) (sa_cons (se_var 5) (sa_cons (se_meth F.plainAttrs_str F.slot_str_count F.type_str_count (m_count) isStr_ok (se_var 5) (sa_cons (se_str rfl) sa_nil)) sa_nil))))))) sa_nil)) rfl) (fun _ => rfl))) (sss_cons (ss_ret (se_bl)) sss_nil) sss_nil)
      (sss_cons (ss_asg (se_call A.c_share hr rfl T.d_share.g T.d_share.k T.d_share.b (takes_of rfl rfl rfl rfl) (sa_cons (se_var 1) sa_nil) rfl) (sa_tup rfl rfl (sas_cons (sa_name 7 nd) (sas_cons (sa_name 8 nd) sas_nil))))
      (sss_cons (ss_par (i := 9) (j := 10) rfl nd rfl rfl (by decide) rfl rfl (sa_cons (se_var 7) (sa_cons (se_var 8) sa_nil)) rfl)
      (sss_cons (ss_while (passes_of rfl) (st_cmp (o_gt) bl_fGt (se_var 10) (se_int) (nomark _)) (sss_cons (ss_par (i := 9) (j := 10) rfl nd rfl rfl (by decide) rfl rfl (sa_cons (se_var 10) (sa_cons (se_bin (o_mod) (se_var 9) (se_var 10)) sa_nil)) rfl) sss_nil))
      (sss_cons (ss_if (PW.pt (sw_or (st_cmp (o_ne rfl hu) bl_fNe (se_var 9) (se_int) (nomark _)) (sw_or (st_cmp (o_ne rfl hu) bl_fNe (se_bin (o_mul) (se_var 7) (se_var 2)) (se_bin (o_mul) (se_meth F.plainAttrs_str F.slot_str_count F.type_str_count (m_count) isStr_ok (se_var 5) (sa_cons (se_str rfl) sa_nil)) (se_var 8)) (nomark _)) (sw_or (st_cmp (o_lt) bl_fLt (se_var 8) (se_int) (nomark _)) (sw_one_or (st_cmp (o_ne rfl hu) bl_fNe (se_call A.c_share hr rfl T.d_share.g T.d_share.k T.d_share.b (takes_of rfl rfl rfl rfl) (sa_cons (se_call A.c_own_part hr rfl T.d_own_part.g T.d_own_part.k T.d_own_part.b (takes_of rfl rfl rfl rfl) (sa_cons (se_var 1) sa_nil) rfl) sa_nil) rfl) (se_tup (sa_cons (se_var 7) (sa_cons (se_var 8) sa_nil))) (nomark _))))))) (sss_cons (ss_ret (se_bl)) sss_nil) sss_nil)
      (sss_cons (ss_asg (se_lst (sa_cons (se_tup (sa_cons (se_str rfl) (sa_cons (se_var 1) sa_nil))) (sa_cons (se_tup (sa_cons (se_str rfl) (sa_cons (se_var 1) sa_nil))) sa_nil))) (sa_name 11 nd))
      (sss_cons (ss_asg (se_call A.c_certify_own hr rfl T.d_certify_own.g T.d_certify_own.k T.d_certify_own.b (takes_of rfl rfl rfl rfl) (sa_cons (se_var 1) sa_nil) rfl) (sa_tup rfl rfl (sas_cons (sa_name 12 nd) (sas_cons (sa_name 13 nd) sas_nil))))
      (sss_cons (ss_if (st_not (st_truth rfl (se_call A.c__law_same hr rfl T.d__law_same.g T.d__law_same.k T.d__law_same.b (takes_of rfl rfl rfl rfl) (sa_cons (se_lst (sa_cons (se_var 12) (sa_cons (se_call A.c_accepts hr rfl T.d_accepts.g T.d_accepts.k T.d_accepts.b (takes_of rfl rfl rfl rfl) (sa_cons (se_var 12) (sa_cons (se_var 13) sa_nil)) rfl) sa_nil))) (sa_cons (se_lst (sa_cons (st_ite (st_cmp (o_eq rfl hu) bl_fEq (se_var 3) (se_lst sa_nil) (nomark _)) (se_ix (o_ix rfl) (se_var 11) (se_int) (fun _ _ => rfl)) (se_ix (o_ix rfl) (se_var 11) (se_int) (fun _ _ => rfl))) (sa_cons (se_bl) sa_nil))) sa_nil)) rfl) (fun _ => rfl))) (sss_cons (ss_ret (se_bl)) sss_nil) sss_nil)
      (sss_cons (ss_for (passes_of rfl) rfl (si_val rfl (se_bin (o_add rfl) (se_bin (o_add rfl) (se_lst (sa_cons (se_var 13) (sa_cons (se_tup sa_nil) (sa_cons (se_non) (sa_cons (se_str rfl) (sa_cons (se_bl) (sa_cons (se_str rfl) (sa_cons (se_tup (sa_cons (se_int) sa_nil)) (sa_cons (se_lst (sa_cons (se_int) sa_nil)) (sa_cons (se_bin (o_sub) (se_int) (se_int)) (sa_cons (se_var 4) sa_nil))))))))))) (se_lstRg1 rfl rfl T.n_list rfl T.n_range (se_bin (o_add rfl) (se_var 2) (se_int)))) (se_lst (sa_cons (se_bin (o_mul) (se_int) (se_var 2)) sa_nil)))) (sg_name 14 nd) (sss_cons (ss_asg (se_lst (sa_cons (se_and rfl (se_blt (b_isi rfl) rfl T.n_isinstance bt_isinstance (sa_cons (se_var 14) (sa_cons (se_ty rfl T.n_tuple bt_tuple) sa_nil))) (se_and rfl (se_cmp (o_eq rfl hu) (se_var 14) (se_tup sa_nil) (nomark _)) (se_one (se_cmp (o_eq rfl hu) (se_var 3) (se_lst sa_nil) (nomark _))))) (sa_cons (se_and rfl (se_call A.c__law_is_whole hr rfl T.d__law_is_whole.g T.d__law_is_whole.k T.d__law_is_whole.b (takes_of rfl rfl rfl rfl) (sa_cons (se_var 14) sa_nil) rfl) (se_one (se_cmp (o_in rfl) (se_var 14) (se_var 3) (by with_unfolding_all rfl)))) sa_nil))) (sa_name 15 nd)) (sss_cons (ss_asg (se_lst (sa_cons (se_call A.c_accepts hr rfl T.d_accepts.g T.d_accepts.k T.d_accepts.b (takes_of rfl rfl rfl rfl) (sa_cons (se_ix (o_ix rfl) (se_var 11) (se_int) (fun _ _ => rfl)) (sa_cons (se_var 14) sa_nil)) rfl) (sa_cons (se_callK0 (pl := [1, 0]) (ks := ["paper", "claim"]) A.c_accepts hr rfl T.d_accepts.g T.d_accepts.k (takes_of rfl rfl rfl rfl) (T.d_accepts.kw0 (m := 2) (ks := ["paper", "claim"]) (pl := [1, 0]) (fun _ _ _ _ _ _ ws h2 => match ws, h2 with | [_, _], _ => rfl)) (fun vs h => match vs, h with | [_, _], _ => rfl) (sk_cons (se_var 14) (sk_cons (se_ix (o_ix rfl) (se_var 11) (se_int) (fun _ _ => rfl)) sk_nil))) sa_nil))) (sa_name 16 nd)) (sss_cons (ss_if (PW.pt (sw_or (st_not (st_truth rfl (se_call A.c__law_same hr rfl T.d__law_same.g T.d__law_same.k T.d__law_same.b (takes_of rfl rfl rfl rfl) (sa_cons (se_var 16) (sa_cons (se_var 15) sa_nil)) rfl) (fun _ => rfl))) (sw_one_or (st_cmp (o_eq rfl hu) bl_fEq (se_var 15) (se_lst (sa_cons (se_bl) (sa_cons (se_bl) sa_nil))) (nomark _))))) (sss_cons (ss_ret (se_bl)) sss_nil) sss_nil) sss_nil))))
      (sss_cons (ss_asg (se_lst (sa_cons (se_sl rfl (se_var 12) (so_none) (so_some (se_int))) (sa_cons (se_bin (o_add rfl) (se_var 12) (se_tup (sa_cons (se_int) sa_nil))) (sa_cons (se_bty (b_listD rfl rfl) rfl T.n_list bt_list (sa_cons (se_var 12) sa_nil)) (sa_cons (se_tup (sa_cons (se_ix (o_ix rfl) (se_var 12) (se_int) (fun _ _ => rfl)) (sa_cons (se_bin (o_add rfl) (se_var 1) (se_ix (o_ix rfl) (se_var 1) (se_int) (fun _ _ => rfl))) sa_nil))) (sa_cons (se_tup (sa_cons (se_ix (o_ix rfl) (se_var 12) (se_int) (fun _ _ => rfl)) (sa_cons (se_non) sa_nil))) (sa_cons (se_tup (sa_cons (se_ix (o_ix rfl) (se_var 12) (se_int) (fun _ _ => rfl)) (sa_cons (se_str rfl) sa_nil))) sa_nil))))))) (sa_name 17 nd))
      (sss_cons (ss_asg (se_bin (o_add rfl) (se_var 17) (se_lst (sa_cons (se_tup (sa_cons (se_ix (o_ix rfl) (se_var 12) (se_int) (fun _ _ => rfl)) (sa_cons (se_bin (o_add rfl) (se_sl rfl (se_var 1) (so_none) (so_some (se_un o_neg (se_int)))) (se_ix (o_ix rfl) (se_var 1) (se_int) (fun _ _ => rfl))) sa_nil))) sa_nil))) (sa_name 17 nd))
      (sss_cons (ss_asg (se_bin (o_add rfl) (se_var 17) (se_lst (sa_cons (se_tup (sa_cons (se_str rfl) (sa_cons (se_var 1) sa_nil))) (sa_cons (se_tup (sa_cons (se_ix (o_ix rfl) (se_var 12) (se_int) (fun _ _ => rfl)) (sa_cons (se_bty (b_tupleD rfl rfl) rfl T.n_tuple bt_tuple (sa_cons (se_var 1) sa_nil)) sa_nil))) (sa_cons (se_tup (sa_cons (se_ix (o_ix rfl) (se_var 12) (se_int) (fun _ _ => rfl)) (sa_cons (se_bin (o_mul) (se_str rfl) (se_int)) sa_nil))) (sa_cons (se_tup (sa_cons (se_ix (o_ix rfl) (se_var 12) (se_int) (fun _ _ => rfl)) (sa_cons (se_str rfl) sa_nil))) sa_nil)))))) (sa_name 17 nd))
      (sss_cons (ss_ret (se_not rfl (se_blt (b_any rfl) rfl T.n_any bt_any (sa_cons (se_comp (own := [("each", 14)]) rfl nd rfl (si_val rfl (se_var 17)) rfl (fun _ _ _ _ _ => sg_name 14 nd) (fun _ _ _ _ _ => se_or rfl (se_call A.c_accepts hr rfl T.d_accepts.g T.d_accepts.k T.d_accepts.b takes0 (sa_cons (se_var 14) (sa_cons (se_var 13) sa_nil)) rfl) (se_one (se_call A.c_accepts hr rfl T.d_accepts.g T.d_accepts.k T.d_accepts.b takes0 (sa_cons (se_var 14) (sa_cons (se_tup sa_nil) sa_nil)) rfl)))) sa_nil))))
      sss_nil)))))))))))))))))
theorem sc_law : FnScope ["script", "at", "bag", "turn", "text", "far", "letter"] ["script"] (defScope s_law) := ⟨rfl, rfl, rfl, by decide +kernel, rfl, by decide +kernel, by decide +kernel⟩
theorem ok_law (T : Txt K mg fa fdd w) (A : All P w K mg base fa fdd n) : FnOk P w K mg base (L2.CX P w) (n + 3) (fa 47) (fdd 47) ["script"] (spF (gc K) 1 (callD prg (n + 1) "law")) := by
  refine fun_ok (ps := ["script"]) (N := ["script", "at", "bag", "turn", "text", "far", "letter"]) (body := d_law.body) (cf := callD prg n) T.d_law.F sc_law (fun ds μ hl => ?_) (fun cdv A' outer s H E hr => ?_)
  · show (if ds.length = 1 then _ else _) = _
    rw [if_pos (show ds.length = 1 from hl)]; rfl
  · have hu := hr.units
    have nd := sc_law.nd
    exact (sss_cons (ss_for (passes_of rfl) rfl (si_rng1 rfl T.n_range (se_blt (b_max rfl) rfl T.n_max bt_max (sa_cons (se_int) (sa_cons (se_blt (b_minD rfl rfl) rfl T.n_min bt_min (sa_cons (se_blt (b_len rfl) rfl T.n_len bt_len (sa_cons (se_var 0) sa_nil)) (sa_cons (se_int) sa_nil))) sa_nil)))) (sg_name 1 nd) (sss_cons (ss_asg (se_call A.c__law_bag hr rfl T.d__law_bag.g T.d__law_bag.k T.d__law_bag.b (takes_of rfl rfl rfl rfl) (sa_cons (se_var 0) (sa_cons (se_var 1) sa_nil)) rfl) (sa_name 2 nd)) (sss_cons (ss_for (passes_of rfl) rfl (si_rng1 rfl T.n_range (se_int)) (sg_name 3 nd) (sss_cons (ss_asg (se_call A.c__law_closed hr rfl T.d__law_closed.g T.d__law_closed.k T.d__law_closed.b (takes_of rfl rfl rfl rfl) (sa_cons (se_var 2) (sa_cons (se_int) (sa_cons (se_call A.c__law_one hr rfl T.d__law_one.g T.d__law_one.k T.d__law_one.b (takes_of rfl rfl rfl rfl) (sa_cons (se_var 2) (sa_cons (se_lst (sa_cons (se_int) (sa_cons (se_int) (sa_cons (se_int) (sa_cons (se_int) sa_nil))))) sa_nil)) rfl) sa_nil))) rfl) (sa_name 4 nd)) (sss_cons (ss_if (PW.pt (sw_and (st_cmp (o_lt) bl_fLt (se_blt (b_len rfl) rfl T.n_len bt_len (sa_cons (se_var 4) sa_nil)) (se_int) (nomark _)) (sw_one_and (st_cmp (o_eq rfl hu) bl_fEq (se_call A.c__law_draw hr rfl T.d__law_draw.g T.d__law_draw.k T.d__law_draw.b (takes_of rfl rfl rfl rfl) (sa_cons (se_var 2) (sa_cons (se_int) sa_nil)) rfl) (se_int) (nomark _))))) (sss_cons (ss_asg (se_bin (o_mul) (se_var 4) (se_bin (o_add rfl) (se_int) (se_call A.c__law_draw hr rfl T.d__law_draw.g T.d__law_draw.k T.d__law_draw.b (takes_of rfl rfl rfl rfl) (sa_cons (se_var 2) (sa_cons (se_bin (o_sub) (se_bin (o_div) (se_int) (se_blt (b_len rfl) rfl T.n_len bt_len (sa_cons (se_var 4) sa_nil))) (se_int)) sa_nil)) rfl))) (sa_name 4 nd)) sss_nil) sss_nil) (sss_cons (ss_if (st_cmp (o_eq rfl hu) bl_fEq (se_call A.c__law_draw hr rfl T.d__law_draw.g T.d__law_draw.k T.d__law_draw.b (takes_of rfl rfl rfl rfl) (sa_cons (se_var 2) (sa_cons (se_int) sa_nil)) rfl) (se_int) (nomark _)) (sss_cons (ss_asg (se_bin (o_add rfl) (se_sl rfl (se_var 4) (so_none) (so_some (se_un o_neg (se_int)))) (se_ix (o_ix rfl) (se_compif (own := [("letter", 6)]) rfl nd rfl (si_val rfl (se_str rfl)) rfl (fun _ _ _ _ _ => sg_name 6 nd) (fun _ _ _ _ _ => st_cmp (o_ne rfl hu) bl_fNe (se_var 6) (se_ix (o_ix rfl) (se_var 4) (se_un o_neg (se_int)) (fun _ _ => rfl)) (nomark _)) (fun _ _ _ _ _ => se_var 6)) (se_int) (fun _ _ => rfl))) (sa_name 5 nd)) (sss_cons (ss_asg (st_ite (st_truth rfl (se_call A.c__law_is_closed hr rfl T.d__law_is_closed.g T.d__law_is_closed.k T.d__law_is_closed.b (takes_of rfl rfl rfl rfl) (sa_cons (se_var 5) sa_nil) rfl) (fun _ => rfl)) (se_var 5) (se_var 4)) (sa_name 4 nd)) sss_nil)) sss_nil) (sss_cons (ss_if (st_not (st_truth rfl (se_call A.c__law_closed_right hr rfl T.d__law_closed_right.g T.d__law_closed_right.k T.d__law_closed_right.b (takes_of rfl rfl rfl rfl) (sa_cons (se_var 2) (sa_cons (se_var 4) sa_nil)) rfl) (fun _ => rfl))) (sss_cons (ss_ret (se_bl)) sss_nil) sss_nil) sss_nil))))) sss_nil)))
      (sss_cons (ss_ret (se_bl))
      sss_nil))
theorem all_zero : All P w K mg base fa fdd 0 := ⟨fn_zero fun _ _ => rfl, fn_zero fun _ _ => rfl, fn_zero fun _ _ => rfl, fn_zero fun _ _ => rfl, fn_zero fun _ _ => rfl, fn_zero fun _ _ => rfl, fn_zero fun _ _ => rfl, fn_zero fun _ _ => rfl, fn_zero fun _ _ => rfl, fn_zero fun _ _ => rfl, fn_zero fun _ _ => rfl, fn_zero fun _ _ => rfl, fn_zero fun _ _ => rfl, fn_zero fun _ _ => rfl, fn_zero fun _ _ => rfl, fn_zero fun _ _ => rfl, fn_zero fun _ _ => rfl, fn_zero fun _ _ => rfl, fn_zero fun _ _ => rfl, fn_zero fun _ _ => rfl, fn_zero fun _ _ => rfl, fn_zero fun _ _ => rfl, fn_zero fun _ _ => rfl, fn_zero fun _ _ => rfl, fn_zero fun _ _ => rfl, fn_zero fun _ _ => rfl, fn_zero fun _ _ => rfl, fn_zero fun _ _ => rfl, fn_zero fun _ _ => rfl, fn_zero fun _ _ => rfl, fn_zero fun _ _ => rfl, fn_zero fun _ _ => rfl, fn_zero fun _ _ => rfl, fn_zero fun _ _ => rfl, fn_zero fun _ _ => rfl, fn_zero fun _ _ => rfl, fn_zero fun _ _ => rfl, fn_zero fun _ _ => rfl, fn_zero fun _ _ => rfl, fn_zero fun _ _ => rfl, fn_zero fun _ _ => rfl, fn_zero fun _ _ => rfl, fn_zero fun _ _ => rfl, fn_zero fun _ _ => rfl, fn_zero fun _ _ => rfl, fn_zero fun _ _ => rfl, fn_zero fun _ _ => rfl, fn_zero fun _ _ => rfl⟩
theorem all_n (T : Txt K mg fa fdd w) : ∀ n, All P w K mg base fa fdd n
  | 0 => all_zero
  | n + 1 => ⟨ok_is_whole T (all_n T n), ok_is_between T (all_n T n), ok_is_tuple_of T (all_n T n), ok_is_text_of T (all_n T n), ok_lowest T (all_n T n), ok_is_layer_number T (all_n T n), ok_is_stacked T (all_n T n), ok_is_closed_one T (all_n T n), ok_number_of T (all_n T n), ok_further T (all_n T n), ok_step_between T (all_n T n), ok_steps_by T (all_n T n), ok_round_steps_by T (all_n T n), ok_periods_of T (all_n T n), ok_is_own_by T (all_n T n), ok_check_closed T (all_n T n), ok_marks_between T (all_n T n), ok_round_marks_by T (all_n T n), ok_h_count_of T (all_n T n), ok_tells_closed T (all_n T n), ok_is_claim T (all_n T n), ok_certify_own T (all_n T n), ok_is_nothing T (all_n T n), ok_shows_own T (all_n T n), ok_shows_again T (all_n T n), ok_accepts T (all_n T n), ok_round_marks T (all_n T n), ok_h_count T (all_n T n), ok_share_by T (all_n T n), ok_own_part_by T (all_n T n), ok_share T (all_n T n), ok_own_part T (all_n T n), ok_is_closed T (all_n T n), ok_is_own T (all_n T n), ok__law_bag T (all_n T n), ok__law_draw T (all_n T n), ok__law_one T (all_n T n), ok__law_same T (all_n T n), ok__law_is_whole T (all_n T n), ok__law_is_stacking T (all_n T n), ok__law_is_closed T (all_n T n), ok__law_further T (all_n T n), ok__law_by T (all_n T n), ok__law_marks T (all_n T n), ok__law_stacking T (all_n T n), ok__law_closed T (all_n T n), ok__law_closed_right T (all_n T n), ok_law T (all_n T n)⟩
end
end Law
namespace Law
open Ev
theorem k96 : K96 prg where
  whole := rfl
  between := rfl
  text := rfl
  layer := rfl
  stacked := rfl
  closed1 := rfl
  isTupleOf := rfl
  lowest := rfl
  num := rfl
  fur := rfl
  stepB := rfl
  steps := rfl
  roundBy := rfl
  periods := rfl
  ownBy := rfl
  checkC := rfl
  marksB := rfl
  roundMarksBy := rfl
  hCountOf := rfl
  tellsClosed := rfl
  isClaim := rfl
  certifyOwn := rfl
  isNothing := rfl
  showsOwn := rfl
  showsAgain := rfl
  accepts := rfl
  roundMarks := rfl
  hCount := rfl
  shareBy := rfl
  ownPartBy := rfl
  share := rfl
  ownPart := rfl
  isClo := rfl
  isOwn := rfl
  lBag := rfl
  lDraw := rfl
  lOne := rfl
  lSame := rfl
  lIsWhole := rfl
  lis := rfl
  lic := rfl
  lfur := rfl
  lby := rfl
  lmarks := rfl
  lstk := rfl
  lclo := rfl
  lClosedRight := rfl
  law := rfl
theorem law_true : ∀ ns : List Int, ns.length ≤ 63 → ∃ μ, callD prg 20 "law" [.scr ns] [] = .ok (.bl true) μ := fun ns h => law_ok (n := 9) (μ := []) k96 ns h
end Law
open PySem PySem.W PyProof.Rows Ev
set_option maxRecDepth 100000 in
set_option maxHeartbeats 0 in
theorem PySem.Challenge.cw_layerballs_k96_whole_own_claims_holds : PySem.Challenge.rw_layerballs_k96_whole_own_claims.Holds := by
  w_on; o_law; k_head; (case hw => w_witness2)
  k_fill
  refine Ev.walk_law (l := PySem.Challenge.rw_layerballs_k96_whole_own_claims) (x := "script") (k := 20 + 2) rfl rfl ⟨rfl, by decide, by decide⟩ (fun w h Y => PySem.W.kIn_of Y) ?F
  case F =>
    intro w mg fa h KX G hmg
    obtain ⟨f0, fd0, D0⟩ : ∃ f fd, Ev.Df _ mg "is_whole" Law.s_is_whole ["value"] f fd := by
      refine' ⟨_, _, Ev.df_mk KX G ?a0 ?l0 ?c0 ?k0 (fun _ _ _ _ _ _ us hl => match us, hl with | [_], _ => rfl)⟩
      (case a0 => k_is); (case l0 => k_is); (case c0 => k_is); (case k0 => k_is)
    obtain ⟨f1, fd1, D1⟩ : ∃ f fd, Ev.Df _ mg "is_between" Law.s_is_between ["value", "low", "high"] f fd := by
      refine' ⟨_, _, Ev.df_mk KX G ?a1 ?l1 ?c1 ?k1 (fun _ _ _ _ _ _ us hl => match us, hl with | [_, _, _], _ => rfl)⟩
      (case a1 => k_is); (case l1 => k_is); (case c1 => k_is); (case k1 => k_is)
    obtain ⟨f2, fd2, D2⟩ : ∃ f fd, Ev.Df _ mg "is_tuple_of" Law.s_is_tuple_of ["value", "many"] f fd := by
      refine' ⟨_, _, Ev.df_mk KX G ?a2 ?l2 ?c2 ?k2 (fun _ _ _ _ _ _ us hl => match us, hl with | [_, _], _ => rfl)⟩
      (case a2 => k_is); (case l2 => k_is); (case c2 => k_is); (case k2 => k_is)
    obtain ⟨f3, fd3, D3⟩ : ∃ f fd, Ev.Df _ mg "is_text_of" Law.s_is_text_of ["value", "signs"] f fd := by
      refine' ⟨_, _, Ev.df_mk KX G ?a3 ?l3 ?c3 ?k3 (fun _ _ _ _ _ _ us hl => match us, hl with | [_, _], _ => rfl)⟩
      (case a3 => k_is); (case l3 => k_is); (case c3 => k_is); (case k3 => k_is)
    obtain ⟨f4, fd4, D4⟩ : ∃ f fd, Ev.Df _ mg "lowest" Law.s_lowest ["top", "low"] f fd := by
      refine' ⟨_, _, Ev.df_mk KX G ?a4 ?l4 ?c4 ?k4 (fun _ _ _ _ _ _ us hl => match us, hl with | [_, _], _ => rfl)⟩
      (case a4 => k_is); (case l4 => k_is); (case c4 => k_is); (case k4 => k_is)
    obtain ⟨f5, fd5, D5⟩ : ∃ f fd, Ev.Df _ mg "is_layer_number" Law.s_is_layer_number ["value"] f fd := by
      refine' ⟨_, _, Ev.df_mk KX G ?a5 ?l5 ?c5 ?k5 (fun _ _ _ _ _ _ us hl => match us, hl with | [_], _ => rfl)⟩
      (case a5 => k_is); (case l5 => k_is); (case c5 => k_is); (case k5 => k_is)
    obtain ⟨f6, fd6, D6⟩ : ∃ f fd, Ev.Df _ mg "is_stacked" Law.s_is_stacked ["value"] f fd := by
      refine' ⟨_, _, Ev.df_mk KX G ?a6 ?l6 ?c6 ?k6 (fun _ _ _ _ _ _ us hl => match us, hl with | [_], _ => rfl)⟩
      (case a6 => k_is); (case l6 => k_is); (case c6 => k_is); (case k6 => k_is)
    obtain ⟨f7, fd7, D7⟩ : ∃ f fd, Ev.Df _ mg "is_closed_one" Law.s_is_closed_one ["value"] f fd := by
      refine' ⟨_, _, Ev.df_mk KX G ?a7 ?l7 ?c7 ?k7 (fun _ _ _ _ _ _ us hl => match us, hl with | [_], _ => rfl)⟩
      (case a7 => k_is); (case l7 => k_is); (case c7 => k_is); (case k7 => k_is)
    obtain ⟨f8, fd8, D8⟩ : ∃ f fd, Ev.Df _ mg "number_of" Law.s_number_of ["letter"] f fd := by
      refine' ⟨_, _, Ev.df_mk KX G ?a8 ?l8 ?c8 ?k8 (fun _ _ _ _ _ _ us hl => match us, hl with | [_], _ => rfl)⟩
      (case a8 => k_is); (case l8 => k_is); (case c8 => k_is); (case k8 => k_is)
    obtain ⟨f9, fd9, D9⟩ : ∃ f fd, Ev.Df _ mg "further" Law.s_further ["letter", "number"] f fd := by
      refine' ⟨_, _, Ev.df_mk KX G ?a9 ?l9 ?c9 ?k9 (fun _ _ _ _ _ _ us hl => match us, hl with | [_, _], _ => rfl)⟩
      (case a9 => k_is); (case l9 => k_is); (case c9 => k_is); (case k9 => k_is)
    obtain ⟨f10, fd10, D10⟩ : ∃ f fd, Ev.Df _ mg "step_between" Law.s_step_between ["letter", "other_letter"] f fd := by
      refine' ⟨_, _, Ev.df_mk KX G ?a10 ?l10 ?c10 ?k10 (fun _ _ _ _ _ _ us hl => match us, hl with | [_, _], _ => rfl)⟩
      (case a10 => k_is); (case l10 => k_is); (case c10 => k_is); (case k10 => k_is)
    obtain ⟨f11, fd11, D11⟩ : ∃ f fd, Ev.Df _ mg "steps_by" Law.s_steps_by ["stacking"] f fd := by
      refine' ⟨_, _, Ev.df_mk KX G ?a11 ?l11 ?c11 ?k11 (fun _ _ _ _ _ _ us hl => match us, hl with | [_], _ => rfl)⟩
      (case a11 => k_is); (case l11 => k_is); (case c11 => k_is); (case k11 => k_is)
    obtain ⟨f12, fd12, D12⟩ : ∃ f fd, Ev.Df _ mg "round_steps_by" Law.s_round_steps_by ["closed"] f fd := by
      refine' ⟨_, _, Ev.df_mk KX G ?a12 ?l12 ?c12 ?k12 (fun _ _ _ _ _ _ us hl => match us, hl with | [_], _ => rfl)⟩
      (case a12 => k_is); (case l12 => k_is); (case c12 => k_is); (case k12 => k_is)
    obtain ⟨f13, fd13, D13⟩ : ∃ f fd, Ev.Df _ mg "periods_of" Law.s_periods_of ["closed"] f fd := by
      refine' ⟨_, _, Ev.df_mk KX G ?a13 ?l13 ?c13 ?k13 (fun _ _ _ _ _ _ us hl => match us, hl with | [_], _ => rfl)⟩
      (case a13 => k_is); (case l13 => k_is); (case c13 => k_is); (case k13 => k_is)
    obtain ⟨f14, fd14, D14⟩ : ∃ f fd, Ev.Df _ mg "is_own_by" Law.s_is_own_by ["closed"] f fd := by
      refine' ⟨_, _, Ev.df_mk KX G ?a14 ?l14 ?c14 ?k14 (fun _ _ _ _ _ _ us hl => match us, hl with | [_], _ => rfl)⟩
      (case a14 => k_is); (case l14 => k_is); (case c14 => k_is); (case k14 => k_is)
    obtain ⟨f15, fd15, D15⟩ : ∃ f fd, Ev.Df _ mg "check_closed" Law.s_check_closed ["closed"] f fd := by
      refine' ⟨_, _, Ev.df_mk KX G ?a15 ?l15 ?c15 ?k15 (fun _ _ _ _ _ _ us hl => match us, hl with | [_], _ => rfl)⟩
      (case a15 => k_is); (case l15 => k_is); (case c15 => k_is); (case k15 => k_is)
    obtain ⟨f16, fd16, D16⟩ : ∃ f fd, Ev.Df _ mg "marks_between" Law.s_marks_between ["steps"] f fd := by
      refine' ⟨_, _, Ev.df_mk KX G ?a16 ?l16 ?c16 ?k16 (fun _ _ _ _ _ _ us hl => match us, hl with | [_], _ => rfl)⟩
      (case a16 => k_is); (case l16 => k_is); (case c16 => k_is); (case k16 => k_is)
    obtain ⟨f17, fd17, D17⟩ : ∃ f fd, Ev.Df _ mg "round_marks_by" Law.s_round_marks_by ["closed"] f fd := by
      refine' ⟨_, _, Ev.df_mk KX G ?a17 ?l17 ?c17 ?k17 (fun _ _ _ _ _ _ us hl => match us, hl with | [_], _ => rfl)⟩
      (case a17 => k_is); (case l17 => k_is); (case c17 => k_is); (case k17 => k_is)
    obtain ⟨f18, fd18, D18⟩ : ∃ f fd, Ev.Df _ mg "h_count_of" Law.s_h_count_of ["closed"] f fd := by
      refine' ⟨_, _, Ev.df_mk KX G ?a18 ?l18 ?c18 ?k18 (fun _ _ _ _ _ _ us hl => match us, hl with | [_], _ => rfl)⟩
      (case a18 => k_is); (case l18 => k_is); (case c18 => k_is); (case k18 => k_is)
    obtain ⟨f19, fd19, D19⟩ : ∃ f fd, Ev.Df _ mg "tells_closed" Law.s_tells_closed ["parts"] f fd := by
      refine' ⟨_, _, Ev.df_mk KX G ?a19 ?l19 ?c19 ?k19 (fun _ _ _ _ _ _ us hl => match us, hl with | [_], _ => rfl)⟩
      (case a19 => k_is); (case l19 => k_is); (case c19 => k_is); (case k19 => k_is)
    obtain ⟨f20, fd20, D20⟩ : ∃ f fd, Ev.Df _ mg "is_claim" Law.s_is_claim ["value"] f fd := by
      refine' ⟨_, _, Ev.df_mk KX G ?a20 ?l20 ?c20 ?k20 (fun _ _ _ _ _ _ us hl => match us, hl with | [_], _ => rfl)⟩
      (case a20 => k_is); (case l20 => k_is); (case c20 => k_is); (case k20 => k_is)
    obtain ⟨f21, fd21, D21⟩ : ∃ f fd, Ev.Df _ mg "certify_own" Law.s_certify_own ["closed"] f fd := by
      refine' ⟨_, _, Ev.df_mk KX G ?a21 ?l21 ?c21 ?k21 (fun _ _ _ _ _ _ us hl => match us, hl with | [_], _ => rfl)⟩
      (case a21 => k_is); (case l21 => k_is); (case c21 => k_is); (case k21 => k_is)
    obtain ⟨f22, fd22, D22⟩ : ∃ f fd, Ev.Df _ mg "is_nothing" Law.s_is_nothing ["paper"] f fd := by
      refine' ⟨_, _, Ev.df_mk KX G ?a22 ?l22 ?c22 ?k22 (fun _ _ _ _ _ _ us hl => match us, hl with | [_], _ => rfl)⟩
      (case a22 => k_is); (case l22 => k_is); (case c22 => k_is); (case k22 => k_is)
    obtain ⟨f23, fd23, D23⟩ : ∃ f fd, Ev.Df _ mg "shows_own" Law.s_shows_own ["closed", "paper"] f fd := by
      refine' ⟨_, _, Ev.df_mk KX G ?a23 ?l23 ?c23 ?k23 (fun _ _ _ _ _ _ us hl => match us, hl with | [_, _], _ => rfl)⟩
      (case a23 => k_is); (case l23 => k_is); (case c23 => k_is); (case k23 => k_is)
    obtain ⟨f24, fd24, D24⟩ : ∃ f fd, Ev.Df _ mg "shows_again" Law.s_shows_again ["closed", "paper"] f fd := by
      refine' ⟨_, _, Ev.df_mk KX G ?a24 ?l24 ?c24 ?k24 (fun _ _ _ _ _ _ us hl => match us, hl with | [_, _], _ => rfl)⟩
      (case a24 => k_is); (case l24 => k_is); (case c24 => k_is); (case k24 => k_is)
    obtain ⟨f25, fd25, D25⟩ : ∃ f fd, Ev.Df _ mg "accepts" Law.s_accepts ["claim", "paper"] f fd := by
      refine' ⟨_, _, Ev.df_mk KX G ?a25 ?l25 ?c25 ?k25 (fun _ _ _ _ _ _ us hl => match us, hl with | [_, _], _ => rfl)⟩
      (case a25 => k_is); (case l25 => k_is); (case c25 => k_is); (case k25 => k_is)
    obtain ⟨f26, fd26, D26⟩ : ∃ f fd, Ev.Df _ mg "round_marks" Law.s_round_marks ["closed"] f fd := by
      refine' ⟨_, _, Ev.df_mk KX G ?a26 ?l26 ?c26 ?k26 (fun _ _ _ _ _ _ us hl => match us, hl with | [_], _ => rfl)⟩
      (case a26 => k_is); (case l26 => k_is); (case c26 => k_is); (case k26 => k_is)
    obtain ⟨f27, fd27, D27⟩ : ∃ f fd, Ev.Df _ mg "h_count" Law.s_h_count ["closed"] f fd := by
      refine' ⟨_, _, Ev.df_mk KX G ?a27 ?l27 ?c27 ?k27 (fun _ _ _ _ _ _ us hl => match us, hl with | [_], _ => rfl)⟩
      (case a27 => k_is); (case l27 => k_is); (case c27 => k_is); (case k27 => k_is)
    obtain ⟨f28, fd28, D28⟩ : ∃ f fd, Ev.Df _ mg "share_by" Law.s_share_by ["closed"] f fd := by
      refine' ⟨_, _, Ev.df_mk KX G ?a28 ?l28 ?c28 ?k28 (fun _ _ _ _ _ _ us hl => match us, hl with | [_], _ => rfl)⟩
      (case a28 => k_is); (case l28 => k_is); (case c28 => k_is); (case k28 => k_is)
    obtain ⟨f29, fd29, D29⟩ : ∃ f fd, Ev.Df _ mg "own_part_by" Law.s_own_part_by ["closed"] f fd := by
      refine' ⟨_, _, Ev.df_mk KX G ?a29 ?l29 ?c29 ?k29 (fun _ _ _ _ _ _ us hl => match us, hl with | [_], _ => rfl)⟩
      (case a29 => k_is); (case l29 => k_is); (case c29 => k_is); (case k29 => k_is)
    obtain ⟨f30, fd30, D30⟩ : ∃ f fd, Ev.Df _ mg "share" Law.s_share ["closed"] f fd := by
      refine' ⟨_, _, Ev.df_mk KX G ?a30 ?l30 ?c30 ?k30 (fun _ _ _ _ _ _ us hl => match us, hl with | [_], _ => rfl)⟩
      (case a30 => k_is); (case l30 => k_is); (case c30 => k_is); (case k30 => k_is)
    obtain ⟨f31, fd31, D31⟩ : ∃ f fd, Ev.Df _ mg "own_part" Law.s_own_part ["closed"] f fd := by
      refine' ⟨_, _, Ev.df_mk KX G ?a31 ?l31 ?c31 ?k31 (fun _ _ _ _ _ _ us hl => match us, hl with | [_], _ => rfl)⟩
      (case a31 => k_is); (case l31 => k_is); (case c31 => k_is); (case k31 => k_is)
    obtain ⟨f32, fd32, D32⟩ : ∃ f fd, Ev.Df _ mg "is_closed" Law.s_is_closed ["value"] f fd := by
      refine' ⟨_, _, Ev.df_mk KX G ?a32 ?l32 ?c32 ?k32 (fun _ _ _ _ _ _ us hl => match us, hl with | [_], _ => rfl)⟩
      (case a32 => k_is); (case l32 => k_is); (case c32 => k_is); (case k32 => k_is)
    obtain ⟨f33, fd33, D33⟩ : ∃ f fd, Ev.Df _ mg "is_own" Law.s_is_own ["closed"] f fd := by
      refine' ⟨_, _, Ev.df_mk KX G ?a33 ?l33 ?c33 ?k33 (fun _ _ _ _ _ _ us hl => match us, hl with | [_], _ => rfl)⟩
      (case a33 => k_is); (case l33 => k_is); (case c33 => k_is); (case k33 => k_is)
    obtain ⟨f34, fd34, D34⟩ : ∃ f fd, Ev.Df _ mg "_law_bag" Law.s__law_bag ["script", "at"] f fd := by
      refine' ⟨_, _, Ev.df_mk KX G ?a34 ?l34 ?c34 ?k34 (fun _ _ _ _ _ _ us hl => match us, hl with | [_, _], _ => rfl)⟩
      (case a34 => k_is); (case l34 => k_is); (case c34 => k_is); (case k34 => k_is)
    obtain ⟨f35, fd35, D35⟩ : ∃ f fd, Ev.Df _ mg "_law_draw" Law.s__law_draw ["bag", "many"] f fd := by
      refine' ⟨_, _, Ev.df_mk KX G ?a35 ?l35 ?c35 ?k35 (fun _ _ _ _ _ _ us hl => match us, hl with | [_, _], _ => rfl)⟩
      (case a35 => k_is); (case l35 => k_is); (case c35 => k_is); (case k35 => k_is)
    obtain ⟨f36, fd36, D36⟩ : ∃ f fd, Ev.Df _ mg "_law_one" Law.s__law_one ["bag", "some"] f fd := by
      refine' ⟨_, _, Ev.df_mk KX G ?a36 ?l36 ?c36 ?k36 (fun _ _ _ _ _ _ us hl => match us, hl with | [_, _], _ => rfl)⟩
      (case a36 => k_is); (case l36 => k_is); (case c36 => k_is); (case k36 => k_is)
    obtain ⟨f37, fd37, D37⟩ : ∃ f fd, Ev.Df _ mg "_law_same" Law.s__law_same ["told", "due"] f fd := by
      refine' ⟨_, _, Ev.df_mk KX G ?a37 ?l37 ?c37 ?k37 (fun _ _ _ _ _ _ us hl => match us, hl with | [_, _], _ => rfl)⟩
      (case a37 => k_is); (case l37 => k_is); (case c37 => k_is); (case k37 => k_is)
    obtain ⟨f38, fd38, D38⟩ : ∃ f fd, Ev.Df _ mg "_law_is_whole" Law.s__law_is_whole ["value"] f fd := by
      refine' ⟨_, _, Ev.df_mk KX G ?a38 ?l38 ?c38 ?k38 (fun _ _ _ _ _ _ us hl => match us, hl with | [_], _ => rfl)⟩
      (case a38 => k_is); (case l38 => k_is); (case c38 => k_is); (case k38 => k_is)
    obtain ⟨f39, fd39, D39⟩ : ∃ f fd, Ev.Df _ mg "_law_is_stacking" Law.s__law_is_stacking ["value"] f fd := by
      refine' ⟨_, _, Ev.df_mk KX G ?a39 ?l39 ?c39 ?k39 (fun _ _ _ _ _ _ us hl => match us, hl with | [_], _ => rfl)⟩
      (case a39 => k_is); (case l39 => k_is); (case c39 => k_is); (case k39 => k_is)
    obtain ⟨f40, fd40, D40⟩ : ∃ f fd, Ev.Df _ mg "_law_is_closed" Law.s__law_is_closed ["value"] f fd := by
      refine' ⟨_, _, Ev.df_mk KX G ?a40 ?l40 ?c40 ?k40 (fun _ _ _ _ _ _ us hl => match us, hl with | [_], _ => rfl)⟩
      (case a40 => k_is); (case l40 => k_is); (case c40 => k_is); (case k40 => k_is)
    obtain ⟨f41, fd41, D41⟩ : ∃ f fd, Ev.Df _ mg "_law_further" Law.s__law_further ["letter", "k"] f fd := by
      refine' ⟨_, _, Ev.df_mk KX G ?a41 ?l41 ?c41 ?k41 (fun _ _ _ _ _ _ us hl => match us, hl with | [_, _], _ => rfl)⟩
      (case a41 => k_is); (case l41 => k_is); (case c41 => k_is); (case k41 => k_is)
    obtain ⟨f42, fd42, D42⟩ : ∃ f fd, Ev.Df _ mg "_law_by" Law.s__law_by ["letter", "steps"] f fd := by
      refine' ⟨_, _, Ev.df_mk KX G ?a42 ?l42 ?c42 ?k42 (fun _ _ _ _ _ _ us hl => match us, hl with | [_, _], _ => rfl)⟩
      (case a42 => k_is); (case l42 => k_is); (case c42 => k_is); (case k42 => k_is)
    obtain ⟨f43, fd43, D43⟩ : ∃ f fd, Ev.Df _ mg "_law_marks" Law.s__law_marks ["text"] f fd := by
      refine' ⟨_, _, Ev.df_mk KX G ?a43 ?l43 ?c43 ?k43 (fun _ _ _ _ _ _ us hl => match us, hl with | [_], _ => rfl)⟩
      (case a43 => k_is); (case l43 => k_is); (case c43 => k_is); (case k43 => k_is)
    obtain ⟨f44, fd44, D44⟩ : ∃ f fd, Ev.Df _ mg "_law_stacking" Law.s__law_stacking ["bag", "low", "most"] f fd := by
      refine' ⟨_, _, Ev.df_mk KX G ?a44 ?l44 ?c44 ?k44 (fun _ _ _ _ _ _ us hl => match us, hl with | [_, _, _], _ => rfl)⟩
      (case a44 => k_is); (case l44 => k_is); (case c44 => k_is); (case k44 => k_is)
    obtain ⟨f45, fd45, D45⟩ : ∃ f fd, Ev.Df _ mg "_law_closed" Law.s__law_closed ["bag", "low", "most"] f fd := by
      refine' ⟨_, _, Ev.df_mk KX G ?a45 ?l45 ?c45 ?k45 (fun _ _ _ _ _ _ us hl => match us, hl with | [_, _, _], _ => rfl)⟩
      (case a45 => k_is); (case l45 => k_is); (case c45 => k_is); (case k45 => k_is)
    obtain ⟨f46, fd46, D46⟩ : ∃ f fd, Ev.Df _ mg "_law_closed_right" Law.s__law_closed_right ["bag", "text"] f fd := by
      refine' ⟨_, _, Ev.df_mk KX G ?a46 ?l46 ?c46 ?k46 (fun _ _ _ _ _ _ us hl => match us, hl with | [_, _], _ => rfl)⟩
      (case a46 => k_is); (case l46 => k_is); (case c46 => k_is); (case k46 => k_is)
    obtain ⟨f47, fd47, D47⟩ : ∃ f fd, Ev.Df _ mg "law" Law.s_law ["script"] f fd := by
      refine' ⟨_, _, Ev.df_mk KX G ?a47 ?l47 ?c47 ?k47 (fun _ _ _ _ _ _ us hl => match us, hl with | [_], _ => rfl)⟩
      (case a47 => k_is); (case l47 => k_is); (case c47 => k_is); (case k47 => k_is)
    have n_abs : mg "abs" = none := by refine' PySem.W.mg_none_of KX G ?zn_abs; (case zn_abs => k_is)
    have n_all : mg "all" = none := by refine' PySem.W.mg_none_of KX G ?zn_all; (case zn_all => k_is)
    have n_any : mg "any" = none := by refine' PySem.W.mg_none_of KX G ?zn_any; (case zn_any => k_is)
    have n_bool : mg "bool" = none := by refine' PySem.W.mg_none_of KX G ?zn_bool; (case zn_bool => k_is)
    have n_divmod : mg "divmod" = none := by refine' PySem.W.mg_none_of KX G ?zn_divmod; (case zn_divmod => k_is)
    have n_enumerate : mg "enumerate" = none := by refine' PySem.W.mg_none_of KX G ?zn_enumerate; (case zn_enumerate => k_is)
    have n_int : mg "int" = none := by refine' PySem.W.mg_none_of KX G ?zn_int; (case zn_int => k_is)
    have n_isinstance : mg "isinstance" = none := by refine' PySem.W.mg_none_of KX G ?zn_isinstance; (case zn_isinstance => k_is)
    have n_len : mg "len" = none := by refine' PySem.W.mg_none_of KX G ?zn_len; (case zn_len => k_is)
    have n_list : mg "list" = none := by refine' PySem.W.mg_none_of KX G ?zn_list; (case zn_list => k_is)
    have n_max : mg "max" = none := by refine' PySem.W.mg_none_of KX G ?zn_max; (case zn_max => k_is)
    have n_min : mg "min" = none := by refine' PySem.W.mg_none_of KX G ?zn_min; (case zn_min => k_is)
    have n_range : mg "range" = none := by refine' PySem.W.mg_none_of KX G ?zn_range; (case zn_range => k_is)
    have n_str : mg "str" = none := by refine' PySem.W.mg_none_of KX G ?zn_str; (case zn_str => k_is)
    have n_tuple : mg "tuple" = none := by refine' PySem.W.mg_none_of KX G ?zn_tuple; (case zn_tuple => k_is)
    have n_zip : mg "zip" = none := by refine' PySem.W.mg_none_of KX G ?zn_zip; (case zn_zip => k_is)
    have m_gcd : mg "gcd" = some (.builtin "math.gcd") := by refine' (PySem.W.mg_of KX G ?zm_gcd).trans ?zn_gcd; (case zm_gcd => k_is); (case zn_gcd => exact rfl)
    have v_C : ∃ u : Tok, mg "C" = some (.str "c" u) := by refine' ⟨_, (PySem.W.mg_of KX G ?zv_C).trans ?zw_C⟩; (case zv_C => k_is); (case zw_C => exact rfl)
    have v_DOWN : ∃ u : Tok, mg "DOWN" = some (.str "-" u) := by refine' ⟨_, (PySem.W.mg_of KX G ?zv_DOWN).trans ?zw_DOWN⟩; (case zv_DOWN => k_is); (case zw_DOWN => exact rfl)
    have v_H : ∃ u : Tok, mg "H" = some (.str "h" u) := by refine' ⟨_, (PySem.W.mg_of KX G ?zv_H).trans ?zw_H⟩; (case zv_H => k_is); (case zw_H => exact rfl)
    have v_LETTERS : ∃ u : Tok, mg "LETTERS" = some (.str "ABC" u) := by refine' ⟨_, (PySem.W.mg_of KX G ?zv_LETTERS).trans ?zw_LETTERS⟩; (case zv_LETTERS => k_is); (case zw_LETTERS => exact rfl)
    have v_MOST_LAYERS : ∃ u : Tok, mg "MOST_LAYERS" = some (.int 24 u) := by refine' ⟨_, (PySem.W.mg_of KX G ?zv_MOST_LAYERS).trans ?zw_MOST_LAYERS⟩; (case zv_MOST_LAYERS => k_is); (case zw_MOST_LAYERS => exact rfl)
    have v_UP : ∃ u : Tok, mg "UP" = some (.str "+" u) := by refine' ⟨_, (PySem.W.mg_of KX G ?zv_UP).trans ?zw_UP⟩; (case zv_UP => k_is); (case zw_UP => exact rfl)
    obtain g_shows_again : Ev.glob _ "shows_again" = some f24 := by refine' Ev.glob_df KX G D24.g ?zg_shows_again rfl; (case zg_shows_again => k_is)
    obtain g_shows_own : Ev.glob _ "shows_own" = some f23 := by refine' Ev.glob_df KX G D23.g ?zg_shows_own rfl; (case zg_shows_own => k_is)
    obtain g_tells_closed : Ev.glob _ "tells_closed" = some f19 := by refine' Ev.glob_df KX G D19.g ?zg_tells_closed rfl; (case zg_tells_closed => k_is)
    obtain t_FORMS : Ev.TabW (Law.gc (Ev.KOf KX)) _ w mg "FORMS" [[111, 119, 110], [97, 103, 97, 105, 110]] [[111, 119, 110, 115]] [([111, 119, 110], .tup [.int 1, .gl "tells_closed"]), ([97, 103, 97, 105, 110], .tup [.int 1, .gl "tells_closed"])] := by
      refine' Ev.tab_mk KX rfl G ?ztaFORMS ?ztdFORMS ?ztkFORMS ?ztoFORMS (Ev.yes_cons ?ztyFORMS0 rfl (Ev.yes_cons ?ztyFORMS1 rfl Ev.yes_nil)) (Ev.no_cons ?ztnFORMS0 rfl Ev.no_nil) (Ev.rows_cons ?ztrFORMS0 rfl (Ev.row_tg KX rfl ?ztlFORMS0 ?ztcFORMS0 ?ztgFORMS0) (Ev.rows_cons ?ztrFORMS1 rfl (Ev.row_tg KX rfl ?ztlFORMS1 ?ztcFORMS1 ?ztgFORMS1) Ev.rows_nil))
      (case ztaFORMS => k_is); (case ztdFORMS => k_is); (case ztkFORMS => k_keys); (case ztoFORMS => decide)
      (case ztyFORMS0 => k_is)
      (case ztyFORMS1 => k_is)
      (case ztnFORMS0 => k_is)
      (case ztrFORMS0 => k_is)
      (case ztlFORMS0 => k_is); (case ztcFORMS0 => exact rfl)
      (case ztgFORMS0 => show Ev.glob (Ev.KOf KX) "tells_closed" = _; refine' Ev.glob_of ?ztzFORMS0 rfl; (case ztzFORMS0 => unfold Ev.KOf; k_is))
      (case ztrFORMS1 => k_is)
      (case ztlFORMS1 => k_is); (case ztcFORMS1 => exact rfl)
      (case ztgFORMS1 => show Ev.glob (Ev.KOf KX) "tells_closed" = _; refine' Ev.glob_of ?ztzFORMS1 rfl; (case ztzFORMS1 => unfold Ev.KOf; k_is))
    obtain t_OF_ONE : Ev.TabW (Law.gc (Ev.KOf KX)) _ w mg "OF_ONE" [[111, 119, 110], [97, 103, 97, 105, 110]] [[111, 119, 110, 115]] [([111, 119, 110], .gl "shows_own"), ([97, 103, 97, 105, 110], .gl "shows_again")] := by
      refine' Ev.tab_mk KX rfl G ?ztaOF_ONE ?ztdOF_ONE ?ztkOF_ONE ?ztoOF_ONE (Ev.yes_cons ?ztyOF_ONE0 rfl (Ev.yes_cons ?ztyOF_ONE1 rfl Ev.yes_nil)) (Ev.no_cons ?ztnOF_ONE0 rfl Ev.no_nil) (Ev.rows_cons ?ztrOF_ONE0 rfl (Ev.row_gl ?ztgOF_ONE0) (Ev.rows_cons ?ztrOF_ONE1 rfl (Ev.row_gl ?ztgOF_ONE1) Ev.rows_nil))
      (case ztaOF_ONE => k_is); (case ztdOF_ONE => k_is); (case ztkOF_ONE => k_keys); (case ztoOF_ONE => decide)
      (case ztyOF_ONE0 => k_is)
      (case ztyOF_ONE1 => k_is)
      (case ztnOF_ONE0 => k_is)
      (case ztrOF_ONE0 => k_is)
      (case ztgOF_ONE0 => show Ev.glob (Ev.KOf KX) "shows_own" = _; refine' Ev.glob_of ?ztzOF_ONE0 rfl; (case ztzOF_ONE0 => unfold Ev.KOf; k_is))
      (case ztrOF_ONE1 => k_is)
      (case ztgOF_ONE1 => show Ev.glob (Ev.KOf KX) "shows_again" = _; refine' Ev.glob_of ?ztzOF_ONE1 rfl; (case ztzOF_ONE1 => unfold Ev.KOf; k_is))
    have T : Law.Txt _ mg (fun i => [f0, f1, f2, f3, f4, f5, f6, f7, f8, f9, f10, f11, f12, f13, f14, f15, f16, f17, f18, f19, f20, f21, f22, f23, f24, f25, f26, f27, f28, f29, f30, f31, f32, f33, f34, f35, f36, f37, f38, f39, f40, f41, f42, f43, f44, f45, f46, f47].getD i 0) (fun i => [fd0, fd1, fd2, fd3, fd4, fd5, fd6, fd7, fd8, fd9, fd10, fd11, fd12, fd13, fd14, fd15, fd16, fd17, fd18, fd19, fd20, fd21, fd22, fd23, fd24, fd25, fd26, fd27, fd28, fd29, fd30, fd31, fd32, fd33, fd34, fd35, fd36, fd37, fd38, fd39, fd40, fd41, fd42, fd43, fd44, fd45, fd46, fd47].getD i fd0) w := ⟨D0, D1, D2, D3, D4, D5, D6, D7, D8, D9, D10, D11, D12, D13, D14, D15, D16, D17, D18, D19, D20, D21, D22, D23, D24, D25, D26, D27, D28, D29, D30, D31, D32, D33, D34, D35, D36, D37, D38, D39, D40, D41, D42, D43, D44, D45, D46, D47, n_abs, n_all, n_any, n_bool, n_divmod, n_enumerate, n_int, n_isinstance, n_len, n_list, n_max, n_min, n_range, n_str, n_tuple, n_zip, v_C, v_DOWN, v_H, v_LETTERS, v_MOST_LAYERS, v_UP, m_gcd, g_shows_again, g_shows_own, g_tells_closed, t_FORMS, t_OF_ONE⟩
    have e : fa = f47 := by have := hmg.symm.trans D47.g; exact Value.ref.inj (Option.some.inj this)
    subst e
    exact ⟨_, D47.one fun _ _ _ _ _ _ _ => rfl, fun base _ _ => Ev.law_fn (Law.all_n T 20).c_law rfl Law.law_true⟩
