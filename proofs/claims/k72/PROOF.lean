import PyProof.Rows.All
import Wide.All
import OpenK.AllK
import Wide.FinOn
import HandS.ForMost
import HandS.Exc
import HandS.CallSlots
import HandS.Walk
import HandS.Flow
import HandS.Zip
import HandS.FStr
import KE.KUnpack
import HandS.Defaults
import HandS.Ends
import HandS.HeadEnd
import HandS.ExcOwn
import HandS.Wide
import HandS.TupAny
import HandS.TupMul
import HandS.IsInst
import HandS.RaiseMore
import PyProof.ReprRoads
import HandS.Dict
import HandS.More
import HandS.List
import HandS.Text
import HandS.Small
import HandS.Star
import HandS.Style
import PyProof.CollectIter
import HandS.Iter
import HandS.Head0
import HandS.Head1
import HandS.Head2
import HandS.HeadHook1
import HandS.HeadHook2
import HandS.HeadHook4
import HandS.ExcInit
import HandS.ExcIs
import HandS.ExcField
import KE.KExcIs
import HandS.Conv
import HandS.Property
import HandS.ClsMeth
import KE.KCallOwn
import KE.KTupTruth
import HandS.Finally
import KE.GoesEnum
import KE.GoesZip
import KE.GoesMore
import PyProof.Rows.StrIntSpec
import PyProof.StrOps2
import PySem.Challenge.RW_lampstays_k72_other_texts_refused
set_option Elab.async false
set_option linter.all false
set_option maxRecDepth 100000
set_option maxHeartbeats 2000000
/-! Fx: a plain, functional reading of Python defs over HandS: values are trees, what changes lies in a store. -/
namespace Fx
open PySem L2

/-- values: a tuple is a tree, what can change is a place in the store -/
inductive T where
  | non | bl (b : Bool) | int (i : Int) | str (x : Str) | tup (ts : List T) | frz (ts : List T) | loc (n : Nat) | ty (n : String) | glo (x : String)
abbrev Env := List (Option T)
inductive O where
  | lst (ts : List T) | dct (kvs : List (Key × T)) | ins (C : String) (fs : List (String × T))
structure Sto where
  os : List O
  kp : Nat
structure Exn where
  cls : String
  fs : List (String × T)
inductive Out where
  | ok (t : T) (s : Sto) | exc (x : Exn) (s : Sto) | bad
inductive OutL where
  | ok (ts : List T) (s : Sto) | exc (x : Exn) (s : Sto) | bad
inductive OutB where
  | ok (b : Bool) (s : Sto) | exc (x : Exn) (s : Sto) | bad
inductive Fl where
  | nx (r : Env) (s : Sto) | rt (t : T) (s : Sto) | bk (r : Env) (s : Sto) | ct (r : Env) (s : Sto) | ex (x : Exn) (r : Env) (s : Sto) | bad
/-- what is walked: the items, what must hold of the store at each turn -/
inductive OutI where
  | ok (ts : List T) (chk : Sto → Bool) (s : Sto) | exc (x : Exn) (s : Sto) | bad
abbrev Ev := Env → Sto → Out
abbrev Lv := Env → Sto → OutL
abbrev Bv := Env → Sto → OutB
abbrev Sv := Env → Sto → Fl
abbrev Iv := Env → Sto → OutI
abbrev Gv := T → Env → Sto → Fl
abbrev CallT := String → List T → Sto → Out
abbrev OV := Option (T × Sto)

mutual
/-- places below this number only -/
def T.hi : T → Nat
  | .loc n => n + 1
  | .tup ts => T.his ts
  | .frz ts => T.his ts
  | .non => 0 | .bl _ => 0 | .int _ => 0 | .str _ => 0 | .ty _ => 0 | .glo _ => 0
def T.his : List T → Nat
  | [] => 0
  | t :: r => max t.hi (T.his r)
end
def O.hi : O → Nat
  | .lst ts => T.his ts
  | .dct kvs => T.his (kvs.map (·.2))
  | .ins _ fs => T.his (fs.map (·.2))
def Exn.hi (x : Exn) : Nat := T.his (x.fs.map (·.2))

/-! ### the store -/
def Sto.len (s : Sto) : Nat := s.os.length
def Sto.get (s : Sto) (i : Nat) : Option O := s.os[i]?
def Sto.add (s : Sto) (o : O) : Sto := ⟨s.os ++ [o], s.kp⟩
/-- o laid at i -/
def Sto.put (s : Sto) (i : Nat) (o : O) : Sto := ⟨s.os.set i o, if o.hi ≤ i then s.kp else max s.kp o.hi⟩
def Sto.cut (n : Nat) (s : Sto) : Sto := ⟨s.os.take n, s.kp⟩
/-- what was made within a call and is not handed out goes -/
def gcR (n k : Nat) : Out → Out
  | .ok t s => if s.kp = k then .ok t (s.cut (max n t.hi)) else .ok t s
  | .exc x s => if s.kp = k then .exc x (s.cut (max n x.hi)) else .exc x s
  | .bad => .bad

/-! ### expressions -/
def Out.bnd (o : Out) (k : T → Sto → Out) : Out := match o with | .ok t s => k t s | .exc x s => .exc x s | .bad => .bad
def Out.bndL (o : Out) (k : T → Sto → OutL) : OutL := match o with | .ok t s => k t s | .exc x s => .exc x s | .bad => .bad
def Out.bndB (o : Out) (k : T → Sto → OutB) : OutB := match o with | .ok t s => k t s | .exc x s => .exc x s | .bad => .bad
def Out.bndI (o : Out) (k : T → Sto → OutI) : OutI := match o with | .ok t s => k t s | .exc x s => .exc x s | .bad => .bad
def Out.bndS (o : Out) (r : Env) (k : T → Sto → Fl) : Fl := match o with | .ok t s => k t s | .exc x s => .ex x r s | .bad => .bad
def OutL.bnd (o : OutL) (k : List T → Sto → Out) : Out := match o with | .ok t s => k t s | .exc x s => .exc x s | .bad => .bad
def OutL.bndL (o : OutL) (k : List T → Sto → OutL) : OutL := match o with | .ok t s => k t s | .exc x s => .exc x s | .bad => .bad
def OutL.bndI (o : OutL) (k : List T → Sto → OutI) : OutI := match o with | .ok t s => k t s | .exc x s => .exc x s | .bad => .bad
def OutB.bnd (o : OutB) (k : Bool → Sto → Out) : Out := match o with | .ok t s => k t s | .exc x s => .exc x s | .bad => .bad
def OutB.bndB (o : OutB) (k : Bool → Sto → OutB) : OutB := match o with | .ok t s => k t s | .exc x s => .exc x s | .bad => .bad
def OutB.bndS (o : OutB) (r : Env) (k : Bool → Sto → Fl) : Fl := match o with | .ok t s => k t s | .exc x s => .ex x r s | .bad => .bad
def vOut : OV → Out
  | some (t, s) => .ok t s
  | none => .bad

def eVar (i : Nat) : Ev := fun r s => match r[i]? with | some (some t) => .ok t s | _ => .bad
def eC (t : T) : Ev := fun _ s => .ok t s
def eBin (g : T → T → Sto → OV) (a b : Ev) : Ev := fun r s => (a r s).bnd fun x s => (b r s).bnd fun y s => vOut (g x y s)
def eUn (g : T → Sto → OV) (a : Ev) : Ev := fun r s => (a r s).bnd fun x s => vOut (g x s)
def lNil : Lv := fun _ s => .ok [] s
def lCons (a : Ev) (l : Lv) : Lv := fun r s => (a r s).bndL fun x s => (l r s).bndL fun xs s => .ok (x :: xs) s
def eTup (l : Lv) : Ev := fun r s => (l r s).bnd fun ts s => if ts.length ≤ sizeLine then .ok (.tup ts) s else .bad
def eLst (l : Lv) : Ev := fun r s => (l r s).bnd fun ts s => if ts.length ≤ sizeLine then .ok (.loc s.len) (s.add (.lst ts)) else .bad
/-- a def of the text -/
def eCall (C : CallT) (f : String) (l : Lv) : Ev := fun r s => (l r s).bnd fun ts s => C f ts s
/-- .. what its arguments made goes too -/
def eCallG (C : CallT) (f : String) (l : Lv) : Ev := fun r s => gcR s.len s.kp ((l r s).bnd fun ts s => C f ts s)
/-- a built-in -/
def eB (g : List T → Sto → OV) (l : Lv) : Ev := fun r s => (l r s).bnd fun ts s => vOut (g ts s)
def eIf (c : Bv) (a b : Ev) : Ev := fun r s => (c r s).bnd fun k s => if k = true then a r s else b r s

/-! ### tests -/
def tru : T → Sto → Option Bool
  | .non, _ => some false
  | .bl b, _ => some b
  | .int i, _ => some (decide (i ≠ 0))
  | .str x, _ => if x.length ≤ sizeLine then some (decide (x.length ≠ 0)) else none
  | .tup ts, _ => some (!ts.isEmpty)
  | .frz ts, _ => some (!ts.isEmpty)
  | .loc n, s => match s.get n with
    | some (.lst ts) => some (!ts.isEmpty)
    | _ => none
  | .ty _, _ => none
  | .glo _, _ => none
/-- the truth of a value -/
def bT (a : Ev) : Bv := fun r s => (a r s).bndB fun t s => match tru t s with | some k => .ok k s | none => .bad
/-- a value that is a bool -/
def bV (a : Ev) : Bv := fun r s => (a r s).bndB fun t s => match t with | .bl k => .ok k s | _ => .bad
def bNot (a : Bv) : Bv := fun r s => (a r s).bndB fun k s => .ok (!k) s
def bAnd (a b : Bv) : Bv := fun r s => (a r s).bndB fun k s => if k = true then b r s else .ok false s
def bOr (a b : Bv) : Bv := fun r s => (a r s).bndB fun k s => if k = true then .ok true s else b r s
/-- a test's answer as a value -/
def eAnd (a b : Ev) : Ev := fun r s => (a r s).bnd fun t s => match tru t s with | some k => if k = true then b r s else .ok t s | none => .bad
def eOr (a b : Ev) : Ev := fun r s => (a r s).bnd fun t s => match tru t s with | some k => if k = true then .ok t s else b r s | none => .bad
def eNot (a : Ev) : Ev := fun r s => (a r s).bnd fun t s => match tru t s with | some k => .ok (.bl (!k)) s | none => .bad
/-- a < b < c -/
def eChain (g h : T → T → Sto → OV) (a b c : Ev) : Ev := fun r s => (a r s).bnd fun x s => (b r s).bnd fun y s => match g x y s with
  | some (.bl k, s) => if k = true then (c r s).bnd fun z s => vOut (h y z s) else .ok (.bl false) s
  | _ => .bad

/-! ### statements -/
def sNil : Sv := fun r s => .nx r s
def sSeq (a b : Sv) : Sv := fun r s => match a r s with | .nx r s => b r s | o => o
def sEx (a : Ev) : Sv := fun r s => (a r s).bndS r fun _ s => .nx r s
def sRet (a : Ev) : Sv := fun r s => (a r s).bndS r fun t s => .rt t s
def sRetN : Sv := fun _ s => .rt .non s
def sIf (c : Bv) (a b : Sv) : Sv := fun r s => (c r s).bndS r fun k s => if k = true then a r s else b r s
def sBrk : Sv := fun r s => .bk r s
def sCnt : Sv := fun r s => .ct r s
def gNm (i : Nat) : Gv := fun t r s => .nx (r.set i (some t)) s
def gsNil : List T → Env → Sto → Fl := fun ts r s => match ts with | [] => .nx r s | _ => .bad
def gsCons (g : Gv) (gs : List T → Env → Sto → Fl) : List T → Env → Sto → Fl := fun ts r s => match ts with
  | t :: q => (match g t r s with | .nx r s => gs q r s | .ex x r s => .ex x r s | _ => .bad)
  | [] => .bad
def gTp (n : Nat) (gs : List T → Env → Sto → Fl) : Gv := fun t r s => match t with
  | .tup ts => if ts.length = n then gs ts r s else .bad
  | .loc m => (match s.get m with
    | some (.lst ts) => if ts.length = n then gs ts r s else .bad
    | _ => .bad)
  | _ => .bad
def sAsg (a : Ev) (g : Gv) : Sv := fun r s => (a r s).bndS r fun t s => g t r s
/-- a, b = x, y over plain locals -/
def sPar (i j : Nat) (l : Lv) : Sv := fun r s => match l r s with
  | .ok [t, u] s => .nx ((r.set i (some t)).set j (some u)) s
  | .ok _ _ => .bad
  | .exc x s => .ex x r s
  | .bad => .bad
def sAug (i : Nat) (g : T → T → Sto → OV) (a : Ev) : Sv := fun r s => match r[i]? with
  | some (some x) => (a r s).bndS r fun y s => (match g x y s with | some (z, s) => .nx (r.set i (some z)) s | none => .bad)
  | _ => .bad
/-- the turns of a for -/
def forL (chk : Sto → Bool) (g : Gv) (b : Sv) : List T → Env → Sto → Fl
  | [], r, s => if chk s = true then .nx r s else .bad
  | t :: q, r, s => if chk s = true then (match g t r s with
      | .nx r s => (match b r s with
        | .nx r s => forL chk g b q r s
        | .ct r s => forL chk g b q r s
        | .bk r s => .nx r s
        | .rt t s => .rt t s
        | .ex x r s => .ex x r s
        | .bad => .bad)
      | .ex x r s => .ex x r s
      | _ => .bad) else .bad
def sFor (it : Iv) (g : Gv) (b : Sv) : Sv := fun r s => match it r s with
  | .ok ts chk s => forL chk g b ts r s
  | .exc x s => .ex x r s
  | .bad => .bad
def whileN (c : Bv) (b : Sv) : Nat → Sv
  | 0, _, _ => .bad
  | n + 1, r, s => (c r s).bndS r fun k s => if k = true then (match b r s with
        | .nx r s => whileN c b n r s
        | .ct r s => whileN c b n r s
        | .bk r s => .nx r s
        | .rt t s => .rt t s
        | .ex x r s => .ex x r s
        | .bad => .bad) else .nx r s
/-- more turns than any while here takes -/
def wTurns : Nat := 1000000000
def sWhile (c : Bv) (b : Sv) : Sv := whileN c b wTurns

/-! ### comprehensions -/
/-- the names of a comprehension's block forgotten -/
def wip (r : Env) : List Nat → Env
  | [] => r
  | v :: vs => (wip r vs).set v none
def compL (chk : Sto → Bool) (g : Gv) (c : Bv) (e : Ev) (r0 : Env) : List T → List T → Sto → OutL
  | [], acc, s => if chk s = true then .ok acc s else .bad
  | t :: q, acc, s => if chk s = true then (match g t r0 s with
      | .nx r s => (match c r s with
        | .ok k s => if k = true then (match e r s with
            | .ok y s => if acc.length < sizeLine then compL chk g c e r0 q (acc ++ [y]) s else .bad
            | _ => .bad) else compL chk g c e r0 q acc s
        | _ => .bad)
      | _ => .bad) else .bad
def bYes : Bv := fun _ s => .ok true s
/-- the items of [e for g in it if c] -/
def lComp (it : Iv) (g : Gv) (c : Bv) (e : Ev) (vs : List Nat) : Lv := fun r s => match it r s with
  | .ok ts chk s => compL chk g c e (wip r vs) ts [] s
  | .exc x s => .exc x s
  | .bad => .bad
/-- the list as an object -/
def eComp (l : Lv) : Ev := fun r s => (l r s).bnd fun ts s => .ok (.loc s.len) (s.add (.lst ts))
/-- a list that only a built-in sees -/
def eTmp (h : List T → Sto → OV) (l : Lv) : Ev := fun r s => (l r s).bnd fun ts s => vOut (h ts s)

/-! ### defs -/
structure FnD where
  np : Nat
  nl : Nat
  body : CallT → Sv
def Fl.out : Fl → Out
  | .rt t s => .ok t s
  | .nx _ s => .ok .non s
  | .ex x _ s => .exc x s
  | _ => .bad
def runD (d : FnD) (C : CallT) (ts : List T) (s : Sto) : Out :=
  if ts.length = d.np then gcR s.len s.kp (d.body C (ts.map some ++ List.replicate (d.nl - d.np) none) s).out else .bad
/-- a program, so many calls deep -/
def run (p : String → Option FnD) : Nat → CallT
  | 0, _, _, _ => .bad
  | k + 1, f, ts, s => match p f with | some d => runD d (run p k) ts s | none => .bad
end Fx

set_option maxRecDepth 100000
set_option maxHeartbeats 2000000
/-! Fx: how trees and stores stand for values and abstract heaps. -/
namespace Fx
open PySem L2

section
variable (K : PySem.W.Frag) (mg : Str → Option Value)
def TupAt (H : Hp) (a : Addr) (vs : List V) : Prop :=
  H a = some (.tup vs) ∨ ∃ (o : Obj) (its : Array Value) (n : Nat), K.lookup a = some o ∧ o.cls = .type "tuple" ∧ o.data = .seq its n ∧ its.size ≤ sizeLine ∧ Vals vs its.toList
/-- a list that nobody changes -/
def FrzAt (H : Hp) (a : Addr) (vs : List V) : Prop :=
  (∃ o, H a = some (.frz o (.lst vs))) ∨ ∃ (o : Obj) (its : Array Value) (n : Nat), K.lookup a = some o ∧ o.cls = .type "list" ∧ o.dict = none ∧ o.data = .seq its n ∧ its.size ≤ sizeLine ∧ Vals vs its.toList
theorem FrzAt.sq {K : PySem.W.Frag} {H : Hp} {a : Addr} {vs : List V} (h : FrzAt K H a vs) : SqL K H a vs := by
  rcases h with h | h
  · exact .inl (.inr h)
  · exact .inr h
theorem TupAt.sq {K : PySem.W.Frag} {H : Hp} {a : Addr} {vs : List V} (h : TupAt K H a vs) : SqT K H a vs := by
  rcases h with h | h
  · exact .inl (.inl h)
  · exact .inr h
mutual
inductive D (L : List Addr) (H : Hp) : V → T → Prop
  | non : D L H .non .non
  | bl (b : Bool) : D L H (.bl b) (.bl b)
  | int (i : Int) : D L H (.int i) (.int i)
  | str (x : Str) : D L H (.str x) (.str x)
  | ty (n : String) : D L H (.ty n) (.ty n)
  | loc {n : Nat} {a : Addr} : L[n]? = some a → D L H (.ref a) (.loc n)
  | glo {x : String} {a : Addr} : mg (Str.ofString x) = some (.ref a) → D L H (.ref a) (.glo x)
  | tup {a : Addr} {vs : List V} {ts : List T} : TupAt K H a vs → Ds L H vs ts → D L H (.ref a) (.tup ts)
  | frz {a : Addr} {vs : List V} {ts : List T} : FrzAt K H a vs → Ds L H vs ts → D L H (.ref a) (.frz ts)
inductive Ds (L : List Addr) (H : Hp) : List V → List T → Prop
  | nil : Ds L H [] []
  | cons {v : V} {t : T} {vs : List V} {ts : List T} : D L H v t → Ds L H vs ts → Ds L H (v :: vs) (t :: ts)
end
end

/-- what goes on in between: places are added, what is no place and what is a tuple stays -/
structure Ex (L : List Addr) (H : Hp) (L' : List Addr) (H' : Hp) : Prop where
  pre : L <+: L'
  frm : ∀ a o, H a = some o → a ∉ L → H' a = some o
  tup : ∀ a vs, H a = some (.tup vs) → H' a = some (.tup vs)
  frz : ∀ a o u, H a = some (.frz o u) → H' a = some (.frz o u)
  new : ∀ a, a ∈ L' → a ∈ L ∨ H a = none
theorem Ex.refl {L : List Addr} {H : Hp} : Ex L H L H := ⟨List.prefix_rfl, fun _ _ h _ => h, fun _ _ h => h, fun _ _ _ h => h, fun _ h => .inl h⟩
theorem Ex.trans {L L1 L2 : List Addr} {H H1 H2 : Hp} (a : Ex L H L1 H1) (b : Ex L1 H1 L2 H2) : Ex L H L2 H2 where
  pre := a.pre.trans b.pre
  frm := fun x o h n => b.frm x o (a.frm x o h n) fun m => by
    rcases a.new x m with q | q
    · exact n q
    · rw [h] at q; cases q
  tup := fun x vs h => b.tup x vs (a.tup x vs h)
  frz := fun x o u h => b.frz x o u (a.frz x o u h)
  new := fun x m => by
    rcases b.new x m with q | q
    · exact a.new x q
    · by_cases hL : x ∈ L
      · exact .inl hL
      · cases e : H x with
        | none => exact .inr rfl
        | some o => rw [a.frm x o e hL] at q; cases q
theorem Ex.get {L L' : List Addr} {H H' : Hp} (e : Ex L H L' H') {n : Nat} {a : Addr} (h : L[n]? = some a) : L'[n]? = some a := by
  obtain ⟨r, rfl⟩ := e.pre
  rw [List.getElem?_append_left (List.getElem?_eq_some_iff.mp h).1]; exact h

/-- .. what is walked needs no more -/
structure Ew (L : List Addr) (H : Hp) (L' : List Addr) (H' : Hp) : Prop where
  pre : L <+: L'
  tup : ∀ a vs, H a = some (.tup vs) → H' a = some (.tup vs)
  frz : ∀ a o u, H a = some (.frz o u) → H' a = some (.frz o u)
theorem Ex.w {L L' : List Addr} {H H' : Hp} (e : Ex L H L' H') : Ew L H L' H' := ⟨e.pre, e.tup, e.frz⟩
theorem Ew.trans {L L1 L2 : List Addr} {H H1 H2 : Hp} (a : Ew L H L1 H1) (b : Ew L1 H1 L2 H2) : Ew L H L2 H2 := ⟨a.pre.trans b.pre, fun x vs h => b.tup x vs (a.tup x vs h), fun x o u h => b.frz x o u (a.frz x o u h)⟩
theorem Ew.get {L L' : List Addr} {H H' : Hp} (e : Ew L H L' H') {n : Nat} {a : Addr} (h : L[n]? = some a) : L'[n]? = some a := by
  obtain ⟨r, rfl⟩ := e.pre
  rw [List.getElem?_append_left (List.getElem?_eq_some_iff.mp h).1]; exact h

section
variable {K : PySem.W.Frag} {mg : Str → Option Value} {L L' : List Addr} {H H' : Hp}
theorem TupAt.mono {a : Addr} {vs : List V} (h : TupAt K H a vs) (t : ∀ a vs, H a = some (.tup vs) → H' a = some (.tup vs)) : TupAt K H' a vs := by
  rcases h with h | h
  · exact .inl (t a vs h)
  · exact .inr h
theorem FrzAt.mono {a : Addr} {vs : List V} (h : FrzAt K H a vs) (t : ∀ a o u, H a = some (.frz o u) → H' a = some (.frz o u)) : FrzAt K H' a vs := by
  rcases h with ⟨o, h⟩ | h
  · exact .inl ⟨o, t a _ _ h⟩
  · exact .inr h
mutual
theorem D.mono' (hp : ∀ (n : Nat) (a : Addr), L[n]? = some a → L'[n]? = some a) (ht : ∀ a vs, H a = some (.tup vs) → H' a = some (.tup vs)) (hf : ∀ a o u, H a = some (.frz o u) → H' a = some (.frz o u)) : ∀ {v : V} {t : T}, D K mg L H v t → D K mg L' H' v t
  | _, _, .non => .non
  | _, _, .bl b => .bl b
  | _, _, .int i => .int i
  | _, _, .str x => .str x
  | _, _, .ty n => .ty n
  | _, _, .loc h => .loc (hp _ _ h)
  | _, _, .glo h => .glo h
  | _, _, .tup h r => .tup (h.mono ht) (Ds.mono' hp ht hf r)
  | _, _, .frz h r => .frz (h.mono hf) (Ds.mono' hp ht hf r)
theorem Ds.mono' (hp : ∀ (n : Nat) (a : Addr), L[n]? = some a → L'[n]? = some a) (ht : ∀ a vs, H a = some (.tup vs) → H' a = some (.tup vs)) (hf : ∀ a o u, H a = some (.frz o u) → H' a = some (.frz o u)) : ∀ {vs : List V} {ts : List T}, Ds K mg L H vs ts → Ds K mg L' H' vs ts
  | _, _, .nil => .nil
  | _, _, .cons h r => .cons (D.mono' hp ht hf h) (Ds.mono' hp ht hf r)
end
theorem D.mono {v : V} {t : T} (d : D K mg L H v t) (e : Ex L H L' H') : D K mg L' H' v t := d.mono' (fun _ _ h => e.get h) e.tup e.frz
theorem Ds.mono {vs : List V} {ts : List T} (d : Ds K mg L H vs ts) (e : Ex L H L' H') : Ds K mg L' H' vs ts := d.mono' (fun _ _ h => e.get h) e.tup e.frz
theorem D.monoW {v : V} {t : T} (d : D K mg L H v t) (e : Ew L H L' H') : D K mg L' H' v t := d.mono' (fun _ _ h => e.get h) e.tup e.frz
theorem Ds.monoW {vs : List V} {ts : List T} (d : Ds K mg L H vs ts) (e : Ew L H L' H') : Ds K mg L' H' vs ts := d.mono' (fun _ _ h => e.get h) e.tup e.frz
theorem Ds.length {vs : List V} {ts : List T} (d : Ds K mg L H vs ts) : vs.length = ts.length := by
  induction ts generalizing vs with
  | nil => cases d; rfl
  | cons t r ih => cases d with | cons h q => simp [ih q]
theorem Ds.get {vs : List V} {ts : List T} {i : Nat} {t : T} (d : Ds K mg L H vs ts) (h : ts[i]? = some t) : ∃ v, vs[i]? = some v ∧ D K mg L H v t := by
  induction ts generalizing vs i with
  | nil => simp at h
  | cons t0 r ih =>
    cases d with
    | cons h0 q =>
      cases i with
      | zero => simp at h; subst h; exact ⟨_, rfl, h0⟩
      | succ i => simpa using ih q (by simpa using h)
theorem Ds.get' {vs : List V} {ts : List T} {i : Nat} {v : V} (d : Ds K mg L H vs ts) (h : vs[i]? = some v) : ∃ t, ts[i]? = some t ∧ D K mg L H v t := by
  have hl := d.length
  have hi := (List.getElem?_eq_some_iff.mp h).1
  obtain ⟨v', h1, h2⟩ := d.get (i := i) (t := ts[i]'(by omega)) (by simp)
  rw [h] at h1; cases h1
  exact ⟨_, by simp, h2⟩
theorem Ds.app {vs ws : List V} {ts us : List T} (d : Ds K mg L H vs ts) (e : Ds K mg L H ws us) : Ds K mg L H (vs ++ ws) (ts ++ us) := by
  induction ts generalizing vs with
  | nil => cases d; exact e
  | cons t r ih => cases d with | cons h q => exact .cons h (ih q)
theorem Ds.take {vs : List V} {ts : List T} (n : Nat) (d : Ds K mg L H vs ts) : Ds K mg L H (vs.take n) (ts.take n) := by
  induction ts generalizing vs n with
  | nil => cases d; simp; exact .nil
  | cons t r ih =>
    cases d with
    | cons h q =>
      cases n with
      | zero => exact .nil
      | succ n => simpa using Ds.cons h (ih n q)
theorem Ds.drop {vs : List V} {ts : List T} (n : Nat) (d : Ds K mg L H vs ts) : Ds K mg L H (vs.drop n) (ts.drop n) := by
  induction ts generalizing vs n with
  | nil => cases d; simp; exact .nil
  | cons t r ih =>
    cases d with
    | cons h q =>
      cases n with
      | zero => exact .cons h q
      | succ n => simpa using ih n q
theorem Ds.set {vs : List V} {ts : List T} {v : V} {t : T} (i : Nat) (d : Ds K mg L H vs ts) (e : D K mg L H v t) : Ds K mg L H (vs.set i v) (ts.set i t) := by
  induction ts generalizing vs i with
  | nil => cases d; exact .nil
  | cons t0 r ih =>
    cases d with
    | cons h q =>
      cases i with
      | zero => exact .cons e q
      | succ n => exact .cons h (ih n q)
mutual
/-- what is told speaks of places that are there -/
theorem D.hi_le : ∀ {v : V} {t : T}, D K mg L H v t → t.hi ≤ L.length
  | _, _, .non => by simp [T.hi]
  | _, _, .bl b => by simp [T.hi]
  | _, _, .int i => by simp [T.hi]
  | _, _, .str x => by simp [T.hi]
  | _, _, .ty n => by simp [T.hi]
  | _, _, .loc h => by have := (List.getElem?_eq_some_iff.mp h).1; simp only [T.hi]; omega
  | _, _, .glo h => by simp [T.hi]
  | _, _, .tup h r => by simpa [T.hi] using Ds.hi_le r
  | _, _, .frz h r => by simpa [T.hi] using Ds.hi_le r
theorem Ds.hi_le : ∀ {vs : List V} {ts : List T}, Ds K mg L H vs ts → T.his ts ≤ L.length
  | _, _, .nil => by simp [T.his]
  | _, _, .cons h r => by
    have h1 := D.hi_le h
    have h2 := Ds.hi_le r
    simp only [T.his]; omega
end
mutual
/-- places beyond those that it speaks of may go -/
theorem D.cut (m : Nat) : ∀ {v : V} {t : T}, D K mg L H v t → t.hi ≤ m → D K mg (L.take m) H v t
  | _, _, .non, _ => .non
  | _, _, .bl b, _ => .bl b
  | _, _, .int i, _ => .int i
  | _, _, .str x, _ => .str x
  | _, _, .ty n, _ => .ty n
  | _, _, .loc (n := n) h, hm => .loc (by rw [List.getElem?_take_of_lt (by simp only [T.hi] at hm; omega)]; exact h)
  | _, _, .glo h, _ => .glo h
  | _, _, .tup h r, hm => .tup h (Ds.cut m r (by simpa [T.hi] using hm))
  | _, _, .frz h r, hm => .frz h (Ds.cut m r (by simpa [T.hi] using hm))
theorem Ds.cut (m : Nat) : ∀ {vs : List V} {ts : List T}, Ds K mg L H vs ts → T.his ts ≤ m → Ds K mg (L.take m) H vs ts
  | _, _, .nil, _ => .nil
  | _, _, .cons h r, hm => .cons (D.cut m h (by simp only [T.his] at hm; omega)) (Ds.cut m r (by simp only [T.his] at hm; omega))
end
end

section
variable (K : PySem.W.Frag) (mg : Str → Option Value)
/-- fields by name -/
def Fds (L : List Addr) (H : Hp) (fs' : List (Str × V)) (fs : List (String × T)) : Prop := fs'.map (·.1) = fs.map (fun p => Str.ofString p.1) ∧ Ds K mg L H (fs'.map (·.2)) (fs.map (·.2))
def Kvs (L : List Addr) (H : Hp) (fs' : List (Key × V)) (fs : List (Key × T)) : Prop := fs'.map (·.1) = fs.map (·.1) ∧ Ds K mg L H (fs'.map (·.2)) (fs.map (·.2))
/-- the object at a -/
def OD (L : List Addr) (H : Hp) (a : Addr) : O → Prop
  | .lst ts => ∃ vs, H a = some (.lst vs) ∧ Ds K mg L H vs ts
  | .dct kvs => ∃ kvs', H a = some (.dK kvs') ∧ Kvs K mg L H kvs' kvs
  | .ins C fs => ∃ Ca dx fs', H a = some (.ins Ca dx fs') ∧ mg (Str.ofString C) = some (.ref Ca) ∧ Fds K mg L H fs' fs
structure Rl (L : List Addr) (s : Sto) (H : Hp) : Prop where
  len : L.length = s.os.length
  nd : L.Nodup
  kp : s.kp ≤ s.os.length
  obj : ∀ (i : Nat) o, s.os[i]? = some o → ∃ a, L[i]? = some a ∧ OD K mg L H a o
  ref : ∀ (i : Nat) o, s.os[i]? = some o → o.hi ≤ max i s.kp
/-- what is wanted of exceptions; what is known of the slots ks besides -/
structure WS where
  w : WX
  ks : List Nat
  inv : List Addr → Hp → St → Prop
  mo : ∀ {L L' H H' σ}, inv L H σ → Ex L H L' H' → inv L' H' σ
  st : ∀ {L H σ} {i : Nat} {o : Option V}, inv L H σ → i ∉ ks → inv L H (σ.set i o)
/-- nothing is known besides -/
def WS.of (w : WX) : WS := ⟨w, [], fun _ _ _ => True, fun _ _ => trivial, fun _ _ => trivial⟩
/-- nothing is wanted of exceptions: none leaves -/
def WS.z (W : WS) : WS := ⟨fun _ _ _ _ => False, W.ks, W.inv, W.mo, W.st⟩
/-- .. another wish -/
def WS.at (W : WS) (w : WX) : WS := ⟨w, W.ks, W.inv, W.mo, W.st⟩
/-- the names' values -/
structure Er (W : WS) (L : List Addr) (H : Hp) (σ : St) (r : Env) : Prop where
  len : r.length = σ.length
  val : ∀ (i : Nat) t, r[i]? = some (some t) → ∃ v, σ[i]? = some (some v) ∧ D K mg L H v t
  iv : W.inv L H σ
/-- an exception -/
def XD (L : List Addr) (H : Hp) (cls : Value) (d : Option Addr) (x : Exn) : Prop :=
  ∃ Ca, cls = .ref Ca ∧ mg (Str.ofString x.cls) = some (.ref Ca) ∧ ((d = none ∧ x.fs = []) ∨ ∃ dx fs', d = some dx ∧ H dx = some (.xd fs') ∧ Fds K mg L H fs' x.fs)
end

section
variable {K : PySem.W.Frag} {mg : Str → Option Value} {W : WS} {L L' : List Addr} {H H' : Hp} {s : Sto} {σ : St} {r : Env}
theorem O.hi_lst {ts : List T} : (O.lst ts).hi = T.his ts := rfl
theorem OD.hi_le {a : Addr} {o : O} (d : OD K mg L H a o) : o.hi ≤ L.length := by
  cases o with
  | lst ts => obtain ⟨vs, _, q⟩ := d; exact q.hi_le
  | dct kvs => obtain ⟨vs, _, _, q⟩ := d; exact q.hi_le
  | ins C fs => obtain ⟨_, _, _, _, _, _, q⟩ := d; exact q.hi_le
theorem Er.mono (e : Er K mg W L H σ r) (x : Ex L H L' H') : Er K mg W L' H' σ r :=
  ⟨e.len, fun i t h => let ⟨v, h1, h2⟩ := e.val i t h; ⟨v, h1, h2.mono x⟩, W.mo e.iv x⟩
theorem Er.z (e : Er K mg W L H σ r) : Er K mg W.z L H σ r := ⟨e.len, e.val, e.iv⟩
theorem Er.uz (e : Er K mg W.z L H σ r) : Er K mg W L H σ r := ⟨e.len, e.val, e.iv⟩
theorem Er.set {i : Nat} {v : V} {t : T} (e : Er K mg W L H σ r) (d : D K mg L H v t) (hk : i ∉ W.ks) : Er K mg W L H (σ.set i (some v)) (r.set i (some t)) := by
  refine ⟨by simp [e.len], fun j u h => ?_, W.st e.iv hk⟩
  by_cases hj : i = j
  · subst hj
    by_cases hlt : i < r.length
    · rw [List.getElem?_set_self hlt] at h
      cases h
      exact ⟨v, by rw [List.getElem?_set_self (by rw [← e.len]; exact hlt)], d⟩
    · rw [List.getElem?_eq_none (by simpa using hlt)] at h; cases h
  · rw [List.getElem?_set_ne hj] at h
    obtain ⟨w, h1, h2⟩ := e.val j u h
    exact ⟨w, by rw [List.getElem?_set_ne hj]; exact h1, h2⟩
theorem Er.unset {i : Nat} (e : Er K mg W L H σ r) (hk : i ∉ W.ks) : Er K mg W L H (σ.set i none) (r.set i none) := by
  refine ⟨by simp [e.len], fun j u h => ?_, W.st e.iv hk⟩
  by_cases hj : i = j
  · subst hj
    by_cases hlt : i < r.length
    · rw [List.getElem?_set_self hlt] at h; cases h
    · rw [List.getElem?_eq_none (by simpa using hlt)] at h; cases h
  · rw [List.getElem?_set_ne hj] at h
    obtain ⟨w, h1, h2⟩ := e.val j u h
    exact ⟨w, by rw [List.getElem?_set_ne hj]; exact h1, h2⟩
theorem Er.wip (e : Er K mg W L H σ r) (hk : W.ks = []) : ∀ vs : List Nat, Er K mg W L H (wipe σ vs) (wip r vs)
  | [] => e
  | v :: vs => (Er.wip e hk vs).unset (by rw [hk]; exact fun h => nomatch h)
theorem Fds.mono {fs' : List (Str × V)} {fs : List (String × T)} (f : Fds K mg L H fs' fs) (x : Ex L H L' H') : Fds K mg L' H' fs' fs := ⟨f.1, f.2.mono x⟩
theorem XD.mono {cls : Value} {d : Option Addr} {x : Exn} (q : XD K mg L H cls d x) (e : Ex L H L' H') (hn : ∀ dx, d = some dx → dx ∉ L) : XD K mg L' H' cls d x := by
  obtain ⟨Ca, h1, h2, h3⟩ := q
  refine ⟨Ca, h1, h2, ?_⟩
  rcases h3 with h3 | ⟨dx, fs', h4, h5, h6⟩
  · exact .inl h3
  · exact .inr ⟨dx, fs', h4, e.frm _ _ h5 (hn dx h4), h6.mono e⟩

/-! ### the store's steps -/
theorem Rl.get (q : Rl K mg L s H) {i : Nat} {o : O} (h : s.get i = some o) : ∃ a, L[i]? = some a ∧ OD K mg L H a o := q.obj i o h
theorem Rl.mem_of (q : Rl K mg L s H) {a : Addr} (h : a ∈ L) : ∃ (i : Nat) (o : O), L[i]? = some a ∧ s.os[i]? = some o ∧ OD K mg L H a o := by
  obtain ⟨i, hi, e⟩ := List.mem_iff_getElem.mp h
  have hl := q.len
  have e2 : s.os[i]? = some (s.os[i]'(by omega)) := by simp
  obtain ⟨b, h1, h2⟩ := q.obj i _ e2
  have e3 : L[i]? = some a := by simp [← e, hi]
  rw [e3] at h1; cases h1
  exact ⟨i, _, e3, e2, h2⟩
/-- a place is tracked -/
theorem OD.there {a : Addr} {o : O} (d : OD K mg L H a o) : ∃ ho, H a = some ho ∧ Mut (some ho) := by
  cases o with
  | lst ts => obtain ⟨_, e, _⟩ := d; exact ⟨_, e, trivial⟩
  | dct kvs => obtain ⟨_, e, _⟩ := d; exact ⟨_, e, trivial⟩
  | ins C fs => obtain ⟨_, _, _, e, _⟩ := d; exact ⟨_, e, trivial⟩
theorem Rl.there (q : Rl K mg L s H) {a : Addr} (h : a ∈ L) : ∃ ho, H a = some ho ∧ Mut (some ho) := let ⟨_, _, _, _, d⟩ := q.mem_of h; d.there
theorem Rl.notIn (q : Rl K mg L s H) {p : Addr} (h : H p = none) : p ∉ L := fun m => by
  obtain ⟨ho, e, _⟩ := q.there m
  rw [h] at e; cases e
theorem OD.mono {a : Addr} {o : O} (d : OD K mg L H a o) (e : Ex L H L' H') (h : H' a = H a) : OD K mg L' H' a o := by
  cases o with
  | lst ts => obtain ⟨vs, e1, q⟩ := d; exact ⟨vs, h.trans e1, q.mono e⟩
  | dct kvs => obtain ⟨vs, e1, q1, q2⟩ := d; exact ⟨vs, h.trans e1, q1, q2.mono e⟩
  | ins C fs => obtain ⟨Ca, dx, fs', e1, e2, q1, q2⟩ := d; exact ⟨Ca, dx, fs', h.trans e1, e2, q1, q2.mono e⟩
/-- the abstract heap at a free address -/
theorem Ex.laid {p : Addr} {ho : HO} (hp : H p = none) : Ex L H L (upd H p ho) :=
  ⟨List.prefix_rfl, fun a o h _ => by rw [upd_ne (ne_of_none h hp)]; exact h, fun a vs h => by rw [upd_ne (ne_of_none h hp)]; exact h, fun a o u h => by rw [upd_ne (ne_of_none h hp)]; exact h, fun _ h => .inl h⟩
theorem Rl.laid (q : Rl K mg L s H) {p : Addr} {ho : HO} (hp : H p = none) : Rl K mg L s (upd H p ho) :=
  ⟨q.len, q.nd, q.kp, fun i o e => by
    obtain ⟨a, h1, h2⟩ := q.obj i o e
    obtain ⟨hx, h3, _⟩ := h2.there
    exact ⟨a, h1, h2.mono (Ex.laid hp) (upd_ne (ne_of_none h3 hp))⟩, q.ref⟩
/-- a place is added: what stands at p -/
theorem Ex.add {p : Addr} {ho : HO} (hp : H p = none) : Ex L H (L ++ [p]) (upd H p ho) :=
  ⟨⟨[p], rfl⟩, fun a o h _ => by rw [upd_ne (ne_of_none h hp)]; exact h, fun a vs h => by rw [upd_ne (ne_of_none h hp)]; exact h, fun a o u h => by rw [upd_ne (ne_of_none h hp)]; exact h, fun a m => by
    rcases List.mem_append.mp m with m | m
    · exact .inl m
    · obtain rfl := List.mem_singleton.mp m
      exact .inr hp⟩
theorem Rl.add (q : Rl K mg L s H) {p : Addr} {ho : HO} {o : O} (hp : H p = none) (d : OD K mg L (upd H p ho) p o) : Rl K mg (L ++ [p]) (s.add o) (upd H p ho) := by
  have np := q.notIn hp
  have pre : ∀ (n : Nat) (a : Addr), L[n]? = some a → (L ++ [p])[n]? = some a := fun n a h => by
    rw [List.getElem?_append_left (List.getElem?_eq_some_iff.mp h).1]; exact h
  have mo : ∀ {a o}, OD K mg L (upd H p ho) a o → OD K mg (L ++ [p]) (upd H p ho) a o := fun {a o} d => by
    have mD : ∀ {vs ts}, Ds K mg L (upd H p ho) vs ts → Ds K mg (L ++ [p]) (upd H p ho) vs ts := fun {vs ts} r => r.mono' pre (fun _ _ h => h) (fun _ _ _ h => h)
    cases o with
    | lst ts => obtain ⟨vs, e1, q⟩ := d; exact ⟨vs, e1, mD q⟩
    | dct kvs => obtain ⟨vs, e1, q1, q2⟩ := d; exact ⟨vs, e1, q1, mD q2⟩
    | ins C fs => obtain ⟨Ca, dx, fs', e1, e2, q1, q2⟩ := d; exact ⟨Ca, dx, fs', e1, e2, q1, mD q2⟩
  have q1 := q.laid (ho := ho) hp
  refine ⟨by simp [Sto.add, q.len], List.nodup_append.mpr ⟨q.nd, by simp, fun a h b hb => by obtain rfl := List.mem_singleton.mp hb; rintro rfl; exact np h⟩, by simp only [Sto.add, List.length_append]; have := q.kp; omega, fun i o' e => ?_, fun i o' e => ?_⟩
  · simp only [Sto.add] at e
    by_cases hi : i < s.os.length
    · rw [List.getElem?_append_left hi] at e
      obtain ⟨a, h1, h2⟩ := q1.obj i o' e
      exact ⟨a, pre _ _ h1, mo h2⟩
    · have hi2 : i = s.os.length := by
        have := (List.getElem?_eq_some_iff.mp e).1
        simp at this; omega
      subst hi2
      simp at e
      subst e
      exact ⟨p, by rw [← q.len]; simp, mo d⟩
  · simp only [Sto.add] at e ⊢
    by_cases hi : i < s.os.length
    · rw [List.getElem?_append_left hi] at e
      exact q.ref i o' e
    · have hi2 : i = s.os.length := by
        have := (List.getElem?_eq_some_iff.mp e).1
        simp at this; omega
      subst hi2
      simp at e
      subst e
      have := d.hi_le
      rw [q.len] at this
      omega
theorem Rl.addD (q : Rl K mg L s H) {p : Addr} : D K mg (L ++ [p]) H' (.ref p) (.loc s.len) := .loc (by show (L ++ [p])[s.os.length]? = _; rw [← q.len]; simp)
/-- what stands at a place is changed -/
theorem Rl.exPut (q : Rl K mg L s H) {a : Addr} {ho : HO} (ha : a ∈ L) : Ex L H L (upd H a ho) := by
  obtain ⟨hx, h3, hm⟩ := q.there ha
  have ne : ∀ {b u}, H b = some u → ¬ Mut (some u) → b ≠ a := fun {b u} h nm e => by
    subst e; rw [h3] at h; cases h; exact nm hm
  exact ⟨List.prefix_rfl, fun b o h n => by rw [upd_ne (show b ≠ a from fun e => n (by rw [e]; exact ha))]; exact h, fun b vs h => by rw [upd_ne (ne h fun z => z)]; exact h, fun b o u h => by rw [upd_ne (ne h fun z => z)]; exact h, fun _ h => .inl h⟩
theorem Rl.put (q : Rl K mg L s H) {i : Nat} {a : Addr} {ho : HO} {o : O} (hi : L[i]? = some a) (d : OD K mg L (upd H a ho) a o) : Rl K mg L (s.put i o) (upd H a ho) := by
  have ha : a ∈ L := List.mem_of_getElem? hi
  have e := q.exPut (ho := ho) ha
  have hil : i < s.os.length := by rw [← q.len]; exact (List.getElem?_eq_some_iff.mp hi).1
  have kle : (s.put i o).kp ≤ s.os.length := by
    have h1 := q.kp
    have h2 := d.hi_le
    rw [q.len] at h2
    simp only [Sto.put]; split <;> omega
  have kge : s.kp ≤ (s.put i o).kp := by simp only [Sto.put]; split <;> omega
  refine ⟨by simp [Sto.put, q.len], q.nd, by simpa [Sto.put] using kle, fun j o' h => ?_, fun j o' h => ?_⟩
  · simp only [Sto.put] at h
    by_cases hj : i = j
    · subst hj
      rw [List.getElem?_set_self hil] at h
      cases h
      exact ⟨a, hi, d⟩
    · rw [List.getElem?_set_ne hj] at h
      obtain ⟨b, h1, h2⟩ := q.obj j o' h
      have hne : b ≠ a := fun e => by
        subst e
        have x1 := (List.getElem?_eq_some_iff.mp hi)
        have x2 := (List.getElem?_eq_some_iff.mp h1)
        exact hj ((List.getElem_inj q.nd).mp (x1.2.trans x2.2.symm))
      exact ⟨b, h1, h2.mono e (upd_ne hne)⟩
  · by_cases hj : i = j
    · subst hj
      simp only [Sto.put] at h
      rw [List.getElem?_set_self hil] at h
      cases h
      simp only [Sto.put]
      split <;> omega
    · simp only [Sto.put] at h
      rw [List.getElem?_set_ne hj] at h
      have := q.ref j o' h
      omega
/-- places at the end are forgotten -/
theorem Ex.cut {m : Nat} (e : Ex L H L' H') (hm : L.length ≤ m) : Ex L H (L'.take m) H' := by
  refine ⟨?_, e.frm, e.tup, e.frz, fun a h => e.new a (List.mem_of_mem_take h)⟩
  obtain ⟨r, rfl⟩ := e.pre
  rw [List.take_append, List.take_of_length_le hm]
  exact ⟨_, rfl⟩
theorem OD.cut {a : Addr} {o : O} (m : Nat) (d : OD K mg L H a o) (h : o.hi ≤ m) : OD K mg (L.take m) H a o := by
  cases o with
  | lst ts => obtain ⟨vs, e1, q⟩ := d; exact ⟨vs, e1, q.cut m h⟩
  | dct kvs => obtain ⟨vs, e1, q1, q2⟩ := d; exact ⟨vs, e1, q1, q2.cut m h⟩
  | ins C fs => obtain ⟨Ca, dx, fs', e1, e2, q1, q2⟩ := d; exact ⟨Ca, dx, fs', e1, e2, q1, q2.cut m h⟩
theorem Rl.cut (q : Rl K mg L s H) {m : Nat} (hm : s.kp ≤ m) : Rl K mg (L.take m) (s.cut m) H := by
  have hl := q.len
  refine ⟨by simp [Sto.cut, q.len], q.nd.sublist (List.take_sublist _ _), by simp only [Sto.cut, List.length_take]; have := q.kp; omega, fun i o h => ?_, fun i o h => ?_⟩
  · simp only [Sto.cut] at h
    have him : i < m := by
      have := (List.getElem?_eq_some_iff.mp h).1
      simp at this; omega
    rw [List.getElem?_take_of_lt him] at h
    obtain ⟨a, h1, h2⟩ := q.obj i o h
    have hr := q.ref i o h
    exact ⟨a, by rw [List.getElem?_take_of_lt him]; exact h1, h2.cut m (by omega)⟩
  · simp only [Sto.cut] at h ⊢
    have him : i < m := by
      have := (List.getElem?_eq_some_iff.mp h).1
      simp at this; omega
    rw [List.getElem?_take_of_lt him] at h
    exact q.ref i o h
theorem XD.cut {cls : Value} {d : Option Addr} {x : Exn} (q : XD K mg L H cls d x) {m : Nat} (h : x.hi ≤ m) : XD K mg (L.take m) H cls d x := by
  obtain ⟨Ca, h1, h2, h3⟩ := q
  refine ⟨Ca, h1, h2, ?_⟩
  rcases h3 with h3 | ⟨dx, fs', h4, h5, h6, h7⟩
  · exact .inl h3
  · exact .inr ⟨dx, fs', h4, h5, h6, h7.cut m h⟩
end

/-! ### what is wanted behind an outcome -/
section
variable (K : PySem.W.Frag) (mg : Str → Option Value)
def PostV (L : List Addr) (H : Hp) (Q : VK) : OV → Prop
  | some (t, s) => ∀ v L' H', Ex L H L' H' → Rl K mg L' s H' → D K mg L' H' v t → Q v H'
  | none => False
def PostE (W : WS) (L : List Addr) (H : Hp) (σ : St) (Q : VK) : Out → Prop
  | .ok t s => ∀ v L' H', Ex L H L' H' → Rl K mg L' s H' → D K mg L' H' v t → Q v H'
  | .exc x s => ∀ cls d L' H', Ex L H L' H' → Rl K mg L' s H' → XD K mg L' H' cls d x → W.w cls d σ H'
  | .bad => False
def PostL (W : WS) (L : List Addr) (H : Hp) (σ : St) (Q : List V → Hp → Prop) : OutL → Prop
  | .ok ts s => ∀ vs L' H', Ex L H L' H' → Rl K mg L' s H' → Ds K mg L' H' vs ts → Q vs H'
  | .exc x s => ∀ cls d L' H', Ex L H L' H' → Rl K mg L' s H' → XD K mg L' H' cls d x → W.w cls d σ H'
  | .bad => False
def PostB (W : WS) (L : List Addr) (H : Hp) (σ : St) (Q : Bool → Hp → Prop) : OutB → Prop
  | .ok k s => ∀ L' H', Ex L H L' H' → Rl K mg L' s H' → Q k H'
  | .exc x s => ∀ cls d L' H', Ex L H L' H' → Rl K mg L' s H' → XD K mg L' H' cls d x → W.w cls d σ H'
  | .bad => False
def PostS (W : WS) (L : List Addr) (H : Hp) (Z : Ends) : Fl → Prop
  | .nx r s => ∀ σ L' H', Ex L H L' H' → Rl K mg L' s H' → Er K mg W L' H' σ r → Z.nx σ H'
  | .rt t s => ∀ v L' H', Ex L H L' H' → Rl K mg L' s H' → D K mg L' H' v t → Z.rt v H'
  | .bk r s => ∀ σ L' H', Ex L H L' H' → Rl K mg L' s H' → Er K mg W L' H' σ r → Z.bk σ H'
  | .ct r s => ∀ σ L' H', Ex L H L' H' → Rl K mg L' s H' → Er K mg W L' H' σ r → Z.ct σ H'
  | .ex x r s => ∀ cls d σ L' H', Ex L H L' H' → Rl K mg L' s H' → Er K mg W L' H' σ r → XD K mg L' H' cls d x → W.w cls d σ H'
  | .bad => False
/-- a target's -/
def PostG (W : WS) (L : List Addr) (H : Hp) (P : St → Prop) (Q : St → Hp → Prop) : Fl → Prop
  | .nx r s => ∀ σ L' H', Ex L H L' H' → Rl K mg L' s H' → Er K mg W L' H' σ r → P σ → Q σ H'
  | .ex x r s => ∀ cls d σ L' H', Ex L H L' H' → Rl K mg L' s H' → Er K mg W L' H' σ r → XD K mg L' H' cls d x → W.w cls d σ H'
  | _ => False
def lE (W : WS) (f : Ev) : TE := fun σ H Q => ∃ L r s, Rl K mg L s H ∧ Er K mg W L H σ r ∧ PostE K mg W L H σ Q (f r s)
def lL (W : WS) (f : Lv) : TA := fun σ H Q => ∃ L r s, Rl K mg L s H ∧ Er K mg W L H σ r ∧ PostL K mg W L H σ Q (f r s)
def lB (W : WS) (f : Bv) : TT := fun σ H Q => ∃ L r s, Rl K mg L s H ∧ Er K mg W L H σ r ∧ PostB K mg W L H σ Q (f r s)
def lS (W : WS) (f : Sv) : TS := fun Z σ H => ∃ L r s, Rl K mg L s H ∧ Er K mg W L H σ r ∧ PostS K mg W L H Z (f r s)
def lG (W : WS) (vs : List Nat) (f : Gv) : TG := fun v σ H Q => ∃ L r s t, Rl K mg L s H ∧ Er K mg W L H σ r ∧ D K mg L H v t ∧ PostG K mg W L H (fun σ' => wipe σ' vs = wipe σ vs) Q (f t r s)
def lGs (W : WS) (ws : List Nat) (f : List T → Env → Sto → Fl) : TGs := fun vs σ H Q => ∃ L r s ts, Rl K mg L s H ∧ Er K mg W L H σ r ∧ Ds K mg L H vs ts ∧ PostG K mg W L H (fun σ' => wipe σ' ws = wipe σ ws) Q (f ts r s)
end
section
variable {K : PySem.W.Frag} {mg : Str → Option Value} {W : WS} {L L' : List Addr} {H H' : Hp} {σ : St}
theorem PostV.ex {Q : VK} {o : OV} (p : PostV K mg L H Q o) (e : Ex L H L' H') : PostV K mg L' H' Q o := by
  match o, p with
  | some (t, s), p => exact fun v L2 H2 e2 => p v L2 H2 (e.trans e2)
theorem PostE.ex {Q : VK} {o : Out} (p : PostE K mg W L H σ Q o) (e : Ex L H L' H') : PostE K mg W L' H' σ Q o := by
  cases o with
  | ok t s => exact fun v L2 H2 e2 => p v L2 H2 (e.trans e2)
  | exc x s => exact fun c d L2 H2 e2 => p c d L2 H2 (e.trans e2)
  | bad => exact p
theorem PostL.ex {Q : List V → Hp → Prop} {o : OutL} (p : PostL K mg W L H σ Q o) (e : Ex L H L' H') : PostL K mg W L' H' σ Q o := by
  cases o with
  | ok t s => exact fun v L2 H2 e2 => p v L2 H2 (e.trans e2)
  | exc x s => exact fun c d L2 H2 e2 => p c d L2 H2 (e.trans e2)
  | bad => exact p
theorem PostB.ex {Q : Bool → Hp → Prop} {o : OutB} (p : PostB K mg W L H σ Q o) (e : Ex L H L' H') : PostB K mg W L' H' σ Q o := by
  cases o with
  | ok t s => exact fun L2 H2 e2 => p L2 H2 (e.trans e2)
  | exc x s => exact fun c d L2 H2 e2 => p c d L2 H2 (e.trans e2)
  | bad => exact p
theorem PostS.ex {Z : Ends} {o : Fl} (p : PostS K mg W L H Z o) (e : Ex L H L' H') : PostS K mg W L' H' Z o := by
  cases o with
  | nx r s => exact fun σ L2 H2 e2 => p σ L2 H2 (e.trans e2)
  | rt t s => exact fun v L2 H2 e2 => p v L2 H2 (e.trans e2)
  | bk r s => exact fun σ L2 H2 e2 => p σ L2 H2 (e.trans e2)
  | ct r s => exact fun σ L2 H2 e2 => p σ L2 H2 (e.trans e2)
  | ex x r s => exact fun c d σ L2 H2 e2 => p c d σ L2 H2 (e.trans e2)
  | bad => exact p
theorem PostG.ex {P : St → Prop} {Q : St → Hp → Prop} {o : Fl} (p : PostG K mg W L H P Q o) (e : Ex L H L' H') : PostG K mg W L' H' P Q o := by
  cases o with
  | nx r s => exact fun σ L2 H2 e2 => p σ L2 H2 (e.trans e2)
  | ex x r s => exact fun c d σ L2 H2 e2 => p c d σ L2 H2 (e.trans e2)
  | rt t s => exact p
  | bk r s => exact p
  | ct r s => exact p
  | bad => exact p
theorem PostV.of {Q : VK} {o : OV} (p : PostE K mg W L H σ Q (vOut o)) : PostV K mg L H Q o := by
  match o, p with
  | some (t, s), p => exact p
  | none, p => exact p
end
end Fx

set_option maxRecDepth 100000
set_option maxHeartbeats 2000000
/-! Fx: the functional readings are true of the model: expressions, tests, statements, calls. -/
namespace Fx
open PySem L2 PyProof.Rows

theorem PEw {X : Cx} {e : Expr} {t t' : TE} (h : PE X e t) (w : ∀ σ H Q, t' σ H Q → t σ H Q) : PE X e t' := ⟨fun p s σ H Q I q => h.run p s σ H Q I (w σ H Q q)⟩
theorem PTw {X : Cx} {e : Expr} {t t' : TT} (h : PT X e t) (w : ∀ σ H Q, t' σ H Q → t σ H Q) : PT X e t' := ⟨fun p s σ H Q I q => h.run p s σ H Q I (w σ H Q q)⟩
theorem PWw {X : Cx} {e : Expr} {t t' : TT} (h : PW X e t) (w : ∀ σ H Q, t' σ H Q → t σ H Q) : PW X e t' := ⟨fun wh p s σ H Q I q => h.run wh p s σ H Q I (w σ H Q q)⟩
theorem PAw {X : Cx} {e : List Expr} {t t' : TA} (h : PA X e t) (w : ∀ σ H Q, t' σ H Q → t σ H Q) : PA X e t' := ⟨fun q p s σ H Q I x => h.run q p s σ H Q I (w σ H Q x)⟩
theorem PSw {X : Cx} {e : Stmt} {t t' : TS} (h : PS X e t) (w : ∀ Z σ H, t' Z σ H → t Z σ H) : PS X e t' := ⟨fun p s σ H Z I q => h.run p s σ H Z I (w Z σ H q)⟩
theorem PSsw {X : Cx} {e : List Stmt} {t t' : TS} (h : PSs X e t) (w : ∀ Z σ H, t' Z σ H → t Z σ H) : PSs X e t' := ⟨fun p s σ H Z I q => h.run p s σ H Z I (w Z σ H q)⟩
theorem PGw {X : Cx} {e : Expr} {t t' : TG} (h : PG X e t) (w : ∀ v σ H Q, t' v σ H Q → t v σ H Q) : PG X e t' := ⟨fun p s σ H v u Q I r q => h.run p s σ H v u Q I r (w v σ H Q q)⟩
theorem PGsw {X : Cx} {e : List Expr} {t t' : TGs} (h : PGs X e t) (w : ∀ v σ H Q, t' v σ H Q → t v σ H Q) : PGs X e t' := ⟨fun p s σ H v u Q I r q => h.run p s σ H v u Q I r (w v σ H Q q)⟩

/-- an expression's functional reading -/
abbrev FE (X : Cx) (W : WS) (e : Expr) (f : Ev) : Prop := PE X e (lE X.K X.mg W f)
abbrev FL (X : Cx) (W : WS) (es : List Expr) (f : Lv) : Prop := PA X es (lL X.K X.mg W f)
abbrev FB (X : Cx) (W : WS) (e : Expr) (f : Bv) : Prop := PT X e (lB X.K X.mg W f)
abbrev FW (X : Cx) (W : WS) (e : Expr) (f : Bv) : Prop := PW X e (lB X.K X.mg W f)
abbrev FS (X : Cx) (W : WS) (e : Stmt) (f : Sv) : Prop := PS X e (lS X.K X.mg W f)
abbrev FSs (X : Cx) (W : WS) (e : List Stmt) (f : Sv) : Prop := PSs X e (lS X.K X.mg W f)
abbrev FG (X : Cx) (W : WS) (vs : List Nat) (e : Expr) (f : Gv) : Prop := PG X e (lG X.K X.mg W vs f)
abbrev FGs (X : Cx) (W : WS) (vs : List Nat) (e : List Expr) (f : List T → Env → Sto → Fl) : Prop := PGs X e (lGs X.K X.mg W vs f)
/-- by values: an operator of two, of one, a call -/
def rO (K : PySem.W.Frag) (mg : Str → Option Value) (g : T → T → Sto → OV) : R2 := fun x y H Q => ∃ L s t1 t2, Rl K mg L s H ∧ D K mg L H x t1 ∧ D K mg L H y t2 ∧ PostV K mg L H Q (g t1 t2 s)
def OpF (X : Cx) (f : Value → Value → Sem Value) (g : T → T → Sto → OV) : Prop := OpR X f (rO X.K X.mg g)
def rU1 (K : PySem.W.Frag) (mg : Str → Option Value) (g : T → Sto → OV) : V → Hp → VK → Prop := fun x H Q => ∃ L s t, Rl K mg L s H ∧ D K mg L H x t ∧ PostV K mg L H Q (g t s)
def UnF (X : Cx) (f : Value → Sem Value) (g : T → Sto → OV) : Prop := UnR X f (rU1 X.K X.mg g)
def rC (K : PySem.W.Frag) (mg : Str → Option Value) (g : List T → Sto → OV) : List V → Hp → VK → Prop := fun vs H Q => ∃ L s ts, Rl K mg L s H ∧ Ds K mg L H vs ts ∧ PostV K mg L H Q (g ts s)
def CallF (X : Cx) (f : Value) (g : List T → Sto → OV) : Prop := CallR X f (rC X.K X.mg g)
theorem OpF.of {X : Cx} {f : Value → Value → Sem Value} {g : T → T → Sto → OV} (h : ∀ L s t1 t2 x y H Q, Rl X.K X.mg L s H → D X.K X.mg L H x t1 → D X.K X.mg L H y t2 → PostV X.K X.mg L H Q (g t1 t2 s) → ∃ r, OpR X f r ∧ r x y H Q) : OpF X f g := by
  intro pins s σ H x y v u Q I rx ry ⟨L, st, t1, t2, hR, h1, h2, hp⟩
  obtain ⟨r, hr, hq⟩ := h L st t1 t2 x y H Q hR h1 h2 hp
  exact hr pins s σ H x y v u Q I rx ry hq
theorem UnF.of {X : Cx} {f : Value → Sem Value} {g : T → Sto → OV} (h : ∀ L s t x H Q, Rl X.K X.mg L s H → D X.K X.mg L H x t → PostV X.K X.mg L H Q (g t s) → ∃ r, UnR X f r ∧ r x H Q) : UnF X f g := by
  intro pins s σ H x v Q I rx ⟨L, st, t, hR, h1, hp⟩
  obtain ⟨r, hr, hq⟩ := h L st t x H Q hR h1 hp
  exact hr pins s σ H x v Q I rx hq
theorem CallF.of {X : Cx} {f : Value} {g : List T → Sto → OV} (h : ∀ L s ts vs H Q, Rl X.K X.mg L s H → Ds X.K X.mg L H vs ts → PostV X.K X.mg L H Q (g ts s) → ∃ r, CallR X f r ∧ r vs H Q) : CallF X f g := by
  intro pins s σ H vs us Q I rv ⟨L, st, ts, hR, h1, hp⟩
  obtain ⟨r, hr, hq⟩ := h L st ts vs H Q hR h1 hp
  exact hr pins s σ H vs us Q I rv hq

/-! ### the context -/
structure Bx (X : Cx) (N : List Str) (sc : Scope) : Prop where
  hN : X.N = N
  hs : X.env.scope = sc
  nd : N.Nodup
/-- no except suite; nothing is known of slots besides -/
structure Cm (X : Cx) (W : WS) : Prop where
  calm : X.calm = true
  kz : W.ks = []
theorem Cm.ki {X : Cx} {W : WS} (c : Cm X W) (i : Nat) : i ∉ W.ks := by rw [c.kz]; exact fun h => nomatch h
theorem Cm.z {X : Cx} {W : WS} (c : Cm X W) : Cm X W.z := ⟨c.calm, c.kz⟩
theorem Bx.nd' {X : Cx} {N : List Str} {sc : Scope} (b : Bx X N sc) : X.N.Nodup := by rw [b.hN]; exact b.nd
theorem Bx.at {X : Cx} {N : List Str} {sc : Scope} (b : Bx X N sc) {i : Nat} {x : Str} (h : N[i]? = some x) : X.N[i]? = some x := by rw [b.hN]; exact h
theorem Bx.vis {X : Cx} {N : List Str} {sc : Scope} (b : Bx X N sc) {x : Str} (h : (match sc.names.lookup x with | some .local => true | some .cell => true | some .free => true | _ => false) = true) : Vis X.env.scope x := by
  unfold Vis
  rw [b.hs]
  revert h
  split <;> simp_all
theorem Bx.gl {X : Cx} {N : List Str} {sc : Scope} (b : Bx X N sc) {x : Str} (h : sc.names.lookup x = some .globalImplicit) : Gl X x := by
  unfold Gl Env.kindOf
  rw [b.hs]; exact h
theorem Bx.loc {X : Cx} {N : List Str} {sc : Scope} (b : Bx X N sc) {x : Str} (h : sc.names.lookup x = some .local) : X.env.scope.names.lookup x = some .local := by rw [b.hs]; exact h

section
variable {X : Cx} {W : WS} {N : List Str} {sc : Scope} {pos : Pos} {a b c : Expr} {fa fb fc : Ev}

/-! ### names, constants -/
theorem r_var {i : Nat} {x : Str} (B : Bx X N sc) (hi : N[i]? = some x) (hv : (match sc.names.lookup x with | some .local => true | some .cell => true | some .free => true | _ => false) = true) (hd : (x == ("__debug__" : Str)) = false := by decide) (hcd : (x == ("__classdict__" : Str)) = false := by decide) : FE X W (.Name x pos) (eVar i) := by
  refine PEw (pe_var (B.at hi) (B.vis hv) hd hcd) fun σ H Q ⟨L, r, s, hR, hE, hp⟩ => ?_
  unfold eVar at hp
  split at hp
  · rename_i t ht
    obtain ⟨v, h1, h2⟩ := hE.val _ _ ht
    exact ⟨v, h1, hp v L H Ex.refl hR h2⟩
  · exact hp.elim
theorem r_int {i : Int} {j : Nat} : FE X W (.Constant (.int i) j pos) (eC (.int i)) := PEw pe_int fun σ H Q ⟨L, r, s, hR, hE, hp⟩ => hp _ L H Ex.refl hR (.int i)
theorem r_bl {k : Bool} {j : Nat} : FE X W (.Constant (.bool k) j pos) (eC (.bl k)) := PEw pe_bl fun σ H Q ⟨L, r, s, hR, hE, hp⟩ => hp _ L H Ex.refl hR (.bl k)
theorem r_non {j : Nat} : FE X W (.Constant .none j pos) (eC .non) := PEw pe_non fun σ H Q ⟨L, r, s, hR, hE, hp⟩ => hp _ L H Ex.refl hR .non
theorem r_str {x : Str} {j : Nat} : FE X W (.Constant (.str x) j pos) (eC (.str x)) := PEw pe_str fun σ H Q ⟨L, r, s, hR, hE, hp⟩ => hp _ L H Ex.refl hR (.str x)
/-- a constant of the module -/
theorem r_gint {x : Str} {i : Int} (B : Bx X N sc) (hg : sc.names.lookup x = some .globalImplicit) (hm : ∃ t, X.mg x = some (.int i t)) (hd : (x == ("__debug__" : Str)) = false := by decide) : FE X W (.Name x pos) (eC (.int i)) := by
  obtain ⟨t, hm⟩ := hm
  exact PEw (pe_glob (v := .int i) (B.gl hg) hm ⟨t, rfl⟩ hd) fun σ H Q ⟨L, r, s, hR, hE, hp⟩ => hp _ L H Ex.refl hR (.int i)
theorem r_gstr {x z : Str} (B : Bx X N sc) (hg : sc.names.lookup x = some .globalImplicit) (hm : ∃ t, X.mg x = some (.str z t)) (hd : (x == ("__debug__" : Str)) = false := by decide) : FE X W (.Name x pos) (eC (.str z)) := by
  obtain ⟨t, hm⟩ := hm
  exact PEw (pe_glob (v := .str z) (B.gl hg) hm ⟨t, rfl⟩ hd) fun σ H Q ⟨L, r, s, hR, hE, hp⟩ => hp _ L H Ex.refl hR (.str z)
/-- a class or a def of the module, as a value -/
theorem r_glo {x : String} {p : Addr} (B : Bx X N sc) (hg : sc.names.lookup (Str.ofString x) = some .globalImplicit) (hm : X.mg (Str.ofString x) = some (.ref p)) (hd : (Str.ofString x == ("__debug__" : Str)) = false := by decide) : FE X W (.Name (Str.ofString x) pos) (eC (.glo x)) :=
  PEw (pe_glob (v := .ref p) (B.gl hg) hm rfl hd) fun σ H Q ⟨L, r, s, hR, hE, hp⟩ => hp _ L H Ex.refl hR (.glo hm)
/-- a built-in class as a value -/
theorem r_ty {x : Str} {n : String} (B : Bx X N sc) (hg : sc.names.lookup x = some .globalImplicit) (hm : X.mg x = none) (hv : bootBuiltins x = some (.type n)) (hn : x ≠ "__name__" := by decide) (hd : (x == ("__debug__" : Str)) = false := by decide) : FE X W (.Name x pos) (eC (.ty n)) :=
  PEw (pe_bltn (v := .ty n) (B.gl hg) hm hv rfl hn hd) fun σ H Q ⟨L, r, s, hR, hE, hp⟩ => hp _ L H Ex.refl hR (.ty n)

/-! ### operators -/
/-- what lies behind an expression -/
theorem lE_bnd {f : Ev} {k : T → Sto → Out} {σ : L2.St} {H : Hp} {Q : VK} {L : List Addr} {r : Env} {s : Sto} {R : VK} (hR : Rl X.K X.mg L s H) (hE : Er X.K X.mg W L H σ r) (hp : PostE X.K X.mg W L H σ Q ((f r s).bnd k))
    (go : ∀ t s' v L' H', Ex L H L' H' → Rl X.K X.mg L' s' H' → Er X.K X.mg W L' H' σ r → D X.K X.mg L' H' v t → PostE X.K X.mg W L' H' σ Q (k t s') → R v H') : lE X.K X.mg W f σ H R := by
  refine ⟨L, r, s, hR, hE, ?_⟩
  cases e : f r s with
  | ok t s' =>
    rw [e] at hp
    exact fun v L' H' x hR' hd => go t s' v L' H' x hR' (hE.mono x) hd (PostE.ex hp x)
  | exc x s' => rw [e] at hp; exact hp
  | bad => rw [e] at hp; exact hp
theorem r_bin {op : Operator} {g : T → T → Sto → OV} (ho : OpF X (binaryOp op) g) (ha : FE X W a fa) (hb : FE X W b fb) : FE X W (.BinOp a op b pos) (eBin g fa fb) := by
  refine PEw (pe_op ho ha hb) fun σ H Q ⟨L, r, s, hR, hE, hp⟩ => ?_
  refine lE_bnd hR hE hp fun t1 s1 v1 L1 H1 x1 R1 E1 d1 p1 => ?_
  refine lE_bnd R1 E1 p1 fun t2 s2 v2 L2 H2 x2 R2 E2 d2 p2 => ?_
  exact ⟨L2, s2, t1, t2, R2, d1.mono x2, d2, PostV.of p2⟩
theorem r_un {op : UnaryOp} {g : T → Sto → OV} (ho : UnF X (unaryOp op) g) (ha : FE X W a fa) : FE X W (.UnaryOp op a pos) (eUn g fa) := by
  refine PEw (pe_un ho ha) fun σ H Q ⟨L, r, s, hR, hE, hp⟩ => ?_
  refine lE_bnd hR hE hp fun t1 s1 v1 L1 H1 x1 R1 E1 d1 p1 => ?_
  exact ⟨L1, s1, t1, R1, d1, PostV.of p1⟩
theorem r_cmp {op : CmpOp} {g : T → T → Sto → OV} (ho : OpF X (compareOp op) g) (hm : behindInMarks op b = false) (ha : FE X W a fa) (hb : FE X W b fb) : FE X W (.Compare a [op] [b] pos) (eBin g fa fb) := by
  refine PEw (pe_cmpR ho ha hb hm) fun σ H Q ⟨L, r, s, hR, hE, hp⟩ => ?_
  refine lE_bnd hR hE hp fun t1 s1 v1 L1 H1 x1 R1 E1 d1 p1 => ?_
  refine lE_bnd R1 E1 p1 fun t2 s2 v2 L2 H2 x2 R2 E2 d2 p2 => ?_
  exact ⟨L2, s2, t1, t2, R2, d1.mono x2, d2, PostV.of p2⟩
theorem r_chain {op op' : CmpOp} {g h : T → T → Sto → OV} (ho : OpF X (compareOp op) g) (ho' : OpF X (compareOp op') h) (hm : lastMarks [op, op'] [b, c] = false) (ha : FE X W a fa) (hb : FE X W b fb) (hc : FE X W c fc) : FE X W (.Compare a [op, op'] [b, c] pos) (eChain g h fa fb fc) := by
  refine PEw (pe_chain ho ho' ha hb hc hm) fun σ H Q ⟨L, r, s, hR, hE, hp⟩ => ?_
  refine lE_bnd hR hE hp fun t1 s1 v1 L1 H1 x1 R1 E1 d1 p1 => ?_
  refine lE_bnd R1 E1 p1 fun t2 s2 v2 L2 H2 x2 R2 E2 d2 p2 => ?_
  refine ⟨L2, s2, t1, t2, R2, d1.mono x2, d2, ?_⟩
  match e : g t1 t2 s2 with
  | none => simp only [e] at p2; exact p2
  | some (t, s3) =>
    simp only [e] at p2
    cases t with
    | bl k =>
      refine fun v L3 H3 x3 R3 d3 => ?_
      cases d3
      refine ⟨k, rfl, ?_⟩
      cases k with
      | true =>
        simp only [if_true] at p2 ⊢
        refine lE_bnd R3 (E2.mono x3) (PostE.ex p2 x3) fun t4 s4 v4 L4 H4 x4 R4 E4 d4 p4 => ?_
        exact ⟨L4, s4, t2, t4, R4, (d2.mono x3).mono x4, d4, PostV.of p4⟩
      | false =>
        simp only [Bool.false_eq_true, if_false] at p2 ⊢
        exact p2 _ L3 H3 x3 R3 (.bl false)
    | _ => exact p2.elim

/-! ### truth -/
theorem tru_of {L : List Addr} {s : Sto} {H : Hp} {v : V} {t : T} {k : Bool} (hR : Rl X.K X.mg L s H) (d : D X.K X.mg L H v t) (h : tru t s = some k) : TruV X.K v H k := by
  cases d with
  | non => cases h; rfl
  | bl b => cases h; rfl
  | int i => cases h; show decide (i ≠ 0) = (i != 0); by_cases hi : i = 0 <;> simp [hi]
  | str x =>
    simp only [tru] at h
    split at h
    · rename_i hz
      cases h
      refine ⟨hz, ?_⟩
      by_cases hx : x.length = 0 <;> simp [hx]
    · cases h
  | ty n => simp [tru] at h
  | glo q => simp [tru] at h
  | loc q =>
    rename_i n p
    simp only [tru] at h
    split at h
    · rename_i ts e
      cases h
      obtain ⟨p', h1, vs, h2, h3⟩ := hR.get e
      rw [q] at h1; cases h1
      refine .inl ⟨vs, .inl (.inl h2), ?_⟩
      have := h3.length
      cases vs <;> cases ts <;> simp_all
    · cases h
  | tup q q2 =>
    rename_i p vs ts
    cases h
    refine .inr (.inl ⟨vs, q.sq, ?_⟩)
    have := q2.length
    cases vs <;> cases ts <;> simp_all
  | frz q q2 =>
    rename_i p vs ts
    cases h
    refine .inl ⟨vs, q.sq, ?_⟩
    have := q2.length
    cases vs <;> cases ts <;> simp_all
theorem r_and {rest : List Expr} (ha : FE X W a fa) (hb : FE X W (.BoolOp .And (b :: rest) pos) fb) : FE X W (.BoolOp .And (a :: b :: rest) pos) (eAnd fa fb) := by
  refine PEw (pe_andT ha hb) fun σ H Q ⟨L, r, s, hR, hE, hp⟩ => ?_
  refine lE_bnd hR hE hp fun t1 s1 v1 L1 H1 x1 R1 E1 d1 p1 => ?_
  cases e : tru t1 s1 with
  | none => rw [e] at p1; exact p1.elim
  | some k =>
    rw [e] at p1
    refine ⟨k, tru_of R1 d1 e, ?_⟩
    cases k with
    | true =>
      simp only [if_true] at p1 ⊢
      exact ⟨L1, r, s1, R1, E1, p1⟩
    | false =>
      simp only [Bool.false_eq_true, if_false] at p1 ⊢
      exact p1 v1 L1 H1 Ex.refl R1 d1
theorem r_or {rest : List Expr} (ha : FE X W a fa) (hb : FE X W (.BoolOp .Or (b :: rest) pos) fb) : FE X W (.BoolOp .Or (a :: b :: rest) pos) (eOr fa fb) := by
  refine PEw (pe_orT ha hb) fun σ H Q ⟨L, r, s, hR, hE, hp⟩ => ?_
  refine lE_bnd hR hE hp fun t1 s1 v1 L1 H1 x1 R1 E1 d1 p1 => ?_
  cases e : tru t1 s1 with
  | none => rw [e] at p1; exact p1.elim
  | some k =>
    rw [e] at p1
    refine ⟨k, tru_of R1 d1 e, ?_⟩
    cases k with
    | true =>
      simp only [if_true] at p1 ⊢
      exact p1 v1 L1 H1 Ex.refl R1 d1
    | false =>
      simp only [Bool.false_eq_true, if_false] at p1 ⊢
      exact ⟨L1, r, s1, R1, E1, p1⟩
theorem r_one {op : BoolOp} (ha : FE X W a fa) : FE X W (.BoolOp op [a] pos) fa := pe_one ha
theorem r_not (ha : FE X W a fa) : FE X W (.UnaryOp .Not a pos) (eNot fa) := by
  refine PEw (pe_notT ha) fun σ H Q ⟨L, r, s, hR, hE, hp⟩ => ?_
  refine lE_bnd hR hE hp fun t1 s1 v1 L1 H1 x1 R1 E1 d1 p1 => ?_
  cases e : tru t1 s1 with
  | none => rw [e] at p1; exact p1.elim
  | some k =>
    rw [e] at p1
    exact ⟨k, tru_of R1 d1 e, p1 _ L1 H1 Ex.refl R1 (.bl _)⟩

/-! ### tests -/
theorem lE_bndB {f : Ev} {k : T → Sto → OutB} {σ : L2.St} {H : Hp} {Q : Bool → Hp → Prop} {L : List Addr} {r : Env} {s : Sto} {R : VK} (hR : Rl X.K X.mg L s H) (hE : Er X.K X.mg W L H σ r) (hp : PostB X.K X.mg W L H σ Q ((f r s).bndB k))
    (go : ∀ t s' v L' H', Ex L H L' H' → Rl X.K X.mg L' s' H' → Er X.K X.mg W L' H' σ r → D X.K X.mg L' H' v t → PostB X.K X.mg W L' H' σ Q (k t s') → R v H') : lE X.K X.mg W f σ H R := by
  refine ⟨L, r, s, hR, hE, ?_⟩
  cases e : f r s with
  | ok t s' =>
    rw [e] at hp
    exact fun v L' H' x hR' hd => go t s' v L' H' x hR' (hE.mono x) hd (PostB.ex hp x)
  | exc x s' => rw [e] at hp; exact hp
  | bad => rw [e] at hp; exact hp
theorem lB_bndB {f : Bv} {k : Bool → Sto → OutB} {σ : L2.St} {H : Hp} {Q : Bool → Hp → Prop} {L : List Addr} {r : Env} {s : Sto} {R : Bool → Hp → Prop} (hR : Rl X.K X.mg L s H) (hE : Er X.K X.mg W L H σ r) (hp : PostB X.K X.mg W L H σ Q ((f r s).bndB k))
    (go : ∀ t s' L' H', Ex L H L' H' → Rl X.K X.mg L' s' H' → Er X.K X.mg W L' H' σ r → PostB X.K X.mg W L' H' σ Q (k t s') → R t H') : lB X.K X.mg W f σ H R := by
  refine ⟨L, r, s, hR, hE, ?_⟩
  cases e : f r s with
  | ok t s' =>
    rw [e] at hp
    exact fun L' H' x hR' => go t s' L' H' x hR' (hE.mono x) (PostB.ex hp x)
  | exc x s' => rw [e] at hp; exact hp
  | bad => rw [e] at hp; exact hp
theorem lB_bnd {f : Bv} {k : Bool → Sto → Out} {σ : L2.St} {H : Hp} {Q : VK} {L : List Addr} {r : Env} {s : Sto} {R : Bool → Hp → Prop} (hR : Rl X.K X.mg L s H) (hE : Er X.K X.mg W L H σ r) (hp : PostE X.K X.mg W L H σ Q ((f r s).bnd k))
    (go : ∀ t s' L' H', Ex L H L' H' → Rl X.K X.mg L' s' H' → Er X.K X.mg W L' H' σ r → PostE X.K X.mg W L' H' σ Q (k t s') → R t H') : lB X.K X.mg W f σ H R := by
  refine ⟨L, r, s, hR, hE, ?_⟩
  cases e : f r s with
  | ok t s' =>
    rw [e] at hp
    exact fun L' H' x hR' => go t s' L' H' x hR' (hE.mono x) (PostE.ex hp x)
  | exc x s' => rw [e] at hp; exact hp
  | bad => rw [e] at hp; exact hp
/-- any expression by its truth -/
theorem t_tru (ha : FE X W a fa) (he : ∀ whole, isTrue a X.env whole = (do let v ← whole; standAt a.pos; holding [v] (truthy v)) := by intro _; rfl) : FB X W a (bT fa) := by
  refine PTw (pt_truth ha he) fun σ H Q ⟨L, r, s, hR, hE, hp⟩ => ?_
  refine lE_bndB hR hE hp fun t1 s1 v1 L1 H1 x1 R1 E1 d1 p1 => ?_
  cases e : tru t1 s1 with
  | none => rw [e] at p1; exact p1.elim
  | some k => rw [e] at p1; exact ⟨k, tru_of R1 d1 e, p1 L1 H1 Ex.refl R1⟩
theorem t_cmp {op : CmpOp} {g : T → T → Sto → OV} (ho : OpF X (compareOp op) g) (hm : behindInMarks op b = false) (ha : FE X W a fa) (hb : FE X W b fb) : FB X W (.Compare a [op] [b] pos) (bV (eBin g fa fb)) := by
  refine PTw (pt_cmpR ho ha hb hm) fun σ H Q ⟨L, r, s, hR, hE, hp⟩ => ?_
  have hp' : PostB X.K X.mg W L H σ Q ((fa r s).bndB fun t1 s1 => (fb r s1).bndB fun t2 s2 => (vOut (g t1 t2 s2)).bndB fun t s => match t with | .bl k => .ok k s | _ => .bad) := by
    simp only [bV, eBin] at hp
    revert hp
    cases fa r s with
    | ok t1 s1 =>
      simp only [Out.bnd, Out.bndB]
      cases fb r s1 with
      | ok t2 s2 => exact id
      | exc x s2 => exact id
      | bad => exact id
    | exc x s1 => exact id
    | bad => exact id
  refine lE_bndB hR hE hp' fun t1 s1 v1 L1 H1 x1 R1 E1 d1 p1 => ?_
  refine lE_bndB R1 E1 p1 fun t2 s2 v2 L2 H2 x2 R2 E2 d2 p2 => ?_
  refine ⟨L2, s2, t1, t2, R2, d1.mono x2, d2, ?_⟩
  match e : g t1 t2 s2 with
  | none => rw [e] at p2; exact p2
  | some (t, s3) =>
    rw [e] at p2
    refine fun v L3 H3 x3 R3 d3 => ?_
    cases d3 with
    | bl k => exact ⟨k, rfl, p2 L3 H3 x3 R3⟩
    | _ => exact p2.elim
theorem t_chain {op op' : CmpOp} {g h : T → T → Sto → OV} (ho : OpF X (compareOp op) g) (ho' : OpF X (compareOp op') h) (hm : lastMarks [op, op'] [b, c] = false) (ha : FE X W a fa) (hb : FE X W b fb) (hc : FE X W c fc) : FB X W (.Compare a [op, op'] [b, c] pos) (bV (eChain g h fa fb fc)) := by
  refine PTw (pt_chain ho ho' ha hb hc hm) fun σ H Q ⟨L, r, s, hR, hE, hp⟩ => ?_
  have hp' : PostB X.K X.mg W L H σ Q ((fa r s).bndB fun x s => (fb r s).bndB fun y s => match g x y s with
      | some (.bl k, s) => if k = true then (fc r s).bndB fun z s => (vOut (h y z s)).bndB fun t s => match t with | .bl k => .ok k s | _ => .bad else .ok false s
      | _ => .bad) := by
    simp only [bV, eChain] at hp
    revert hp
    cases fa r s with
    | ok t1 s1 =>
      simp only [Out.bnd, Out.bndB]
      cases fb r s1 with
      | ok t2 s2 =>
        simp only
        match g t1 t2 s2 with
        | none => exact id
        | some (t, s3) =>
          cases t with
          | bl k =>
            cases k with
            | false => exact id
            | true =>
              simp only [if_true]
              cases fc r s3 with
              | ok t3 s3 => exact id
              | exc x s2 => exact id
              | bad => exact id
          | _ => exact id
      | exc x s2 => exact id
      | bad => exact id
    | exc x s1 => exact id
    | bad => exact id
  refine lE_bndB hR hE hp' fun t1 s1 v1 L1 H1 x1 R1 E1 d1 p1 => ?_
  refine lE_bndB R1 E1 p1 fun t2 s2 v2 L2 H2 x2 R2 E2 d2 p2 => ?_
  refine ⟨L2, s2, t1, t2, R2, d1.mono x2, d2, ?_⟩
  match e : g t1 t2 s2 with
  | none => simp only [e] at p2; exact p2
  | some (t, s3) =>
    simp only [e] at p2
    cases t with
    | bl k =>
      refine fun v L3 H3 x3 R3 d3 => ?_
      cases d3
      refine ⟨k, rfl, ?_⟩
      cases k with
      | true =>
        simp only [if_true] at p2 ⊢
        refine lE_bndB R3 (E2.mono x3) (PostB.ex p2 x3) fun t4 s4 v4 L4 H4 x4 R4 E4 d4 p4 => ?_
        refine ⟨L4, s4, t2, t4, R4, (d2.mono x3).mono x4, d4, ?_⟩
        match e5 : h t2 t4 s4 with
        | none => rw [e5] at p4; exact p4
        | some (t, s5) =>
          rw [e5] at p4
          refine fun v L5 H5 x5 R5 d5 => ?_
          cases d5 with
          | bl k => exact ⟨k, rfl, p4 L5 H5 x5 R5⟩
          | _ => exact p4.elim
      | false =>
        simp only [Bool.false_eq_true, if_false] at p2 ⊢
        exact ⟨false, rfl, p2 L3 H3 x3 R3⟩
    | _ => exact p2.elim
variable {ba bb : Bv}
theorem t_not (ha : FB X W a ba) : FB X W (.UnaryOp .Not a pos) (bNot ba) := by
  refine PTw (pt_not ha) fun σ H Q ⟨L, r, s, hR, hE, hp⟩ => ?_
  exact lB_bndB hR hE hp fun t1 s1 L1 H1 x1 R1 E1 p1 => p1 L1 H1 Ex.refl R1
theorem t_and {rest : List Expr} (ha : FB X W a ba) (hb : FW X W (.BoolOp .And (b :: rest) pos) bb) : FW X W (.BoolOp .And (a :: b :: rest) pos) (bAnd ba bb) := by
  refine PWw (pw_and ha hb) fun σ H Q ⟨L, r, s, hR, hE, hp⟩ => ?_
  refine lB_bndB hR hE hp fun k s1 L1 H1 x1 R1 E1 p1 => ?_
  cases k with
  | true => exact ⟨L1, r, s1, R1, E1, p1⟩
  | false => exact p1 L1 H1 Ex.refl R1
theorem t_or {rest : List Expr} (ha : FB X W a ba) (hb : FW X W (.BoolOp .Or (b :: rest) pos) bb) : FW X W (.BoolOp .Or (a :: b :: rest) pos) (bOr ba bb) := by
  refine PWw (pw_or ha hb) fun σ H Q ⟨L, r, s, hR, hE, hp⟩ => ?_
  refine lB_bndB hR hE hp fun k s1 L1 H1 x1 R1 E1 p1 => ?_
  cases k with
  | false => exact ⟨L1, r, s1, R1, E1, p1⟩
  | true => exact p1 L1 H1 Ex.refl R1
theorem t_and1 (ha : FB X W a ba) : FW X W (.BoolOp .And [a] pos) ba := pw_and1 ha
theorem t_or1 (ha : FB X W a ba) : FW X W (.BoolOp .Or [a] pos) ba := pw_or1 ha
theorem r_if {e : Expr} (hc : FB X W e ba) (ha : FE X W a fa) (hb : FE X W b fb) : FE X W (.IfExp e a b pos) (eIf ba fa fb) := by
  refine PEw (pe_ifExp hc ha hb) fun σ H Q ⟨L, r, s, hR, hE, hp⟩ => ?_
  refine lB_bnd hR hE hp fun k s1 L1 H1 x1 R1 E1 p1 => ?_
  cases k with
  | true => exact ⟨L1, r, s1, R1, E1, p1⟩
  | false => exact ⟨L1, r, s1, R1, E1, p1⟩

/-! ### argument lists, displays -/
variable {es : List Expr} {fl : Lv}
theorem lE_bndL {f : Ev} {k : T → Sto → OutL} {σ : L2.St} {H : Hp} {Q : List V → Hp → Prop} {L : List Addr} {r : Env} {s : Sto} {R : VK} (hR : Rl X.K X.mg L s H) (hE : Er X.K X.mg W L H σ r) (hp : PostL X.K X.mg W L H σ Q ((f r s).bndL k))
    (go : ∀ t s' v L' H', Ex L H L' H' → Rl X.K X.mg L' s' H' → Er X.K X.mg W L' H' σ r → D X.K X.mg L' H' v t → PostL X.K X.mg W L' H' σ Q (k t s') → R v H') : lE X.K X.mg W f σ H R := by
  refine ⟨L, r, s, hR, hE, ?_⟩
  cases e : f r s with
  | ok t s' =>
    rw [e] at hp
    exact fun v L' H' x hR' hd => go t s' v L' H' x hR' (hE.mono x) hd (PostL.ex hp x)
  | exc x s' => rw [e] at hp; exact hp
  | bad => rw [e] at hp; exact hp
theorem lL_bnd {f : Lv} {k : List T → Sto → Out} {σ : L2.St} {H : Hp} {Q : VK} {L : List Addr} {r : Env} {s : Sto} {R : List V → Hp → Prop} (hR : Rl X.K X.mg L s H) (hE : Er X.K X.mg W L H σ r) (hp : PostE X.K X.mg W L H σ Q ((f r s).bnd k))
    (go : ∀ t s' v L' H', Ex L H L' H' → Rl X.K X.mg L' s' H' → Er X.K X.mg W L' H' σ r → Ds X.K X.mg L' H' v t → PostE X.K X.mg W L' H' σ Q (k t s') → R v H') : lL X.K X.mg W f σ H R := by
  refine ⟨L, r, s, hR, hE, ?_⟩
  cases e : f r s with
  | ok t s' =>
    rw [e] at hp
    exact fun v L' H' x hR' hd => go t s' v L' H' x hR' (hE.mono x) hd (PostE.ex hp x)
  | exc x s' => rw [e] at hp; exact hp
  | bad => rw [e] at hp; exact hp
theorem lL_bndL {f : Lv} {k : List T → Sto → OutL} {σ : L2.St} {H : Hp} {Q : List V → Hp → Prop} {L : List Addr} {r : Env} {s : Sto} {R : List V → Hp → Prop} (hR : Rl X.K X.mg L s H) (hE : Er X.K X.mg W L H σ r) (hp : PostL X.K X.mg W L H σ Q ((f r s).bndL k))
    (go : ∀ t s' v L' H', Ex L H L' H' → Rl X.K X.mg L' s' H' → Er X.K X.mg W L' H' σ r → Ds X.K X.mg L' H' v t → PostL X.K X.mg W L' H' σ Q (k t s') → R v H') : lL X.K X.mg W f σ H R := by
  refine ⟨L, r, s, hR, hE, ?_⟩
  cases e : f r s with
  | ok t s' =>
    rw [e] at hp
    exact fun v L' H' x hR' hd => go t s' v L' H' x hR' (hE.mono x) hd (PostL.ex hp x)
  | exc x s' => rw [e] at hp; exact hp
  | bad => rw [e] at hp; exact hp
theorem l_nil : FL X W [] lNil := PAw pa_nil fun σ H Q ⟨L, r, s, hR, hE, hp⟩ => hp [] L H Ex.refl hR .nil
theorem l_cons {e : Expr} (ha : FE X W e fa) (hr : FL X W es fl) (hs : starEach (e :: es) X.env = (false, eval e X.env) :: starEach es X.env := by rfl) : FL X W (e :: es) (lCons fa fl) := by
  refine PAw (pa_cons ha hr hs) fun σ H Q ⟨L, r, s, hR, hE, hp⟩ => ?_
  refine lE_bndL hR hE hp fun t1 s1 v1 L1 H1 x1 R1 E1 d1 p1 => ?_
  refine lL_bndL R1 E1 p1 fun t2 s2 v2 L2 H2 x2 R2 E2 d2 p2 => ?_
  exact p2 _ L2 H2 Ex.refl R2 (.cons (d1.mono x2) d2)
theorem r_tup {k : Nat} (h : FL X W es fl) : FE X W (.Tuple es k pos) (eTup fl) := by
  refine PEw (pe_tup h) fun σ H Q ⟨L, r, s, hR, hE, hp⟩ => ?_
  refine lL_bnd hR hE hp fun ts s1 vs L1 H1 x1 R1 E1 d1 p1 => ?_
  split at p1
  · rename_i hz
    refine ⟨by rw [d1.length]; exact hz, fun p hn => p1 (.ref p) L1 _ (Ex.laid hn) (R1.laid hn) (.tup (.inl upd_same) (d1.mono (Ex.laid hn)))⟩
  · exact p1.elim
theorem r_lst (h : FL X W es fl) : FE X W (.List es pos) (eLst fl) := by
  refine PEw (pe_lst h) fun σ H Q ⟨L, r, s, hR, hE, hp⟩ => ?_
  refine lL_bnd hR hE hp fun ts s1 vs L1 H1 x1 R1 E1 d1 p1 => ?_
  split at p1
  · rename_i hz
    refine ⟨by rw [d1.length]; exact hz, fun p hn => p1 (.ref p) _ _ (Ex.add hn) (R1.add hn ⟨vs, upd_same, d1.mono (Ex.laid hn)⟩) (R1.addD)⟩
  · exact p1.elim
/-- a built-in's call -/
theorem r_callB {id : String} {g : List T → Sto → OV} {x : Str} {p : Pos} {e : Expr} (B : Bx X N sc) (hc : CallF X (.builtin id) g) (hg : sc.names.lookup x = some .globalImplicit) (hm : X.mg x = none) (hv : bootBuiltins x = some (.builtin id)) (ha : FL X W (e :: es) fl) (hn : x ≠ "__name__" := by decide) (hdb : (x == ("__debug__" : Str)) = false := by decide)
    (he : starEach (e :: es) X.env = (false, eval e X.env) :: starEach es X.env := by rfl) (hpl : (backTo pos (starEach es X.env)).any (·.1) = false := by rfl) : FE X W (.Call (.Name x p) (e :: es) [] pos) (eB g fl) := by
  refine PEw (pe_callB hc (B.gl hg) hm hv ha hn hdb he hpl) fun σ H Q ⟨L, r, s, hR, hE, hp⟩ => ?_
  refine lL_bnd hR hE hp fun ts s1 vs L1 H1 x1 R1 E1 d1 p1 => ?_
  exact ⟨L1, s1, ts, R1, d1, PostV.of p1⟩
theorem r_callT {id : String} {g : List T → Sto → OV} {x : Str} {p : Pos} {e : Expr} (B : Bx X N sc) (hc : CallF X (.type id) g) (hg : sc.names.lookup x = some .globalImplicit) (hm : X.mg x = none) (hv : bootBuiltins x = some (.type id)) (ha : FL X W (e :: es) fl) (hn : x ≠ "__name__" := by decide) (hdb : (x == ("__debug__" : Str)) = false := by decide)
    (he : starEach (e :: es) X.env = (false, eval e X.env) :: starEach es X.env := by rfl) (hpl : (backTo pos (starEach es X.env)).any (·.1) = false := by rfl) : FE X W (.Call (.Name x p) (e :: es) [] pos) (eB g fl) := by
  refine PEw (pe_callTy hc (B.gl hg) hm hv ha hn hdb he hpl) fun σ H Q ⟨L, r, s, hR, hE, hp⟩ => ?_
  refine lL_bnd hR hE hp fun ts s1 vs L1 H1 x1 R1 E1 d1 p1 => ?_
  exact ⟨L1, s1, ts, R1, d1, PostV.of p1⟩
end
end Fx

set_option maxRecDepth 100000
set_option maxHeartbeats 2000000
/-! Fx: statements, targets, loops, comprehensions. -/
namespace Fx
open PySem L2 PyProof.Rows

def Fl.isTg : Fl → Bool
  | .nx _ _ => true | .ex _ _ _ => true | .bad => true | _ => false

section
variable {K : PySem.W.Frag} {mg : Str → Option Value} {L L' : List Addr} {H H' : Hp} {s : Sto} {p : Addr}
/-- an object that stands already gets a place -/
theorem Rl.adopt (q : Rl K mg L s H) {o : O} (np : p ∉ L) (d : OD K mg L H p o) : Rl K mg (L ++ [p]) (s.add o) H := by
  have pre : ∀ (n : Nat) (a : Addr), L[n]? = some a → (L ++ [p])[n]? = some a := fun n a h => by
    rw [List.getElem?_append_left (List.getElem?_eq_some_iff.mp h).1]; exact h
  have mo : ∀ {a o}, OD K mg L H a o → OD K mg (L ++ [p]) H a o := fun {a o} d => by
    have mD : ∀ {vs ts}, Ds K mg L H vs ts → Ds K mg (L ++ [p]) H vs ts := fun {vs ts} r => r.mono' pre (fun _ _ h => h) (fun _ _ _ h => h)
    cases o with
    | lst ts => obtain ⟨vs, e1, q⟩ := d; exact ⟨vs, e1, mD q⟩
    | dct kvs => obtain ⟨vs, e1, q1, q2⟩ := d; exact ⟨vs, e1, q1, mD q2⟩
    | ins C fs => obtain ⟨Ca, dx, fs', e1, e2, q1, q2⟩ := d; exact ⟨Ca, dx, fs', e1, e2, q1, mD q2⟩
  refine ⟨by simp [Sto.add, q.len], List.nodup_append.mpr ⟨q.nd, by simp, fun a h b hb => by obtain rfl := List.mem_singleton.mp hb; rintro rfl; exact np h⟩, by simp only [Sto.add, List.length_append]; have := q.kp; omega, fun i o' e => ?_, fun i o' e => ?_⟩
  · simp only [Sto.add] at e
    by_cases hi : i < s.os.length
    · rw [List.getElem?_append_left hi] at e
      obtain ⟨a, h1, h2⟩ := q.obj i o' e
      exact ⟨a, pre _ _ h1, mo h2⟩
    · have hi2 : i = s.os.length := by
        have := (List.getElem?_eq_some_iff.mp e).1
        simp at this; omega
      subst hi2
      simp at e
      subst e
      exact ⟨p, by rw [← q.len]; simp, mo d⟩
  · simp only [Sto.add] at e ⊢
    by_cases hi : i < s.os.length
    · rw [List.getElem?_append_left hi] at e
      exact q.ref i o' e
    · have hi2 : i = s.os.length := by
        have := (List.getElem?_eq_some_iff.mp e).1
        simp at this; omega
      subst hi2
      simp at e
      subst e
      have := d.hi_le
      rw [q.len] at this
      omega
theorem Ex.adopt (e : Ex L H L' H') (hp : H p = none) : Ex L H (L' ++ [p]) H' :=
  ⟨e.pre.trans ⟨[p], rfl⟩, e.frm, e.tup, e.frz, fun a m => by
    rcases List.mem_append.mp m with m | m
    · exact e.new a m
    · obtain rfl := List.mem_singleton.mp m
      exact .inr hp⟩
end

section
variable {X : Cx} {W : WS} {N : List Str} {sc : Scope} {pos : Pos} {a b c e tg : Expr} {fa fb fc : Ev} {ba bb : Bv} {es : List Expr} {fl : Lv} {st : Stmt} {rest sa sb : List Stmt} {ga gb : Sv} {g : Gv}
theorem lE_bndS {f : Ev} {k : T → Sto → Fl} {σ : L2.St} {H : Hp} {Z : Ends} {L : List Addr} {r : Env} {s : Sto} {R : VK} (hR : Rl X.K X.mg L s H) (hE : Er X.K X.mg W L H σ r) (hp : PostS X.K X.mg W L H Z ((f r s).bndS r k))
    (go : ∀ t s' v L' H', Ex L H L' H' → Rl X.K X.mg L' s' H' → Er X.K X.mg W L' H' σ r → D X.K X.mg L' H' v t → PostS X.K X.mg W L' H' Z (k t s') → R v H') : lE X.K X.mg W f σ H R := by
  refine ⟨L, r, s, hR, hE, ?_⟩
  cases e : f r s with
  | ok t s' =>
    rw [e] at hp
    exact fun v L' H' x hR' hd => go t s' v L' H' x hR' (hE.mono x) hd (PostS.ex hp x)
  | exc x s' =>
    rw [e] at hp
    exact fun c d L' H' x1 x2 x3 => hp c d σ L' H' x1 x2 (hE.mono x1) x3
  | bad => rw [e] at hp; exact hp
theorem lB_bndS {f : Bv} {k : Bool → Sto → Fl} {σ : L2.St} {H : Hp} {Z : Ends} {L : List Addr} {r : Env} {s : Sto} {R : Bool → Hp → Prop} (hR : Rl X.K X.mg L s H) (hE : Er X.K X.mg W L H σ r) (hp : PostS X.K X.mg W L H Z ((f r s).bndS r k))
    (go : ∀ t s' L' H', Ex L H L' H' → Rl X.K X.mg L' s' H' → Er X.K X.mg W L' H' σ r → PostS X.K X.mg W L' H' Z (k t s') → R t H') : lB X.K X.mg W f σ H R := by
  refine ⟨L, r, s, hR, hE, ?_⟩
  cases e : f r s with
  | ok t s' =>
    rw [e] at hp
    exact fun L' H' x hR' => go t s' L' H' x hR' (hE.mono x) (PostS.ex hp x)
  | exc x s' =>
    rw [e] at hp
    exact fun c d L' H' x1 x2 x3 => hp c d σ L' H' x1 x2 (hE.mono x1) x3
  | bad => rw [e] at hp; exact hp
theorem s_nil : FSs X W [] sNil := PSsw pss_nil fun Z σ H ⟨L, r, s, hR, hE, hp⟩ => hp σ L H Ex.refl hR hE
theorem s_seq (h1 : FS X W st ga) (h2 : FSs X W rest gb) : FSs X W (st :: rest) (sSeq ga gb) := by
  refine PSsw (pss_cons h1 h2) fun Z σ H ⟨L, r, s, hR, hE, hp⟩ => ⟨L, r, s, hR, hE, ?_⟩
  simp only [sSeq] at hp
  cases e : ga r s with
  | nx r1 s1 =>
    rw [e] at hp
    exact fun σ1 L1 H1 x1 R1 E1 => ⟨L1, r1, s1, R1, E1, PostS.ex hp x1⟩
  | rt t s1 => rw [e] at hp; exact hp
  | bk r1 s1 => rw [e] at hp; exact hp
  | ct r1 s1 => rw [e] at hp; exact hp
  | ex x r1 s1 => rw [e] at hp; exact hp
  | bad => rw [e] at hp; exact hp
theorem s_one (h1 : FS X W st ga) : FSs X W [st] ga := pss_one h1
theorem s_bad : FS X W st (fun _ _ => .bad) := PSw ps_never fun Z σ H ⟨L, r, s, hR, hE, hp⟩ => hp
theorem s_pass : FS X W (.Pass pos) sNil := PSw ps_pass fun Z σ H ⟨L, r, s, hR, hE, hp⟩ => hp σ L H Ex.refl hR hE
theorem s_doc {x : Str} {j : Nat} {pos' : Pos} : FS X W (.Expr (.Constant (.str x) j pos) pos') sNil := PSw ps_doc fun Z σ H ⟨L, r, s, hR, hE, hp⟩ => hp σ L H Ex.refl hR hE
theorem s_brk : FS X W (.Break pos) sBrk := PSw ps_break fun Z σ H ⟨L, r, s, hR, hE, hp⟩ => hp σ L H Ex.refl hR hE
theorem s_cnt : FS X W (.Continue pos) sCnt := PSw ps_continue fun Z σ H ⟨L, r, s, hR, hE, hp⟩ => hp σ L H Ex.refl hR hE
theorem s_ex (ha : FE X W a fa) (hs : swapsWith a none pos.line X.env = pure false := by rfl) : FS X W (.Expr a pos) (sEx fa) := by
  refine PSw (ps_expr ha hs) fun Z σ H ⟨L, r, s, hR, hE, hp⟩ => ?_
  exact lE_bndS hR hE hp fun t1 s1 v1 L1 H1 x1 R1 E1 d1 p1 => p1 σ L1 H1 Ex.refl R1 E1
theorem s_ret (ha : FE X W a fa) : FS X W (.Return (some a) pos) (sRet fa) := by
  refine PSw (ps_ret ha) fun Z σ H ⟨L, r, s, hR, hE, hp⟩ => ?_
  exact lE_bndS hR hE hp fun t1 s1 v1 L1 H1 x1 R1 E1 d1 p1 => p1 v1 L1 H1 Ex.refl R1 d1
theorem s_retN : FS X W (.Return none pos) sRetN := PSw ps_retN fun Z σ H ⟨L, r, s, hR, hE, hp⟩ => hp _ L H Ex.refl hR .non
theorem s_if (hc : FB X W c ba) (h1 : FSs X W sa ga) (h2 : FSs X W sb gb) : FS X W (.If c sa sb pos) (sIf ba ga gb) := by
  refine PSw (ps_if hc h1 h2) fun Z σ H ⟨L, r, s, hR, hE, hp⟩ => ?_
  refine lB_bndS hR hE hp fun k s1 L1 H1 x1 R1 E1 p1 => ?_
  cases k with
  | true => exact ⟨L1, r, s1, R1, E1, p1⟩
  | false => exact ⟨L1, r, s1, R1, E1, p1⟩

/-! ### targets -/
theorem wipe_set {σ : L2.St} {i : Nat} {x : Option V} : ∀ {vs : List Nat}, i ∈ vs → wipe (σ.set i x) vs = wipe σ vs
  | [], h => by simp at h
  | v :: vs, h => by
    unfold wipe
    by_cases hi : i ∈ vs
    · rw [wipe_set hi]
    · have e : i = v := by
        rcases List.mem_cons.mp h with h | h
        · exact h
        · exact absurd h hi
      subst e
      have aux : ∀ (us : List Nat), i ∉ us → (wipe (σ.set i x) us).set i none = (wipe σ us).set i none := by
        intro us
        induction us with
        | nil => intro _; simp [wipe]
        | cons u us ih =>
          intro hu
          simp only [List.mem_cons, not_or] at hu
          unfold wipe
          rw [List.set_comm _ _ (Ne.symm hu.1), ih hu.2, List.set_comm _ _ hu.1]
      exact aux vs hi
variable {ws : List Nat}
theorem g_nm {i : Nat} {x : Str} (B : Bx X N sc) (hi : N[i]? = some x) (hx : sc.names.lookup x = some .local) (hk : i ∉ W.ks) (hw : i ∈ ws) : FG X W ws (.Name x pos) (gNm i) := by
  refine PGw (pg_name (B.nd') (B.at hi) (.inl (B.loc hx)) (.inr (B.loc hx))) fun v σ H Q ⟨L, r, s, t, hR, hE, hd, hp⟩ => ?_
  exact hp _ L H Ex.refl hR (hE.set hd hk) (wipe_set hw)
/-- a name that is captured -/
theorem g_nmC {i : Nat} {x : Str} (B : Bx X N sc) (hi : N[i]? = some x) (hx : sc.names.lookup x = some .cell) (hf : X.fn x = true) (hk : i ∉ W.ks) (hw : i ∈ ws) : FG X W ws (.Name x pos) (gNm i) := by
  refine PGw (pg_name (B.nd') (B.at hi) (.inr (by rw [B.hs]; exact hx)) (.inl hf)) fun v σ H Q ⟨L, r, s, t, hR, hE, hd, hp⟩ => ?_
  exact hp _ L H Ex.refl hR (hE.set hd hk) (wipe_set hw)
theorem gs_nil : FGs X W ws [] gsNil := by
  refine PGsw pgs_nil fun v σ H Q ⟨L, r, s, ts, hR, hE, hd, hp⟩ => ?_
  cases hd with
  | nil => exact ⟨rfl, hp σ L H Ex.refl hR hE rfl⟩
  | cons h q => exact hp.elim
theorem gs_cons {gs : List T → Env → Sto → Fl} (h1 : FG X W ws e g) (h2 : FGs X W ws es gs) (hs : (assignEach (e :: es) X.env).map (·.2) = assign e X.env :: (assignEach es X.env).map (·.2) := by rfl) : FGs X W ws (e :: es) (gsCons g gs) := by
  refine PGsw (pgs_cons h1 h2 hs) fun vs σ H Q ⟨L, r, s, ts, hR, hE, hd, hp⟩ => ?_
  cases hd with
  | nil => exact hp.elim
  | cons h q =>
    rename_i vs' ts v' t'
    refine ⟨_, _, rfl, L, r, s, _, hR, hE, h, ?_⟩
    simp only [gsCons] at hp
    revert hp
    generalize g _ r s = o
    intro hp
    cases o with
    | nx r1 s1 => exact fun σ1 L1 H1 x1 R1 E1 w1 => ⟨L1, r1, s1, _, R1, E1, q.mono x1, by rw [w1]; exact PostG.ex hp x1⟩
    | ex x r1 s1 => exact hp
    | rt t s1 => exact hp
    | bk r1 s1 => exact hp
    | ct r1 s1 => exact hp
    | bad => exact hp
/-- (a, b, ..) = a tuple or a list of that length -/
def gTup2 (K : PySem.W.Frag) (n : Nat) (t : TGs) : TG := fun v σ H Q => ∃ a xs, v = .ref a ∧ (SqT K H a xs ∨ SqL K H a xs) ∧ xs.length = n ∧ t xs σ H Q
theorem pg_tup2 {es : List Expr} {k : Nat} {t : TGs} {n : Nat} (hc : X.calm = true) (h : PGs X es t)
    (hn : (assignEach es X.env).length = n := by rfl) (hst : (assignEach es X.env).findIdx? (·.1) = none := by rfl) : PG X (.Tuple es k pos) (gTup2 X.K n t) := by
  refine ⟨fun pins s σ H v u Q I r hw => ?_⟩
  obtain ⟨a, xs, e1, hq, hl, hw⟩ := hw
  subst e1
  cases r
  rcases hq with hq | hq
  · obtain ⟨its, rv, ht, hz⟩ := I.tuple hq
    refine assign_Tuple_tuple (I.ok.hd hc) ht (by simp [hn, ← hl, rv.length]) hst fun h' hx => ?_
    have I1 : Inv X pins σ H { s with heap := h' } := I.kept (t' := s.toks) fun b o e => hx b o (Nat.ne_of_lt (Heap.lt_size e)) e
    exact h.run pins _ σ H xs _ Q I1 (by simpa using rv) hw
  · obtain ⟨its, rv, pl, hz⟩ := I.list hq
    rw [PyProof.Rows.assign_Tuple]
    refine wpAny_bind (wpAny_standAt ?_)
    unfold unpack
    rw [hst, hn]
    have en : n = its.toArray.size := by simp [← hl, rv.length]
    rw [en]
    refine wpAny_bind (wpAny_holding (PySem.W.kun_itemsOf (I.ok.hd hc) pl.isList fun h' hx => ?_))
    have I1 : Inv X pins σ H { s with heap := h' } := I.kept (t' := s.toks) fun b o e => hx b o (Nat.ne_of_lt (Heap.lt_size e)) e
    exact h.run pins _ σ H xs _ Q I1 (by simpa using rv) hw
theorem g_tup {k n : Nat} {gs : List T → Env → Sto → Fl} (B : Bx X N sc) (cm : Cm X W) (h : FGs X W ws es gs) (hn : (assignEach es X.env).length = n := by rfl) (hst : (assignEach es X.env).findIdx? (·.1) = none := by rfl) : FG X W ws (.Tuple es k pos) (gTp n gs) := by
  refine PGw (pg_tup2 cm.calm h hn hst) fun v σ H Q ⟨L, r, s, t, hR, hE, hd, hp⟩ => ?_
  cases hd with
  | tup q q2 =>
    simp only [gTp] at hp
    split at hp
    · rename_i hl
      exact ⟨_, _, rfl, .inl q.sq, by rw [q2.length]; exact hl, L, r, s, _, hR, hE, q2, hp⟩
    · exact hp.elim
  | loc e =>
    simp only [gTp] at hp
    split at hp
    · next ts e0 =>
      split at hp
      · rename_i hl
        obtain ⟨b, h1, vs, h2, h3⟩ := hR.get e0
        rw [e] at h1; cases h1
        exact ⟨_, _, rfl, .inr (.inl (.inl h2)), by rw [h3.length]; exact hl, L, r, s, _, hR, hE, h3, hp⟩
      · exact hp.elim
    · exact hp.elim
  | _ => exact hp.elim
theorem PostS.ofG {L : List Addr} {H : Hp} {Z : Ends} {o : Fl} {P : L2.St → Prop} (hp : PostS X.K X.mg W L H Z o) (ho : o.isTg = true) : PostG X.K X.mg W L H P Z.nx o := by
  cases o with
  | nx r s => exact fun σ L' H' h1 h2 h3 _ => hp σ L' H' h1 h2 h3
  | ex x r s => exact hp
  | bad => exact hp
  | _ => cases ho
/-- a target goes on, or raises -/
def GOk (g : Gv) : Prop := ∀ t r s, (g t r s).isTg = true
def GsOk (g : List T → Env → Sto → Fl) : Prop := ∀ t r s, (g t r s).isTg = true
theorem gNm_ok {i : Nat} : GOk (gNm i) := fun _ _ _ => rfl
theorem gsNil_ok : GsOk gsNil := fun t r s => by cases t <;> rfl
theorem gsCons_ok {gs : List T → Env → Sto → Fl} (h2 : GsOk gs) : GsOk (gsCons g gs) := fun t r s => by
  unfold gsCons
  cases t with
  | nil => rfl
  | cons t q =>
    dsimp only
    cases e : g t r s with
    | nx r1 s1 => exact h2 q r1 s1
    | _ => rfl
theorem gTp_ok {n : Nat} {gs : List T → Env → Sto → Fl} (h2 : GsOk gs) : GOk (gTp n gs) := fun t r s => by
  cases t with
  | tup ts =>
    show Fl.isTg (if ts.length = n then gs ts r s else .bad) = true
    split
    · exact h2 _ _ _
    · rfl
  | loc m =>
    unfold gTp
    simp only
    split
    · split
      · exact h2 _ _ _
      · rfl
    · rfl
  | _ => rfl
theorem s_asg (ha : FE X W a fa) (hg : FG X W ws tg g) (ok : GOk g) (hs : swapsWithSole [tg] a pos.line X.env = pure false := by rfl) (hw : swappedStores [tg] a X.env = pure none := by rfl)
    (h1 : (assignEach [tg] X.env).map (·.2) = [assign tg X.env] := by rfl) : FS X W (.Assign [tg] a pos) (sAsg fa g) := by
  refine PSw (ps_asg ha hg hs hw h1) fun Z σ H ⟨L, r, s, hR, hE, hp⟩ => ?_
  exact lE_bndS hR hE hp fun t1 s1 v1 L1 H1 x1 R1 E1 d1 p1 => ⟨L1, r, s1, t1, R1, E1, d1, PostS.ofG p1 (ok _ _ _)⟩
theorem s_set {i : Nat} {x : Str} {pos' : Pos} (B : Bx X N sc) (hi : N[i]? = some x) (hx : sc.names.lookup x = some .local) (hk : i ∉ W.ks) (ha : FE X W a fa) (hs : swapsWith a (some (.Name x pos')) pos.line X.env = pure false := by rfl) : FS X W (.Assign [.Name x pos'] a pos) (sAsg fa (gNm i)) := by
  refine PSw (ps_set (B.nd') (B.at hi) (.inl (B.loc hx)) ha hs (.inr (B.loc hx))) fun Z σ H ⟨L, r, s, hR, hE, hp⟩ => ?_
  exact lE_bndS hR hE hp fun t1 s1 v1 L1 H1 x1 R1 E1 d1 p1 => p1 _ L1 H1 Ex.refl R1 (E1.set d1 hk)
theorem s_setC {i : Nat} {x : Str} {pos' : Pos} (B : Bx X N sc) (hi : N[i]? = some x) (hx : sc.names.lookup x = some .cell) (hf : X.fn x = true) (hk : i ∉ W.ks) (ha : FE X W a fa) (hs : swapsWith a (some (.Name x pos')) pos.line X.env = pure false := by rfl) : FS X W (.Assign [.Name x pos'] a pos) (sAsg fa (gNm i)) := by
  refine PSw (ps_set (B.nd') (B.at hi) (.inr (by rw [B.hs]; exact hx)) ha hs (.inl hf)) fun Z σ H ⟨L, r, s, hR, hE, hp⟩ => ?_
  exact lE_bndS hR hE hp fun t1 s1 v1 L1 H1 x1 R1 E1 d1 p1 => p1 _ L1 H1 Ex.refl R1 (E1.set d1 hk)
theorem s_par {i j : Nat} {x y : Str} {px py pt : Pos} {kt k2 : Nat} {pt2 : Pos} (B : Bx X N sc) (cm : Cm X W) (hi : N[i]? = some x) (hj : N[j]? = some y) (hij : i ≠ j) (hx : sc.names.lookup x = some .local) (hy : sc.names.lookup y = some .local) (ha : FL X W [a, b] fl)
    (hw : swappedStores [.Tuple [.Name x px, .Name y py] kt pt] (.Tuple [a, b] k2 pt2) X.env = pure (some [x, y])) (hs : swapsWithSole [.Tuple [.Name x px, .Name y py] kt pt] (.Tuple [a, b] k2 pt2) pos.line X.env = pure false := by rfl) :
    FS X W (.Assign [.Tuple [.Name x px, .Name y py] kt pt] (.Tuple [a, b] k2 pt2) pos) (sPar i j fl) := by
  refine PSw (ps_par cm.calm (B.nd') (B.at hi) (B.at hj) hij (B.loc hx) (B.loc hy) ha hw hs) fun Z σ H ⟨L, r, s, hR, hE, hp⟩ => ⟨L, r, s, hR, hE, ?_⟩
  simp only [sPar] at hp
  cases e : fl r s with
  | ok ts s1 =>
    rw [e] at hp
    match ts, hp with
    | [t, u], hp =>
      intro vs L1 H1 x1 R1 d1
      cases d1 with
      | cons h1 q1 =>
        cases q1 with
        | cons h2 q2 =>
          cases q2
          exact ⟨_, _, rfl, hp _ L1 H1 x1 R1 (((hE.mono x1).set h1 (cm.ki _)).set h2 (cm.ki _))⟩
    | [], hp => exact hp.elim
    | [_], hp => exact hp.elim
    | _ :: _ :: _ :: _, hp => exact hp.elim
  | exc x s1 => rw [e] at hp; exact fun c d L' H' y1 y2 y3 => hp c d σ L' H' y1 y2 (hE.mono y1) y3
  | bad => rw [e] at hp; exact hp
/-- name op= e -/
theorem s_aug {i : Nat} {x : Str} {pos' : Pos} {op : Operator} {f : T → T → Sto → OV} (B : Bx X N sc) (hi : N[i]? = some x) (hx : sc.names.lookup x = some .local) (hk : i ∉ W.ks) (ho : PIp X op (rO X.K X.mg f)) (ha : FE X W a fa) : FS X W (.AugAssign (.Name x pos') op a pos) (sAug i f fa) := by
  refine PSw (ps_aug (B.nd') (B.at hi) (.inl (B.loc hx)) ha ho (.inr (B.loc hx))) fun Z σ H ⟨L, r, s, hR, hE, hp⟩ => ?_
  simp only [sAug] at hp
  split at hp
  · rename_i t ht
    obtain ⟨v, h1, h2⟩ := hE.val _ _ ht
    refine ⟨v, h1, lE_bndS hR hE hp fun t1 s1 v1 L1 H1 x1 R1 E1 d1 p1 => ⟨L1, s1, t, t1, R1, h2.mono x1, d1, ?_⟩⟩
    match e2 : f t t1 s1 with
    | none => rw [e2] at p1; exact p1
    | some (z, s2) =>
      rw [e2] at p1
      exact fun w L2 H2 x2 R2 d2 => p1 _ L2 H2 x2 R2 ((E1.mono x2).set d2 hk)
  · exact hp.elim

/-! ### what is walked -/
def WalkF (K : PySem.W.Frag) (mg : Str → Option Value) (L : List Addr) (H : Hp) (J : It) (ts : List T) (chk : Sto → Bool) : Prop :=
  ∀ L1 s1 H1, Ew L H L1 H1 → Rl K mg L1 s1 H1 → chk s1 = true → J.stop ts.length H1 ∧
    ∀ (i : Nat) t, ts[i]? = some t → J.go i H1 ∧ ∀ x H2, J.yld i H1 x H2 → Ex L1 H1 L1 H2 ∧ Rl K mg L1 s1 H2 ∧ D K mg L1 H2 x t
def PostI (K : PySem.W.Frag) (mg : Str → Option Value) (W : WS) (L : List Addr) (H : Hp) (σ : L2.St) (R : It → Hp → Prop) : OutI → Prop
  | .ok ts chk s => ∀ J L' H', Ex L H L' H' → Rl K mg L' s H' → WalkF K mg L' H' J ts chk → R J H'
  | .exc x s => ∀ cls d L' H', Ex L H L' H' → Rl K mg L' s H' → XD K mg L' H' cls d x → W.w cls d σ H'
  | .bad => False
def lI (K : PySem.W.Frag) (mg : Str → Option Value) (W : WS) (f : Iv) : TI := fun σ H R => ∃ L r s, Rl K mg L s H ∧ Er K mg W L H σ r ∧ PostI K mg W L H σ R (f r s)
abbrev FI (X : Cx) (W : WS) (tg e : Expr) (f : Iv) : Prop := PI X tg e (lI X.K X.mg W f)
theorem PIw {tg : Expr} {t t' : TI} (h : PI X tg e t) (w : ∀ σ H R, t' σ H R → t σ H R) : PI X tg e t' := ⟨fun p s σ H R I q => h.run p s σ H R I (w σ H R q)⟩
theorem WalkF.mono {L L' : List Addr} {H H' : Hp} {J : It} {ts : List T} {chk : Sto → Bool} (w : WalkF X.K X.mg L H J ts chk) (x : Ex L H L' H') : WalkF X.K X.mg L' H' J ts chk := fun L1 s1 H1 x1 => w L1 s1 H1 (x.w.trans x1)
variable {it : Iv}
theorem s_for (hp : PassesOwn (model X.prog X.w) X.A X.env X.xe) (B : Bx X N sc) (cm : Cm X W) (hi : FI X W tg e it) (hg : FG X W ws tg g) (hb : FSs X W sb gb) (hs : ∀ x, foldedSetIterable e X.env x = pure x := by intro _; rfl) : FS X W (.For tg e sb [] pos) (sFor it g gb) := by
  refine PSw (ps_for hp cm.calm hi hg hb hs) fun Z σ H ⟨L, r, s, hR, hE, hp⟩ => ⟨L, r, s, hR, hE, ?_⟩
  simp only [sFor] at hp
  cases e : it r s with
  | exc x s1 => rw [e] at hp; exact fun c d L' H' y1 y2 y3 => hp c d σ L' H' y1 y2 (hE.mono y1) y3
  | bad => rw [e] at hp; exact hp
  | ok ts chk s1 =>
    rw [e] at hp
    intro J L0 H0 x0 R0 wk
    refine ⟨fun i m σ' H' => ∃ L1 r1 s1, m = ts.length - i ∧ i ≤ ts.length ∧ Ex L0 H0 L1 H' ∧ Rl X.K X.mg L1 s1 H' ∧ Er X.K X.mg W L1 H' σ' r1 ∧ PostS X.K X.mg W L1 H' Z (forL chk g gb (ts.drop i) r1 s1),
      ⟨ts.length, L0, r, s1, by omega, by omega, Ex.refl, R0, hE.mono x0, PostS.ex hp x0⟩, ?_⟩
    rintro i m σ' H' ⟨L1, r1, s2, rfl, hi, x1, R1, E1, p1⟩
    by_cases hlt : i < ts.length
    · have ed : ts.drop i = ts[i] :: ts.drop (i + 1) := by rw [List.drop_eq_getElem_cons hlt]
      rw [ed] at p1
      simp only [forL] at p1
      by_cases hk : chk s2 = true
      · rw [if_pos hk] at p1
        obtain ⟨_, w2⟩ := wk L1 s2 H' x1.w R1 hk
        obtain ⟨w3, w4⟩ := w2 i ts[i] (by simp [hlt])
        refine .inr ⟨w3, _, fun σ4 H4 h4 => ⟨ts.length - (i + 1), by omega, h4⟩, fun x H2 y => ?_⟩
        obtain ⟨x2, R2, d2⟩ := w4 x H2 y
        have E2 := E1.mono x2
        refine ⟨L1, r1, s2, ts[i], R2, E2, d2, ?_⟩
        have p2 := PostS.ex p1 x2
        cases e3 : g ts[i] r1 s2 with
        | nx r3 s3 =>
          rw [e3] at p2
          refine fun σ3 L3 H3 x3 R3 E3 _ => ⟨L3, r3, s3, R3, E3, ?_⟩
          have p3 := PostS.ex p2 x3
          cases e4 : gb r3 s3 with
          | nx r4 s4 =>
            simp only [e4] at p3
            exact fun σ4 L4 H4 x4 R4 E4 => ⟨L4, r4, s4, rfl, by omega, ((x1.trans x2).trans x3).trans x4, R4, E4, PostS.ex p3 x4⟩
          | ct r4 s4 =>
            simp only [e4] at p3
            exact fun σ4 L4 H4 x4 R4 E4 => ⟨L4, r4, s4, rfl, by omega, ((x1.trans x2).trans x3).trans x4, R4, E4, PostS.ex p3 x4⟩
          | bk r4 s4 => simp only [e4] at p3; exact p3
          | rt t s4 => simp only [e4] at p3; exact p3
          | ex x r4 s4 => simp only [e4] at p3; exact p3
          | bad => simp only [e4] at p3; exact p3
        | ex x r3 s3 => rw [e3] at p2; exact p2
        | rt t s3 => rw [e3] at p2; exact p2
        | bk r3 s3 => rw [e3] at p2; exact p2
        | ct r3 s3 => rw [e3] at p2; exact p2
        | bad => rw [e3] at p2; exact p2
      · rw [if_neg hk] at p1; exact p1.elim
    · have ei : i = ts.length := by omega
      subst ei
      rw [List.drop_length] at p1
      simp only [forL] at p1
      by_cases hk : chk s2 = true
      · rw [if_pos hk] at p1
        obtain ⟨w1, _⟩ := wk L1 s2 H' x1.w R1 hk
        exact .inl ⟨w1, p1 σ' L1 H' Ex.refl R1 E1⟩
      · rw [if_neg hk] at p1; exact p1.elim
theorem s_while (hp : PassesOwn (model X.prog X.w) X.A X.env X.xe) (hc : FB X W c ba) (hb : FSs X W sb gb) : FS X W (.While c sb [] pos) (sWhile ba gb) := by
  refine PSw (ps_while hp hc hb) fun Z σ H ⟨L, r, s, hR, hE, hp⟩ => ?_
  refine ⟨fun m σ' H' => ∃ L1 r1 s1, Rl X.K X.mg L1 s1 H' ∧ Er X.K X.mg W L1 H' σ' r1 ∧ PostS X.K X.mg W L1 H' Z (whileN ba gb m r1 s1), ⟨wTurns, L, r, s, hR, hE, hp⟩, ?_⟩
  rintro m σ' H' ⟨L1, r1, s1, R1, E1, p1⟩
  cases m with
  | zero => exact p1.elim
  | succ m =>
    refine lB_bndS R1 E1 p1 fun k s2 L2 H2 x2 R2 E2 p2 => ?_
    cases k with
    | false => exact p2 σ' L2 H2 Ex.refl R2 E2
    | true =>
      simp only [if_true] at p2 ⊢
      refine ⟨_, fun σ4 H4 h4 => ⟨m, by omega, h4⟩, L2, r1, s2, R2, E2, ?_⟩
      cases e4 : gb r1 s2 with
      | nx r4 s4 =>
        simp only [e4] at p2
        exact fun σ4 L4 H4 x4 R4 E4 => ⟨L4, r4, s4, R4, E4, PostS.ex p2 x4⟩
      | ct r4 s4 =>
        simp only [e4] at p2
        exact fun σ4 L4 H4 x4 R4 E4 => ⟨L4, r4, s4, R4, E4, PostS.ex p2 x4⟩
      | bk r4 s4 => simp only [e4] at p2; exact p2
      | rt t s4 => simp only [e4] at p2; exact p2
      | ex x r4 s4 => simp only [e4] at p2; exact p2
      | bad => simp only [e4] at p2; exact p2
end
end Fx

set_option maxRecDepth 100000
set_option maxHeartbeats 2000000
/-! Fx: comprehensions; lists that only a built-in sees. -/
namespace Fx
open PySem L2 PyProof.Rows

section
variable {K : PySem.W.Frag} {mg : Str → Option Value} {L L' : List Addr} {H H' : Hp} {s : Sto} {p : Addr}
theorem Ex.none_of (e : Ex L H L' H') (q : Rl K mg L' s H') (h : H' p = none) : H p = none := by
  cases c : H p with
  | none => rfl
  | some o =>
    by_cases m : p ∈ L
    · obtain ⟨r, rfl⟩ := e.pre
      exact absurd (List.mem_append_left r m) (q.notIn h)
    · rw [e.frm p o c m] at h; cases h
/-- a list that is no place is changed -/
theorem Rl.aside (q : Rl K mg L s H) {xs : List V} {ho : HO} (np : p ∉ L) (hl : H p = some (.lst xs)) : Rl K mg L s (upd H p ho) := by
  have mD : ∀ {vs ts}, Ds K mg L H vs ts → Ds K mg L (upd H p ho) vs ts := fun {vs ts} r => r.mono' (fun _ _ h => h)
    (fun a vs h => by rw [upd_ne (fun e => by rw [e, hl] at h; cases h)]; exact h) (fun a o u h => by rw [upd_ne (fun e => by rw [e, hl] at h; cases h)]; exact h)
  refine ⟨q.len, q.nd, q.kp, fun i o e => ?_, q.ref⟩
  obtain ⟨a, h1, h2⟩ := q.obj i o e
  have ne : a ≠ p := fun e => np (e ▸ List.mem_of_getElem? h1)
  refine ⟨a, h1, ?_⟩
  cases o with
  | lst ts => obtain ⟨vs, e1, q⟩ := h2; exact ⟨vs, (upd_ne ne).trans e1, mD q⟩
  | dct kvs => obtain ⟨vs, e1, q1, q2⟩ := h2; exact ⟨vs, (upd_ne ne).trans e1, q1, mD q2⟩
  | ins C fs => obtain ⟨Ca, dx, fs', e1, e2, q1, q2⟩ := h2; exact ⟨Ca, dx, fs', (upd_ne ne).trans e1, e2, q1, mD q2⟩
theorem Ds.aside {xs vs : List V} {ts : List T} {ho : HO} (r : Ds K mg L H vs ts) (hl : H p = some (.lst xs)) : Ds K mg L (upd H p ho) vs ts :=
  r.mono' (fun _ _ h => h) (fun a vs h => by rw [upd_ne (fun e => by rw [e, hl] at h; cases h)]; exact h) (fun a o u h => by rw [upd_ne (fun e => by rw [e, hl] at h; cases h)]; exact h)
theorem Ex.aside {ho : HO} (e : Ex L H L' H') (h0 : H p = none) : Ex L H L' (upd H' p ho) :=
  ⟨e.pre, fun a o h n => by rw [upd_ne (ne_of_none h h0)]; exact e.frm a o h n, fun a vs h => by rw [upd_ne (ne_of_none h h0)]; exact e.tup a vs h, fun a o u h => by rw [upd_ne (ne_of_none h h0)]; exact e.frz a o u h, e.new⟩
end

theorem wipe_wipe {σ : L2.St} {vs : List Nat} : wipe (wipe σ vs) vs = wipe σ vs := by
  have aux : ∀ us : List Nat, (∀ u ∈ us, u ∈ vs) → wipe (wipe σ us) vs = wipe σ vs := by
    intro us
    induction us with
    | nil => intro _; rfl
    | cons u us ih =>
      intro hu
      show wipe ((wipe σ us).set u none) vs = _
      rw [wipe_set (hu u List.mem_cons_self), ih fun x hx => hu x (List.mem_cons_of_mem _ hx)]
  exact aux vs fun _ h => h
/-- a new list at D, of the items -/
def PostC (K : PySem.W.Frag) (mg : Str → Option Value) (W : WS) (L : List Addr) (H : Hp) (σ : L2.St) (R : VK) : OutL → Prop
  | .ok ts s => ∀ p L' H' vs, Ex L H L' H' → Rl K mg L' s H' → H' p = some (.lst vs) → p ∉ L' → H p = none → vs.length ≤ sizeLine → Ds K mg L' H' vs ts → R (.ref p) H'
  | .exc x s => ∀ cls d L' H', Ex L H L' H' → Rl K mg L' s H' → XD K mg L' H' cls d x → W.w cls d σ H'
  | .bad => False
/-- an expression that makes a list -/
def FC (X : Cx) (W : WS) (e : Expr) (l : Lv) : Prop := ∃ t, PE X e t ∧ ∀ σ H R L r s, Rl X.K X.mg L s H → Er X.K X.mg W L H σ r → PostC X.K X.mg W L H σ R (l r s) → t σ H R
theorem PostC.ex {K : PySem.W.Frag} {mg : Str → Option Value} {W : WS} {L L' : List Addr} {H H' : Hp} {σ : L2.St} {R : VK} {o : OutL} {s : Sto} (p : PostC K mg W L H σ R o) (e : Ex L H L' H') (q : Rl K mg L' s H') : PostC K mg W L' H' σ R o := by
  cases o with
  | ok ts s => exact fun a L2 H2 vs e2 h1 h2 h3 h4 => p a L2 H2 vs (e.trans e2) h1 h2 h3 (e.none_of q h4)
  | exc x s => exact fun c d L2 H2 e2 => p c d L2 H2 (e.trans e2)
  | bad => exact p
section
variable {X : Cx} {W : WS} {N : List Str} {sc : Scope} {pos : Pos} {e tg iter elt : Expr} {fa : Ev} {ba : Bv} {es ifs : List Expr} {fl : Lv} {g : Gv} {it : Iv} {scope : Scope} {own : List (Str × Nat)}
theorem ts_nil : PTs X [] (lB X.K X.mg W bYes) := ⟨fun p s σ H Q I ⟨L, r, s', hR, hE, hp⟩ => (pts_nil (X := X)).run p s σ H Q I (hp L H Ex.refl hR)⟩
theorem ts_one {c : Expr} (h : FB X W c ba) : PTs X [c] (lB X.K X.mg W ba) := pts_one h
/-- the items made, one after the other -/
theorem lc_of {it : Iv} {g : Gv} {ba : Bv} {fa : Ev} {vs : List Nat} {σ : L2.St} {H : Hp} {R : VK} {L : List Addr} {r : Env} {s : Sto} (hkz : W.ks = []) (hR : Rl X.K X.mg L s H) (hE : Er X.K X.mg W L H σ r) (hp : PostC X.K X.mg W L H σ R (lComp it g ba fa vs r s)) :
    tLc (lI X.K X.mg W it) (lG X.K X.mg W.z vs g) (lB X.K X.mg W.z ba) (lE X.K X.mg W.z fa) vs σ H R := by
  refine ⟨L, r, s, hR, hE, ?_⟩
  simp only [lComp] at hp
  cases e : it r s with
  | exc x s1 => rw [e] at hp; exact fun c d L' H' y1 y2 y3 => hp c d L' H' y1 y2 y3
  | bad => rw [e] at hp; exact hp
  | ok ts chk s1 =>
    rw [e] at hp
    intro J L0 H0 x0 R0 wk D hD
    have hDH := x0.none_of R0 hD
    refine ⟨fun i m H' => ∃ L1 s1 acc accV, m = ts.length - i ∧ i ≤ ts.length ∧ Ex L0 H0 L1 H' ∧ Rl X.K X.mg L1 s1 H' ∧ H' D = some (.lst accV) ∧ D ∉ L1 ∧ Ds X.K X.mg L1 H' accV acc ∧ accV.length ≤ sizeLine ∧
        PostC X.K X.mg W L H σ R (compL chk g ba fa (wip r vs) (ts.drop i) acc s1),
      ⟨ts.length, L0, s1, [], [], by omega, by omega, Ex.aside Ex.refl hD, R0.laid hD, upd_same, R0.notIn hD, .nil, Nat.zero_le _, hp⟩, ?_⟩
    rintro i m H' ⟨L1, s2, acc, accV, rfl, hi, x1, R1, hd1, hn1, da1, hz1, p1⟩
    by_cases hlt : i < ts.length
    · have ed : ts.drop i = ts[i] :: ts.drop (i + 1) := by rw [List.drop_eq_getElem_cons hlt]
      rw [ed] at p1
      simp only [compL] at p1
      by_cases hk : chk s2 = true
      · rw [if_pos hk] at p1
        obtain ⟨_, w2⟩ := wk L1 s2 H' x1.w R1 hk
        obtain ⟨w3, w4⟩ := w2 i ts[i] (by simp [hlt])
        refine .inr ⟨w3, _, fun H4 h4 => ⟨ts.length - (i + 1), by omega, h4⟩, fun x H2 y => ?_⟩
        obtain ⟨x2, R2, d2⟩ := w4 x H2 y
        have y2 := x1.trans x2
        have E2 : Er X.K X.mg W.z L1 H2 (wipe σ vs) (wip r vs) := (((hE.mono x0).mono y2).wip hkz _).z
        refine ⟨L1, _, s2, ts[i], R2, E2, d2, ?_⟩
        cases e3 : g ts[i] (wip r vs) s2 with
        | nx r3 s3 =>
          rw [e3] at p1
          refine fun σ3 L3 H3 x3 R3 E3 w3' => ⟨w3'.trans wipe_wipe, L3, r3, s3, R3, E3, ?_⟩
          cases e4 : ba r3 s3 with
          | ok k s4 =>
            simp only [e4] at p1
            intro L4 H4 x4 R4
            have y4 := (y2.trans x3).trans x4
            have z4 := (x2.trans x3).trans x4
            have hd4 : H4 D = some (.lst accV) := z4.frm D _ hd1 hn1
            have hn4 : D ∉ L4 := fun q => by
              rcases z4.new D q with q | q
              · exact hn1 q
              · rw [hd1] at q; cases q
            have da4 := da1.mono z4
            cases k with
            | false =>
              simp only [Bool.false_eq_true, if_false] at p1 ⊢
              exact ⟨L4, s4, acc, accV, (by first | rfl | trivial), by omega, y4, R4, hd4, hn4, da4, hz1, p1⟩
            | true =>
              simp only [if_true] at p1 ⊢
              refine ⟨L4, r3, s4, R4, E3.mono x4, ?_⟩
              cases e5 : fa r3 s4 with
              | ok t s5 =>
                simp only [e5] at p1
                split at p1
                · rename_i hz
                  intro v L5 H5 x5 R5 d5
                  have hd5 : H5 D = some (.lst accV) := x5.frm D _ hd4 hn4
                  have hn5 : D ∉ L5 := fun q => by
                    rcases x5.new D q with q | q
                    · exact hn4 q
                    · rw [hd4] at q; cases q
                  have da5 := da4.mono x5
                  have hlen : accV.length < sizeLine := by rw [da5.length]; exact hz
                  refine ⟨accV, hd5, hlen, L5, s5, acc ++ [t], accV ++ [v], (by first | rfl | trivial), by omega, Ex.aside (y4.trans x5) hD, R5.aside hn5 hd5, upd_same, hn5, (da5.app (.cons d5 .nil)).aside hd5, by rw [List.length_append]; exact hlen, p1⟩
                · exact p1.elim
              | exc x s5 => simp only [e5] at p1; exact p1.elim
              | bad => simp only [e5] at p1; exact p1.elim
          | exc x s4 => simp only [e4] at p1; exact p1.elim
          | bad => simp only [e4] at p1; exact p1.elim
        | ex x r3 s3 => rw [e3] at p1; exact p1.elim
        | rt t s3 => rw [e3] at p1; exact p1.elim
        | bk r3 s3 => rw [e3] at p1; exact p1.elim
        | ct r3 s3 => rw [e3] at p1; exact p1.elim
        | bad => rw [e3] at p1; exact p1.elim
      · rw [if_neg hk] at p1; exact p1.elim
    · have ei : i = ts.length := by omega
      subst ei
      rw [List.drop_length] at p1
      simp only [compL] at p1
      by_cases hk : chk s2 = true
      · rw [if_pos hk] at p1
        obtain ⟨w1, _⟩ := wk L1 s2 H' x1.w R1 hk
        exact .inl ⟨w1, p1 D L1 H' accV (x0.trans x1) R1 hd1 hn1 hDH hz1 da1⟩
      · rw [if_neg hk] at p1; exact p1.elim
theorem c_comp (B : Bx X N sc) (cm : Cm X W) (hi : FI X W tg iter it) (ok : BlkOk N sc scope own)
    (hg : ∀ (s : Shared) (H : Hp) (C : Addr) (cl : List (Str × Addr)) (fp : List Addr), FG (X.blk s H scope (compEnvC scope cl C X.env) fp) W.z (own.map (·.2)) tg g)
    (ht : ∀ (s : Shared) (H : Hp) (C : Addr) (cl : List (Str × Addr)) (fp : List Addr), PTs (X.blk s H scope (compEnvC scope cl C X.env) fp) ifs (lB X.K X.mg W.z ba))
    (he : ∀ (s : Shared) (H : Hp) (C : Addr) (cl : List (Str × Addr)) (fp : List Addr), FE (X.blk s H scope (compEnvC scope cl C X.env) fp) W.z elt fa)
    (hs : ∀ x, foldedSetIterable iter X.env x = pure x := by intro _; rfl) :
    FC X W (.ListComp elt [⟨tg, iter, ifs, 0⟩] scope pos) (lComp it g ba fa (own.map (·.2))) :=
  ⟨_, pe_lc (g := lG X.K X.mg W.z (own.map (·.2)) g) (te := lE X.K X.mg W.z fa) cm.calm B.nd' hi (by rw [B.hN, B.hs]; exact ok) hg ht he hs, fun σ H R L r s hR hE hp => lc_of cm.kz hR hE hp⟩
/-- a scope alone -/
def envS (sc : Scope) : PySem.Env := { scope := sc, locals := 0, globals := 0, cells := [], func := none, code := .none }
theorem swS {ts : List Expr} {v : Expr} {env env' : PySem.Env} (h : env.scope = env'.scope) : swappedStores ts v env = swappedStores ts v env' := by
  unfold swappedStores Env.blockKind Env.kindOf
  rw [h]
theorem swW {t : Option Expr} {v : Expr} {l : Nat} {env env' : PySem.Env} (h : env.scope = env'.scope) : swapsWith v t l env = swapsWith v t l env' := by
  unfold swapsWith Env.blockKind Env.kindOf
  rw [h]
theorem Bx.swS {ts : List Expr} {v : Expr} {o : Sem (Option (List Str))} (B : Bx X N sc) (h : swappedStores ts v (envS sc) = o) : swappedStores ts v X.env = o := (Fx.swS B.hs).trans h
theorem Bx.swW {t : Option Expr} {v : Expr} {l : Nat} {o : Sem Bool} (B : Bx X N sc) (h : swapsWith v t l (envS sc) = o) : swapsWith v t l X.env = o := (Fx.swW B.hs).trans h
/-- name = [..] on one line, the name a local -/
theorem s_setLc {i : Nat} {y : Str} {py spos : Pos} (B : Bx X N sc) (cm : Cm X W) (hy : N[i]? = some y) (hyl : sc.names.lookup y = some .local) (hi : FI X W tg iter it) (ok : BlkOk N sc scope own)
    (hsw : swapsWith (.ListComp elt [⟨tg, iter, ifs, 0⟩] scope pos) (some (.Name y py)) spos.line (envS sc) = pure true)
    (hg : ∀ (s : Shared) (H : Hp) (C : Addr) (cl : List (Str × Addr)) (fp : List Addr), FG (X.blk s H scope (compEnvC scope cl C X.env) fp) W.z (own.map (·.2)) tg g)
    (ht : ∀ (s : Shared) (H : Hp) (C : Addr) (cl : List (Str × Addr)) (fp : List Addr), PTs (X.blk s H scope (compEnvC scope cl C X.env) fp) ifs (lB X.K X.mg W.z ba))
    (he : ∀ (s : Shared) (H : Hp) (C : Addr) (cl : List (Str × Addr)) (fp : List Addr), FE (X.blk s H scope (compEnvC scope cl C X.env) fp) W.z elt fa)
    (hs : ∀ x, foldedSetIterable iter X.env x = pure x := by intro _; rfl) :
    FS X W (.Assign [.Name y py] (.ListComp elt [⟨tg, iter, ifs, 0⟩] scope pos) spos) (sAsg (eComp (lComp it g ba fa (own.map (·.2)))) (gNm i)) := by
  refine PSw (ps_setLc (g := lG X.K X.mg W.z (own.map (·.2)) g) (te := lE X.K X.mg W.z fa) cm.calm B.nd' (B.at hy) (B.loc hyl) (B.swW hsw) hi (by rw [B.hN, B.hs]; exact ok) hg ht he hs) fun Z σ H ⟨L, r, s, hR, hE, hp⟩ => ?_
  refine lc_of cm.kz hR hE ?_
  simp only [sAsg, eComp] at hp
  cases e : lComp it g ba fa (own.map (·.2)) r s with
  | ok ts s1 =>
    rw [e] at hp
    exact fun p L' H' vs x1 R1 hl np hn hz d1 => hp _ (L' ++ [p]) H' (x1.adopt hn) (R1.adopt np ⟨vs, hl, d1⟩) ((hE.mono (x1.adopt hn)).set R1.addD (cm.ki _))
  | exc x s1 =>
    rw [e] at hp
    exact fun c d L' H' y1 y2 y3 => hp c d σ L' H' y1 y2 (hE.mono y1) y3
  | bad => rw [e] at hp; exact hp
/-- a list display -/
def lChk (l : Lv) : Lv := fun r s => (l r s).bndL fun ts s => if ts.length ≤ sizeLine then .ok ts s else .bad
theorem lL_bndC {f : Lv} {k : List T → Sto → OutL} {σ : L2.St} {H : Hp} {Q : VK} {L : List Addr} {r : Env} {s : Sto} {R : List V → Hp → Prop} (hR : Rl X.K X.mg L s H) (hE : Er X.K X.mg W L H σ r) (hp : PostC X.K X.mg W L H σ Q ((f r s).bndL k))
    (go : ∀ t s' v L' H', Ex L H L' H' → Rl X.K X.mg L' s' H' → Er X.K X.mg W L' H' σ r → Ds X.K X.mg L' H' v t → PostC X.K X.mg W L' H' σ Q (k t s') → R v H') : lL X.K X.mg W f σ H R := by
  refine ⟨L, r, s, hR, hE, ?_⟩
  cases e : f r s with
  | ok t s' =>
    rw [e] at hp
    exact fun v L' H' x hR' hd => go t s' v L' H' x hR' (hE.mono x) hd (PostC.ex hp x hR')
  | exc x s' => rw [e] at hp; exact hp
  | bad => rw [e] at hp; exact hp
theorem c_lst (h : FL X W es fl) : FC X W (.List es pos) (lChk fl) := by
  refine ⟨_, pe_lst h, fun σ H R L r s hR hE hp => ?_⟩
  refine lL_bndC hR hE hp fun ts s1 vs L1 H1 x1 R1 E1 d1 p1 => ?_
  split at p1
  · rename_i hz
    refine ⟨by rw [d1.length]; exact hz, fun p hn => p1 p L1 _ vs (Ex.laid hn) (R1.laid hn) upd_same (R1.notIn hn) hn (by rw [d1.length]; exact hz) (d1.mono (Ex.laid hn))⟩
  · exact p1.elim
/-- a list as an object -/
theorem r_comp (h : FC X W e fl) : FE X W e (eComp fl) := by
  obtain ⟨t, h1, h2⟩ := h
  refine PEw h1 fun σ H Q ⟨L, r, s, hR, hE, hp⟩ => h2 σ H Q L r s hR hE ?_
  simp only [eComp] at hp
  cases c : fl r s with
  | ok ts s1 =>
    rw [c] at hp
    exact fun p L' H' vs x1 R1 hl np hn hz d1 => hp (.ref p) (L' ++ [p]) H' (x1.adopt hn) (R1.adopt np ⟨vs, hl, d1⟩) R1.addD
  | exc x s1 => rw [c] at hp; exact hp
  | bad => rw [c] at hp; exact hp
/-- a built-in over such a list -/
def CallTmp (X : Cx) (f : Value) (h : List T → Sto → OV) : Prop := ∃ r, CallR X f r ∧ ∀ p L s H vs ts Q, Rl X.K X.mg L s H → H p = some (.lst vs) → p ∉ L → vs.length ≤ sizeLine → Ds X.K X.mg L H vs ts → PostV X.K X.mg L H Q (h ts s) → r [.ref p] H Q
theorem tmp_post {h : List T → Sto → OV} {σ : L2.St} {H : Hp} {Q : VK} {L : List Addr} {r : Env} {s : Sto} {R : VK} (hR : Rl X.K X.mg L s H) (hp : PostE X.K X.mg W L H σ Q ((fl r s).bnd fun ts s => vOut (h ts s)))
    (go : ∀ p L' s' H' vs ts, Rl X.K X.mg L' s' H' → H' p = some (.lst vs) → p ∉ L' → vs.length ≤ sizeLine → Ds X.K X.mg L' H' vs ts → PostV X.K X.mg L' H' Q (h ts s') → R (.ref p) H') : PostC X.K X.mg W L H σ R (fl r s) := by
  cases c : fl r s with
  | ok ts s1 =>
    rw [c] at hp
    exact fun p L' H' vs x1 R1 hl np hn hz d1 => go p L' s1 H' vs ts R1 hl np hz d1 (PostV.of (PostE.ex hp x1))
  | exc x s1 => rw [c] at hp; exact hp
  | bad => rw [c] at hp; exact hp
theorem r_tmpB {id : String} {h : List T → Sto → OV} {x : Str} {p : Pos} (B : Bx X N sc) (hc : CallTmp X (.builtin id) h) (hg : sc.names.lookup x = some .globalImplicit) (hm : X.mg x = none) (hv : bootBuiltins x = some (.builtin id)) (ha : FC X W e fl) (hn : x ≠ "__name__" := by decide) (hdb : (x == ("__debug__" : Str)) = false := by decide)
    (he : starEach (e :: []) X.env = (false, eval e X.env) :: starEach [] X.env := by rfl) (hpl : (backTo pos (starEach [] X.env)).any (·.1) = false := by rfl) : FE X W (.Call (.Name x p) [e] [] pos) (eTmp h fl) := by
  obtain ⟨rr, h1, h2⟩ := hc
  obtain ⟨t, h3, h4⟩ := ha
  refine PEw (pe_callB h1 (B.gl hg) hm hv (pa_cons h3 pa_nil he) hn hdb he hpl) fun σ H Q ⟨L, r, s, hR, hE, hp⟩ => ?_
  exact h4 σ H _ L r s hR hE (tmp_post hR hp fun p L' s' H' vs ts R1 hl np hz d1 p1 => h2 p L' s' H' vs ts Q R1 hl np hz d1 p1)
theorem r_tmpT {id : String} {h : List T → Sto → OV} {x : Str} {p : Pos} (B : Bx X N sc) (hc : CallTmp X (.type id) h) (hg : sc.names.lookup x = some .globalImplicit) (hm : X.mg x = none) (hv : bootBuiltins x = some (.type id)) (ha : FC X W e fl) (hn : x ≠ "__name__" := by decide) (hdb : (x == ("__debug__" : Str)) = false := by decide)
    (he : starEach (e :: []) X.env = (false, eval e X.env) :: starEach [] X.env := by rfl) (hpl : (backTo pos (starEach [] X.env)).any (·.1) = false := by rfl) : FE X W (.Call (.Name x p) [e] [] pos) (eTmp h fl) := by
  obtain ⟨rr, h1, h2⟩ := hc
  obtain ⟨t, h3, h4⟩ := ha
  refine PEw (pe_callTy h1 (B.gl hg) hm hv (pa_cons h3 pa_nil he) hn hdb he hpl) fun σ H Q ⟨L, r, s, hR, hE, hp⟩ => ?_
  exact h4 σ H _ L r s hR hE (tmp_post hR hp fun p L' s' H' vs ts R1 hl np hz d1 p1 => h2 p L' s' H' vs ts Q R1 hl np hz d1 p1)
end
end Fx

set_option maxRecDepth 100000
set_option maxHeartbeats 2000000
/-! Fx: defs and their calls. -/
namespace Fx
open PySem L2 PyProof.Rows

/-- room for k calls one in another, and no repr at work -/
structure Rm (k : Nat) (A : Around) : Prop where
  room : Room (4 * k + 2) A
  quiet : A.guards = some []
theorem Rm.mono {j k : Nat} {A : Around} (r : Rm k A) (h : j ≤ k) : Rm j A := ⟨r.room.mono (by omega), r.quiet⟩
theorem Rm.deeper {k : Nat} {A : Around} (r : Rm (k + 1) A) (env : PySem.Env) : Rm k (A.deeper env) := ⟨Room.deeper (k := 4 * k + 2) (r.room.mono (by omega)) env, r.quiet⟩
/-- .. within a built-in's work, too -/
structure Ri (k : Nat) (A : Around) : Prop where
  r1 : Rm k A.in1
  r2 : Rm k A.in1.in1
  r3 : Rm k A.in1.in1.in1
/-- .. while an instance is made -/
def RmMk (k : Nat) (A : Around) : Prop := ∀ (C : Addr) (us : List Value) (kw : List (Str × Value)), Rm k (A.under (.builtin "type.__call__" ⟨.ref C :: us, kw⟩))
theorem make_guards {A : Around} {C : Addr} {us : List Value} {kw : List (Str × Value)} : (A.under (.builtin "type.__call__" ⟨.ref C :: us, kw⟩)).guards = A.guards := by
  first | rfl | simp [Around.under, Code.weight, Code.isCreation, Code.isGuard, Code.isCaller, Code.frames, Code.isFrame, guardIds]
theorem Rm.mk' {k : Nat} {A : Around} (r : Rm (k + 1) A) (env : PySem.Env) : RmMk k (A.deeper env) := fun C us kw =>
  have h : Room (4 * k + 5) (A.deeper env) := Room.deeper (k := 4 * k + 5) (r.room.mono (by omega)) env
  ⟨Room.make (k := 4 * k + 2) (h.mono (by omega)) C us kw, make_guards.trans r.quiet⟩
theorem Rm.ri {k : Nat} {A : Around} (r : Rm (k + 1) A) (env : PySem.Env) : Ri k (A.deeper env) :=
  have h : Room (4 * k + 5) (A.deeper env) := Room.deeper (k := 4 * k + 5) (r.room.mono (by omega)) env
  ⟨⟨(h.mono (by omega)).in1, r.quiet⟩, ⟨((h.mono (by omega)).in1).in1, r.quiet⟩, ⟨((h.mono (by omega)).in1).in1.in1, r.quiet⟩⟩

section
variable (K : PySem.W.Frag) (mg : Str → Option Value)
def PostF (L : List Addr) (H : Hp) (Q : VK) (E : XK) : Out → Prop
  | .ok t s => ∀ v L' H', Ex L H L' H' → Rl K mg L' s H' → D K mg L' H' v t → Q v H'
  | .exc x s => ∀ cls d L' H', Ex L H L' H' → Rl K mg L' s H' → XD K mg L' H' cls d x → E cls d H'
  | .bad => False
/-- the promise: what the functional reading says -/
def spF (C : CallT) (f : String) : Sp := fun vs H Q E => ∃ L ts s, Rl K mg L s H ∧ Ds K mg L H vs ts ∧ PostF K mg L H Q E (C f ts s)
end
structure FnF (P : Program) (w : World) (K : PySem.W.Frag) (mg : Str → Option Value) (base : Heap) (k : Nat) (f : Addr) (fd : FuncData) (ps : List Str) (sp : Sp) : Prop where
  lenF : ∀ vs H Q E, sp vs H Q E → vs.length = ps.length
  runF : ∀ (A : Around) (below : List PySem.Env) (s : Shared) (H : Hp) (args : Args) (us : List Value) (vs : List V) (Q : VK) (E : XK),
    Rm k A → Env0 P w K mg base A below s H → BindsTo s fd args (ps.zip us) → Vals vs us → sp vs H Q E → codeAny (model P w) A (.call (.ref f) args) (CR (L2.CX P w) below P w H s Q E) s
theorem FnF.mono {P : Program} {w : World} {K : PySem.W.Frag} {mg : Str → Option Value} {base : Heap} {j k : Nat} {f : Addr} {fd : FuncData} {ps : List Str} {sp : Sp} (F : FnF P w K mg base j f fd ps sp) (h : j ≤ k) : FnF P w K mg base k f fd ps sp :=
  ⟨F.lenF, fun A b s H args us vs Q E hr => F.runF A b s H args us vs Q E (hr.mono h)⟩

/-! ### a call -/
section
variable {X : Cx} {W : WS} {k : Nat} {f : Addr} {fd : FuncData} {ps : List Str} {sp : Sp} {dvs : List V} {ds : List Value}
theorem run_fnF {pins : List (Addr × Obj)} {σ : L2.St} {H : Hp} {s : Shared} {Q : VK} {us : List Value} {vs : List V} (F : FnF X.prog X.w X.K X.mg X.base k f fd ps sp) (hr : Rm k X.A) (hb : Binds X.K fd ps ds) (hd : Vals dvs ds) (tk : Takes X W.w)
    (I : Inv X pins σ H s) (r : Vals vs us) (h : sp (vs ++ dvs) H Q (WE W.w σ)) : wpAny (model X.prog X.w) X.A (call (.ref f) us) (EP X pins σ Q) X.xe s := by
  have both := r.append hd
  have hl : (us ++ ds).length = ps.length := by rw [← both.length]; exact F.lenF _ _ _ _ h
  have c := F.runF X.A X.stack s H ⟨us, []⟩ (us ++ ds) (vs ++ dvs) Q (WE W.w σ) hr I.env0 (hb s us I.kIn hl) both h
  refine wpAny_call (codeAny_mono c fun r s' hq => ?_)
  match r, hq with
  | .error e, hq => exact passAt tk σ pins H s e s' I hq
  | .ok (.ret u), hq => exact I.after hq
  | .ok .next, hq => exact False.elim hq
  | .ok .brk, hq => exact False.elim hq
  | .ok .cont, hq => exact False.elim hq
end

/-- the def f at the address a, its last parameters by the defaults dts -/
def Cal (P : Program) (w : World) (K : PySem.W.Frag) (mg : Str → Option Value) (base : Heap) (k : Nat) (C : CallT) (f : String) (a : Addr) (dts : List T) : Prop :=
  ∃ fd ps dvs ds, FnF P w K mg base k a fd ps (spF K mg C f) ∧ Binds K fd ps ds ∧ Vals dvs ds ∧ (∀ L H, Ds K mg L H dvs dts) ∧ PySem.W.keepIn K (.ref a) = true
/-- arguments, then defaults -/
def lDef (l : Lv) (dts : List T) : Lv := fun r s => (l r s).bndL fun ts s => .ok (ts ++ dts) s
section
variable {X : Cx} {W : WS} {N : List Str} {sc : Scope} {pos : Pos} {e : Expr} {es : List Expr} {fl : Lv} {k : Nat} {C : CallT} {f : String} {n : Nat} {a : Addr} {dts : List T}
theorem PostE.gc {o : Out} {L : List Addr} {H : Hp} {σ : L2.St} {Q : VK} {s : Sto} (hR : Rl X.K X.mg L s H) (hp : PostE X.K X.mg W L H σ Q (gcR s.len s.kp o)) : PostE X.K X.mg W L H σ Q o := by
  have hlen := hR.len
  cases o with
  | ok t s' =>
    simp only [gcR] at hp
    split at hp
    · rename_i hk
      intro v L' H' x R1 d
      have hm : s'.kp ≤ max s.len t.hi := by rw [hk]; exact Nat.le_trans hR.kp (Nat.le_max_left _ _)
      exact hp v _ H' (x.cut (by rw [hlen]; exact Nat.le_max_left _ _)) (R1.cut hm) (d.cut _ (Nat.le_max_right _ _))
    · exact hp
  | exc x s' =>
    simp only [gcR] at hp
    split at hp
    · rename_i hk
      intro cls d L' H' e1 R1 q
      have hm : s'.kp ≤ max s.len x.hi := by rw [hk]; exact Nat.le_trans hR.kp (Nat.le_max_left _ _)
      exact hp cls d _ H' (e1.cut (by rw [hlen]; exact Nat.le_max_left _ _)) (R1.cut hm) (q.cut (Nat.le_max_right _ _))
    · exact hp
  | bad => exact hp
theorem PostF.of {o : Out} {L : List Addr} {H : Hp} {σ : L2.St} {Q : VK} (hp : PostE X.K X.mg W L H σ Q o) : PostF X.K X.mg L H Q (WE W.w σ) o := by
  cases o with
  | ok t s => exact hp
  | exc x s => exact hp
  | bad => exact hp
/-- f(e, ..) -/
theorem r_call {p : Pos} (B : Bx X N sc) (c : Cal X.prog X.w X.K X.mg X.base k C f a dts) (hr : Rm k X.A) (tk : Takes X W.w) (hg : sc.names.lookup (Str.ofString f) = some .globalImplicit) (hm : X.mg (Str.ofString f) = some (.ref a)) (ha : FL X W (e :: es) fl)
    (hdb : (Str.ofString f == ("__debug__" : Str)) = false := by decide)
    (he : starEach (e :: es) X.env = (false, eval e X.env) :: starEach es X.env := by rfl) (hpl : (backTo pos (starEach es X.env)).any (·.1) = false := by rfl) : FE X W (.Call (.Name (Str.ofString f) p) (e :: es) [] pos) (eCall C f (lDef fl dts)) := by
  obtain ⟨fd, ps, dvs, ds, F, b, vd, dd, kp⟩ := c
  refine ⟨fun pins s σ H Q I ⟨L, r, st, hR, hE, hp⟩ => ?_⟩
  have go : lL X.K X.mg W fl σ H fun vs H1 => spF X.K X.mg C f (vs ++ dvs) H1 Q (WE W.w σ) := by
    refine ⟨L, r, st, hR, hE, ?_⟩
    simp only [eCall, lDef] at hp
    cases e1 : fl r st with
    | ok ts s1 =>
      rw [e1] at hp
      exact fun vs L1 H1 x1 R1 d1 => ⟨L1, ts ++ dts, s1, R1, d1.app (dd L1 H1), PostF.of (PostE.ex hp x1)⟩
    | exc x s1 => rw [e1] at hp; exact hp
    | bad => rw [e1] at hp; exact hp
  refine wpAny_Call_Name_kw (ld_glob I (B.gl hg) hm ?_ hdb)
  refine PySem.W.callWith_K (h₀ := X.base) I.ok.mod.kin kp (thn (ha.run pos pins s σ H _ I go) fun us s1 ⟨vs, H1, I1, rv, q⟩ => ⟨I1.kIn, run_fnF F hr b vd tk I1 rv q⟩) he hpl
/-- f() -/
theorem r_call0 {p : Pos} (B : Bx X N sc) (c : Cal X.prog X.w X.K X.mg X.base k C f a dts) (hr : Rm k X.A) (tk : Takes X W.w) (hg : sc.names.lookup (Str.ofString f) = some .globalImplicit) (hm : X.mg (Str.ofString f) = some (.ref a))
    (hdb : (Str.ofString f == ("__debug__" : Str)) = false := by decide) : FE X W (.Call (.Name (Str.ofString f) p) [] [] pos) (eCall C f (lDef lNil dts)) := by
  obtain ⟨fd, ps, dvs, ds, F, b, vd, dd, kp⟩ := c
  refine ⟨fun pins s σ H Q I ⟨L, r, st, hR, hE, hp⟩ => ?_⟩
  refine wpAny_Call_Name_kw (ld_glob I (B.gl hg) hm ?_ hdb)
  exact PySem.W.callWith_K0 I.kIn kp (run_fnF (us := []) (vs := []) F hr b vd tk I .nil ⟨L, dts, st, hR, dd L H, PostF.of hp⟩)
/-- what a call's arguments made goes with it -/
theorem r_gc {f : Ev} (h : FE X W e f) : FE X W e (fun r s => gcR s.len s.kp (f r s)) :=
  PEw h fun σ H Q ⟨L, r, s, hR, hE, hp⟩ => ⟨L, r, s, hR, hE, PostE.gc hR hp⟩
end

/-! ### a def by its body -/
/-- where a body stands -/
structure Ctx (X : Cx) (W : WS) (N : List Str) (sc : Scope) (k : Nat) : Prop where
  B : Bx X N sc
  cm : Cm X W
  tk : Takes X W.w
  rm : Rm k X.A
  ri : Ri k X.A
  rk : RmMk k X.A
  po : PassesOwn (model X.prog X.w) X.A X.env X.xe
  fn : ∀ x, X.fn x = true
  st : X.stack = X.env :: X.outer
  fr : X.env.frame = some X.env.locals
  ex : X.ex = []
/-- what a body may lean on: the callees and so on -/
abbrev Facts := Program → World → PySem.W.Frag → (Str → Option Value) → Heap → Nat → CallT → Prop
theorem start_er {K : PySem.W.Frag} {mg : Str → Option Value} {w : WX} {L : List Addr} {H : Hp} {N : List Str} {vs : List V} {ts : List T} (d : Ds K mg L H vs ts) : Er K mg (WS.of w) L H (start N vs) (ts.map some ++ List.replicate (N.length - ts.length) none) := by
  have hl := d.length
  refine ⟨by simp [L2.start, hl], fun i t h => ?_, trivial⟩
  by_cases hi : i < ts.length
  · rw [List.getElem?_append_left (by simpa using hi), List.getElem?_map] at h
    have e : ts[i]? = some t := by
      cases q : ts[i]? with
      | none => rw [q] at h; cases h
      | some u => rw [q] at h; cases h; rfl
    obtain ⟨v, h1, h2⟩ := d.get e
    refine ⟨v, ?_, h2⟩
    unfold L2.start
    rw [List.getElem?_append_left (by simpa [hl] using hi), List.getElem?_map, h1]; rfl
  · rw [List.getElem?_append_right (by simpa using hi), List.getElem?_replicate] at h
    split at h <;> cases h
theorem PostF.gc {K : PySem.W.Frag} {mg : Str → Option Value} {o : Out} {L : List Addr} {H : Hp} {Q : VK} {E : XK} {s : Sto} (hR : Rl K mg L s H) (hp : PostF K mg L H Q E (gcR s.len s.kp o)) : PostF K mg L H Q E o := by
  have hlen := hR.len
  cases o with
  | ok t s' =>
    simp only [gcR] at hp
    split at hp
    · rename_i hk
      intro v L' H' x R1 d
      have hm : s'.kp ≤ max s.len t.hi := by rw [hk]; exact Nat.le_trans hR.kp (Nat.le_max_left _ _)
      exact hp v _ H' (x.cut (by rw [hlen]; exact Nat.le_max_left _ _)) (R1.cut hm) (d.cut _ (Nat.le_max_right _ _))
    · exact hp
  | exc x s' =>
    simp only [gcR] at hp
    split at hp
    · rename_i hk
      intro cls d L' H' e1 R1 q
      have hm : s'.kp ≤ max s.len x.hi := by rw [hk]; exact Nat.le_trans hR.kp (Nat.le_max_left _ _)
      exact hp cls d _ H' (e1.cut (by rw [hlen]; exact Nat.le_max_left _ _)) (R1.cut hm) (q.cut (Nat.le_max_right _ _))
    · exact hp
  | bad => exact hp
theorem fnF_of {P : Program} {w : World} {K : PySem.W.Frag} {mg : Str → Option Value} {base : Heap} {k : Nat} {x qual : Str} {params : Arguments} {body : List Stmt} {scope : Scope} {dvs : List V} {kws : List (Str × V)} {a : Addr} {fd : FuncData} {N ps : List Str}
    {p : String → Option FnD} {f : String} {d : FnD} (F : FunD K x qual params body scope dvs kws a fd) (S : FnScope N ps scope) (hp : p f = some d) (h1 : d.np = ps.length) (h2 : d.nl = N.length)
    (hb : ∀ (X : Cx) (W : WS), X.prog = P → X.w = w → X.K = K → X.mg = mg → X.base = base → Ctx X W N scope k → FSs X W body (d.body (run p k))) : FnF P w K mg base (k + 1) a fd ps (spF K mg (run p (k + 1)) f) := by
  obtain ⟨oc, od, dV, kV, doc, pm, an, cdv, ct, osl, rfl, lk, hcd, _, _⟩ := F.ex
  have lens : ∀ {vs H Q E}, spF K mg (run p (k + 1)) f vs H Q E → vs.length = ps.length := fun {vs H Q E} ⟨L, ts, s, hR, hd, hq⟩ => by
    simp only [run, hp, runD] at hq
    split at hq
    · rename_i e; rw [hd.length, e, h1]
    · exact hq.elim
  refine ⟨fun vs H Q E h => lens h, fun A below s H args us vs Q E hr e0 hbd rv hsp => ?_⟩
  have hl := lens hsp
  have KX : K.In s.heap := e0.mod.kin.keeps fun b o e => (e0.bs b o e).1
  have lim : s.heap.NoLimit := e0.mod.nolimit.keeps fun b o e => (e0.bs b o e).1
  have kinds : ∀ y ∈ ps.zip us, scope.names.lookup y.1 = some .local ∨ (scope.names.lookup y.1 = some .cell ∧ ((cellsFrom (s.heap.objs.size + 1) scope.names []).lookup y.1).isSome = true) := by
    intro y hy
    rcases S.par y.1 (List.of_mem_zip (show (y.1, y.2) ∈ ps.zip us from hy)).1 with q | q
    · exact .inl q
    · exact .inr ⟨q, PySem.W.cellsFrom_some _ _ _ (.inl q)⟩
  refine codeAny_call_function hr.room.depth (KX _ _ lk) rfl S.co S.gen rfl (PySem.W.codeRec_of KX hcd) (hbd _ _ _ _ ?_)
  refine wpAny_newFunctionEnv_cells S.kind kinds fun env he s1 x => ?_
  subst he
  refine ⟨lim.keeps x.toInCall.keep, codeAny_func ?_⟩
  have I : Inv (cxOf (L2.CX P w) P w K mg base N qual scope a cdv A below s H E) [] (start N vs) H s1 := inv_start S hr.room.hd e0 hl rv x
  have ctx : Ctx (cxOf (L2.CX P w) P w K mg base N qual scope a cdv A below s H E) (WS.of fun cls d _ H => E cls d H) N scope k :=
    ⟨⟨rfl, rfl, S.nd⟩, ⟨rfl, rfl⟩, takes_of rfl rfl rfl rfl, hr.deeper _, hr.ri _, hr.mk' _, passes_of rfl, fun _ => rfl, rfl, rfl, rfl⟩
  have body := hb _ _ rfl rfl rfl rfl rfl ctx
  have wish : lS K mg (WS.of fun cls d _ H => E cls d H) (d.body (run p k)) { nx := fun _ H' => Q .non H', rt := Q } (start N vs) H := by
    obtain ⟨L, ts, st, hR, hd, hq⟩ := hsp
    refine ⟨L, _, st, hR, start_er hd, ?_⟩
    simp only [run, hp, runD] at hq
    split at hq
    · rename_i e
      have hq := PostF.gc hR hq
      rw [h2] at hq
      have el : ts.length = ps.length := by rw [e, h1]
      rw [h1, ← el] at hq
      revert hq
      generalize d.body (run p k) _ st = o
      intro hq
      cases o with
      | nx r s' => exact fun σ L' H' x1 x2 _ => hq .non L' H' x1 x2 .non
      | rt t s' => exact hq
      | bk r s' => exact hq.elim
      | ct r s' => exact hq.elim
      | ex x r s' => exact fun cls d σ L' H' x1 x2 _ x4 => hq cls d L' H' x1 x2 x4
      | bad => exact hq.elim
    · exact hq.elim
  refine wpAny_mono (body.run [] s1 (start N vs) H _ I wish) (fun fl s' hs => ?_) fun e s' hs => hs
  match fl, hs with
  | .ret u, ⟨v, σ', H', J, rv', q⟩ => exact ⟨v, H', J.os, J.bare, J.base, J.hok, rv', q⟩
  | .next, ⟨σ', H', J, q⟩ => exact ⟨.non, H', J.os, J.bare, J.base, J.hok, rfl, q⟩
  | .brk, ⟨_, _, _, q⟩ => exact False.elim q
  | .cont, ⟨_, _, _, q⟩ => exact False.elim q
end Fx

set_option maxRecDepth 100000
set_option maxHeartbeats 2000000
/-! Fx: operators and built-ins by values. -/
namespace Fx
open PySem L2 PyProof.Rows

/-- numbers that are not too large -/
abbrev BIG : Int := 1000000000000000000000000000000000000000000000000000000000000
def okN (i : Int) : Bool := decide (-BIG ≤ i ∧ i ≤ BIG)
theorem okN_log {i : Int} (h : okN i = true) : i.natAbs.log2 < 200 := by
  have h := of_decide_eq_true h
  have e : i.natAbs < 2 ^ 200 := by
    have e2 : (2 : Nat) ^ 200 = 1606938044258990275541962092341162602522202993782792835301376 := by decide
    rw [e2]
    unfold BIG at h
    omega
  by_cases h0 : i.natAbs = 0
  · rw [h0]; decide
  · exact (Nat.log2_lt h0).mpr e

def oAdd : T → T → Sto → OV
  | .int i, .int j, s => some (.int (i + j), s)
  | .str a, .str b, s => if a.length + b.length ≤ sizeLine then some (.str (a ++ b), s) else none
  | .tup a, .tup b, s => if a.length + b.length ≤ sizeLine then some (.tup (a ++ b), s) else none
  | .loc m, .loc n, s => (match s.get m, s.get n with
    | some (.lst a), some (.lst b) => if a.length + b.length ≤ sizeLine then some (.loc s.len, s.add (.lst (a ++ b))) else none
    | _, _ => none)
  | _, _, _ => none
def oSub : T → T → Sto → OV
  | .int i, .int j, s => some (.int (i - j), s)
  | _, _, _ => none
def oMul : T → T → Sto → OV
  | .int i, .int j, s => if okN i && okN j then some (.int (i * j), s) else none
  | .loc m, .int k, s => (match s.get m with
    | some (.lst a) => if a.length * k.toNat ≤ sizeLine && okN k && decide (-(2 ^ 63) ≤ k ∧ k < 2 ^ 63) then some (.loc s.len, s.add (.lst (List.replicate k.toNat a).flatten)) else none
    | _ => none)
  | _, _, _ => none
def oDiv : T → T → Sto → OV
  | .int i, .int j, s => if decide (0 < j) && okN j then some (.int (i / j), s) else none
  | _, _, _ => none
def oMod : T → T → Sto → OV
  | .int i, .int j, s => if decide (0 < j) then some (.int (i % j), s) else none
  | _, _, _ => none
def oPow : T → T → Sto → OV
  | .int i, .int j, s => if decide (0 ≤ j ∧ j ≤ 1000 ∧ -1000 ≤ i ∧ i ≤ 1000) then some (.int (i ^ j.toNat), s) else none
  | _, _, _ => none
def uNeg : T → Sto → OV
  | .int i, s => some (.int (-i), s)
  | _, _ => none
def oLt : T → T → Sto → OV
  | .int i, .int j, s => some (.bl (decide (i < j)), s)
  | _, _, _ => none
def oLe : T → T → Sto → OV
  | .int i, .int j, s => some (.bl (decide (i ≤ j)), s)
  | _, _, _ => none
def oGt : T → T → Sto → OV
  | .int i, .int j, s => some (.bl (decide (j < i)), s)
  | _, _, _ => none
def oGe : T → T → Sto → OV
  | .int i, .int j, s => some (.bl (decide (j ≤ i)), s)
  | _, _, _ => none

section
variable {K : PySem.W.Frag} {mg : Str → Option Value} {L : List Addr} {H : Hp} {s : Sto}
theorem PostV.here {Q : VK} {t : T} {v : V} (hR : Rl K mg L s H) (d : D K mg L H v t) (h : PostV K mg L H Q (some (t, s))) : Q v H := h v L H Ex.refl hR d
theorem D.intE {v : V} {i : Int} (d : D K mg L H v (.int i)) : v = .int i := by cases d; rfl
theorem D.strE {v : V} {x : Str} (d : D K mg L H v (.str x)) : v = .str x := by cases d; rfl
theorem D.blE {v : V} {b : Bool} (d : D K mg L H v (.bl b)) : v = .bl b := by cases d; rfl
theorem D.nonE {v : V} (d : D K mg L H v .non) : v = .non := by cases d; rfl
theorem D.tupE {v : V} {ts : List T} (d : D K mg L H v (.tup ts)) : ∃ a vs, v = .ref a ∧ TupAt K H a vs ∧ Ds K mg L H vs ts := by cases d with | tup h q => exact ⟨_, _, rfl, h, q⟩
theorem D.frzE {v : V} {ts : List T} (d : D K mg L H v (.frz ts)) : ∃ a vs, v = .ref a ∧ FrzAt K H a vs ∧ Ds K mg L H vs ts := by cases d with | frz h q => exact ⟨_, _, rfl, h, q⟩
theorem D.locE {v : V} {n : Nat} (d : D K mg L H v (.loc n)) : ∃ a, v = .ref a ∧ L[n]? = some a := by cases d with | loc h => exact ⟨_, rfl, h⟩
theorem D.lstE {v : V} {n : Nat} {ts : List T} (hR : Rl K mg L s H) (d : D K mg L H v (.loc n)) (h : s.get n = some (.lst ts)) : ∃ a vs, v = .ref a ∧ L[n]? = some a ∧ H a = some (.lst vs) ∧ Ds K mg L H vs ts := by
  obtain ⟨a, rfl, e⟩ := d.locE
  obtain ⟨b, h1, vs, h2, h3⟩ := hR.get h
  rw [e] at h1; cases h1
  exact ⟨a, vs, rfl, e, h2, h3⟩
/-- a new list -/
theorem PostV.newLst {Q : VK} {vs : List V} {ts : List T} {p : Addr} (hR : Rl K mg L s H) (d : Ds K mg L H vs ts) (hp : H p = none) (h : PostV K mg L H Q (some (.loc s.len, s.add (.lst ts)))) : Q (.ref p) (upd H p (.lst vs)) :=
  h _ _ _ (Ex.add hp) (hR.add hp ⟨vs, upd_same, d.mono (Ex.laid hp)⟩) hR.addD
theorem PostV.newTup {Q : VK} {vs : List V} {ts : List T} {p : Addr} (hR : Rl K mg L s H) (d : Ds K mg L H vs ts) (hp : H p = none) (h : PostV K mg L H Q (some (.tup ts, s))) : Q (.ref p) (upd H p (.tup vs)) :=
  h _ _ _ (Ex.laid hp) (hR.laid hp) (.tup (.inl upd_same) (d.mono (Ex.laid hp)))
/-- a list is changed, None comes back -/
theorem PostV.putLst {Q : VK} {vs : List V} {ts : List T} {n : Nat} {a : Addr} {t : T} {v : V} (hR : Rl K mg L s H) (hn : L[n]? = some a) (d : Ds K mg L H vs ts) (dt : D K mg L H v t) (h : PostV K mg L H Q (some (t, s.put n (.lst ts)))) : Q v (upd H a (.lst vs)) := by
  have e := hR.exPut (ho := .lst vs) (List.mem_of_getElem? hn)
  exact h _ _ _ e (hR.put hn ⟨vs, upd_same, d.mono e⟩) (dt.mono e)
end

theorem getLst {o : Option O} {P : List T → OV} {s : Sto} (n : Nat) : True := trivial
section
variable {X : Cx}
/-- two ints -/
theorem opI {f : Value → Value → Sem Value} {g : T → T → Sto → OV} {r : Int → Int → Prop} {h : Int → Int → V} {h' : Int → Int → T} (hr : OpR X f (rI r h)) (ht : ∀ L H i j, D X.K X.mg L H (h i j) (h' i j))
    (hg : ∀ t1 t2 s, g t1 t2 s = none ∨ ∃ i j, t1 = .int i ∧ t2 = .int j ∧ r i j ∧ g t1 t2 s = some (h' i j, s)) : OpF X f g := .of fun L s t1 t2 x y H Q hR d1 d2 hp => by
  rcases hg t1 t2 s with e | ⟨i, j, rfl, rfl, hrr, e⟩
  · rw [e] at hp; exact hp.elim
  · rw [e] at hp
    cases d1.intE
    cases d2.intE
    exact ⟨_, hr, i, j, rfl, rfl, hrr, hp.here hR (ht L H i j)⟩
theorem rI_of {f : Value → Value → Sem Value} {h : Int → Int → V} (hr : OpR X f (rI0 h)) : OpR X f (rI (fun _ _ => True) h) := fun p s σ H x y v u Q I r1 r2 ⟨i, j, e1, e2, _, q⟩ => hr p s σ H x y v u Q I r1 r2 ⟨i, j, e1, e2, q⟩
theorem f_sub : OpF X (binaryOp .Sub) oSub := opI (h' := fun i j => .int (i - j)) (rI_of op_sub) (fun _ _ _ _ => .int _) fun t1 t2 s => by
  cases t1 <;> cases t2 <;> first | exact .inl rfl | exact .inr ⟨_, _, rfl, rfl, trivial, rfl⟩
theorem f_lt : OpF X (compareOp .Lt) oLt := opI (h' := fun i j => .bl (decide (i < j))) (rI_of op_lt) (fun _ _ _ _ => .bl _) fun t1 t2 s => by
  cases t1 <;> cases t2 <;> first | exact .inl rfl | exact .inr ⟨_, _, rfl, rfl, trivial, rfl⟩
theorem f_le : OpF X (compareOp .LtE) oLe := opI (h' := fun i j => .bl (decide (i ≤ j))) (rI_of op_le) (fun _ _ _ _ => .bl _) fun t1 t2 s => by
  cases t1 <;> cases t2 <;> first | exact .inl rfl | exact .inr ⟨_, _, rfl, rfl, trivial, rfl⟩
theorem f_gt : OpF X (compareOp .Gt) oGt := opI (h' := fun i j => .bl (decide (j < i))) (rI_of op_gt) (fun _ _ _ _ => .bl _) fun t1 t2 s => by
  cases t1 <;> cases t2 <;> first | exact .inl rfl | exact .inr ⟨_, _, rfl, rfl, trivial, rfl⟩
theorem f_ge : OpF X (compareOp .GtE) oGe := opI (h' := fun i j => .bl (decide (j ≤ i))) (rI_of op_ge) (fun _ _ _ _ => .bl _) fun t1 t2 s => by
  cases t1 <;> cases t2 <;> first | exact .inl rfl | exact .inr ⟨_, _, rfl, rfl, trivial, rfl⟩
theorem f_div : OpF X (binaryOp .FloorDiv) oDiv := opI (h' := fun i j => .int (i / j)) op_fdivW (fun _ _ _ _ => .int _) fun t1 t2 s => by
  cases t1 <;> cases t2 <;> first | exact .inl rfl | skip
  rename_i i j
  by_cases h : (decide (0 < j) && okN j) = true
  · obtain ⟨h1, h2⟩ := Bool.and_eq_true_iff.mp h
    exact .inr ⟨i, j, rfl, rfl, ⟨of_decide_eq_true h1, Nat.lt_trans (okN_log h2) (by decide)⟩, by simp only [oDiv]; rw [if_pos h]⟩
  · exact .inl (by simp only [oDiv]; rw [if_neg h])
theorem f_mod : OpF X (binaryOp .Mod) oMod := opI (h' := fun i j => .int (i % j)) op_mod (fun _ _ _ _ => .int _) fun t1 t2 s => by
  cases t1 <;> cases t2 <;> first | exact .inl rfl | skip
  rename_i i j
  by_cases h : decide (0 < j) = true
  · exact .inr ⟨i, j, rfl, rfl, of_decide_eq_true h, by simp only [oMod]; rw [if_pos h]⟩
  · exact .inl (by simp only [oMod]; rw [if_neg h])
theorem f_pow : OpF X (binaryOp .Pow) oPow := opI (h' := fun i j => .int (i ^ j.toNat)) op_pow (fun _ _ _ _ => .int _) fun t1 t2 s => by
  cases t1 <;> cases t2 <;> first | exact .inl rfl | skip
  rename_i i j
  by_cases h : decide (0 ≤ j ∧ j ≤ 1000 ∧ -1000 ≤ i ∧ i ≤ 1000) = true
  · have h' := of_decide_eq_true h
    refine .inr ⟨i, j, rfl, rfl, ⟨h'.1, by omega, ?_⟩, by simp only [oPow]; rw [if_pos h]⟩
    have e2 : (2 : Nat) ^ 64 = 18446744073709551616 := by decide
    rw [e2]; omega
  · exact .inl (by simp only [oPow]; rw [if_neg h])
theorem f_neg : UnF X (unaryOp .USub) uNeg := .of fun L s t x H Q hR d hp => by
  cases t with
  | int i => cases d.intE; exact ⟨_, un_neg, i, rfl, hp.here hR (.int _)⟩
  | _ => exact hp.elim
theorem f_add : OpF X (binaryOp .Add) oAdd := .of fun L s t1 t2 x y H Q hR d1 d2 hp => by
  cases t1 with
  | int i =>
    cases t2 with
    | int j => cases d1.intE; cases d2.intE; exact ⟨_, op_add, i, j, rfl, rfl, hp.here hR (.int _)⟩
    | _ => exact hp.elim
  | str a =>
    cases t2 with
    | str b =>
      simp only [oAdd] at hp
      split at hp
      · rename_i hz
        cases d1.strE; cases d2.strE
        exact ⟨_, op_add_str, a, b, rfl, rfl, hz, hp.here hR (.str _)⟩
      · exact hp.elim
    | _ => exact hp.elim
  | tup a =>
    cases t2 with
    | tup b =>
      simp only [oAdd] at hp
      split at hp
      · rename_i hz
        obtain ⟨p, vs, rfl, h1, q1⟩ := d1.tupE
        obtain ⟨q, ws, rfl, h2, q2⟩ := d2.tupE
        refine ⟨_, op_catA, p, q, vs, ws, rfl, rfl, h1.sq, h2.sq, by rw [q1.length, q2.length]; exact hz, fun e => ?_, fun _ e => ?_, fun _ _ r hr => ?_⟩
        · have : a = [] := by have := q1.length; rw [e] at this; exact List.length_eq_zero_iff.mp this.symm
          subst this
          exact hp.here hR (.tup h2 q2)
        · have : b = [] := by have := q2.length; rw [e] at this; exact List.length_eq_zero_iff.mp this.symm
          subst this
          rw [List.append_nil] at hp
          exact hp.here hR (.tup h1 q1)
        · exact hp.newTup hR (q1.app q2) hr
      · exact hp.elim
    | _ => exact hp.elim
  | loc m =>
    cases t2 with
    | loc n =>
      simp only [oAdd] at hp
      split at hp
      · rename_i a b e1 e2
        split at hp
        · rename_i hz
          obtain ⟨p, vs, rfl, _, h1, q1⟩ := D.lstE hR d1 e1
          obtain ⟨q, ws, rfl, _, h2, q2⟩ := D.lstE hR d2 e2
          exact ⟨_, op_cat, p, q, vs, ws, rfl, rfl, h1, h2, by rw [q1.length, q2.length]; exact hz, fun r hr => hp.newLst hR (q1.app q2) hr⟩
        · exact hp.elim
      · exact hp.elim
    | _ => exact hp.elim
  | _ => exact hp.elim
theorem Ds.rep {K : PySem.W.Frag} {mg : Str → Option Value} {L : List Addr} {H : Hp} {vs : List V} {ts : List T} (d : Ds K mg L H vs ts) : ∀ k : Nat, Ds K mg L H (List.replicate k vs).flatten (List.replicate k ts).flatten
  | 0 => .nil
  | k + 1 => by rw [List.replicate_succ, List.replicate_succ, List.flatten_cons, List.flatten_cons]; exact d.app (Ds.rep d k)
theorem f_mul : OpF X (binaryOp .Mult) oMul := .of fun L s t1 t2 x y H Q hR d1 d2 hp => by
  cases t1 with
  | int i =>
    cases t2 with
    | int j =>
      simp only [oMul] at hp
      split at hp
      · rename_i hz
        obtain ⟨h1, h2⟩ := Bool.and_eq_true_iff.mp hz
        cases d1.intE; cases d2.intE
        refine ⟨_, op_mulW, i, j, rfl, rfl, ?_, hp.here hR (.int _)⟩
        have := okN_log h1
        have := okN_log h2
        unfold CMulW; omega
      · exact hp.elim
    | _ => exact hp.elim
  | loc m =>
    cases t2 with
    | int k =>
      simp only [oMul] at hp
      split at hp
      · rename_i a e1
        split at hp
        · rename_i hz
          obtain ⟨hz, h3⟩ := Bool.and_eq_true_iff.mp hz
          obtain ⟨hz, _⟩ := Bool.and_eq_true_iff.mp hz
          have hz := of_decide_eq_true hz
          have h3 := of_decide_eq_true h3
          obtain ⟨p, vs, rfl, _, h1, q1⟩ := D.lstE hR d1 e1
          cases d2.intE
          exact ⟨_, op_rep, p, k, vs, rfl, rfl, h1, h3.1, h3.2, by rw [q1.length]; exact hz, fun r hr => hp.newLst hR (q1.rep _) hr⟩
        · exact hp.elim
      · exact hp.elim
    | _ => exact hp.elim
  | _ => exact hp.elim
/-- name += e -/
theorem ip_of {op : Operator} {g : T → T → Sto → OV} {r : Int → Int → Int} (hr : PIp X op (ipI r)) (hg : ∀ t1 t2 s, g t1 t2 s = none ∨ ∃ i j, t1 = .int i ∧ t2 = .int j ∧ g t1 t2 s = some (.int (r i j), s)) : PIp X op (rO X.K X.mg g) := by
  intro pins s σ H x y v u Q I rx ry ⟨L, st, t1, t2, hR, d1, d2, hp⟩
  rcases hg t1 t2 st with e | ⟨i, j, rfl, rfl, e⟩
  · rw [e] at hp; exact hp.elim
  · rw [e] at hp
    cases d1.intE; cases d2.intE
    exact hr pins s σ H _ _ v u Q I rx ry ⟨i, j, rfl, rfl, hp.here hR (.int _)⟩
def oAddI : T → T → Sto → OV
  | .int i, .int j, s => some (.int (i + j), s)
  | _, _, _ => none
theorem i_add : PIp X .Add (rO X.K X.mg oAddI) := ip_of ip_add fun t1 t2 s => by
  cases t1 <;> cases t2 <;> first | exact .inl rfl | exact .inr ⟨_, _, rfl, rfl, rfl⟩
theorem i_sub : PIp X .Sub (rO X.K X.mg oSub) := ip_of ip_sub fun t1 t2 s => by
  cases t1 <;> cases t2 <;> first | exact .inl rfl | exact .inr ⟨_, _, rfl, rfl, rfl⟩
end
end Fx

set_option maxRecDepth 100000
set_option maxHeartbeats 2000000
/-! Fx: equality, membership, built-ins over lists. -/
namespace Fx
open PySem L2 PyProof.Rows

/-! ### data -/
def mapO {α β : Type} (f : α → Option β) : List α → Option (List β)
  | [] => some []
  | a :: r => (match f a with
    | some b => (match mapO f r with | some bs => some (b :: bs) | none => none)
    | none => none)
/-- a tree as data, its lists by the store -/
def toD : Nat → Sto → T → Option PyData
  | 0, _, _ => none
  | n + 1, s, t => match t with
    | .non => some .none
    | .bl b => some (.bool b)
    | .int i => some (.int i)
    | .str x => if PyData.strOk x = true then some (.str x) else none
    | .tup ts => (mapO (toD n s) ts).map .tuple
    | .frz ts => (mapO (toD n s) ts).map .list
    | .loc i => (match s.get i with
      | some (.lst ts) => (mapO (toD n s) ts).map .list
      | _ => none)
    | .ty _ => none
    | .glo _ => none
/-- deep enough for any data here -/
abbrev DEEP : Nat := 30
theorem toD_ok : ∀ (n : Nat) (s : Sto) (t : T) (d : PyData), toD n s t = some d → d.canLay0 = true ∧ d.depth ≤ n
  | 0, _, _, _, h => by simp [toD] at h
  | n + 1, s, t, d, h => by
    have all : ∀ (ts : List T) (ds : List PyData), mapO (toD n s) ts = some ds → PyData.canLayAll0 ds = true ∧ PyData.depthAll ds ≤ n := by
      intro ts
      induction ts with
      | nil => intro ds h; simp [mapO] at h; subst h; simp [PyData.canLayAll0, PyData.depthAll]
      | cons t r ih =>
        intro ds h
        simp only [mapO] at h
        split at h
        · rename_i b e1
          split at h
          · rename_i bs e2
            cases h
            obtain ⟨h1, h2⟩ := toD_ok n s t b e1
            obtain ⟨h3, h4⟩ := ih bs e2
            simp only [PyData.canLayAll0, PyData.depthAll, h1, h3]
            exact ⟨rfl, by omega⟩
          · cases h
        · cases h
    have lst : ∀ (ts : List T) (g : List PyData → PyData), (∀ ds, (g ds).canLay0 = PyData.canLayAll0 ds ∧ (g ds).depth = PyData.depthAll ds + 1) → (mapO (toD n s) ts).map g = some d → d.canLay0 = true ∧ d.depth ≤ n + 1 := by
      intro ts g hg h
      obtain ⟨ds, e, rfl⟩ := Option.map_eq_some_iff.mp h
      obtain ⟨h1, h2⟩ := all ts ds e
      obtain ⟨h3, h4⟩ := hg ds
      exact ⟨by rw [h3]; exact h1, by rw [h4]; omega⟩
    have gt : ∀ ds, (PyData.tuple ds).canLay0 = PyData.canLayAll0 ds ∧ (PyData.tuple ds).depth = PyData.depthAll ds + 1 := fun ds => ⟨by simp [PyData.canLay0], by simp [PyData.depth]⟩
    have gl : ∀ ds, (PyData.list ds).canLay0 = PyData.canLayAll0 ds ∧ (PyData.list ds).depth = PyData.depthAll ds + 1 := fun ds => ⟨by simp [PyData.canLay0], by simp [PyData.depth]⟩
    cases t with
    | non => simp [toD] at h; subst h; simp [PyData.canLay0, PyData.depth]
    | bl b => simp [toD] at h; subst h; simp [PyData.canLay0, PyData.depth]
    | int i => simp [toD] at h; subst h; simp [PyData.canLay0, PyData.depth]
    | str x =>
      simp only [toD] at h
      split at h
      · rename_i e; cases h; simp [PyData.canLay0, PyData.depth, e]
      · cases h
    | tup ts => exact lst ts _ gt (by simpa only [toD] using h)
    | frz ts => exact lst ts _ gl (by simpa only [toD] using h)
    | loc i =>
      simp only [toD] at h
      split at h
      · rename_i ts e; exact lst ts _ gl h
      · cases h
    | ty _ => simp [toD] at h
    | glo _ => simp [toD] at h
theorem toD_shaped {s : Sto} {t : T} {d : PyData} (h : toD DEEP s t = some d) : SeqAt.shaped d = true := by
  obtain ⟨h1, h2⟩ := toD_ok _ _ _ _ h
  unfold SeqAt.shaped
  rw [h1]
  simp only [Bool.true_and, decide_eq_true_eq]
  exact Nat.le_trans h2 (by decide)
section
variable {K : PySem.W.Frag} {mg : Str → Option Value} {L : List Addr} {H : Hp} {s : Sto}
theorem toD_dp (hR : Rl K mg L s H) : ∀ (n : Nat) (t : T) (d : PyData) (v : V), toD n s t = some d → D K mg L H v t → Dp K H v d
  | 0, _, _, _, h, _ => by simp [toD] at h
  | n + 1, t, d, v, h, q => by
    have all : ∀ (ts : List T) (ds : List PyData) (vs : List V), mapO (toD n s) ts = some ds → Ds K mg L H vs ts → DpAll K H vs ds := by
      intro ts
      induction ts with
      | nil => intro ds vs h q; simp [mapO] at h; subst h; cases q; exact .nil
      | cons t r ih =>
        intro ds vs h q
        simp only [mapO] at h
        split at h
        · rename_i b e1
          split at h
          · rename_i bs e2
            cases h
            cases q with
            | cons q1 q2 => exact .cons (toD_dp hR n t b _ e1 q1) (ih bs _ e2 q2)
          · cases h
        · cases h
    cases t with
    | non => cases q; simp [toD] at h; subst h; exact .non
    | bl b => cases q; simp [toD] at h; subst h; exact .bl b
    | int i => cases q; simp [toD] at h; subst h; exact .int i
    | str x =>
      cases q
      simp only [toD] at h
      split at h
      · cases h; exact .str x
      · cases h
    | tup ts =>
      simp only [toD] at h
      obtain ⟨ds, e, rfl⟩ := Option.map_eq_some_iff.mp h
      obtain ⟨a, vs, rfl, h1, h2⟩ := q.tupE
      exact .tup h1.sq (all ts ds vs e h2)
    | frz ts =>
      simp only [toD] at h
      obtain ⟨ds, e, rfl⟩ := Option.map_eq_some_iff.mp h
      obtain ⟨a, vs, rfl, h1, h2⟩ := q.frzE
      exact .lst h1.sq (all ts ds vs e h2)
    | loc i =>
      simp only [toD] at h
      split at h
      · rename_i ts e0
        obtain ⟨ds, e, rfl⟩ := Option.map_eq_some_iff.mp h
        obtain ⟨a, vs, rfl, _, h1, h2⟩ := D.lstE hR q e0
        exact .lst (.inl (.inl h1)) (all ts ds vs e h2)
      · cases h
    | ty _ => simp [toD] at h
    | glo _ => simp [toD] at h
end
def eqS : T → T → Option Bool
  | .int i, .int j => some (decide (i = j))
  | .str x, .str y => some (decide (x = y))
  | .bl x, .bl y => some (decide (x = y))
  | .non, .non => some true
  | .non, .int _ => some false | .int _, .non => some false
  | .non, .str _ => some false | .str _, .non => some false
  | .int _, .str _ => some false | .str _, .int _ => some false
  | _, _ => none
/-- Python's == -/
def eqT (s : Sto) (a b : T) : Option Bool := match eqS a b with
  | some k => some k
  | none => (match toD DEEP s a, toD DEEP s b with
    | some d, some e => some (PyData.eqv d e)
    | _, _ => none)
def oEq : T → T → Sto → OV := fun a b s => (eqT s a b).map fun k => (.bl k, s)
def oNe : T → T → Sto → OV := fun a b s => (eqT s a b).map fun k => (.bl (!k), s)
/-- is None -/
def isNon : T → Bool
  | .non => true
  | .bl _ => false | .int _ => false | .str _ => false | .tup _ => false | .frz _ => false | .loc _ => false | .ty _ => false | .glo _ => false
def oIsN : T → T → Sto → OV := fun a b s => match b with
  | .non => some (.bl (isNon a), s)
  | _ => none
def oNotN : T → T → Sto → OV := fun a b s => match b with
  | .non => some (.bl (!isNon a), s)
  | _ => none
section
variable {X : Cx}
theorem eqS_of {K : PySem.W.Frag} {mg : Str → Option Value} {L : List Addr} {H : Hp} {x y : V} {a b : T} {k : Bool} (d1 : D K mg L H x a) (d2 : D K mg L H y b) (h : eqS a b = some k) : scal x y = true ∧ decide (x = y) = k := by
  cases d1 <;> cases d2 <;> simp [eqS] at h <;> subst h <;> simp [scal]
theorem f_eq (hu : X.A.units + 64 < cLine) : OpF X (compareOp .Eq) oEq := .of fun L s t1 t2 x y H Q hR d1 d2 hp => by
  unfold oEq eqT at hp
  cases e : eqS t1 t2 with
  | some k =>
    rw [e] at hp
    obtain ⟨h1, h2⟩ := eqS_of d1 d2 e
    exact ⟨_, op_eq, h1, by rw [h2]; exact hp.here hR (.bl _)⟩
  | none =>
    rw [e] at hp
    cases e1 : toD DEEP s t1 with
    | none => rw [e1] at hp; exact hp.elim
    | some d =>
      cases e2 : toD DEEP s t2 with
      | none => rw [e1, e2] at hp; exact hp.elim
      | some d' =>
        rw [e1, e2] at hp
        exact ⟨_, op_eqD hu, d, d', toD_dp hR _ _ _ _ e1 d1, toD_dp hR _ _ _ _ e2 d2, toD_shaped e1, toD_shaped e2, hp.here hR (.bl _)⟩
theorem f_ne (hu : X.A.units + 64 < cLine) : OpF X (compareOp .NotEq) oNe := .of fun L s t1 t2 x y H Q hR d1 d2 hp => by
  unfold oNe eqT at hp
  cases e : eqS t1 t2 with
  | some k =>
    rw [e] at hp
    obtain ⟨h1, h2⟩ := eqS_of d1 d2 e
    exact ⟨_, op_ne, h1, by rw [h2]; exact hp.here hR (.bl _)⟩
  | none =>
    rw [e] at hp
    cases e1 : toD DEEP s t1 with
    | none => rw [e1] at hp; exact hp.elim
    | some d =>
      cases e2 : toD DEEP s t2 with
      | none => rw [e1, e2] at hp; exact hp.elim
      | some d' =>
        rw [e1, e2] at hp
        exact ⟨_, op_neD hu, d, d', toD_dp hR _ _ _ _ e1 d1, toD_dp hR _ _ _ _ e2 d2, toD_shaped e1, toD_shaped e2, hp.here hR (.bl _)⟩
theorem isN_of {K : PySem.W.Frag} {mg : Str → Option Value} {L : List Addr} {H : Hp} {x : V} {a : T} (d1 : D K mg L H x a) : decide (x = .non) = isNon a := by
  cases d1 <;> simp [isNon]
theorem f_isN : OpF X (compareOp .Is) oIsN := .of fun L s t1 t2 x y H Q hR d1 d2 hp => by
  cases t2 with
  | non => cases d2.nonE; exact ⟨_, op_isN, rfl, by rw [isN_of d1]; exact hp.here hR (.bl _)⟩
  | _ => exact hp.elim
theorem f_notN : OpF X (compareOp .IsNot) oNotN := .of fun L s t1 t2 x y H Q hR d1 d2 hp => by
  cases t2 with
  | non =>
    cases d2.nonE
    refine ⟨_, op_notN, rfl, ?_⟩
    rw [isN_of d1]; exact hp.here hR (.bl _)
  | _ => exact hp.elim

/-! ### in -/
def flatT : T → Bool
  | .non => true | .bl _ => true | .int _ => true | .str _ => true | _ => false
/-- y == x of flat things -/
def eqF : T → T → Bool
  | .non, .non => true
  | .bl a, .bl b => a == b
  | .bl a, .int b => (if a then 1 else 0) == b
  | .int a, .bl b => a == (if b then 1 else 0)
  | .int a, .int b => a == b
  | .str a, .str b => a == b
  | _, _ => false
def itemsT (s : Sto) : T → Option (List T)
  | .tup ts => some ts
  | .frz ts => some ts
  | .loc n => (match s.get n with | some (.lst ts) => some ts | _ => none)
  | _ => none
def inT (s : Sto) (a b : T) : Option Bool := match b with
  | .str z => (match a with
    | .str x => if x.cps.size = 1 then some (decide (x.cps.getD 0 0 ∈ z.cps.toList)) else none
    | _ => none)
  | b => (match itemsT s b with
    | some ts => if flatT a && ts.all flatT then some (ts.any fun y => eqF y a) else none
    | none => none)
def oIn : T → T → Sto → OV := fun a b s => (inT s a b).map fun k => (.bl k, s)
def oNotIn : T → T → Sto → OV := fun a b s => (inT s a b).map fun k => (.bl (!k), s)
theorem D.flat {K : PySem.W.Frag} {mg : Str → Option Value} {L : List Addr} {H : Hp} {x : V} {a : T} (d : D K mg L H x a) (h : flatT a = true) : flatV x = true := by
  cases d <;> first | rfl | simp [flatT] at h
theorem Ds.flat {K : PySem.W.Frag} {mg : Str → Option Value} {L : List Addr} {H : Hp} : ∀ {xs : List V} {ts : List T}, Ds K mg L H xs ts → ts.all flatT = true → xs.all flatV = true
  | _, _, .nil, _ => rfl
  | _, _, .cons d r, h => by
    simp only [List.all_cons, Bool.and_eq_true] at h ⊢
    exact ⟨d.flat h.1, Ds.flat r h.2⟩
theorem eqF_of {K : PySem.W.Frag} {mg : Str → Option Value} {L : List Addr} {H : Hp} {x y : V} {a b : T} (d1 : D K mg L H x a) (d2 : D K mg L H y b) : eqV x y = eqF a b := by
  cases d1 <;> cases d2 <;> rfl
theorem inV_of {K : PySem.W.Frag} {mg : Str → Option Value} {L : List Addr} {H : Hp} {x : V} {a : T} (d1 : D K mg L H x a) : ∀ {xs : List V} {ts : List T}, Ds K mg L H xs ts → inV x xs = ts.any fun y => eqF y a
  | _, _, .nil => rfl
  | _, _, .cons d r => by
    have ih := inV_of d1 r
    unfold inV at ih ⊢
    rw [List.any_cons, List.any_cons, ih, eqF_of d d1]
theorem items_of {L : List Addr} {s : Sto} {H : Hp} {v : V} {t : T} {ts : List T} (hR : Rl X.K X.mg L s H) (d : D X.K X.mg L H v t) (h : itemsT s t = some ts) : ∃ p vs, v = .ref p ∧ (SqL X.K H p vs ∨ SqT X.K H p vs) ∧ Ds X.K X.mg L H vs ts := by
  cases t with
  | tup us => simp [itemsT] at h; subst h; obtain ⟨a, vs, rfl, h1, h2⟩ := d.tupE; exact ⟨a, vs, rfl, .inr h1.sq, h2⟩
  | frz us => simp [itemsT] at h; subst h; obtain ⟨a, vs, rfl, h1, h2⟩ := d.frzE; exact ⟨a, vs, rfl, .inl h1.sq, h2⟩
  | loc n =>
    simp only [itemsT] at h
    split at h
    · rename_i us e
      cases h
      obtain ⟨a, vs, rfl, _, h1, h2⟩ := D.lstE hR d e
      exact ⟨a, vs, rfl, .inl (.inl (.inl h1)), h2⟩
    · cases h
  | _ => simp [itemsT] at h
theorem sign_of {x : Str} (h : x.cps.size = 1) : x = ⟨#[x.cps.getD 0 0]⟩ := by
  obtain ⟨⟨l⟩⟩ := x
  match l, h with
  | [c], _ => rfl
theorem f_in : OpF X (compareOp .In) oIn := .of fun L s t1 t2 x y H Q hR d1 d2 hp => by
  have seq : ∀ ts, itemsT s t2 = some ts → (flatT t1 && ts.all flatT) = true → PostV X.K X.mg L H Q (some (.bl (ts.any fun y => eqF y t1), s)) → ∃ r, OpR X (compareOp .In) r ∧ r x y H Q := fun ts e hf hp => by
    obtain ⟨p, vs, rfl, h1, h2⟩ := items_of hR d2 e
    obtain ⟨f1, f2⟩ := Bool.and_eq_true_iff.mp hf
    exact ⟨_, op_in_seq, p, vs, rfl, h1, d1.flat f1, h2.flat f2, by rw [if_neg Bool.false_ne_true, inV_of d1 h2]; exact hp.here hR (.bl _)⟩
  unfold oIn inT at hp
  split at hp
  · rename_i z
    split at hp
    · rename_i c
      split at hp
      · rename_i hc
        cases d1.strE; cases d2.strE
        exact ⟨_, op_in_sign, _, z, congrArg V.str (sign_of hc), rfl, hp.here hR (.bl _)⟩
      · exact hp.elim
    · exact hp.elim
  · split at hp
    · rename_i ts e
      split at hp
      · rename_i hf; exact seq ts e hf hp
      · exact hp.elim
    · exact hp.elim
theorem f_notIn : OpF X (compareOp .NotIn) oNotIn := .of fun L s t1 t2 x y H Q hR d1 d2 hp => by
  have seq : ∀ ts, itemsT s t2 = some ts → (flatT t1 && ts.all flatT) = true → PostV X.K X.mg L H Q (some (.bl (!(ts.any fun y => eqF y t1)), s)) → ∃ r, OpR X (compareOp .NotIn) r ∧ r x y H Q := fun ts e hf hp => by
    obtain ⟨p, vs, rfl, h1, h2⟩ := items_of hR d2 e
    obtain ⟨f1, f2⟩ := Bool.and_eq_true_iff.mp hf
    exact ⟨_, op_notIn_seq, p, vs, rfl, h1, d1.flat f1, h2.flat f2, by rw [if_pos rfl, inV_of d1 h2]; exact hp.here hR (.bl _)⟩
  unfold oNotIn inT at hp
  split at hp
  · rename_i z
    split at hp
    · rename_i c
      split at hp
      · rename_i hc
        cases d1.strE; cases d2.strE
        exact ⟨_, op_notIn_sign, _, z, congrArg V.str (sign_of hc), rfl, hp.here hR (.bl _)⟩
      · exact hp.elim
    · exact hp.elim
  · split at hp
    · rename_i ts e
      split at hp
      · rename_i hf; exact seq ts e hf hp
      · exact hp.elim
    · exact hp.elim

/-! ### len, isinstance, small built-ins -/
def lenT (s : Sto) : T → Option Int
  | .str x => if x.length ≤ sizeLine then some x.length else none
  | t => (itemsT s t).map fun ts => (ts.length : Int)
def fLen : List T → Sto → OV
  | [t], s => (lenT s t).map fun n => (.int n, s)
  | _, _ => none
theorem f_len : CallF X (.builtin "len") fLen := .of fun L s ts vs H Q hR d hp => by
  match ts, hp with
  | [t], hp =>
    cases d with
    | cons d1 q =>
      cases q
      rename_i v
      simp only [fLen] at hp
      by_cases hs : ∃ x, t = .str x
      · obtain ⟨x, rfl⟩ := hs
        simp only [lenT] at hp
        split at hp
        · rename_i hz
          cases d1.strE
          exact ⟨_, call_len_str, x, rfl, hz, hp.here hR (.int _)⟩
        · exact hp.elim
      · have e : lenT s t = (itemsT s t).map fun ts => (ts.length : Int) := by
          cases t <;> first | rfl | exact absurd ⟨_, rfl⟩ hs
        rw [e] at hp
        cases e2 : itemsT s t with
        | none => rw [e2] at hp; exact hp.elim
        | some us =>
          rw [e2] at hp
          obtain ⟨p, vs, rfl, h1, h2⟩ := items_of hR d1 e2
          exact ⟨_, call_len_seq, p, vs, rfl, h1, by rw [h2.length]; exact hp.here hR (.int _)⟩
  | [], hp => exact hp.elim
  | _ :: _ :: _, hp => exact hp.elim
/-- a built-in type's name -/
def tyOf (s : Sto) : T → Option String
  | .non => some "NoneType" | .bl _ => some "bool" | .int _ => some "int" | .str _ => some "str" | .tup _ => some "tuple" | .frz _ => some "list"
  | .loc n => (match s.get n with | some (.lst _) => some "list" | some (.dct _) => some "dict" | _ => none)
  | _ => none
abbrev KINDS : List String := ["bool", "int", "str", "tuple", "list", "dict"]
def fIsI : List T → Sto → OV
  | [t, .ty n], s => (match tyOf s t with
    | some a => if n ∈ KINDS then some (.bl (decide (a = n) || (decide (a = "bool") && decide (n = "int"))), s) else none
    | none => none)
  | _, _ => none
theorem kit_all : ∀ a ∈ ("NoneType" :: KINDS), ∀ n ∈ KINDS, kitB a n = some (decide (a = n) || (decide (a = "bool") && decide (n = "int"))) := by decide +kernel
theorem tyX_of {L : List Addr} {s : Sto} {H : Hp} {v : V} {t : T} {a : String} (hR : Rl X.K X.mg L s H) (d : D X.K X.mg L H v t) (h : tyOf s t = some a) : TyX X.K H v (.type a) ∧ a ∈ ("NoneType" :: KINDS) := by
  cases t with
  | non => simp [tyOf] at h; subst h; cases d.nonE; exact ⟨.base .non, by decide⟩
  | bl b => simp [tyOf] at h; subst h; cases d.blE; exact ⟨.base (.bl b), by decide⟩
  | int i => simp [tyOf] at h; subst h; cases d.intE; exact ⟨.base (.int i), by decide⟩
  | str i => simp [tyOf] at h; subst h; cases d.strE; exact ⟨.base (.str i), by decide⟩
  | tup ts =>
    simp [tyOf] at h; subst h
    obtain ⟨p, vs, rfl, h1, _⟩ := d.tupE
    refine ⟨?_, by decide⟩
    rcases h1 with h1 | ⟨o, its, n, h1, h2, _⟩
    · exact .base (.tup h1)
    · exact .kTuple h1 h2
  | frz ts =>
    simp [tyOf] at h; subst h
    obtain ⟨p, vs, rfl, h1, _⟩ := d.frzE
    refine ⟨?_, by decide⟩
    rcases h1 with ⟨o, h1⟩ | ⟨o, its, n, h1, h2, _⟩
    · exact .base (.frz h1)
    · exact .kList h1 h2
  | loc n =>
    simp only [tyOf] at h
    split at h
    · rename_i ts e
      cases h
      obtain ⟨p, vs, rfl, _, h1, _⟩ := D.lstE hR d e
      exact ⟨.base (.lst h1), by decide⟩
    · rename_i kvs e
      cases h
      obtain ⟨p, rfl, e1⟩ := d.locE
      obtain ⟨q, h1, kvs', h2, _⟩ := hR.get e
      rw [e1] at h1; cases h1
      exact ⟨.base (.dK h2), by decide⟩
    · cases h
  | ty n => simp [tyOf] at h
  | glo n => simp [tyOf] at h
theorem f_isI : CallF X (.builtin "isinstance") fIsI := .of fun L s ts vs H Q hR d hp => by
  unfold fIsI at hp
  split at hp
  · rename_i t n
    split at hp
    · rename_i a e
      split at hp
      · rename_i hn
        cases d with
        | cons d1 q =>
          cases q with
          | cons d2 q =>
            cases q
            obtain ⟨h1, h2⟩ := tyX_of hR d1 e
            cases d2
            exact ⟨_, call_isi, _, _, _, _, _, rfl, .ty n, h1, kit_ty (kit_all a h2 n hn), hp.here hR (.bl _)⟩
      · exact hp.elim
    · exact hp.elim
  · exact hp.elim
/-- one argument -/
theorem one_of {L : List Addr} {H : Hp} {vs : List V} {t : T} (d : Ds X.K X.mg L H vs [t]) : ∃ v, vs = [v] ∧ D X.K X.mg L H v t := by
  cases d with | cons d1 q => cases q; exact ⟨_, rfl, d1⟩
theorem two_of {L : List Addr} {H : Hp} {vs : List V} {t u : T} (d : Ds X.K X.mg L H vs [t, u]) : ∃ v w, vs = [v, w] ∧ D X.K X.mg L H v t ∧ D X.K X.mg L H w u := by
  cases d with | cons d1 q => cases q with | cons d2 q => cases q; exact ⟨_, _, rfl, d1, d2⟩
def fAbs : List T → Sto → OV
  | [.int i], s => some (.int (if i < 0 then -i else i), s)
  | _, _ => none
theorem f_abs : CallF X (.builtin "abs") fAbs := .of fun L s ts vs H Q hR d hp => by
  unfold fAbs at hp
  split at hp
  · obtain ⟨v, rfl, d1⟩ := one_of d
    cases d1.intE
    exact ⟨_, call_abs, _, rfl, hp.here hR (.int _)⟩
  · exact hp.elim
def fMin2 : List T → Sto → OV
  | [.int i, .int j], s => some (.int (if j < i then j else i), s)
  | _, _ => none
def fMax2 : List T → Sto → OV
  | [.int i, .int j], s => some (.int (if j > i then j else i), s)
  | _, _ => none
theorem f_min2 (hc : X.calm = true) : CallF X (.builtin "min") fMin2 := .of fun L s ts vs H Q hR d hp => by
  unfold fMin2 at hp
  split at hp
  · obtain ⟨v, w, rfl, d1, d2⟩ := two_of d
    cases d1.intE; cases d2.intE
    exact ⟨_, call_min2 hc, _, _, rfl, hp.here hR (.int _)⟩
  · exact hp.elim
theorem f_max2 (hc : X.calm = true) : CallF X (.builtin "max") fMax2 := .of fun L s ts vs H Q hR d hp => by
  unfold fMax2 at hp
  split at hp
  · obtain ⟨v, w, rfl, d1, d2⟩ := two_of d
    cases d1.intE; cases d2.intE
    exact ⟨_, call_max2 hc, _, _, rfl, hp.here hR (.int _)⟩
  · exact hp.elim
def fInt : List T → Sto → OV
  | [.int i], s => some (.int i, s)
  | [.bl k], s => some (.int (if k then 1 else 0), s)
  | [.str a], s => (match PySem.intText? a with
    | some n => if a.length ≤ 640 then some (.int n, s) else none
    | none => none)
  | _, _ => none
theorem f_int : CallF X (.type "int") fInt := .of fun L s ts vs H Q hR d hp => by
  unfold fInt at hp
  split at hp
  · obtain ⟨v, rfl, d1⟩ := one_of d
    cases d1.intE
    exact ⟨_, call_int1, .inl ⟨_, rfl, hp.here hR (.int _)⟩⟩
  · obtain ⟨v, rfl, d1⟩ := one_of d
    cases d1.blE
    exact ⟨_, call_int1, .inr ⟨_, rfl, hp.here hR (.int _)⟩⟩
  · obtain ⟨v, rfl, d1⟩ := one_of d
    cases d1.strE
    split at hp
    · rename_i n e
      split at hp
      · rename_i hz; exact ⟨_, call_int_str, _, n, rfl, e, hz, hp.here hR (.int _)⟩
      · exact hp.elim
    · exact hp.elim
  · exact hp.elim
def fStr : List T → Sto → OV
  | [.int i], s => if okN i then some (.str (toString i), s) else none
  | [.str a], s => some (.str a, s)
  | _, _ => none
theorem f_str : CallF X (.type "str") fStr := .of fun L s ts vs H Q hR d hp => by
  unfold fStr at hp
  split at hp
  · split at hp
    · rename_i hz
      obtain ⟨v, rfl, d1⟩ := one_of d
      cases d1.intE
      exact ⟨_, call_str_int, _, rfl, Nat.lt_trans (okN_log hz) (by decide), hp.here hR (.str _)⟩
    · exact hp.elim
  · obtain ⟨v, rfl, d1⟩ := one_of d
    cases d1.strE
    exact ⟨_, SkE.call_str_str, _, rfl, hp.here hR (.str _)⟩
  · exact hp.elim
def fTup : List T → Sto → OV
  | [t], s => (itemsT s t).map fun ts => (.tup ts, s)
  | _, _ => none
def hTup : List T → Sto → OV := fun ts s => some (.tup ts, s)
theorem f_tup : CallF X (.type "tuple") fTup := .of fun L s ts vs H Q hR d hp => by
  unfold fTup at hp
  split at hp
  · rename_i t
    obtain ⟨v, rfl, d1⟩ := one_of d
    cases e : itemsT s t with
    | none => rw [e] at hp; exact hp.elim
    | some us =>
      rw [e] at hp
      by_cases ht : ∃ ws, t = .tup ws
      · obtain ⟨ws, rfl⟩ := ht
        simp [itemsT] at e
        subst e
        obtain ⟨p, vs, rfl, h1, h2⟩ := d1.tupE
        exact ⟨_, call_tuple_of, p, vs, rfl, .inr ⟨h1.sq, hp.here hR (.tup h1 h2)⟩⟩
      · obtain ⟨p, vs, rfl, h1, h2⟩ := items_of hR d1 e
        rcases h1 with h1 | h1
        · exact ⟨_, call_tuple_of, p, vs, rfl, .inl ⟨h1, fun l hl => hp.newTup hR h2 hl⟩⟩
        · cases t with
          | tup ws => exact absurd ⟨ws, rfl⟩ ht
          | frz ws =>
            obtain ⟨p', vs', e1, h3, h4⟩ := d1.frzE
            cases e1
            simp [itemsT] at e; subst e
            exact ⟨_, call_tuple_of, p, vs', rfl, .inl ⟨h3.sq, fun l hl => hp.newTup hR h4 hl⟩⟩
          | loc n =>
            simp only [itemsT] at e
            split at e
            · rename_i us' e2
              cases e
              obtain ⟨p', vs', e1, _, h3, h4⟩ := D.lstE hR d1 e2
              cases e1
              exact ⟨_, call_tuple_of, p, vs', rfl, .inl ⟨.inl (.inl h3), fun l hl => hp.newTup hR h4 hl⟩⟩
            · cases e
          | _ => simp [itemsT] at e
  · exact hp.elim
theorem c_tup : CallTmp X (.type "tuple") hTup := ⟨_, call_tuple_of, fun p L s H vs ts Q hR hl np hz d hp => ⟨p, vs, rfl, .inl ⟨.inl (.inl hl), fun l hn => hp.newTup hR d hn⟩⟩⟩
def fList : List T → Sto → OV
  | [t], s => (itemsT s t).map fun ts => (.loc s.len, s.add (.lst ts))
  | _, _ => none
theorem f_list : CallF X (.type "list") fList := .of fun L s ts vs H Q hR d hp => by
  unfold fList at hp
  split at hp
  · rename_i t
    obtain ⟨v, rfl, d1⟩ := one_of d
    cases e : itemsT s t with
    | none => rw [e] at hp; exact hp.elim
    | some us =>
      rw [e] at hp
      obtain ⟨p, vs, rfl, h1, h2⟩ := items_of hR d1 e
      exact ⟨_, call_list_of, p, vs, rfl, h1, fun l hl => hp.newLst hR h2 hl⟩
  · exact hp.elim
def bls? : List T → Option (List Bool)
  | [] => some []
  | .bl b :: r => (bls? r).map (b :: ·)
  | _ => none
def ints? : List T → Option (List Int)
  | [] => some []
  | .int b :: r => (ints? r).map (b :: ·)
  | _ => none
def strs? : List T → Option (List Str)
  | [] => some []
  | .str b :: r => (strs? r).map (b :: ·)
  | _ => none
theorem bls_of {K : PySem.W.Frag} {mg : Str → Option Value} {L : List Addr} {H : Hp} : ∀ {vs : List V} {ts : List T} {bs : List Bool}, Ds K mg L H vs ts → bls? ts = some bs → vs = bs.map V.bl
  | _, _, _, .nil, h => by simp [bls?] at h; subst h; rfl
  | _, _, _, .cons (t := .bl b) d r, h => by
    simp only [bls?] at h
    obtain ⟨cs, e, rfl⟩ := Option.map_eq_some_iff.mp h
    rw [bls_of r e, d.blE]; rfl
theorem ints_of {K : PySem.W.Frag} {mg : Str → Option Value} {L : List Addr} {H : Hp} : ∀ {vs : List V} {ts : List T} {bs : List Int}, Ds K mg L H vs ts → ints? ts = some bs → vs = bs.map V.int
  | _, _, _, .nil, h => by simp [ints?] at h; subst h; rfl
  | _, _, _, .cons (t := .int b) d r, h => by
    simp only [ints?] at h
    obtain ⟨cs, e, rfl⟩ := Option.map_eq_some_iff.mp h
    rw [ints_of r e, d.intE]; rfl
theorem strs_of {K : PySem.W.Frag} {mg : Str → Option Value} {L : List Addr} {H : Hp} : ∀ {vs : List V} {ts : List T} {bs : List Str}, Ds K mg L H vs ts → strs? ts = some bs → vs = bs.map V.str
  | _, _, _, .nil, h => by simp [strs?] at h; subst h; rfl
  | _, _, _, .cons (t := .str b) d r, h => by
    simp only [strs?] at h
    obtain ⟨cs, e, rfl⟩ := Option.map_eq_some_iff.mp h
    rw [strs_of r e, d.strE]; rfl
def hAll : List T → Sto → OV := fun ts s => (bls? ts).map fun bs => (.bl (bs.all id), s)
def hAny : List T → Sto → OV := fun ts s => (bls? ts).map fun bs => (.bl (bs.any id), s)
def hSum : List T → Sto → OV := fun ts s => (ints? ts).map fun bs => (.int bs.sum, s)
def hLen : List T → Sto → OV := fun ts s => some (.int ts.length, s)
theorem c_all (hc : X.calm = true) : CallTmp X (.builtin "all") hAll := ⟨_, cr_all hc, fun p L s H vs ts Q hR hl np hz d hp => by
  unfold hAll at hp
  cases e : bls? ts with
  | none => rw [e] at hp; exact hp.elim
  | some bs =>
    rw [e] at hp
    have ev := bls_of d e
    subst ev
    exact ⟨p, bs, rfl, .inl (.inl hl), hp.here hR (.bl _)⟩⟩
theorem c_any (hc : X.calm = true) : CallTmp X (.builtin "any") hAny := ⟨_, cr_any hc, fun p L s H vs ts Q hR hl np hz d hp => by
  unfold hAny at hp
  cases e : bls? ts with
  | none => rw [e] at hp; exact hp.elim
  | some bs =>
    rw [e] at hp
    have ev := bls_of d e
    subst ev
    exact ⟨p, bs, rfl, .inl (.inl hl), hp.here hR (.bl _)⟩⟩
theorem c_sum (hc : X.calm = true) : CallTmp X (.builtin "sum") hSum := ⟨_, cr_sum hc, fun p L s H vs ts Q hR hl np hz d hp => by
  unfold hSum at hp
  cases e : ints? ts with
  | none => rw [e] at hp; exact hp.elim
  | some bs =>
    rw [e] at hp
    have ev := ints_of d e
    subst ev
    exact ⟨p, bs, rfl, .inl (.inl hl), hp.here hR (.int _)⟩⟩
theorem c_len : CallTmp X (.builtin "len") hLen := ⟨_, call_len_seq, fun p L s H vs ts Q hR hl np hz d hp => ⟨p, vs, rfl, .inl (.inl (.inl hl)), by rw [d.length]; exact hp.here hR (.int _)⟩⟩
/-- the greatest, the least of some ints -/
def maxL : List Int → Option Int
  | [] => none
  | a :: r => some (r.foldl max a)
def minL : List Int → Option Int
  | [] => none
  | a :: r => some (r.foldl min a)
def hMax : List T → Sto → OV := fun ts s => (match ints? ts with | some ns => (maxL ns).map fun m => (.int m, s) | none => none)
def hMin : List T → Sto → OV := fun ts s => (match ints? ts with | some ns => (minL ns).map fun m => (.int m, s) | none => none)
theorem foldl_max (a : Int) (r : List Int) : r.foldl max a ∈ a :: r ∧ ∀ y ∈ a :: r, y ≤ r.foldl max a := by
  induction r generalizing a with
  | nil => simp
  | cons b r ih =>
    simp only [List.foldl_cons]
    obtain ⟨h1, h2⟩ := ih (max a b)
    refine ⟨?_, fun y hy => ?_⟩
    · rcases List.mem_cons.mp h1 with h | h
      · rw [h]
        by_cases hab : a ≤ b
        · rw [Int.max_eq_right hab]; simp
        · rw [Int.max_eq_left (by omega)]; simp
      · exact List.mem_cons_of_mem _ (List.mem_cons_of_mem _ h)
    · have h3 := h2 (max a b) List.mem_cons_self
      rcases List.mem_cons.mp hy with rfl | hy
      · omega
      · rcases List.mem_cons.mp hy with rfl | hy
        · omega
        · exact h2 y (List.mem_cons_of_mem _ hy)
theorem foldl_min (a : Int) (r : List Int) : r.foldl min a ∈ a :: r ∧ ∀ y ∈ a :: r, r.foldl min a ≤ y := by
  induction r generalizing a with
  | nil => simp
  | cons b r ih =>
    simp only [List.foldl_cons]
    obtain ⟨h1, h2⟩ := ih (min a b)
    refine ⟨?_, fun y hy => ?_⟩
    · rcases List.mem_cons.mp h1 with h | h
      · rw [h]
        by_cases hab : a ≤ b
        · rw [Int.min_eq_left hab]; simp
        · rw [Int.min_eq_right (by omega)]; simp
      · exact List.mem_cons_of_mem _ (List.mem_cons_of_mem _ h)
    · have h3 := h2 (min a b) List.mem_cons_self
      rcases List.mem_cons.mp hy with rfl | hy
      · omega
      · rcases List.mem_cons.mp hy with rfl | hy
        · omega
        · exact h2 y (List.mem_cons_of_mem _ hy)
theorem c_max (hc : X.calm = true) : CallTmp X (.builtin "max") hMax := ⟨_, cr_max hc, fun p L s H vs ts Q hR hl np hz d hp => by
  unfold hMax at hp
  split at hp
  · rename_i ns e
    have ev := ints_of d e
    subst ev
    match ns, hp with
    | [], hp => exact hp.elim
    | a :: r, hp =>
      obtain ⟨h1, h2⟩ := foldl_max a r
      refine ⟨p, a :: r, rfl, .inl (.inl hl), Nat.succ_pos _, fun m hm hy => ?_⟩
      have em : m = r.foldl max a := by have := hy _ h1; have := h2 _ hm; omega
      rw [em]; exact hp.here hR (.int _)
  · exact hp.elim⟩
theorem c_min (hc : X.calm = true) : CallTmp X (.builtin "min") hMin := ⟨_, cr_min hc, fun p L s H vs ts Q hR hl np hz d hp => by
  unfold hMin at hp
  split at hp
  · rename_i ns e
    have ev := ints_of d e
    subst ev
    match ns, hp with
    | [], hp => exact hp.elim
    | a :: r, hp =>
      obtain ⟨h1, h2⟩ := foldl_min a r
      refine ⟨p, a :: r, rfl, .inl (.inl hl), Nat.succ_pos _, fun m hm hy => ?_⟩
      have em : m = r.foldl min a := by have := hy _ h1; have := h2 _ hm; omega
      rw [em]; exact hp.here hR (.int _)
  · exact hp.elim⟩
end
end Fx

set_option maxRecDepth 100000
set_option maxHeartbeats 2000000
/-! Fx: subscripts, slices, stores, dicts, methods of built-in types, texts. -/
namespace Fx
open PySem L2 PyProof.Rows

/-! ### dicts -/
def dGet : List (Key × T) → Key → Option T
  | [], _ => none
  | (q, t) :: r, k => if q = k then some t else dGet r k
def dHas (kvs : List (Key × T)) (k : Key) : Bool := (dGet kvs k).isSome
def dPut (kvs : List (Key × T)) (k : Key) (v : T) : List (Key × T) :=
  if dHas kvs k = true then kvs.map (fun kv => if kv.1 = k then (kv.1, v) else kv) else kvs ++ [(k, v)]
def keyT : T → Option Key
  | .int i => some (.inl i)
  | .str x => some (.inr x)
  | _ => none
section
variable {K : PySem.W.Frag} {mg : Str → Option Value} {L : List Addr} {H : Hp} {s : Sto}
theorem Kvs.get {kvs' : List (Key × V)} {kvs : List (Key × T)} (q : Kvs K mg L H kvs' kvs) (k : Key) : (valV kvs' k = none ∧ dGet kvs k = none) ∨ ∃ v t, valV kvs' k = some v ∧ dGet kvs k = some t ∧ D K mg L H v t := by
  obtain ⟨h1, h2⟩ := q
  induction kvs generalizing kvs' with
  | nil =>
    cases kvs' with
    | nil => exact .inl ⟨rfl, rfl⟩
    | cons p r => simp at h1
  | cons p r ih =>
    cases kvs' with
    | nil => simp at h1
    | cons p' r' =>
      obtain ⟨k1, t1⟩ := p
      obtain ⟨k2, v2⟩ := p'
      simp only [List.map_cons, List.cons.injEq] at h1 h2
      obtain ⟨rfl, h1⟩ := h1
      cases h2 with
      | cons d1 d2 =>
        by_cases hk : k2 = k
        · refine .inr ⟨v2, t1, ?_, ?_, d1⟩
          · simp [valV, hk]
          · simp [dGet, hk]
        · have e1 : valV ((k2, v2) :: r') k = valV r' k := by simp [valV, hk]
          have e2 : dGet ((k2, t1) :: r) k = dGet r k := by simp [dGet, hk]
          rw [e1, e2]
          exact ih h1 d2
theorem Kvs.put {kvs' : List (Key × V)} {kvs : List (Key × T)} (q : Kvs K mg L H kvs' kvs) {v : V} {t : T} (d : D K mg L H v t) (k : Key) : Kvs K mg L H (putK kvs' k v) (dPut kvs k t) := by
  have hany : (kvs'.any fun kv => decide (kv.1 = k)) = dHas kvs k := by
    rw [valV_any]
    unfold dHas
    rcases q.get k with ⟨e1, e2⟩ | ⟨_, _, e1, e2, _⟩ <;> rw [e1, e2] <;> rfl
  unfold putK dPut
  rw [hany]
  obtain ⟨h1, h2⟩ := q
  split
  · next hh =>
    clear hany hh
    induction kvs generalizing kvs' with
    | nil =>
      cases kvs' with
      | nil => exact ⟨rfl, .nil⟩
      | cons p r => simp at h1
    | cons p r ih =>
      cases kvs' with
      | nil => simp at h1
      | cons p' r' =>
        obtain ⟨k1, t1⟩ := p
        obtain ⟨k2, v2⟩ := p'
        simp only [List.map_cons, List.cons.injEq] at h1 h2
        obtain ⟨rfl, h1⟩ := h1
        cases h2 with
        | cons d1 d2 =>
          obtain ⟨i1, i2⟩ := ih h1 d2
          refine ⟨?_, ?_⟩
          · simp only [List.map_cons]
            rw [i1]
            by_cases hk : k2 = k <;> simp [hk]
          · simp only [List.map_cons]
            by_cases hk : k2 = k
            · simp only [hk, if_true]; exact .cons d i2
            · simp only [hk, if_false]; exact .cons d1 i2
  · exact ⟨by simp [h1], by simp only [List.map_append, List.map_cons, List.map_nil]; exact h2.app (.cons d .nil)⟩
theorem keyT_of {v : V} {t : T} {k : Key} (d : D K mg L H v t) (h : keyT t = some k) : v = kV k := by
  cases t <;> simp [keyT] at h <;> subst h
  · rw [d.intE]; rfl
  · rw [d.strE]; rfl
end

section
variable {X : Cx} {W : WS} {N : List Str} {sc : Scope} {pos : Pos} {a b e o i : Expr} {fa fb fv : Ev} {fl : Lv} {es : List Expr}
/-! ### subscripts -/
def atT (ts : List T) (i : Int) : Option T := (ixN ts.length i).bind fun j => ts[j]?
def oIx : T → T → Sto → OV := fun x y s => match x with
  | .str z => (match y with
    | .int i => if z.length ≤ sizeLine then (atI z.cps.toList i).map fun c => (.str ⟨#[c]⟩, s) else none
    | _ => none)
  | .loc n => (match s.get n with
    | some (.lst ts) => (match y with | .int i => (atT ts i).map fun t => (t, s) | _ => none)
    | some (.dct kvs) => (match keyT y with | some k => (dGet kvs k).map fun t => (t, s) | none => none)
    | _ => none)
  | .tup ts => (match y with | .int i => (atT ts i).map fun t => (t, s) | _ => none)
  | .frz ts => (match y with | .int i => (atT ts i).map fun t => (t, s) | _ => none)
  | _ => none
theorem Ds.at {K : PySem.W.Frag} {mg : Str → Option Value} {L : List Addr} {H : Hp} {vs : List V} {ts : List T} {i : Int} {t : T} (d : Ds K mg L H vs ts) (h : atT ts i = some t) : ∃ v, atI vs i = some v ∧ D K mg L H v t := by
  unfold atT at h
  obtain ⟨j, h1, h2⟩ := Option.bind_eq_some_iff.mp h
  obtain ⟨v, h3, h4⟩ := d.get h2
  exact ⟨v, by unfold atI; rw [d.length, h1]; exact h3, h4⟩
theorem ix_dict (hu : X.A.units + 1 < cLine) : IxR X (fun x y H Q => ∃ a v, x = .ref a ∧ DGet H a y (some v) ∧ Q v H) := by
  intro value slice pins s σ H x y v u Q I rx ry h hs
  obtain ⟨a, w, rfl, g, q⟩ := h
  obtain rfl : v = Value.ref a := rx
  exact tail_any (ops := [.ref a, u]) (dict_typeIs I g) PySem.F.slot_dict_getitem.lookup (d_getItem hu I g ry fun w' s3 I3 rw' => ⟨w, H, I3, rw', q⟩) hs
theorem r_ix (hu : X.A.units + 1 < cLine) (ha : FE X W a fa) (hb : FE X W b fb) (hs : PlainIx b) : FE X W (.Subscript a b pos) (eBin oIx fa fb) := by
  refine PEw (pe_ix (ix_seq.or (ix_dict hu)) ha hb hs) fun σ H Q ⟨L, r, s, hR, hE, hp⟩ => ?_
  refine lE_bnd hR hE hp fun t1 s1 v1 L1 H1 x1 R1 E1 d1 p1 => ?_
  refine lE_bnd R1 E1 p1 fun t2 s2 v2 L2 H2 x2 R2 E2 d2 p2 => ?_
  have p3 := PostV.of p2
  have d1 := d1.mono x2
  have seq : ∀ (ts : List T) (j : Int) (p : Addr) (vs : List V), v1 = .ref p → t2 = .int j → (SqL X.K H2 p vs ∨ SqT X.K H2 p vs) → Ds X.K X.mg L2 H2 vs ts → PostV X.K X.mg L2 H2 Q ((atT ts j).map fun t => (t, s2)) →
      (rIx X.K v1 v2 H2 Q ∨ ∃ a v, v1 = .ref a ∧ DGet H2 a v2 (some v) ∧ Q v H2) := fun ts j p vs e1 e2 hq hd hp => by
    subst e1; subst e2
    cases d2.intE
    cases e : atT ts j with
    | none => rw [e] at hp; exact hp.elim
    | some t =>
      rw [e] at hp
      obtain ⟨w, h1, h2⟩ := hd.at e
      rcases hq with hq | hq
      · exact .inl (.inl ⟨p, vs, j, w, rfl, rfl, hq, h1, hp.here R2 h2⟩)
      · exact .inl (.inr (.inl ⟨p, vs, j, w, rfl, rfl, hq, h1, hp.here R2 h2⟩))
  unfold oIx at p3
  cases t1 with
  | str z =>
    cases t2 with
    | int j =>
      simp only at p3
      split at p3
      · next hz =>
        cases d1.strE; cases d2.intE
        cases e : atI z.cps.toList j with
        | none => rw [e] at p3; exact p3.elim
        | some c => rw [e] at p3; exact .inl (.inr (.inr ⟨z, j, c, rfl, rfl, hz, e, p3.here R2 (.str _)⟩))
      · exact p3.elim
    | _ => exact p3.elim
  | loc n =>
    simp only at p3
    split at p3
    · next ts e0 =>
      split at p3
      · obtain ⟨p, vs, rfl, _, h1, h2⟩ := D.lstE R2 d1 e0
        exact seq ts _ p vs rfl rfl (.inl (.inl (.inl h1))) h2 p3
      · exact p3.elim
    · next kvs e0 =>
      split at p3
      · next k ek =>
        obtain ⟨p, rfl, e1⟩ := d1.locE
        obtain ⟨q, h1, kvs', h2, h3⟩ := R2.get e0
        rw [e1] at h1; cases h1
        rcases h3.get k with ⟨_, e2⟩ | ⟨w, t, e2, e3, dd⟩
        · rw [e2] at p3; exact p3.elim
        · rw [e3] at p3
          refine .inr ⟨p, w, rfl, ?_, p3.here R2 dd⟩
          rw [keyT_of d2 ek]
          have := DGet.k (k := k) h2
          rw [e2] at this
          exact this
      · exact p3.elim
    · exact p3.elim
  | tup ts =>
    cases t2 with
    | int j =>
      obtain ⟨p, vs, rfl, h1, h2⟩ := d1.tupE
      exact seq ts _ p vs rfl rfl (.inr h1.sq) h2 p3
    | _ => exact p3.elim
  | frz ts =>
    cases t2 with
    | int j =>
      obtain ⟨p, vs, rfl, h1, h2⟩ := d1.frzE
      exact seq ts _ p vs rfl rfl (.inl h1.sq) h2 p3
    | _ => exact p3.elim
  | _ => exact p3.elim
/-- [a, b, ..][i]: a list that nobody else sees -/
def eIxL (l : Lv) (i : Ev) : Ev := fun r s => (l r s).bnd fun ts s => (i r s).bnd fun y s => match y with
  | .int j => (match atT ts j with | some t => .ok t s | none => .bad)
  | _ => .bad
theorem r_ixL (ha : FC X W a fl) (hb : FE X W b fb) (hs : PlainIx b) : FE X W (.Subscript a b pos) (eIxL fl fb) := by
  obtain ⟨t, h1, h2⟩ := ha
  refine PEw (pe_ix ix_list h1 hb hs) fun σ H Q ⟨L, r, s, hR, hE, hp⟩ => ?_
  refine h2 σ H _ L r s hR hE ?_
  unfold eIxL at hp
  cases e : fl r s with
  | exc x s1 => rw [e] at hp; exact hp
  | bad => rw [e] at hp; exact hp
  | ok ts s1 =>
    rw [e] at hp
    intro p L' H' vs x1 R1 hl np hn hz d1
    refine lE_bnd R1 (hE.mono x1) (PostE.ex hp x1) fun t2 s2 v2 L2 H2 x2 R2 E2 d2 p2 => ?_
    cases t2 with
    | int j =>
      simp only at p2
      cases e2 : atT ts j with
      | none => rw [e2] at p2; exact p2.elim
      | some t =>
        rw [e2] at p2
        obtain ⟨w, h3, h4⟩ := (d1.mono x2).at e2
        cases d2.intE
        exact ⟨p, vs, j, w, rfl, rfl, .inl (.inl (x2.frm p _ hl np)), h3, p2 w L2 H2 Ex.refl R2 h4⟩
    | _ => exact p2.elim

/-! ### slices -/
abbrev sIx := HT.sIx
def cutT (ts : List T) (lo hi : Option Int) : List T := (ts.drop (sIx ts.length 0 lo)).take (sIx ts.length ts.length hi - sIx ts.length 0 lo)
def slT (x : T) (lo hi : Option Int) (s : Sto) : OV := match x with
  | .tup ts => some (.tup (cutT ts lo hi), s)
  | .frz ts => some (.loc s.len, s.add (.lst (cutT ts lo hi)))
  | .loc n => (match s.get n with
    | some (.lst ts) => some (.loc s.len, s.add (.lst (cutT ts lo hi)))
    | _ => none)
  | .str z => if z.length ≤ sizeLine then some (.str (cutS z lo hi), s) else none
  | _ => none
/-- a part of a slice -/
abbrev Pv := Env → Sto → Option (Option Int × Sto)
def pNone : Pv := fun _ s => some (none, s)
def pSome (f : Ev) : Pv := fun r s => match f r s with | .ok (.int i) s => some (some i, s) | _ => none
def eSl (a : Ev) (lo hi : Pv) : Ev := fun r s => (a r s).bnd fun x s => match lo r s with
  | some (l, s) => (match hi r s with
    | some (h, s) => vOut (slT x l h s)
    | none => .bad)
  | none => .bad
def lP (K : PySem.W.Frag) (mg : Str → Option Value) (W : WS) (f : Pv) : TO := fun σ H Q => ∃ L r s, Rl K mg L s H ∧ Er K mg W L H σ r ∧ match f r s with
  | some (o, s') => ∀ L' H', Ex L H L' H' → Rl K mg L' s' H' → Q o H'
  | none => False
abbrev FP (X : Cx) (W : WS) (e : Option Expr) (f : Pv) : Prop := PO X e (lP X.K X.mg W f)
theorem POw {e : Option Expr} {t t' : TO} (h : PO X e t) (w : ∀ σ H Q, t' σ H Q → t σ H Q) : PO X e t' := ⟨fun p s σ H Q I q => h.run p s σ H Q I (w σ H Q q)⟩
theorem p_none : FP X W none pNone := POw po_none fun σ H Q ⟨L, r, s, hR, hE, hp⟩ => hp L H Ex.refl hR
theorem p_some (ha : FE X W a fa) : FP X W (some a) (pSome fa) := POw (po_some ha) fun σ H Q ⟨L, r, s, hR, hE, hp⟩ => by
  refine ⟨L, r, s, hR, hE, ?_⟩
  unfold pSome at hp
  cases e : fa r s with
  | ok t s1 =>
    rw [e] at hp
    cases t with
    | int i =>
      intro v L' H' x1 R1 d1
      exact ⟨i, d1.intE, hp L' H' x1 R1⟩
    | _ => exact hp.elim
  | exc x s1 => rw [e] at hp; exact hp.elim
  | bad => rw [e] at hp; exact hp.elim
theorem cutT_of {K : PySem.W.Frag} {mg : Str → Option Value} {L : List Addr} {H : Hp} {vs : List V} {ts : List T} {lo hi : Option Int} (d : Ds K mg L H vs ts) : Ds K mg L H (cutV vs lo hi) (cutT ts lo hi) := by
  unfold cutV cutT
  rw [d.length]
  exact (d.drop _).take _
theorem cutV_whole {vs : List V} {lo hi : Option Int} (h : sIx vs.length 0 lo = 0 ∧ sIx vs.length vs.length hi = vs.length) : cutV vs lo hi = vs := by
  simp only [sIx] at h
  unfold cutV
  rw [h.1, h.2]; simp
variable {lo hi : Option Expr} {fl' fh : Pv} {p2 : Pos}
theorem r_slice (ha : FE X W a fa) (hl : FP X W lo fl') (hh : FP X W hi fh) : FE X W (.Subscript a (.Slice lo hi none p2) pos) (eSl fa fl' fh) := by
  refine PEw (pe_slice ((sl_tupA.or sl_list).or sl_str) ha hl hh) fun σ H Q ⟨L, r, s, hR, hE, hp⟩ => ?_
  refine lE_bnd hR hE hp fun t1 s1 v1 L1 H1 x1 R1 E1 d1 p1 => ⟨L1, r, s1, R1, E1, ?_⟩
  cases e1 : fl' r s1 with
  | none => rw [e1] at p1; exact p1.elim
  | some q1 =>
    obtain ⟨l, s2⟩ := q1
    simp only [e1] at p1
    refine fun L2 H2 x2 R2 => ⟨L2, r, s2, R2, E1.mono x2, ?_⟩
    cases e2 : fh r s2 with
    | none => rw [e2] at p1; exact p1.elim
    | some q2 =>
      obtain ⟨h, s3⟩ := q2
      simp only [e2] at p1
      intro L3 H3 x3 R3
      have p3 := PostV.of (PostE.ex p1 (x2.trans x3))
      have d3 := d1.mono (x2.trans x3)
      unfold slT at p3
      split at p3
      · rename_i ts
        obtain ⟨p, vs, rfl, h1, h2⟩ := d3.tupE
        refine .inl (.inl ⟨p, vs, rfl, h1.sq, fun hw => ?_, fun hw q hq => p3.newTup R3 (cutT_of h2) hq⟩)
        exact p3.here R3 (.tup h1 (by
          have hc := cutT_of (lo := l) (hi := h) h2
          rw [cutV_whole hw] at hc
          exact hc))
      · rename_i ts
        obtain ⟨p, vs, rfl, h1, h2⟩ := d3.frzE
        exact .inl (.inr ⟨p, vs, rfl, h1.sq, fun q hq => p3.newLst R3 (cutT_of h2) hq⟩)
      · split at p3
        · rename_i ts e0
          obtain ⟨p, vs, rfl, _, h1, h2⟩ := D.lstE R3 d3 e0
          exact .inl (.inr ⟨p, vs, rfl, .inl (.inl h1), fun q hq => p3.newLst R3 (cutT_of h2) hq⟩)
        · exact p3.elim
      · split at p3
        · rename_i z hz
          cases d3.strE
          exact .inr ⟨z, rfl, hz, p3.here R3 (.str _)⟩
        · exact p3.elim
      · exact p3.elim
end
end Fx

set_option maxRecDepth 100000
set_option maxHeartbeats 2000000
/-! Fx: stores into lists and dicts, dict displays, methods of built-in types. -/
namespace Fx
open PySem L2 PyProof.Rows

/-! ### stores -/
def setT (x i v : T) (s : Sto) : Option Sto := match x with
  | .loc n => (match s.get n with
    | some (.lst ts) => (match i with
      | .int k => (match ixN ts.length k with | some j => some (s.put n (.lst (ts.set j v))) | none => none)
      | _ => none)
    | some (.dct kvs) => (match keyT i with
      | some k => if kvs.length < sizeLine then some (s.put n (.dct (dPut kvs k v))) else none
      | none => none)
    | _ => none)
  | _ => none
def gSubF (o i : Ev) : Gv := fun t r s => match o r s with
  | .ok x s => (match i r s with
    | .ok y s => (match setT x y t s with | some s => .nx r s | none => .bad)
    | _ => .bad)
  | _ => .bad
section
variable {X : Cx} {W : WS} {N : List Str} {sc : Scope} {pos : Pos} {a b e o i : Expr} {fa fb fv : Ev} {fl : Lv} {es : List Expr} {ws : List Nat}
/-- what a store wants -/
def rSetA : TSet := fun o i v H Q => rSetL o i v H Q ∨ rSetD o i v H Q
theorem set_any (hu : X.A.units + 1 < cLine) : PSet X rSetA := by
  intro pins s σ H o i v ov iv u Q I ro ri rv h
  rcases h with h | h
  · exact set_list pins s σ H o i v ov iv u Q I ro ri rv h
  · exact set_dict hu pins s σ H o i v ov iv u Q I ro ri rv h
theorem setT_of {K : PySem.W.Frag} {mg : Str → Option Value} {L : List Addr} {H : Hp} {s s' : Sto} {x i v : T} {vx vi vv : V} {Q : Hp → Prop} (R : Rl K mg L s H) (dx : D K mg L H vx x) (di : D K mg L H vi i) (dv : D K mg L H vv v) (h : setT x i v s = some s')
    (q : ∀ H', Ex L H L H' → Rl K mg L s' H' → Q H') : rSetA vx vi vv H Q := by
  cases x with
  | loc n =>
    simp only [setT] at h
    split at h
    · next ts e0 =>
      split at h
      · next k =>
        split at h
        · next j ej =>
          cases h
          obtain ⟨p, vs, rfl, h1, h2, h3⟩ := D.lstE R dx e0
          cases di.intE
          have ex := R.exPut (ho := .lst (vs.set j vv)) (List.mem_of_getElem? h1)
          exact .inl ⟨p, vs, k, j, rfl, rfl, h2, by rw [h3.length]; exact ej, q _ ex (R.put h1 ⟨_, upd_same, (h3.set j dv).mono ex⟩)⟩
        · cases h
      · cases h
    · next kvs e0 =>
      split at h
      · next k ek =>
        split at h
        · next hz =>
          cases h
          obtain ⟨p, rfl, e1⟩ := dx.locE
          obtain ⟨p', h1, kvs', h2, h3⟩ := R.get e0
          rw [e1] at h1; cases h1
          have hl : kvs'.length = kvs.length := by
            have := h3.2.length
            simpa using this
          have ex := R.exPut (ho := .dK (putK kvs' k vv)) (List.mem_of_getElem? e1)
          have hk := h3.put dv k
          refine .inr ⟨p, _, rfl, by rw [keyT_of di ek]; exact DPut.k h2 (by omega), q _ ex (R.put e1 ⟨_, upd_same, hk.1, hk.2.mono ex⟩)⟩
        · cases h
      · cases h
    · cases h
  | _ => simp [setT] at h
theorem g_sub (hu : X.A.units + 1 < cLine) (ha : FE X W a fa) (hb : FE X W b fb)
    (hs : ∀ v, assign (.Subscript a b pos) X.env v = (do
      let ov ← holding [v] (eval a X.env)
      let iv ← holding [v, ov] (eval b X.env)
      standAt pos
      holding [v, ov, iv] (setItem ov iv v)
      release [v, ov, iv] []) := by intro _; rfl) : FG X W ws (.Subscript a b pos) (gSubF fa fb) := by
  refine PGw (pg_sub ha hb (set_any hu) hs) fun v σ H Q ⟨L, r, s, t, hR, hE, hd, hp⟩ => ?_
  unfold gSubF at hp
  refine ⟨L, r, s, hR, hE, ?_⟩
  cases e1 : fa r s with
  | ok x s1 =>
    simp only [e1] at hp
    intro vx L1 H1 x1 R1 d1
    refine ⟨L1, r, s1, R1, hE.mono x1, ?_⟩
    cases e2 : fb r s1 with
    | ok y s2 =>
      simp only [e2] at hp
      intro vy L2 H2 x2 R2 d2
      cases e3 : setT x y t s2 with
      | some s3 =>
        rw [e3] at hp
        refine setT_of R2 (d1.mono x2) d2 (hd.mono (x1.trans x2)) e3 fun H3 x3 R3 => ?_
        exact hp σ L2 H3 ((x1.trans x2).trans x3) R3 (hE.mono ((x1.trans x2).trans x3)) rfl
      | none => rw [e3] at hp; exact hp.elim
    | exc x s2 => simp only [e2] at hp; exact hp.elim
    | bad => simp only [e2] at hp; exact hp.elim
  | exc x s1 => simp only [e1] at hp; exact hp.elim
  | bad => simp only [e1] at hp; exact hp.elim

theorem gSubF_ok : GOk (gSubF fa fb) := fun t r s => by
  unfold gSubF
  cases fa r s with
  | ok x s1 =>
    simp only
    cases fb r s1 with
    | ok y s2 =>
      simp only
      cases setT x y t s2 <;> rfl
    | _ => rfl
  | _ => rfl

/-! ### dict displays -/
/-- keys and values, one after the other -/
def lKv : List (Ev × Ev) → Env → Sto → Option (List (Key × T) × Sto)
  | [], _, s => some ([], s)
  | (k, v) :: q, r, s => match k r s with
    | .ok tk s => (match v r s with
      | .ok tv s => (match lKv q r s with
        | some (kvs, s) => (match keyT tk with | some key => some ((key, tv) :: kvs, s) | none => none)
        | none => none)
      | _ => none)
    | _ => none
def dMerge (kvs more : List (Key × T)) : List (Key × T) := more.foldl (fun acc kv => dPut acc kv.1 kv.2) kvs
def eDct (l : List (Ev × Ev)) : Ev := fun r s => match lKv l r s with
  | some (kvs, s) => if kvs.length ≤ 15 then .ok (.loc s.len) (s.add (.dct (dMerge [] kvs))) else .bad
  | none => .bad
theorem Kvs.merge {K : PySem.W.Frag} {mg : Str → Option Value} {L : List Addr} {H : Hp} : ∀ {mv : List (Key × V)} {mt : List (Key × T)} {kv : List (Key × V)} {kt : List (Key × T)}, Kvs K mg L H mv mt → Kvs K mg L H kv kt → Kvs K mg L H (mergeK kv mv) (dMerge kt mt) := by
  intro mv mt
  induction mt generalizing mv with
  | nil =>
    intro kv kt h1 h2
    obtain ⟨h1, h3⟩ := h1
    cases mv with
    | nil => exact h2
    | cons p r => simp at h1
  | cons p r ih =>
    intro kv kt h1 h2
    obtain ⟨h1, h3⟩ := h1
    cases mv with
    | nil => simp at h1
    | cons p' r' =>
      obtain ⟨k1, t1⟩ := p
      obtain ⟨k2, v2⟩ := p'
      simp only [List.map_cons, List.cons.injEq] at h1 h3
      obtain ⟨rfl, h1⟩ := h1
      cases h3 with
      | cons d1 d2 =>
        have h5 := ih (mv := r') ⟨h1, d2⟩ (h2.put d1 k2)
        exact h5
inductive FKv (X : Cx) (W : WS) (pos : Pos) : List (Option Expr) → List Expr → List (Ev × Ev) → Prop
  | nil : FKv X W pos [] [] []
  | cons {k v : Expr} {ks : List (Option Expr)} {vs : List Expr} {fk fv : Ev} {l : List (Ev × Ev)} : FE X W k fk → FE X W v fv → FKv X W pos ks vs l → FKv X W pos (some k :: ks) (v :: vs) ((fk, fv) :: l)
theorem FKv.pps {ks : List (Option Expr)} {vs : List Expr} {l : List (Ev × Ev)} (h : FKv X W pos ks vs l) : PPs X pos ks vs (l.map fun p => (lE X.K X.mg W p.1, lE X.K X.mg W p.2)) := by
  induction h with
  | nil => exact pps_nil
  | cons h1 h2 _ ih => exact pps_cons h1 h2 ih
theorem lKv_of {σ : L2.St} : ∀ {l : List (Ev × Ev)} {L : List Addr} {H : Hp} {r : Env} {s s' : Sto} {kvs : List (Key × T)} {Q : List (V × V) → Hp → Prop}, Rl X.K X.mg L s H → Er X.K X.mg W L H σ r → lKv l r s = some (kvs, s') →
    (∀ kv' L' H', Ex L H L' H' → Rl X.K X.mg L' s' H' → Kvs X.K X.mg L' H' kv' kvs → Q (kv'.map fun kv => (kV kv.1, kv.2)) H') → tPairs (l.map fun p => (lE X.K X.mg W p.1, lE X.K X.mg W p.2)) σ H Q
  | [], L, H, r, s, s', kvs, Q, R, E, h, q => by cases h; exact q [] L H Ex.refl R ⟨rfl, .nil⟩
  | (fk, fv) :: l, L, H, r, s, s', kvs, Q, R, E, h, q => by
    simp only [lKv] at h
    show lE X.K X.mg W fk σ H _
    refine ⟨L, r, s, R, E, ?_⟩
    cases e1 : fk r s with
    | ok tk s1 =>
      simp only [e1] at h
      intro vk L1 H1 x1 R1 d1
      refine ⟨L1, r, s1, R1, E.mono x1, ?_⟩
      show PostE X.K X.mg W L1 H1 σ _ (fv r s1)
      cases e2 : fv r s1 with
      | ok tv s2 =>
        simp only [e2] at h
        intro vv L2 H2 x2 R2 d2
        cases e3 : lKv l r s2 with
        | none => rw [e3] at h; cases h
        | some q3 =>
          obtain ⟨kvs3, s3⟩ := q3
          simp only [e3] at h
          cases e4 : keyT tk with
          | none => rw [e4] at h; cases h
          | some key =>
            rw [e4] at h
            cases h
            refine lKv_of R2 (E.mono (x1.trans x2)) e3 fun kv' L3 H3 x3 R3 k3 => ?_
            rw [keyT_of d1 e4]
            exact q ((key, vv) :: kv') L3 H3 ((x1.trans x2).trans x3) R3 ⟨by simp [k3.1], .cons (d2.mono x3) k3.2⟩
      | exc x s2 => simp only [e2] at h; cases h
      | bad => simp only [e2] at h; cases h
    | exc x s1 => simp only [e1] at h; cases h
    | bad => simp only [e1] at h; cases h
theorem r_dct {ks : List (Option Expr)} {vs : List Expr} {l : List (Ev × Ev)} (h : FKv X W pos ks vs l) (hall : ks.all (·.isSome) = true := by rfl) (hl : ks.length = vs.length := by rfl) (h0 : ks ≠ [] := by simp) (h15 : ks.length ≤ 15 := by decide) : FE X W (.Dict ks vs pos) (eDct l) := by
  refine PEw (pe_disp h.pps hall hl h0 h15) fun σ H Q ⟨L, r, s, hR, hE, hp⟩ => ?_
  unfold eDct at hp
  cases e : lKv l r s with
  | none => rw [e] at hp; exact hp.elim
  | some q =>
    obtain ⟨kvs, s1⟩ := q
    simp only [e] at hp
    split at hp
    · next hz =>
      intro p hn
      have R0 := hR.laid (ho := .dK []) hn
      have x0 : Ex L H L (upd H p (.dK [])) := Ex.laid hn
      refine lKv_of R0 (hE.mono x0) e fun kv' L1 H1 x1 R1 k1 => ?_
      have hp0 : p ∉ L := hR.notIn hn
      have h1 : H1 p = some (.dK []) := x1.frm p _ upd_same hp0
      have hp1 : p ∉ L1 := fun m => by
        rcases x1.new p m with m | m
        · exact hp0 m
        · rw [upd_same] at m; cases m
      refine ⟨h1, kv', rfl, by have := k1.2.length; simp only [List.length_map] at this; omega, ?_⟩
      -- the dict stands apart: it is taken as a place once it is full
      have mD : ∀ {vs ts}, Ds X.K X.mg L1 H1 vs ts → Ds X.K X.mg L1 (upd H1 p (.dK (mergeK [] kv'))) vs ts := fun {vs ts} r => r.mono' (fun _ _ h => h)
        (fun a vs h => by rw [upd_ne (fun e => by rw [e, h1] at h; cases h)]; exact h) (fun a o u h => by rw [upd_ne (fun e => by rw [e, h1] at h; cases h)]; exact h)
      have R2 : Rl X.K X.mg L1 s1 (upd H1 p (.dK (mergeK [] kv'))) := by
        refine ⟨R1.len, R1.nd, R1.kp, fun i o e => ?_, R1.ref⟩
        obtain ⟨a, h1', h2⟩ := R1.obj i o e
        have ne : a ≠ p := fun e => hp1 (e ▸ List.mem_of_getElem? h1')
        refine ⟨a, h1', ?_⟩
        cases o with
        | lst ts => obtain ⟨vs, e1, q⟩ := h2; exact ⟨vs, (upd_ne ne).trans e1, mD q⟩
        | dct kvs => obtain ⟨vs, e1, q1, q2⟩ := h2; exact ⟨vs, (upd_ne ne).trans e1, q1, mD q2⟩
        | ins C fs => obtain ⟨Ca, dx, fs', e1, e2, q1, q2⟩ := h2; exact ⟨Ca, dx, fs', (upd_ne ne).trans e1, e2, q1, mD q2⟩
      have km := Kvs.merge (kv := []) (kt := []) k1 ⟨rfl, .nil⟩
      have x2 : Ex L H L1 (upd H1 p (.dK (mergeK [] kv'))) := Ex.aside (x0.trans x1) hn
      exact hp (.ref p) (L1 ++ [p]) _ (x2.adopt hn) (R2.adopt hp1 ⟨_, upd_same, km.1, mD km.2⟩) R2.addD
    · exact hp.elim

/-! ### methods of built-in types -/
def isTy (T0 : String) (x : T) (s : Sto) : Bool := match x with
  | .str _ => decide (T0 = "str")
  | .loc n => (match s.get n with
    | some (.lst _) => decide (T0 = "list")
    | some (.dct _) => decide (T0 = "dict")
    | _ => false)
  | .frz _ => decide (T0 = "list")
  | _ => false
/-- o.m(..) -/
def eM (T0 : String) (g : T → List T → Sto → OV) (a : Ev) (l : Lv) : Ev := fun r s => (a r s).bnd fun x s => if isTy T0 x s = true then (l r s).bnd fun ts s => vOut (g x ts s) else .bad
def MtF (X : Cx) (id : String) (g : T → List T → Sto → OV) : Prop := ∃ rr, MtR X id rr ∧ ∀ L s t ts x xs H Q, Rl X.K X.mg L s H → D X.K X.mg L H x t → Ds X.K X.mg L H xs ts → PostV X.K X.mg L H Q (g t ts s) → rr x xs H Q
theorem isTy_of {K : PySem.W.Frag} {mg : Str → Option Value} {L : List Addr} {s : Sto} {H : Hp} {x : V} {t : T} {T0 : String} (hR : Rl K mg L s H) (d : D K mg L H x t) (h : isTy T0 t s = true) : tyV K T0 x H := by
  cases t with
  | str z =>
    cases d
    have h1 : T0 = "str" := of_decide_eq_true h
    exact h1
  | frz ts =>
    obtain ⟨a, vs, rfl, h1, h2⟩ := d.frzE
    exact .inl ⟨of_decide_eq_true h, vs, h1.sq⟩
  | loc n =>
    simp only [isTy] at h
    split at h
    · next ts e0 =>
      obtain ⟨p, vs, rfl, h1, h2, h3⟩ := D.lstE hR d e0
      exact .inl ⟨of_decide_eq_true h, vs, .inl (.inl h2)⟩
    · next kvs e0 =>
      obtain ⟨p, rfl, e1⟩ := d.locE
      obtain ⟨p', h1, kvs', h2, h3⟩ := hR.get e0
      rw [e1] at h1; cases h1
      exact .inr (.inr (.inl ⟨of_decide_eq_true h, .inl ⟨_, h2⟩⟩))
    · simp at h
  | _ => simp [isTy] at h
variable {name : Str} {apos cpos : Pos} {T0 id : String} {g : T → List T → Sto → OV}
theorem r_m (pa : PlainAttrs T0) (slot : Slot T0 name id) (hty : typeOf (.builtin id) = pure (.type "method_descriptor")) (hm : MtF X id g) (ho : FE X W o fa) (ha : FL X W (e :: es) fl)
    (hbase : attributeBase o name X.env (eval o X.env) = eval o X.env := by rfl)
    (hfew : ((backTo cpos (starEach (e :: es) X.env)).all (fun x => !x.1) && (backToKw cpos (keywordEach [] X.env)).all (fun x => x.1.isSome)
      && decide ((e :: es).length + ([] : List Keyword).length + (if ([] : List Keyword).isEmpty then 0 else 1) < 30)) = true := by rfl)
    (hline : (apos.endLine == cpos.line) = true := by rfl) (hs : starEach (e :: es) X.env = (false, eval e X.env) :: starEach es X.env := by rfl) (hplain : (backTo cpos (starEach es X.env)).any (·.1) = false := by rfl) :
    FE X W (.Call (.Attribute o name apos) (e :: es) [] cpos) (eM T0 g fa fl) := by
  obtain ⟨rr, h1, h2⟩ := hm
  refine PEw (pe_bm pa slot hty h1 ho ha hbase hfew hline hs hplain) fun σ H Q ⟨L, r, s, hR, hE, hp⟩ => ?_
  refine lE_bnd hR hE hp fun t1 s1 v1 L1 H1 x1 R1 E1 d1 p1 => ?_
  split at p1
  · next hz =>
    refine ⟨isTy_of R1 d1 hz, ?_⟩
    exact lL_bnd R1 E1 p1 fun ts s2 vs L2 H2 x2 R2 E2 d2 p2 => h2 L2 s2 t1 ts v1 vs H2 Q R2 (d1.mono x2) d2 (PostV.of p2)
  · exact p1.elim
theorem r_m0 (pa : PlainAttrs T0) (slot : Slot T0 name id) (hty : typeOf (.builtin id) = pure (.type "method_descriptor")) (hm : MtF X id g) (ho : FE X W o fa)
    (hbase : attributeBase o name X.env (eval o X.env) = eval o X.env := by rfl) (hline : (apos.endLine == cpos.line) = true := by rfl) :
    FE X W (.Call (.Attribute o name apos) [] [] cpos) (eM T0 g fa lNil) := by
  obtain ⟨rr, h1, h2⟩ := hm
  refine PEw (pe_bm0 pa slot hty h1 ho hbase hline) fun σ H Q ⟨L, r, s, hR, hE, hp⟩ => ?_
  refine lE_bnd hR hE hp fun t1 s1 v1 L1 H1 x1 R1 E1 d1 p1 => ?_
  split at p1
  · next hz => exact ⟨isTy_of R1 d1 hz, h2 L1 s1 t1 [] v1 [] H1 Q R1 d1 .nil (PostV.of p1)⟩
  · exact p1.elim

def mAppend : T → List T → Sto → OV := fun x ts s => match x, ts with
  | .loc n, [t] => (match s.get n with | some (.lst a) => if a.length < sizeLine then some (.non, s.put n (.lst (a ++ [t]))) else none | _ => none)
  | _, _ => none
def mExtend : T → List T → Sto → OV := fun x ts s => match x, ts with
  | .loc n, [.loc m] => (match s.get n, s.get m with | some (.lst a), some (.lst b) => if a.length + b.length ≤ sizeLine then some (.non, s.put n (.lst (a ++ b))) else none | _, _ => none)
  | _, _ => none
def mPop : T → List T → Sto → OV := fun x ts s => match x, ts with
  | .loc n, [] => (match s.get n with | some (.lst a) => (match a[a.length - 1]? with | some t => some (t, s.put n (.lst a.dropLast)) | none => none) | _ => none)
  | .loc n, [.int i] => (match s.get n with
    | some (.lst a) => if decide (0 ≤ i ∧ i < 2 ^ 63) then (match a[i.toNat]? with | some t => some (t, s.put n (.lst (a.eraseIdx i.toNat))) | none => none) else none
    | _ => none)
  | _, _ => none
def mInsert : T → List T → Sto → OV := fun x ts s => match x, ts with
  | .loc n, [.int i, t] => (match s.get n with | some (.lst a) => if a.length < sizeLine ∧ 0 ≤ i ∧ i < 2 ^ 63 then some (.non, s.put n (.lst (a.take i.toNat ++ [t] ++ a.drop i.toNat))) else none | _ => none)
  | _, _ => none
theorem m_append : MtF X "list.append" mAppend := ⟨_, mt_append, fun L s t ts x xs H Q hR d1 d2 hp => by
  unfold mAppend at hp
  split at hp
  · next n t =>
    split at hp
    · next a e0 =>
      split at hp
      · next hz =>
        obtain ⟨p, vs, rfl, h1, h2, h3⟩ := D.lstE hR d1 e0
        obtain ⟨y, rfl, dy⟩ := one_of (X := X) d2
        exact ⟨p, vs, y, rfl, rfl, h2, by rw [h3.length]; exact hz, hp.putLst hR h1 (h3.app (.cons dy .nil)) .non⟩
      · exact hp.elim
    · exact hp.elim
  · exact hp.elim⟩
theorem m_extend : MtF X "list.extend" mExtend := ⟨_, mt_extend, fun L s t ts x xs H Q hR d1 d2 hp => by
  unfold mExtend at hp
  split at hp
  · next n m =>
    split at hp
    · next a b e0 e1 =>
      split at hp
      · next hz =>
        obtain ⟨p, vs, rfl, h1, h2, h3⟩ := D.lstE hR d1 e0
        obtain ⟨y, rfl, dy⟩ := one_of (X := X) d2
        obtain ⟨p', vs', rfl, h1', h2', h3'⟩ := D.lstE hR dy e1
        exact ⟨p, p', vs, vs', rfl, rfl, h2, h2', by rw [h3.length, h3'.length]; exact hz, hp.putLst hR h1 (h3.app h3') .non⟩
      · exact hp.elim
    · exact hp.elim
  · exact hp.elim⟩
theorem Ds.eraseIdx {K : PySem.W.Frag} {mg : Str → Option Value} {L : List Addr} {H : Hp} {vs : List V} {ts : List T} (d : Ds K mg L H vs ts) (n : Nat) : Ds K mg L H (vs.eraseIdx n) (ts.eraseIdx n) := by
  rw [List.eraseIdx_eq_take_drop_succ, List.eraseIdx_eq_take_drop_succ]
  exact (d.take n).app (d.drop (n + 1))
theorem Ds.dropLast {K : PySem.W.Frag} {mg : Str → Option Value} {L : List Addr} {H : Hp} {vs : List V} {ts : List T} (d : Ds K mg L H vs ts) : Ds K mg L H vs.dropLast ts.dropLast := by
  rw [List.dropLast_eq_take, List.dropLast_eq_take, d.length]
  exact d.take _
theorem m_pop : MtF X "list.pop" mPop := ⟨_, MtR.or mt_pop mt_popAt, fun L s t ts x xs H Q hR d1 d2 hp => by
  unfold mPop at hp
  split at hp
  · next n =>
    split at hp
    · next a e0 =>
      split at hp
      · next y ey =>
        obtain ⟨p, vs, rfl, h1, h2, h3⟩ := D.lstE hR d1 e0
        cases d2
        obtain ⟨w, h4, h5⟩ := h3.get ey
        exact .inl ⟨p, vs, w, rfl, rfl, h2, by rw [h3.length]; exact h4, hp.putLst hR h1 h3.dropLast h5⟩
      · exact hp.elim
    · exact hp.elim
  · next n i =>
    split at hp
    · next a e0 =>
      split at hp
      · next hz =>
        split at hp
        · next y ey =>
          obtain ⟨p, vs, rfl, h1, h2, h3⟩ := D.lstE hR d1 e0
          obtain ⟨z, rfl, dz⟩ := one_of (X := X) d2
          cases dz.intE
          obtain ⟨w, h4, h5⟩ := h3.get ey
          have hz := of_decide_eq_true hz
          have hlt : i.toNat < vs.length := (List.getElem?_eq_some_iff.mp h4).1
          refine .inr ⟨p, vs, i, i.toNat, w, rfl, rfl, h2, by omega, hz.2, ?_, h4, hp.putLst hR h1 (h3.eraseIdx _) h5⟩
          have hn : ¬ i < 0 := by omega
          have hb : (decide (0 ≤ i) && decide (i < (vs.length : Int))) = true := by
            simp only [Bool.and_eq_true, decide_eq_true_eq]; omega
          simp only [seqIndex?, if_neg hn, hb, if_true]
        · exact hp.elim
      · exact hp.elim
    · exact hp.elim
  · exact hp.elim⟩
theorem m_insert : MtF X "list.insert" mInsert := ⟨_, mt_insert, fun L s t ts x xs H Q hR d1 d2 hp => by
  unfold mInsert at hp
  split at hp
  · next n i t =>
    split at hp
    · next a e0 =>
      split at hp
      · next hz =>
        obtain ⟨p, vs, rfl, h1, h2, h3⟩ := D.lstE hR d1 e0
        obtain ⟨y, z, rfl, dy, dz⟩ := two_of (X := X) d2
        cases dy.intE
        exact ⟨p, vs, i, z, rfl, rfl, h2, by rw [h3.length]; exact hz.1, hz.2.1, hz.2.2, hp.putLst hR h1 (((h3.take _).app (.cons dz .nil)).app (h3.drop _)) .non⟩
      · exact hp.elim
    · exact hp.elim
  · exact hp.elim⟩
end
end Fx

set_option maxRecDepth 100000
set_option maxHeartbeats 2000000
/-! Fx: texts, f-strings, repr, starred displays and targets. -/
namespace Fx
open PySem L2 PyProof.Rows

section
variable {X : Cx} {W : WS} {N : List Str} {sc : Scope} {pos : Pos} {a b c e o i : Expr} {fa fb fv : Ev} {fl : Lv} {es : List Expr} {ws : List Nat}
/-! ### texts -/
def strTs (ys : List Str) : List T := ys.map T.str
theorem strTs_of {K : PySem.W.Frag} {mg : Str → Option Value} {L : List Addr} {H : Hp} : ∀ ys : List Str, Ds K mg L H (ys.map V.str) (strTs ys)
  | [] => .nil
  | y :: r => .cons (.str y) (strTs_of r)
def mSplit : T → List T → Sto → OV := fun x ts s => match x, ts with
  | .str a, [.str b] => if (b.length == 0) = false ∧ a.length + 2 ≤ sizeLine then some (.loc s.len, s.add (.lst (strTs (Txt.split a b)))) else none
  | _, _ => none
theorem m_split : MtF X "str.split" mSplit := ⟨_, mt_split, fun L s t ts x xs H Q hR d1 d2 hp => by
  unfold mSplit at hp
  split at hp
  · next a b =>
    split at hp
    · next hz =>
      cases d1.strE
      obtain ⟨y, rfl, dy⟩ := one_of (X := X) d2
      cases dy.strE
      exact ⟨a, b, rfl, rfl, hz.1, hz.2, fun p hn => hp.newLst hR (strTs_of _) hn⟩
    · exact hp.elim
  · exact hp.elim⟩
def mUpper : T → List T → Sto → OV := fun x ts s => match x, ts with
  | .str a, [] => if a.length ≤ 5592405 then some (.str (Txt.upper a), s) else none
  | _, _ => none
theorem m_upper : MtF X "str.upper" mUpper := ⟨_, mt_upper, fun L s t ts x xs H Q hR d1 d2 hp => by
  unfold mUpper at hp
  split at hp
  · next a =>
    split at hp
    · next hz =>
      cases d1.strE
      cases d2
      exact ⟨a, rfl, rfl, hz, hp.here hR (.str _)⟩
    · exact hp.elim
  · exact hp.elim⟩
/-- a.join(ts) -/
def joinT (a : Str) (ts : List T) (s : Sto) : OV := match strs? ts with
  | some ys => if (ys.map (·.length)).sum + ys.length * a.length ≤ 16777216 then some (.str (Txt.join a ys), s) else none
  | none => none
def mJoin : T → List T → Sto → OV := fun x ts s => match x, ts with
  | .str a, [t] => (match itemsT s t with | some us => joinT a us s | none => none)
  | _, _ => none
theorem m_join : MtF X "str.join" mJoin := ⟨_, mt_join, fun L s t ts x xs H Q hR d1 d2 hp => by
  unfold mJoin at hp
  split at hp
  · next a t =>
    split at hp
    · next us e0 =>
      unfold joinT at hp
      split at hp
      · next ys e1 =>
        split at hp
        · next hz =>
          cases d1.strE
          obtain ⟨y, rfl, dy⟩ := one_of (X := X) d2
          obtain ⟨p, vs, rfl, hq, hd⟩ := items_of (X := X) hR dy e0
          have ev := strs_of hd e1
          subst ev
          exact ⟨a, p, ys, rfl, rfl, hq, hz, hp.here hR (.str _)⟩
        · exact hp.elim
      · exact hp.elim
    · exact hp.elim
  · exact hp.elim⟩
/-- a.join([..]): the list is seen by the method alone -/
def eJoin (a : Ev) (l : Lv) : Ev := fun r s => (a r s).bnd fun x s => match x with
  | .str z => (l r s).bnd fun ts s => vOut (joinT z ts s)
  | _ => .bad
variable {apos cpos : Pos}
theorem r_join (ho : FE X W o fa) (ha : FC X W e fl)
    (hbase : attributeBase o "join" X.env (eval o X.env) = eval o X.env := by rfl)
    (hfew : ((backTo cpos (starEach (e :: []) X.env)).all (fun x => !x.1) && (backToKw cpos (keywordEach [] X.env)).all (fun x => x.1.isSome)
      && decide ((e :: []).length + ([] : List Keyword).length + (if ([] : List Keyword).isEmpty then 0 else 1) < 30)) = true := by rfl)
    (hline : (apos.endLine == cpos.line) = true := by rfl) (hs : starEach (e :: []) X.env = (false, eval e X.env) :: starEach [] X.env := by rfl) (hplain : (backTo cpos (starEach [] X.env)).any (·.1) = false := by rfl) :
    FE X W (.Call (.Attribute o "join" apos) [e] [] cpos) (eJoin fa fl) := by
  obtain ⟨t, h3, h4⟩ := ha
  refine PEw (pe_bm F.plainAttrs_str F.slot_str_join F.type_str_join mt_join ho (pa_cons h3 pa_nil hs) hbase hfew hline hs hplain) fun σ H Q ⟨L, r, s, hR, hE, hp⟩ => ?_
  refine lE_bnd hR hE hp fun t1 s1 v1 L1 H1 x1 R1 E1 d1 p1 => ?_
  cases t1 with
  | str z =>
    cases d1.strE
    refine ⟨rfl, h4 σ H1 _ L1 r s1 R1 E1 ?_⟩
    simp only at p1
    exact tmp_post R1 p1 fun p L' s' H' vs ts R2 hl np hz d2 p2 => by
      unfold joinT at p2
      split at p2
      · next ys e1 =>
        split at p2
        · next hz2 =>
          have ev := strs_of d2 e1
          subst ev
          exact ⟨z, p, ys, rfl, rfl, .inl (.inl (.inl hl)), hz2, p2.here R2 (.str _)⟩
        · exact p2.elim
      · exact p2.elim
  | _ => exact p1.elim

/-! ### f-strings -/
def fmtT : T → Sto → OV
  | .str y, s => if y.length ≤ sizeLine then some (.str y, s) else none
  | .int i, s => if okN i then some (.str (toString i), s) else none
  | _, _ => none
theorem r_fmt (ha : FE X W a fa) : FE X W (.FormattedValue a (-1) none pos) (eUn fmtT fa) := by
  refine PEw (pe_fmt ha) fun σ H Q ⟨L, r, s, hR, hE, hp⟩ => ?_
  refine lE_bnd hR hE hp fun t1 s1 v1 L1 H1 x1 R1 E1 d1 p1 => ?_
  have p2 := PostV.of p1
  unfold fmtT at p2
  split at p2
  · next y =>
    split at p2
    · next hz =>
      cases d1.strE
      exact .inl ⟨y, rfl, hz, p2.here R1 (.str _)⟩
    · exact p2.elim
  · next i =>
    split at p2
    · next hz =>
      cases d1.intE
      exact .inr ⟨i, rfl, Nat.lt_trans (okN_log hz) (by decide), p2.here R1 (.str _)⟩
    · exact p2.elim
  · exact p2.elim
/-- the parts' texts one behind the other -/
def joinF : List Ev → Str → Env → Sto → Out
  | [], acc, _, s => .ok (.str acc) s
  | f :: q, acc, r, s => (f r s).bnd fun t s => match t with
    | .str y => if (acc ++ y).length ≤ sizeLine then joinF q (acc ++ y) r s else .bad
    | _ => .bad
def eFs (l : List Ev) : Ev := joinF l Str.empty
inductive FJ (X : Cx) (W : WS) : List Expr → List Ev → Prop
  | nil : FJ X W [] []
  | cons {e : Expr} {f : Ev} {es : List Expr} {l : List Ev} : FE X W e f → FJ X W es l → FJ X W (e :: es) (f :: l)
theorem FJ.pj {es : List Expr} {l : List Ev} (h : FJ X W es l) : PJ X es (l.map (lE X.K X.mg W)) := by
  induction h with
  | nil => exact .nil
  | cons h1 _ ih => exact .cons h1 ih
theorem joinF_of {σ : L2.St} {Q : VK} : ∀ {l : List Ev} {acc : Str} {L : List Addr} {H : Hp} {r : Env} {s : Sto}, Rl X.K X.mg L s H → Er X.K X.mg W L H σ r → PostE X.K X.mg W L H σ Q (joinF l acc r s) → tJs (l.map (lE X.K X.mg W)) acc σ H fun out H1 => Q (.str out) H1
  | [], acc, L, H, r, s, R, E, hp => hp (.str acc) L H Ex.refl R (.str _)
  | f :: q, acc, L, H, r, s, R, E, hp => by
    show lE X.K X.mg W f σ H _
    refine lE_bnd R E hp fun t1 s1 v1 L1 H1 x1 R1 E1 d1 p1 => ?_
    split at p1
    · next y =>
      split at p1
      · next hz =>
        cases d1.strE
        exact ⟨y, rfl, hz, joinF_of R1 E1 p1⟩
      · exact p1.elim
    · exact p1.elim
theorem r_fstr {v1 v2 : Expr} {rest : List Expr} {l : List Ev} (h : FJ X W (v1 :: v2 :: rest) l) : FE X W (.JoinedStr (v1 :: v2 :: rest) pos) (eFs l) :=
  PEw (pe_joined h.pj) fun σ H Q ⟨L, r, s, hR, hE, hp⟩ => joinF_of hR hE hp
theorem r_fstr1 (ha : FE X W a fa) : FE X W (.JoinedStr [a] pos) fa := pe_joined1 ha

/-! ### repr -/
def refT : T → Bool
  | .tup _ => true | .frz _ => true | .loc _ => true
  | _ => false
def fRepr : List T → Sto → OV
  | [.int i], s => if okN i then some (.str (toString i), s) else none
  | [t], s => (match toD DEEP s t with | some d => if refT t = true ∧ d.showable = true ∧ d.shown.length ≤ sizeLine then some (.str d.shown, s) else none | none => none)
  | _, _ => none
/-- repr of lists and tuples of plain data -/
def rRep (K : PySem.W.Frag) : List V → Hp → VK → Prop := fun xs H Q => ∃ a d, xs = [.ref a] ∧ Dp K H (.ref a) d ∧ d.hasDict = false ∧ d.showable = true ∧ d.depth ≤ DEEP ∧ d.shown.length ≤ sizeLine ∧ Q (.str d.shown) H
theorem call_rep (hu : X.A.units + 64 < cLine) (hg : X.A.guards = some []) : CallR X (.builtin "repr") (rRep X.K) := by
  intro pins s σ H xs us Q I r h
  obtain ⟨a, d, rfl, hd, hn, hs, hdep, hz, q⟩ := h
  obtain rfl := Vals.ref1 r
  obtain ⟨as, rd⟩ := hd.reads I d (.ref a) (.ref a) rfl
  refine repr_of_reads' rd hs (fun e => by rw [hn] at e; cases e) hg (by unfold DEEP at hdep; omega) (fun _ _ e => e) (fun h' u tk hk => ?_) hz
  exact ⟨.str d.shown, H, I.kept hk, ⟨u, rfl⟩, q⟩
theorem f_repr (hu : X.A.units + 64 < cLine) (hg : X.A.guards = some []) : CallF X (.builtin "repr") fRepr := .of fun L s ts vs H Q hR d hp => by
  unfold fRepr at hp
  split at hp
  · split at hp
    · rename_i hz
      obtain ⟨v, rfl, d1⟩ := one_of (X := X) d
      cases d1.intE
      exact ⟨_, SkE.call_repr_int, _, rfl, Nat.lt_trans (okN_log hz) (by decide), hp.here hR (.str _)⟩
    · exact hp.elim
  · next t _ =>
    split at hp
    · next dd e0 =>
      split at hp
      · next hz =>
        obtain ⟨v, rfl, d1⟩ := one_of (X := X) d
        have hD := toD_dp hR _ _ _ _ e0 d1
        obtain ⟨hl, hdep⟩ := toD_ok _ _ _ _ e0
        obtain ⟨hz0, hz1, hz2⟩ := hz
        cases t with
        | tup ts => 
          obtain ⟨a, vs, rfl, _, _⟩ := d1.tupE
          exact ⟨_, call_rep hu hg, a, dd, rfl, hD, PyData.hasDict_of_canLay dd hl, hz1, hdep, hz2, hp.here hR (.str _)⟩
        | frz ts => 
          obtain ⟨a, vs, rfl, _, _⟩ := d1.frzE
          exact ⟨_, call_rep hu hg, a, dd, rfl, hD, PyData.hasDict_of_canLay dd hl, hz1, hdep, hz2, hp.here hR (.str _)⟩
        | loc n => 
          obtain ⟨a, rfl, _⟩ := d1.locE
          exact ⟨_, call_rep hu hg, a, dd, rfl, hD, PyData.hasDict_of_canLay dd hl, hz1, hdep, hz2, hp.here hR (.str _)⟩
        | _ => cases hz0
      · exact hp.elim
    · exact hp.elim
  · exact hp.elim

/-! ### starred displays -/
def lStar (a : Ev) (l : Lv) : Lv := fun r s => (a r s).bndL fun x s => match itemsT s x with
  | some xs => (l r s).bndL fun ys s => .ok (xs ++ ys) s
  | none => .bad
theorem l_star (ha : FE X W a fa) (hl : FL X W es fl) (hs : starEach (.Starred a pos :: es) X.env = (true, eval a X.env) :: starEach es X.env := by rfl) : FL X W (.Starred a pos :: es) (lStar fa fl) := by
  refine PAw (StX.pa_star ha hl hs) fun σ H Q ⟨L, r, s, hR, hE, hp⟩ => ?_
  refine lE_bndL hR hE hp fun t1 s1 v1 L1 H1 x1 R1 E1 d1 p1 => ?_
  split at p1
  · next xs e0 =>
    obtain ⟨p, vs, rfl, hq, hd⟩ := items_of (X := X) R1 d1 e0
    refine ⟨p, vs, rfl, hq.symm, ?_⟩
    refine lL_bndL R1 E1 p1 fun ts s2 vs2 L2 H2 x2 R2 E2 d2 p2 => ?_
    exact p2 (vs ++ vs2) L2 H2 Ex.refl R2 ((hd.mono x2).app d2)
  · exact p1.elim
/-- *[..]: a list that nobody else sees -/
def lStarL (f l : Lv) : Lv := fun r s => (f r s).bndL fun xs s => (l r s).bndL fun ys s => .ok (xs ++ ys) s

/-! ### a, *rest = a list -/
theorem walk_rest {prog : Program} {w : World} {A : Around} (hh : A.handled = none) {it l : Addr} (hne : l ≠ it) (items : Array Value) (k : Nat) (hk : k ≤ items.size) :
    WalksS prog w A it [it, l] [it] (fun a b => a = b) (items.size - k) (fun i v => items[k + i]? = some v) (fun i s => s.heap.IsListIter it l (k + i) ∧ s.heap.IsList l items) where
  sub := fun b hb => by simp at hb; simp [hb]
  grefl := fun _ => rfl
  gtrans := fun _ _ _ h1 h2 => h1.trans h2
  frame := fun i s h' tk st _ hk' => ⟨st.1.at fun o e => hk' it (by simp) o e, st.2.at fun o e => hk' l (by simp) o e⟩
  item := fun i s Q E hi st hQ => by
    have hlt : k + i < items.size := by omega
    refine wpAny_pyNext_list_item st.1 st.2 (x := items[k + i]) (by simp [hlt]) fun h' hit' hs' => ?_
    exact hQ _ _ (by simp [hlt]) ⟨hit', st.2.extBut hs'.extBut hne⟩ ⟨fun b o hb e => hs'.extBut b o (fun h => hb (by simp [h])) e, rfl, rfl, rfl, Nat.le_refl _⟩
  done := fun s Q E st hQ => wpAny_pyNext_list_end hh st.1 st.2 (by simp; omega) fun h' he' => hQ _ ⟨fun b o hb e => he' b o (fun h => hb (by simp [h])) e, rfl, rfl, rfl, Nat.le_refl _⟩
  self := fun _ _ _ _ st hQ => wpAny_pyIter_listiter st.1 hQ
theorem items_rest {prog : Program} {w : World} {A : Around} {E : Value → Shared → Prop} {s : Shared} {l : Addr} {x : Value} {its : List Value} {Q : List Value → Shared → Prop} (hh : A.handled = none) (hl : s.heap.IsList l (x :: its).toArray) (hz : (x :: its).length ≤ sizeLine)
    (hQ : ∀ (h' : Heap) (t' : Nat), (∀ b o, s.heap.get? b = some o → h'.get? b = some o) → Q [x, .ref h'.objs.size] { s with heap := h'.push { cls := .type "list", data := .seq its.toArray }, toks := t' }) :
    wpAny (model prog w) A (unpackItems (.ref l) 2 (some 1)) Q E s := by
  have hlt : l ≠ s.heap.objs.size := by obtain ⟨o, ho, _⟩ := hl; exact Nat.ne_of_lt (Heap.lt_size ho)
  unfold unpackItems
  refine wpAny_bind ?_
  unfold notIterableAtAll
  refine wpAny_bind (wpAny_specialOf hl.typeIs F.slot_list_iter.lookup ?_)
  refine wpAny_pure ?_
  simp only [Bool.false_eq_true, if_false]
  refine wpAny_bind (wpAny_holding (wpAny_pyIter_list hl ?_))
  refine wpAny_bind (wpAny_holding (PySem.W.kun_draw hlt 1 0 _ _ ⟨_, Heap.get?_push_size _ rfl, rfl, rfl⟩ (hl.push _) (by simp) fun h₁ hit₁ hs₁ => ?_))
  have hall : List.take 1 (List.drop 0 (x :: its).toArray.toList) = [x] := by simp
  rw [hall]
  rw [if_neg (by simp)]
  have hl₁ : h₁.IsList l (x :: its).toArray := (hl.push _).extBut hs₁.extBut hlt
  have old : ∀ b o, s.heap.get? b = some o → b ≠ s.heap.objs.size → h₁.get? b = some o := fun b o e hb => hs₁.extBut b o hb (Heap.get?_push_of_some _ e)
  have hsz1 : s.heap.objs.size < h₁.objs.size := by
    obtain ⟨o, ho, _⟩ := hit₁
    exact Heap.lt_size ho
  refine wpAny_bind (wpAny_holding (wpAny_collect_iter (T := "list_iterator") (.inr (.inr (.inl rfl))) (walk_rest (A := A.in1) hh hlt (x :: its).toArray 1 (by simp)) (fun i s st => st.1.typeIs) ⟨by simpa using hit₁, hl₁⟩ (fun b hb => ?_) (by simp) (fun s' acc hm hacc => ?_) (hn := by simp only [List.size_toArray, List.length_cons] at hz ⊢; omega)))
  · simp only [List.mem_cons, List.not_mem_nil, or_false] at hb
    rcases hb with rfl | rfl
    · exact hsz1
    · obtain ⟨o, ho, _⟩ := hl₁
      exact Heap.lt_size ho
  have hacc' : acc.toList = its := by
    obtain ⟨h1, h2⟩ := hacc
    simp at h1
    refine List.ext_getElem? fun j => ?_
    cases e : acc.toList[j]? with
    | none =>
      have : acc.size ≤ j := by
        have := List.getElem?_eq_none_iff.mp e
        simpa using this
      exact (List.getElem?_eq_none (by omega)).symm
    | some v =>
      have h3 := h2 j v (by rw [← Array.getElem?_toList]; exact e)
      rw [← h3]
      simp [Nat.add_comm 1 j]
  rw [hacc']
  simp only [Nat.add_one_sub_one, Nat.sub_self, Nat.not_lt_zero, if_false, Nat.sub_zero, List.take_length, List.drop_length]
  refine wpAny_bind (wpAny_newList ?_)
  refine wpAny_pure ?_
  simp only [List.append_nil, List.singleton_append]
  have z := hQ s'.heap s'.toks (fun b o e => ?_)
  · obtain ⟨s1, s2, s3, s4, s5⟩ := s'
    have e1 := hm.gens; have e2 := hm.drawn; have e3 := hm.os
    simp only at e1 e2 e3
    subst e1 e2 e3
    exact z
  have hb : b ≠ s.heap.objs.size := Nat.ne_of_lt (Heap.lt_size e)
  exact hm.heap b o (by simp [hb]) (old b o e hb)
def gSt (K : PySem.W.Frag) (t : TGs) : TG := fun v σ H Q => ∃ a x xs, v = .ref a ∧ SqL K H a (x :: xs) ∧ ∀ p, H p = none → t [x, .ref p] σ (upd H p (.lst xs)) Q
theorem pg_star {e1 e2 : Expr} {k : Nat} {p2 : Pos} {t : TGs} (hc : X.calm = true) (h : PGs X [e1, e2] t) (hn : (assignEach [e1, .Starred e2 p2] X.env).length = 2 := by rfl) (hst : (assignEach [e1, .Starred e2 p2] X.env).findIdx? (·.1) = some 1 := by rfl)
    (hm : (assignEach [e1, .Starred e2 p2] X.env).map (·.2) = (assignEach [e1, e2] X.env).map (·.2) := by rfl) : PG X (.Tuple [e1, .Starred e2 p2] k pos) (gSt X.K t) := by
  refine ⟨fun pins s σ H v u Q I r hw => ?_⟩
  obtain ⟨a, x0, xs, e1', hq, hw⟩ := hw
  subst e1'
  cases r
  obtain ⟨its, rv, pl, hz⟩ := I.list hq
  cases rv with
  | cons r1 r2 =>
    rename_i u1 us
    rw [PyProof.Rows.assign_Tuple]
    refine wpAny_bind (wpAny_standAt ?_)
    unfold unpack
    rw [hn, hst]
    refine wpAny_bind (wpAny_holding (items_rest (I.ok.hd hc) pl.isList (by have := r2.length; simp only [List.length_cons] at hz ⊢; omega) fun h' t' hk => ?_))
    rw [hm]
    have I1 : Inv X pins σ H { s with heap := h', toks := t' } := I.kept hk
    have I2 := I1.lnew (t' := t') r2 (by simp only [List.length_cons] at hz; omega)
    exact h.run pins _ σ _ [x0, .ref h'.objs.size] _ Q I2 (.cons r1 (.cons rfl .nil)) (hw _ I1.fresh)
end
end Fx

set_option maxRecDepth 100000
set_option maxHeartbeats 2000000
/-! Fx: what a for walks; more targets. -/
namespace Fx
open PySem L2 PyProof.Rows

section
variable {X : Cx} {W : WS} {N : List Str} {sc : Scope} {pos : Pos} {a b c e o i tg : Expr} {fa fb fv : Ev} {fl : Lv} {es : List Expr} {ws : List Nat}
open Classical in
/-- the list at n is still that -/
noncomputable def chkL (n : Nat) (ts : List T) : Sto → Bool := fun s => decide (s.get n = some (.lst ts))
open Classical in
theorem chkL_iff {n : Nat} {ts : List T} {s : Sto} : chkL n ts s = true ↔ s.get n = some (.lst ts) := by unfold chkL; exact decide_eq_true_iff
def chkT : Sto → Bool := fun _ => true
def signs (z : Str) : List T := z.cps.toList.map fun c => .str ⟨#[c]⟩
noncomputable def seqI (x : T) (s : Sto) : OutI := match x with
  | .tup ts => .ok ts chkT s
  | .frz ts => .ok ts chkT s
  | .str z => .ok (signs z) chkT s
  | .loc n => (match s.get n with | some (.lst ts) => .ok ts (chkL n ts) s | _ => .bad)
  | _ => .bad
/-- for .. in a list, a tuple, a text -/
noncomputable def iSeq (f : Ev) : Iv := fun r s => (f r s).bndI fun x s => seqI x s
theorem SqT.frame {K : PySem.W.Frag} {L L1 : List Addr} {H H1 : Hp} {p : Addr} {vs : List V} (h : TupAt K H p vs) (x : Ew L H L1 H1) : TupAt K H1 p vs := by
  rcases h with h | h
  · exact .inl (x.tup _ _ h)
  · exact .inr h
theorem FrzAt.frame {K : PySem.W.Frag} {L L1 : List Addr} {H H1 : Hp} {p : Addr} {vs : List V} (h : FrzAt K H p vs) (x : Ew L H L1 H1) : FrzAt K H1 p vs := by
  rcases h with ⟨o, h⟩ | h
  · exact .inl ⟨o, x.frz _ _ _ h⟩
  · exact .inr h
/-- a walk that leaves the heap as it is -/
theorem walkF_same {K : PySem.W.Frag} {mg : Str → Option Value} {L : List Addr} {H : Hp} {J : It} {ts : List T} {chk : Sto → Bool} {xs : List V} {G : Hp → Prop} {Y : Nat → V → Prop} (w : Walk J xs.length G fun i H x H' => H' = H ∧ Y i x)
    (hY : ∀ i x, Y i x → xs[i]? = some x) (hg : ∀ L1 s1 H1, Ew L H L1 H1 → Rl K mg L1 s1 H1 → chk s1 = true → G H1 ∧ Ds K mg L1 H1 xs ts) : WalkF K mg L H J ts chk := by
  intro L1 s1 H1 x1 R1 hk
  obtain ⟨g, d⟩ := hg L1 s1 H1 x1 R1 hk
  have hl := d.length
  refine ⟨by rw [← hl]; exact w.stops H1 g, fun i t ht => ?_⟩
  have hi : i < xs.length := by rw [hl]; exact (List.getElem?_eq_some_iff.mp ht).1
  refine ⟨w.goes i H1 hi g, fun x H2 y => ?_⟩
  obtain ⟨rfl, hy⟩ := w.yields i H1 x H2 hi g y
  obtain ⟨v, h1, h2⟩ := d.get ht
  rw [hY i x hy] at h1
  cases h1
  exact ⟨Ex.refl, R1, h2⟩
theorem walkF_list {K : PySem.W.Frag} {mg : Str → Option Value} {L : List Addr} {H : Hp} {n : Nat} {p : Addr} {ts : List T} (h : L[n]? = some p) : WalkF K mg L H (Itl K p) ts (chkL n ts) := by
  intro L1 s1 H1 x1 R1 hk
  have hk : s1.get n = some (.lst ts) := chkL_iff.mp hk
  obtain ⟨q, h1, vs, h2, h3⟩ := R1.get hk
  rw [x1.get h] at h1; cases h1
  have w := walk_list (K := K) (a := p) (xs := vs)
  have hl := h3.length
  have g : SqL K H1 p vs := .inl (.inl h2)
  refine ⟨by rw [← hl]; exact w.stops H1 g, fun i t ht => ?_⟩
  have hi : i < vs.length := by rw [hl]; exact (List.getElem?_eq_some_iff.mp ht).1
  refine ⟨w.goes i H1 hi g, fun x H2 y => ?_⟩
  obtain ⟨rfl, hy⟩ := w.yields i H1 x H2 hi g y
  obtain ⟨v, h1, h2⟩ := h3.get ht
  rw [hy] at h1
  cases h1
  exact ⟨Ex.refl, R1, h2⟩
theorem walkF_frz {K : PySem.W.Frag} {mg : Str → Option Value} {L : List Addr} {H : Hp} {p : Addr} {ts : List T} {vs : List V} (h : FrzAt K H p vs) (d : Ds K mg L H vs ts) : WalkF K mg L H (Itl K p) ts chkT :=
  walkF_same (Y := fun i x => vs[i]? = some x) walk_list (fun _ _ h => h) fun L1 s1 H1 x1 R1 _ => ⟨(h.frame x1).sq, d.monoW x1⟩
theorem walkF_tup {K : PySem.W.Frag} {mg : Str → Option Value} {L : List Addr} {H : Hp} {p : Addr} {ts : List T} {vs : List V} (h : TupAt K H p vs) (d : Ds K mg L H vs ts) : WalkF K mg L H (Itt K p) ts chkT :=
  walkF_same (Y := fun i x => vs[i]? = some x) walk_tup (fun _ _ h => h) fun L1 s1 H1 x1 R1 _ => ⟨(SqT.frame h x1).sq, d.monoW x1⟩
theorem signs_ds {K : PySem.W.Frag} {mg : Str → Option Value} {L : List Addr} {H : Hp} : ∀ l : List Nat, Ds K mg L H (l.map fun c => V.str ⟨#[c]⟩) (l.map fun c => T.str ⟨#[c]⟩)
  | [] => .nil
  | c :: r => .cons (.str _) (signs_ds r)
theorem walkF_str {K : PySem.W.Frag} {mg : Str → Option Value} {L : List Addr} {H : Hp} {z : Str} : WalkF K mg L H (Its z) (signs z) chkT := by
  refine walkF_same (xs := z.cps.toList.map fun c => V.str ⟨#[c]⟩) (G := fun _ => True) (Y := fun i v => ∃ c, z.cps[i]? = some c ∧ v = .str ⟨#[c]⟩) ?_ (fun i x h => ?_) fun L1 s1 H1 x1 R1 _ => ⟨trivial, signs_ds _⟩
  · have := walk_str (z := z)
    simpa using this
  · obtain ⟨c, h1, rfl⟩ := h
    simp [h1]
/-- walked, by the value -/
def iVal (K : PySem.W.Frag) (t : TE) : TI := fun σ H R => t σ H fun x H1 => (∃ p xs, x = .ref p ∧ SqL K H1 p xs ∧ R (Itl K p) H1) ∨ (∃ p xs, x = .ref p ∧ SqT K H1 p xs ∧ R (Itt K p) H1) ∨ ∃ z, x = .str z ∧ R (Its z) H1
theorem pi_val {t : TE} (he : PE X e t) : PI X tg e (iVal X.K t) := by
  refine ⟨fun pins s σ H R I h => thn (he.run pins s σ H _ I h) fun v s1 ⟨x, H1, I1, r1, q1⟩ => ?_⟩
  rcases q1 with ⟨p, xs, rfl, hq, q⟩ | ⟨p, xs, rfl, hq, q⟩ | ⟨z, rfl, q⟩
  · cases r1
    obtain ⟨its, rv, pl, _⟩ := I1.list hq
    exact wpAny_pyIter_list pl.isList (pi_one (tk := s1.toks) I1 _ (turn_list p _) ⟨_, Heap.get?_push_size _ rfl, rfl, rfl⟩ q)
  · cases r1
    obtain ⟨its, rv, pl, _⟩ := I1.tuple hq
    exact wpAny_pyIter_tuple (show s1.heap.IsTuple p its.toArray from pl) (pi_one (tk := s1.toks) I1 _ (turn_tuple p _) ⟨_, Heap.get?_push_size _ rfl, rfl, rfl⟩ q)
  · obtain ⟨t, rfl⟩ := r1
    cases ha : z.cps.all (· < 128)
    · exact wpAny_pyIter_wide ha (pi_one (tk := s1.toks) I1 _ (turn_str _ z t "str_iterator" (.inr rfl)) ⟨_, Heap.get?_push_size _ rfl, rfl, rfl⟩ q)
    · exact wpAny_pyIter_ascii ha (pi_one (tk := s1.toks) I1 _ (turn_str _ z t "str_ascii_iterator" (.inl rfl)) ⟨_, Heap.get?_push_size _ rfl, rfl, rfl⟩ q)
theorem lE_bndI {f : Ev} {k : T → Sto → OutI} {σ : L2.St} {H : Hp} {RI : It → Hp → Prop} {L : List Addr} {r : Env} {s : Sto} {R : VK} (hR : Rl X.K X.mg L s H) (hE : Er X.K X.mg W L H σ r) (hp : PostI X.K X.mg W L H σ RI ((f r s).bndI k))
    (go : ∀ t s' v L' H', Ex L H L' H' → Rl X.K X.mg L' s' H' → D X.K X.mg L' H' v t → PostI X.K X.mg W L' H' σ RI (k t s') → R v H') : lE X.K X.mg W f σ H R := by
  refine ⟨L, r, s, hR, hE, ?_⟩
  cases e : f r s with
  | ok t s' =>
    rw [e] at hp
    refine fun v L' H' x hR' hd => go t s' v L' H' x hR' hd ?_
    have hp : PostI X.K X.mg W L H σ RI (k t s') := hp
    cases e2 : k t s' with
    | ok ts chk s2 => rw [e2] at hp; exact fun J L2 H2 x2 => hp J L2 H2 (x.trans x2)
    | exc y s2 => rw [e2] at hp; exact fun c d L2 H2 x2 => hp c d L2 H2 (x.trans x2)
    | bad => rw [e2] at hp; exact hp
  | exc x s' => rw [e] at hp; exact hp
  | bad => rw [e] at hp; exact hp
theorem i_seq (ha : FE X W e fa) : FI X W tg e (iSeq fa) := by
  refine PIw (pi_val ha) fun σ H R ⟨L, r, s, hR, hE, hp⟩ => ?_
  refine lE_bndI hR hE hp fun t1 s1 v1 L1 H1 x1 R1 d1 p1 => ?_
  unfold seqI at p1
  split at p1
  · obtain ⟨p, vs, rfl, h1, h2⟩ := d1.tupE
    exact .inr (.inl ⟨p, vs, rfl, h1.sq, p1 _ L1 H1 Ex.refl R1 (walkF_tup h1 h2)⟩)
  · obtain ⟨p, vs, rfl, h1, h2⟩ := d1.frzE
    exact .inl ⟨p, vs, rfl, h1.sq, p1 _ L1 H1 Ex.refl R1 (walkF_frz h1 h2)⟩
  · next z =>
    cases d1.strE
    exact .inr (.inr ⟨z, rfl, p1 _ L1 H1 Ex.refl R1 walkF_str⟩)
  · next n =>
    split at p1
    · next ts e0 =>
      obtain ⟨p, vs, rfl, h0, h1, h2⟩ := D.lstE R1 d1 e0
      exact .inl ⟨p, vs, rfl, .inl (.inl h1), p1 _ L1 H1 Ex.refl R1 (walkF_list h0)⟩
    · exact p1.elim
  · exact p1.elim
/-! ### range -/
def rgT (i j : Int) : List T := (List.range (j - i).toNat).map fun (k : Nat) => T.int (i + (k : Int))
def okR (i : Int) : Bool := decide (-(2 ^ 62) ≤ i ∧ i < 2 ^ 62)
def iRg1 (l : Lv) : Iv := fun r s => (l r s).bndI fun ts s => match ts with
  | [.int j] => if okR j = true then .ok (rgT 0 j) chkT s else .bad
  | _ => .bad
def iRg2 (l : Lv) : Iv := fun r s => (l r s).bndI fun ts s => match ts with
  | [.int i, .int j] => if okR i = true ∧ okR j = true then .ok (rgT i j) chkT s else .bad
  | _ => .bad
theorem lL_bndI {f : Lv} {k : List T → Sto → OutI} {σ : L2.St} {H : Hp} {RI : It → Hp → Prop} {L : List Addr} {r : Env} {s : Sto} {R : List V → Hp → Prop} (hR : Rl X.K X.mg L s H) (hE : Er X.K X.mg W L H σ r) (hp : PostI X.K X.mg W L H σ RI ((f r s).bndI k))
    (go : ∀ t s' v L' H', Ex L H L' H' → Rl X.K X.mg L' s' H' → Ds X.K X.mg L' H' v t → PostI X.K X.mg W L' H' σ RI (k t s') → R v H') : lL X.K X.mg W f σ H R := by
  refine ⟨L, r, s, hR, hE, ?_⟩
  cases e : f r s with
  | ok t s' =>
    rw [e] at hp
    refine fun v L' H' x hR' hd => go t s' v L' H' x hR' hd ?_
    have hp : PostI X.K X.mg W L H σ RI (k t s') := hp
    cases e2 : k t s' with
    | ok ts chk s2 => rw [e2] at hp; exact fun J L2 H2 x2 => hp J L2 H2 (x.trans x2)
    | exc y s2 => rw [e2] at hp; exact fun c d L2 H2 x2 => hp c d L2 H2 (x.trans x2)
    | bad => rw [e2] at hp; exact hp
  | exc x s' => rw [e] at hp; exact hp
  | bad => rw [e] at hp; exact hp
theorem rg_ds {K : PySem.W.Frag} {mg : Str → Option Value} {L : List Addr} {H : Hp} (i : Int) : ∀ l : List Nat, Ds K mg L H (l.map fun (k : Nat) => V.int (i + (k : Int))) (l.map fun (k : Nat) => T.int (i + (k : Int)))
  | [] => .nil
  | c :: r => .cons (.int _) (rg_ds i r)
theorem walkF_rg {K : PySem.W.Frag} {mg : Str → Option Value} {L : List Addr} {H : Hp} {i j : Int} : WalkF K mg L H (Itr i (j - i).toNat) (rgT i j) chkT := by
  refine walkF_same (xs := (List.range (j - i).toNat).map fun (k : Nat) => V.int (i + (k : Int))) (G := fun _ => True) (Y := fun k v => k < (j - i).toNat ∧ v = .int (i + (k : Int))) ?_ (fun k x h => ?_) fun L1 s1 H1 x1 R1 _ => ⟨trivial, rg_ds _ _⟩
  · have := walk_range (lo := i) (n := (j - i).toNat)
    rw [List.length_map, List.length_range]
    exact this.mono (fun _ h => h) fun k H x H' hk _ y => ⟨y.1, hk, y.2⟩
  · obtain ⟨h1, rfl⟩ := h
    simp [h1]
variable {p : Pos}
theorem i_rg1 (B : Bx X N sc) (hg : sc.names.lookup ("range" : Str) = some .globalImplicit) (hm : X.mg "range" = none) (ha : FL X W [a] fl) (hs : starEach [a] X.env = [(false, eval a X.env)] := by rfl) : FI X W tg (.Call (.Name "range" p) [a] [] pos) (iRg1 fl) := by
  refine PIw (pi_range1 (B.gl hg) hm ha hs) fun σ H R ⟨L, r, s, hR, hE, hp⟩ => ?_
  refine lL_bndI hR hE hp fun t1 s1 v1 L1 H1 x1 R1 d1 p1 => ?_
  split at p1
  · next j =>
    split at p1
    · next hz =>
      obtain ⟨v, rfl, dv⟩ := one_of (X := X) d1
      cases dv.intE
      have hz := of_decide_eq_true hz
      exact ⟨j, rfl, hz.1, hz.2, p1 _ L1 H1 Ex.refl R1 (by have := walkF_rg (K := X.K) (mg := X.mg) (L := L1) (H := H1) (i := 0) (j := j); simpa using this)⟩
    · exact p1.elim
  · exact p1.elim
theorem i_rg2 (B : Bx X N sc) (hg : sc.names.lookup ("range" : Str) = some .globalImplicit) (hm : X.mg "range" = none) (ha : FL X W [a, b] fl) (hs : starEach [a, b] X.env = [(false, eval a X.env), (false, eval b X.env)] := by rfl) (hs2 : starEach [b] X.env = [(false, eval b X.env)] := by rfl) : FI X W tg (.Call (.Name "range" p) [a, b] [] pos) (iRg2 fl) := by
  refine PIw (pi_range2 (B.gl hg) hm ha hs hs2) fun σ H R ⟨L, r, s, hR, hE, hp⟩ => ?_
  refine lL_bndI hR hE hp fun t1 s1 v1 L1 H1 x1 R1 d1 p1 => ?_
  split at p1
  · next i j =>
    split at p1
    · next hz =>
      obtain ⟨v, w, rfl, dv, dw⟩ := two_of (X := X) d1
      cases dv.intE; cases dw.intE
      have hz1 := of_decide_eq_true hz.1
      have hz2 := of_decide_eq_true hz.2
      exact ⟨i, j, rfl, ⟨hz1.1, hz1.2, hz2.1, hz2.2⟩, p1 _ L1 H1 Ex.refl R1 walkF_rg⟩
    · exact p1.elim
  · exact p1.elim

/-! ### enumerate, zip -/
/-- a walk that lays a new pair at each turn -/
theorem walkF_pair {K : PySem.W.Frag} {mg : Str → Option Value} {L : List Addr} {H : Hp} {J : It} {ps : List (T × T)} {chk : Sto → Bool} {n : Nat}
    (hn : n = ps.length) (hg : ∀ L1 s1 H1, Ew L H L1 H1 → Rl K mg L1 s1 H1 → chk s1 = true → ∃ G fx fy, Walk J n G (YPair fx fy) ∧ G H1 ∧ ∀ i x y v w, ps[i]? = some (x, y) → fx i = some v → fy i = some w → D K mg L1 H1 v x ∧ D K mg L1 H1 w y) :
    WalkF K mg L H J (ps.map fun p => T.tup [p.1, p.2]) chk := by
  intro L1 s1 H1 x1 R1 hk
  obtain ⟨G, fx, fy, w, g, d⟩ := hg L1 s1 H1 x1 R1 hk
  refine ⟨by rw [List.length_map, ← hn]; exact w.stops H1 g, fun i t ht => ?_⟩
  obtain ⟨⟨x, y⟩, ht1, rfl⟩ : ∃ q, ps[i]? = some q ∧ T.tup [q.1, q.2] = t := by simpa using ht
  have hi : i < n := by rw [hn]; exact (List.getElem?_eq_some_iff.mp ht1).1
  refine ⟨w.goes i H1 hi g, fun v H2 yl => ?_⟩
  obtain ⟨q, v1, v2, rfl, h0, rfl, h1, h2⟩ := w.yields i H1 v H2 hi g yl
  obtain ⟨d1, d2⟩ := d i x y v1 v2 ht1 h1 h2
  have ex : Ex L1 H1 L1 (upd H1 q (.tup [v1, v2])) := Ex.laid h0
  exact ⟨ex, R1.laid h0, .tup (.inl upd_same) (.cons (d1.mono ex) (.cons (d2.mono ex) .nil))⟩
/-- a list's items and the check -/
noncomputable def lstI (x : T) (s : Sto) : Option (List T × (Sto → Bool)) := match x with
  | .frz ts => some (ts, chkT)
  | .loc n => (match s.get n with | some (.lst ts) => some (ts, chkL n ts) | _ => none)
  | _ => none
theorem lstI_of {K : PySem.W.Frag} {mg : Str → Option Value} {L : List Addr} {H : Hp} {s : Sto} {x : T} {v : V} {ts : List T} {chk : Sto → Bool} (R : Rl K mg L s H) (d : D K mg L H v x) (h : lstI x s = some (ts, chk)) :
    ∃ p vs, v = .ref p ∧ SqL K H p vs ∧ vs.length = ts.length ∧ ∀ L1 s1 H1, Ew L H L1 H1 → Rl K mg L1 s1 H1 → chk s1 = true → ∃ ws, SqL K H1 p ws ∧ Ds K mg L1 H1 ws ts := by
  unfold lstI at h
  split at h
  · cases h
    obtain ⟨p, vs, rfl, h1, h2⟩ := d.frzE
    exact ⟨p, vs, rfl, h1.sq, h2.length, fun L1 s1 H1 x1 R1 _ => ⟨vs, (h1.frame x1).sq, h2.monoW x1⟩⟩
  · split at h
    · rename_i n _ us e0
      cases h
      obtain ⟨p, vs, rfl, h0, h1, h2⟩ := D.lstE R d e0
      refine ⟨p, vs, rfl, .inl (.inl h1), h2.length, fun L1 s1 H1 x1 R1 hk => ?_⟩
      have hk : s1.get n = some (.lst _) := chkL_iff.mp hk
      obtain ⟨q, h3, ws, h4, h5⟩ := R1.get hk
      rw [x1.get h0] at h3; cases h3
      exact ⟨ws, .inl (.inl h4), h5⟩
    · cases h
  · cases h
def enumP (ts : List T) : List (T × T) := (List.range ts.length).zipWith (fun (i : Nat) t => (T.int (i : Int), t)) ts
noncomputable def iEn (l : Lv) : Iv := fun r s => (l r s).bndI fun ts s => match ts with
  | [x] => (match lstI x s with | some (us, chk) => .ok ((enumP us).map fun p => T.tup [p.1, p.2]) chk s | none => .bad)
  | _ => .bad
theorem i_en {elts : List Expr} {kk : Nat} {tpos : Pos} (B : Bx X N sc) (hg : sc.names.lookup ("enumerate" : Str) = some .globalImplicit) (hm : X.mg "enumerate" = none) (ha : FL X W [a] fl) (hs : starEach [a] X.env = [(false, eval a X.env)] := by rfl) :
    FI X W (.Tuple elts kk tpos) (.Call (.Name "enumerate" p) [a] [] pos) (iEn fl) := by
  refine PIw (pi_enum (B.gl hg) hm ha hs) fun σ H R ⟨L, r, s, hR, hE, hp⟩ => ?_
  refine lL_bndI hR hE hp fun t1 s1 v1 L1 H1 x1 R1 d1 p1 => ?_
  split at p1
  · next x =>
    split at p1
    · next us chk e0 =>
      obtain ⟨v, rfl, dv⟩ := one_of (X := X) d1
      obtain ⟨p, vs, rfl, hq, hl, hw⟩ := lstI_of R1 dv e0
      refine ⟨p, vs, rfl, hq, p1 _ L1 H1 Ex.refl R1 (walkF_pair (n := us.length) (by simp [enumP]) fun L2 s2 H2 x2 R2 hk => ?_)⟩
      obtain ⟨ws, h1, h2⟩ := hw L2 s2 H2 x2 R2 hk
      have wk := walk_enum (K := X.K) (a := p) (xs := ws)
      rw [h2.length] at wk
      refine ⟨_, _, _, wk, h1, fun i x y v w e1 e2 e3 => ?_⟩
      simp only [enumP, List.getElem?_zipWith] at e1
      cases e4 : us[i]? with
      | none => simp [e4] at e1
      | some u =>
        have hi : i < us.length := (List.getElem?_eq_some_iff.mp e4).1
        have eu : us[i] = u := by
          have := List.getElem?_eq_getElem hi
          rw [e4] at this; exact (Option.some.inj this).symm
        simp [hi, eu] at e1
        obtain ⟨rfl, rfl⟩ := e1
        obtain ⟨w', h5, h6⟩ := h2.get e4
        rw [e3] at h5; cases h5
        cases e2
        exact ⟨.int _, h6⟩
    · exact p1.elim
  · exact p1.elim
/-! ### a, *rest = .. -/
def gStF (gs : List T → Env → Sto → Fl) : Gv := fun t r s => match t with
  | .loc n => (match s.get n with | some (.lst (x :: xs)) => gs [x, .loc s.len] r (s.add (.lst xs)) | _ => .bad)
  | _ => .bad
theorem gStF_ok {gs : List T → Env → Sto → Fl} (h : GsOk gs) : GOk (gStF gs) := fun t r s => by
  unfold gStF
  split
  · split
    · exact h _ _ _
    · rfl
  · rfl
theorem g_star {e1 e2 : Expr} {k : Nat} {p2 : Pos} {gs : List T → Env → Sto → Fl} (B : Bx X N sc) (cm : Cm X W) (h : FGs X W ws [e1, e2] gs) (hn : (assignEach [e1, .Starred e2 p2] X.env).length = 2 := by rfl) (hst : (assignEach [e1, .Starred e2 p2] X.env).findIdx? (·.1) = some 1 := by rfl)
    (hm : (assignEach [e1, .Starred e2 p2] X.env).map (·.2) = (assignEach [e1, e2] X.env).map (·.2) := by rfl) : FG X W ws (.Tuple [e1, .Starred e2 p2] k pos) (gStF gs) := by
  refine PGw (pg_star cm.calm h hn hst hm) fun v σ H Q ⟨L, r, s, t, hR, hE, hd, hp⟩ => ?_
  unfold gStF at hp
  split at hp
  · next n =>
    split at hp
    · next x xs e0 =>
      obtain ⟨p, vs, rfl, h0, h1, h2⟩ := D.lstE hR hd e0
      cases h2 with
      | cons d1 d2 =>
        rename_i v0 vs0
        refine ⟨p, v0, vs0, rfl, .inl (.inl h1), fun q hq => ?_⟩
        have ex : Ex L H (L ++ [q]) (upd H q (.lst vs0)) := Ex.add hq
        exact ⟨L ++ [q], r, _, _, hR.add (o := .lst xs) hq ⟨vs0, upd_same, d2.mono (Ex.laid hq)⟩, hE.mono ex, .cons (d1.mono ex) (.cons hR.addD .nil), PostG.ex hp ex⟩
    · exact hp.elim
  · exact hp.elim
/-- a, b, c = x, y, z over plain locals -/
def sPar3 (i j l : Nat) (f : Lv) : Sv := fun r s => match f r s with
  | .ok [t, u, v] s => .nx (((r.set i (some t)).set j (some u)).set l (some v)) s
  | .ok _ _ => .bad
  | .exc x s => .ex x r s
  | .bad => .bad
theorem s_par3 {i j l : Nat} {x y z : Str} {px py pz pt : Pos} {kt k2 : Nat} {pt2 : Pos} (B : Bx X N sc) (cm : Cm X W) (hi : N[i]? = some x) (hj : N[j]? = some y) (hl : N[l]? = some z) (hij : i ≠ j) (hil : i ≠ l) (hjl : j ≠ l) (hx : sc.names.lookup x = some .local) (hy : sc.names.lookup y = some .local) (hz : sc.names.lookup z = some .local) (ha : FL X W [a, b, c] fl)
    (hw : swappedStores [.Tuple [.Name x px, .Name y py, .Name z pz] kt pt] (.Tuple [a, b, c] k2 pt2) (envS sc) = pure (some [x, y, z])) (hs : swapsWithSole [.Tuple [.Name x px, .Name y py, .Name z pz] kt pt] (.Tuple [a, b, c] k2 pt2) pos.line X.env = pure false := by rfl) :
    FS X W (.Assign [.Tuple [.Name x px, .Name y py, .Name z pz] kt pt] (.Tuple [a, b, c] k2 pt2) pos) (sPar3 i j l fl) := by
  refine PSw (ps_par3 cm.calm (B.nd') (B.at hi) (B.at hj) (B.at hl) hij hil hjl (B.loc hx) (B.loc hy) (B.loc hz) ha (B.swS hw) hs) fun Z σ H ⟨L, r, s, hR, hE, hp⟩ => ⟨L, r, s, hR, hE, ?_⟩
  simp only [sPar3] at hp
  cases e : fl r s with
  | ok ts s1 =>
    rw [e] at hp
    match ts, hp with
    | [t, u, v], hp =>
      intro vs L1 H1 x1 R1 d1
      cases d1 with
      | cons h1 q1 =>
        cases q1 with
        | cons h2 q2 =>
          cases q2 with
          | cons h3 q3 =>
            cases q3
            exact ⟨_, _, _, rfl, hp _ L1 H1 x1 R1 ((((hE.mono x1).set h1 (cm.ki _)).set h2 (cm.ki _)).set h3 (cm.ki _))⟩
    | [], hp => exact hp.elim
    | [_], hp => exact hp.elim
    | [_, _], hp => exact hp.elim
    | _ :: _ :: _ :: _ :: _, hp => exact hp.elim
  | exc x s1 => rw [e] at hp; exact fun c d L' H' y1 y2 y3 => hp c d σ L' H' y1 y2 (hE.mono y1) y3
  | bad => rw [e] at hp; exact hp
end
end Fx

set_option maxRecDepth 100000
set_option maxHeartbeats 2000000
/-! Fx: the law's end. -/
namespace Fx
open PySem PySem.Spec PyProof.Rows L2

section
variable {P : Program} {w : World} {K : PySem.W.Frag} {mg mb : Str → Option Value} {k : Nat} {fa sa : Addr} {fd : FuncData} {x : Str} {z : Shared} {us : List Value} {ns : List Int}
theorem ints_ds {L : List Addr} {H : Hp} : ∀ l : List Int, Ds K mg L H (l.map V.int) (l.map T.int)
  | [] => .nil
  | c :: r => .cons (.int c) (ints_ds r)
theorem rl_empty {H : Hp} : Rl K mg [] ⟨[], 0⟩ H := ⟨rfl, List.nodup_nil, Nat.le_refl _, fun i o h => by simp at h, fun i o h => by simp at h⟩
/-- the law's promise over one abstract heap -/
theorem lawF_core {sp : Sp} {H : Hp} (KX : K.In z.heap) (hns : z.heap.Ns mainGlobals mg) (hb : z.heap.Ns builtinsNs mb) (hbb : ∀ x : Str, x ≠ "__name__" → mb x = bootBuiltins x) (hlim : z.heap.NoLimit) (hg : z.gens = #[])
    (ha : z.heap.get? sa = some { cls := .type "list", data := .seq us.toArray }) (hr : Rm k callerA) (F : ∀ base : Heap, K.In base → base.Ns mainGlobals mg → FnF P w K mg base k fa fd [x] sp) (hbind : ∀ (s : Shared) (u : Value), BindsTo s fd ⟨[u], []⟩ [(x, u)])
    (hsp : sp [.ref sa] H (fun v _ => v = .bl true) fun _ _ _ => False) (hO : ∀ b, H b = none ∨ ∃ o xs, H b = some (.frz o (.lst xs))) (hok : HOk P w H z.heap) (hA : ∀ b, H b ≠ none → b = sa) (hK : H sa ≠ none → K.lookup sa = none) :
    codeAny (model P w) callerA (.call (.ref fa) ⟨[.ref sa], []⟩) (fun r s' => r = .ok (.ret (.bool true)) ∧ OldK z.heap s'.heap ∧ s'.os = z.os ∧ AllBare s'.gens) z := by
  have keepB : ∀ {c : Addr} {ob : Obj}, z.heap.get? c = some ob → H c = none → (hidT z.heap H).get? c = some ob := fun e1 e2 => hidT_get e1 e2
  have dictN : ∀ {c : Addr} {ob : Obj} {es : Array DictEntry} {ep : Nat}, z.heap.get? c = some ob → ob.data = .dict es ep → H c = none := by
    intro c ob es ep e1 e2
    refine Classical.byContradiction fun q => ?_
    obtain rfl := hA c q
    rw [ha] at e1
    cases e1
    exact nomatch (show Data.seq us.toArray _ = Data.dict es ep from e2)
  have nsB : ∀ {c : Addr} {m : Str → Option Value}, z.heap.Ns c m → (hidT z.heap H).Ns c m := by
    rintro c m ⟨ob, es, ep, e1, e2, e3⟩
    exact ⟨ob, es, ep, keepB e1 (dictN e1 e2), e2, e3⟩
  have inB : K.In (hidT z.heap H) := by
    intro c ob e1
    refine keepB (KX c ob e1) (Classical.byContradiction fun q => ?_)
    obtain rfl := hA c q
    rw [hK q] at e1
    cases e1
  have limB : (hidT z.heap H).NoLimit := by
    obtain ⟨mc, e1, e2⟩ := hlim
    exact ⟨mc, nsB e1, e2⟩
  have env : Env0 P w K mg (hidT z.heap H) callerA [] z H := by
    refine ⟨rfl, ⟨inB, nsB hns, ⟨mb, nsB hb, hbb⟩, limB⟩, fun c ob e1 => of_hidT e1, Nat.le_of_eq (hidT_size _ _), trivial, fun c hc => ?_, hok, .of_eq hg⟩
    exact nomatch (show c ∈ ([] : List Addr) from hc)
  have fin := (F _ inB (nsB hns)).runF callerA [] z H ⟨[.ref sa], []⟩ [.ref sa] [.ref sa] _ _ hr env (hbind z (.ref sa)) (.cons rfl .nil) hsp
  refine codeAny_mono fin fun r s' h => ?_
  match r, h with
  | .error e, h =>
    obtain ⟨_, _, _, h⟩ := h
    first
      | exact h.elim
      | (obtain ⟨h1, h2⟩ := h; first | exact h1.elim | exact h2.elim)
      | simp at h
  | .ok (.ret u), h =>
    obtain ⟨v, H', ho, hba, hun, hok', rv, hv⟩ := h
    subst hv
    obtain rfl : u = Value.bool true := rv
    refine ⟨rfl, OldK.of_keep fun c ob e1 => ?_, ho, hba⟩
    cases q : H c with
    | none => exact hun.keep c ob e1 q (fun m => nomatch (show c ∈ ([] : List Addr) from m)) (by simp)
    | some y =>
      rcases hO c with e2 | ⟨o2, xs, e2⟩
      · rw [q] at e2; cases e2
      · obtain ⟨e3, _⟩ := hok c _ e2
        obtain ⟨e4, _⟩ := hok' c _ (hun.frzs c o2 _ e2)
        rw [e1] at e3; cases e3
        exact e4
  | .ok .next, h => exact h.elim
  | .ok .brk, h => exact h.elim
  | .ok .cont, h => exact h.elim
/-- what the law's reading gives at a list of ints that nobody changes -/
theorem sp_of {p : String → Option FnD} {law : String} {H : Hp} (hO : ∀ b, H b = none ∨ ∃ o xs, H b = some (.frz o (.lst xs))) (hS : SqL K H sa (ns.map V.int)) (hl : ∃ s', run p k law [.frz (ns.map T.int)] ⟨[], 0⟩ = .ok (.bl true) s') :
    spF K mg (run p k) law [.ref sa] H (fun v _ => v = .bl true) fun _ _ _ => False := by
  obtain ⟨s', e⟩ := hl
  have fz : FrzAt K H sa (ns.map V.int) := by
    rcases hS with (h | h) | h
    · rcases hO sa with q | ⟨o, xs, q⟩
      · rw [q] at h; cases h
      · rw [q] at h; cases h
    · exact .inl h
    · exact .inr h
  refine ⟨[], _, _, rl_empty, .cons (.frz fz (ints_ds ns)) .nil, ?_⟩
  rw [e]
  intro v L' H' _ _ d
  cases d
  rfl
theorem lawF {p : String → Option FnD} {law : String} (KX : K.In z.heap) (hns : z.heap.Ns mainGlobals mg) (hb : z.heap.Ns builtinsNs mb) (hbb : ∀ x : Str, x ≠ "__name__" → mb x = bootBuiltins x) (hlim : z.heap.NoLimit) (hg : z.gens = #[])
    (ha : z.heap.get? sa = some { cls := .type "list", data := .seq us.toArray }) (hi : IntsAre us ns) (hz : ns.length ≤ sizeLine) (hr : Rm k callerA) (F : ∀ base : Heap, K.In base → base.Ns mainGlobals mg → FnF P w K mg base k fa fd [x] (spF K mg (run p k) law))
    (hbind : ∀ (s : Shared) (u : Value), BindsTo s fd ⟨[u], []⟩ [(x, u)]) (hl : ∃ s', run p k law [.frz (ns.map T.int)] ⟨[], 0⟩ = .ok (.bl true) s') :
    codeAny (model P w) callerA (.call (.ref fa) ⟨[.ref sa], []⟩) (fun r s' => r = .ok (.ret (.bool true)) ∧ OldK z.heap s'.heap ∧ s'.os = z.os ∧ AllBare s'.gens) z := by
  have rv := vals_ints hi
  have hlen := hi.length
  cases hk : K.lookup sa with
  | some o =>
    have e := KX sa o hk
    rw [ha] at e
    cases e
    have hO : ∀ b, (fun _ => none : Hp) b = none ∨ ∃ o xs, (fun _ => none : Hp) b = some (.frz o (.lst xs)) := fun _ => .inl rfl
    have hS : SqL K (fun _ => none) sa (ns.map V.int) := .inr ⟨_, us.toArray, _, hk, rfl, rfl, rfl, by rw [List.size_toArray, hlen]; exact hz, by simpa using rv⟩
    exact lawF_core KX hns hb hbb hlim hg ha hr F hbind (sp_of hO hS hl) hO (fun b u q => nomatch (show (none : Option HO) = some u from q)) (fun b q => absurd rfl q) fun q => absurd rfl q
  | none =>
    obtain ⟨H, eH⟩ : ∃ H : Hp, ∀ b, H b = if b = sa then some (.frz { cls := .type "list", data := .seq us.toArray } (.lst (ns.map V.int))) else none := ⟨_, fun _ => rfl⟩
    have h1 := (eH sa).trans (if_pos rfl)
    have h2 : ∀ b, b ≠ sa → H b = none := fun b hb => (eH b).trans (if_neg hb)
    have hO : ∀ b, H b = none ∨ ∃ o xs, H b = some (.frz o (.lst xs)) := fun b => by
      by_cases c : b = sa
      · rw [c]; exact .inr ⟨_, _, h1⟩
      · exact .inl (h2 b c)
    have hS : SqL K H sa (ns.map V.int) := .inl (.inr ⟨_, h1⟩)
    refine lawF_core KX hns hb hbb hlim hg ha hr F hbind (sp_of hO hS hl) hO (fun b u q => ?_) (fun b q => Classical.byContradiction fun c => q (h2 b c)) fun _ => hk
    by_cases c : b = sa
    · subst c
      rw [h1] at q
      cases q
      exact ⟨ha, by rw [List.length_map]; exact hz, us, _, rv, ha⟩
    · rw [h2 b c] at q; cases q
theorem walk_F {l : PySem.W.OpenLaw} {n : Nat} {q : Program} {loose : List Str} {XP : (Str → Option Value) → Heap → Prop} {YP : World → Heap → Prop} {d : DefRec} {p : String → Option FnD} {law : String} (hn : l.most = some n) (hn2 : n ≤ sizeLine) (hdf : d.params.defaults = []) (hr : Rm k callerA)
    (F : ∀ (w : World) (mg : Str → Option Value) (fa : Addr) (h : Heap), YP w h → h.Ns mainGlobals mg → mg d.name = some (.ref fa) →
      ∃ (K : PySem.W.Frag) (fd : FuncData), K.In h ∧ (∀ (s : Shared) (u : Value), BindsTo s fd ⟨[u], []⟩ [(x, u)]) ∧ ∀ base : Heap, K.In base → base.Ns mainGlobals mg → FnF l.prog w K mg base k fa fd [x] (spF K mg (run p k) law))
    (hl : ∀ ns : List Int, ns.length ≤ n → ∃ s', run p k law [.frz (ns.map T.int)] ⟨[], 0⟩ = .ok (.bl true) s') : PySem.W.WalkO q loose XP YP l.row.toRowW d [] (fun f vs => PySem.call f vs) := by
  refine Att.attach_call hn hdf fun w s₀ s₁ mg mb fa o pm cd doc a vs ns G Y _ _ _ hmg hobj hints hlen hg => ?_
  obtain ⟨K, fd, KX, hb, hF⟩ := F w mg fa _ Y G.T.g hmg
  exact lawF KX G.T.g G.T.b G.T.builtins G.T.nolimit hg hobj hints (Nat.le_trans hlen hn2) hr hF hb (hl ns hlen)
end
end Fx
namespace Fx
open PySem L2 PyProof.Rows
/-- where an expression stands -/
structure Cy (X : Cx) (W : WS) (N : List Str) (sc : Scope) (k : Nat) : Prop where
  B : Bx X N sc
  cm : Cm X W
  tk : Takes X W.w
  rm : Rm k X.A
  ri : Ri k X.A
  rk : RmMk k X.A
theorem Ctx.cy {X : Cx} {W : WS} {N : List Str} {sc : Scope} {k : Nat} (c : Ctx X W N sc k) : Cy X W N sc k := ⟨c.B, c.cm, c.tk, c.rm, c.ri, c.rk⟩
theorem takes0 {X : Cx} {W : WS} : Takes X W.z.w := fun _ _ ⟨_, _, _, _, _, _, _, _, _, _, _, _, _, _, _, _, w⟩ => w.elim
theorem Cy.blk {X : Cx} {W : WS} {N : List Str} {sc : Scope} {k : Nat} (c : Cy X W N sc k) (scope : Scope) (s : Shared) (H : Hp) (C : Addr) (cl : List (Str × Addr)) (fp : List Addr) : Cy (X.blk s H scope (compEnvC scope cl C X.env) fp) W.z N (relS scope sc) k :=
  ⟨⟨c.B.hN, by rw [← c.B.hs]; rfl, c.B.nd⟩, ⟨c.cm.calm, c.cm.kz⟩, takes0, c.rm, c.ri, c.rk⟩
theorem Cy.hu {X : Cx} {W : WS} {N : List Str} {sc : Scope} {k : Nat} (c : Cy X W N sc k) : X.A.units + 64 < cLine := c.rm.room.units
theorem Cy.hu1 {X : Cx} {W : WS} {N : List Str} {sc : Scope} {k : Nat} (c : Cy X W N sc k) : X.A.units + 1 < cLine := by have := c.hu; omega
/-- what a call's arguments made goes too -/
def eG (f : Ev) : Ev := fun r s => gcR s.len s.kp (f r s)
theorem r_G {X : Cx} {W : WS} {e : Expr} {f : Ev} (h : FE X W e f) : FE X W e (eG f) := r_gc h
theorem FW.fb {X : Cx} {W : WS} {e : Expr} {f : Bv} (h : FW X W e f) : FB X W e f := PW.pt h
/-- a def at level 0 promises nothing -/
theorem fnF_zero {P : Program} {w : World} {K : PySem.W.Frag} {mg : Str → Option Value} {base : Heap} {a : Addr} {fd : FuncData} {ps : List Str} {p : String → Option FnD} {f : String} : FnF P w K mg base 0 a fd ps (spF K mg (run p 0) f) :=
  ⟨fun vs H Q E ⟨_, _, _, _, _, h⟩ => h.elim, fun A b s H args us vs Q E _ _ _ _ ⟨_, _, _, _, _, h⟩ => h.elim⟩
end Fx

set_option maxRecDepth 100000
set_option maxHeartbeats 2000000
/-! Fx: own errors: raise, try .. except. -/
namespace Fx
open PySem L2 PyProof.Rows

/-! ### an own error class whose __init__ says self.f = f -/
def spI (K : PySem.W.Frag) (f : Str) : Sp := fun vs H Q _ => ∃ (a C : Addr) (v : V), vs = [.ref a, v] ∧ OexC K C ∧ PySem.W.findIn K (.ref C) f = some none ∧ H a = some (exo a C none) ∧
  ∀ dx, H dx = none → dx ≠ a → Q .non (upd (upd H dx (exd dx [(f, v)])) a (exo a C (some dx)))
theorem oex_init {P : Program} {w : World} {K : PySem.W.Frag} {mg : Str → Option Value} {base : Heap} {CX : CXT} {x qual sf pa f : Str} {params : Arguments} {body : List Stmt} {scope : Scope} {fI : Addr} {fd : FuncData} {p1 p2 p3 p4 : Pos}
    (F : FunD K x qual params body scope [] [] fI fd) (S : FnScope [sf, pa] [sf, pa] scope) (hb : body = [.Assign [.Attribute (.Name sf p1) f p2] (.Name pa p3) p4])
    (h1 : (sf == ("__debug__" : Str)) = false := by decide) (h2 : (pa == ("__debug__" : Str)) = false := by decide) (h3 : (sf == ("__classdict__" : Str)) = false := by decide) (h4 : (pa == ("__classdict__" : Str)) = false := by decide)
    (hs : ∀ X : Cx, X.env.scope = scope → swapsWith (.Name pa p3) (some (.Attribute (.Name sf p1) f p2)) p4.line X.env = pure false := by intro _ _; rfl) : FnOk P w K mg base CX 1 fI fd [sf, pa] (spI K f) := by
  subst hb
  refine FunD.ok F S (fun vs H Q E ⟨a, C, v, e, _⟩ => by rw [e]; rfl) fun cdv A outer s H vs Q E hr ⟨a, C, v, e, T, hno, ha, hq⟩ => ?_
  subst e
  refine ⟨_, pss_cons (ps_ost (pe_var (i := 0) rfl ((S.par sf (by simp)).elim .inl fun h => .inr (.inl h)) h1 h3) (pe_var (i := 1) rfl ((S.par pa (by simp)).elim .inl fun h => .inr (.inl h)) h2 h4) (hs _ rfl)) pss_nil, ?_⟩
  refine ⟨v, rfl, .ref a, rfl, a, C, rfl, T, hno, .inl ⟨ha, fun dx hn hne => hq dx hn hne⟩⟩
/-- the class C with the field f: what its raise wants -/
structure XCl (P : Program) (w : World) (K : PySem.W.Frag) (mg : Str → Option Value) (base : Heap) (C f : String) : Prop where
  ex : ∃ (Ca fI : Addr) (fd : FuncData) (ps : List Str), mg (Str.ofString C) = some (.ref Ca) ∧ OexC K Ca ∧ PySem.W.findIn K (.ref Ca) "__init__" = some (some (.ref fI)) ∧ PySem.W.typeIn K (.ref fI) = some (.type "function") ∧
    PySem.W.findIn K (.ref Ca) (Str.ofString f) = some none ∧ FnOk P w K mg base (fun _ _ _ _ _ _ => False) 1 fI fd ps (spI K (Str.ofString f)) ∧ Binds K fd ps []
/-- raise C(e) -/
def sRaise (C f : String) (a : Ev) : Sv := fun r s => (a r s).bndS r fun t s => .ex ⟨C, [(f, t)]⟩ r s
theorem del_upd {H : Hp} {a dx : Addr} {o1 o2 o3 o4 : HO} (ha : H a = none) (hne : dx ≠ a) : upd (del (upd (upd (upd H a o1) dx o2) a o3) a) dx o4 = upd H dx o4 := by
  funext b
  by_cases h1 : b = dx
  · subst h1; rw [upd_same, upd_same]
  · rw [upd_ne h1, upd_ne h1]
    by_cases h2 : b = a
    · subst h2; rw [del_same, ha]
    · rw [del_ne h2, upd_ne h2, upd_ne h1, upd_ne h2]
section
variable {X : Cx} {W : WS} {N : List Str} {sc : Scope} {pos : Pos} {e : Expr} {fa : Ev}
theorem s_raise {C f : String} {p pos' : Pos} (B : Bx X N sc) (cm : Cm X W) (tk : Takes X W.w) {k : Nat} (rm : Rm k X.A) (c : XCl X.prog X.w X.K X.mg X.base C f) (hg : sc.names.lookup (Str.ofString C) = some .globalImplicit) (ha : FE X W e fa)
    (hd : (Str.ofString C == ("__debug__" : Str)) = false := by decide) (he : starEach (e :: []) X.env = (false, eval e X.env) :: starEach [] X.env := by rfl) (hpl : (backTo pos' (starEach [] X.env)).any (·.1) = false := by rfl) :
    FS X W (.Raise (some (.Call (.Name (Str.ofString C) p) [e] [] pos')) none pos) (sRaise C f fa) := by
  obtain ⟨Ca, fI, fd, ps, hm, T, iC, tI, hno, F, b⟩ := c.ex
  refine PSw (ps_raise cm.calm tk (pmk_oex T iC tI F (rm.room.mono (by omega)) b .nil (fun _ _ _ _ _ _ _ h => h.elim) (B.gl hg) hm (pa_cons ha pa_nil he) hd he hpl)) fun Z σ H ⟨L, r, s, hR, hE, hp⟩ => ?_
  refine lE_bndS hR hE hp fun t s1 v L1 H1 x1 R1 E1 d1 p1 => ?_
  refine ⟨by simp, fun a hn => ⟨a, Ca, v, rfl, T, hno, upd_same, fun dx hdx hne => ⟨rfl, dx, _, upd_same, by rw [upd_ne hne, upd_same], by rw [upd_ne hne] at hdx; exact hdx, ?_⟩⟩⟩
  rw [upd_ne hne] at hdx
  rw [del_upd hn hne]
  have x2 : Ex L1 H1 L1 (upd H1 dx (.xd [(Str.ofString f, v)])) := Ex.laid hdx
  exact p1 _ _ σ L1 _ x2 (R1.laid hdx) (E1.mono x2) ⟨Ca, rfl, hm, .inr ⟨dx, _, rfl, upd_same, rfl, .cons (d1.mono x2) .nil⟩⟩
end
end Fx
namespace Fx
open PySem L2 PyProof.Rows
/-! ### try .. except C as n -/
/-- the exception x is at a, the slot i holds it -/
def xInv (K : PySem.W.Frag) (mg : Str → Option Value) (i : Nat) (a : Addr) (cls : Value) (d : Option Addr) (x : Exn) (L : List Addr) (H : Hp) (σ : L2.St) : Prop :=
  σ[i]? = some (some (.ref a)) ∧ XD K mg L H cls d x ∧ ∀ dx, d = some dx → dx ∉ L
theorem xInv.mo {K : PySem.W.Frag} {mg : Str → Option Value} {i : Nat} {a : Addr} {cls : Value} {d : Option Addr} {x : Exn} {L L' : List Addr} {H H' : Hp} {σ : L2.St} (q : xInv K mg i a cls d x L H σ) (e : Ex L H L' H') : xInv K mg i a cls d x L' H' σ := by
  obtain ⟨h1, h2, h3⟩ := q
  refine ⟨h1, h2.mono e h3, fun dx hd m => ?_⟩
  obtain ⟨Ca, _, _, h4⟩ := h2
  rcases h4 with ⟨h4, _⟩ | ⟨dx', fs', h4, h5, _⟩
  · rw [hd] at h4; cases h4
  · rw [hd] at h4; cases h4
    rcases e.new dx m with m | m
    · exact h3 dx hd m
    · rw [h5] at m; cases m
/-- a suite's wish -/
def WS.x (W : WS) (K : PySem.W.Frag) (mg : Str → Option Value) (i : Nat) (a : Addr) (cls : Value) (d : Option Addr) (x : Exn) : WS where
  w := fun _ _ _ _ => False
  ks := i :: W.ks
  inv := fun L H σ => xInv K mg i a cls d x L H σ ∧ W.inv L H σ
  mo := fun ⟨q1, q2⟩ e => ⟨q1.mo e, W.mo q2 e⟩
  st := fun {L H σ j o} ⟨⟨q1, q3, q4⟩, q2⟩ hj => ⟨⟨by rw [List.getElem?_set_ne (fun e => hj (by rw [e]; exact List.mem_cons_self))]; exact q1, q3, q4⟩, W.st q2 fun h => hj (List.mem_cons_of_mem _ h)⟩
def sTryAs (b : Sv) (i : Nat) (sel : String → Option Bool) (su : Exn → Sv) : Sv := fun r s => match b r s with
  | .ex x r1 s1 => (match sel x.cls with
    | some true => if i < r1.length then (match su x (r1.set i none) s1 with
      | .nx r2 s2 => .nx (r2.set i none) s2
      | .rt t s2 => .rt t s2
      | .bk r2 s2 => .bk (r2.set i none) s2
      | .ct r2 s2 => .ct (r2.set i none) s2
      | _ => .bad) else .bad
    | some false => .ex x r1 s1
    | none => .bad)
  | o => o
theorem PSs_ex {X : Cx} {b : List Stmt} {α : Type} {t : α → TS} (h : ∀ x, PSs X b (t x)) : PSs X b (fun Z σ H => ∃ x, t x Z σ H) := ⟨fun p s σ H Z I ⟨x, q⟩ => (h x).run p s σ H Z I q⟩
/-- what an except clause says of the classes -/
def SelOk (X : Cx) (sel : String → Option Bool) (c : Value) : Prop := ∀ n b, sel n = some b → ∀ Ca, X.mg (Str.ofString n) = some (.ref Ca) → PySem.W.exmOne X.K (.ref Ca) c = some b
section
variable {X : Cx} {W : WS} {N : List Str} {sc : Scope} {pos pos' np : Pos} {body suite : List Stmt} {b₀ : Stmt} {fb : Sv} {n x : Str} {c : Value}
theorem s_tryAs {i : Nat} {sel : String → Option Bool} {su : Exn → Sv} (B : Bx X N sc) (cm : Cm X W) (hs : X.stack = X.env :: X.outer) (hf : X.env.frame = some X.env.locals) (hi : N[i]? = some n) (hln : sc.names.lookup n = some .local) (hc : Names X x c) (tk : Takes X W.w) (hsel : SelOk X sel c)
    (hb : ∀ (w : WX) (pn : List (Addr × Obj)) (xe : Value → Shared → Prop), Takes (X.tr pn xe) w → PassesOwn (model X.prog X.w) X.A X.env xe → FSs (X.tr pn xe) (W.at w) body fb)
    (hsu : ∀ (a : Addr) (oe : Obj) (cls : Value) (d : Option Addr) (pn : List (Addr × Obj)) (y : Exn), Zc cls d oe → (∃ vs, oe.data = .fields vs) → FSs (X.suite a ((a, oe) :: pn)) (W.x X.K X.mg i a cls d y) (b₀ :: suite) (su y)) :
    FS X W (.Try body [.ExceptHandler (some (.Name x np)) (some n) (b₀ :: suite) pos'] [] [] pos) (sTryAs fb i sel su) := by
  refine PSw (ps_try_as (tb := fun w => lS X.K X.mg (W.at w) fb) (ts := fun a cls d Z σ H => ∃ y, lS X.K X.mg (W.x X.K X.mg i a cls d y) (su y) Z σ H) hs hf (by rw [B.hN]; exact B.nd) (B.at hi) (by unfold Env.kindOf; rw [B.hs]; exact hln) hc tk (fun w pn xe t p => hb w pn xe t p) (fun a oe cls d pn hz hd => PSs_ex fun y => hsu a oe cls d pn y hz hd)) fun Z σ H ⟨L, r, s, hR, hE, hp⟩ => ?_
  refine ⟨L, r, s, hR, ⟨hE.len, hE.val, hE.iv⟩, ?_⟩
  simp only [sTryAs] at hp
  cases e : fb r s with
  | nx r1 s1 => rw [e] at hp; exact fun σ' L' H' x1 R1 E1 => hp σ' L' H' x1 R1 ⟨E1.len, E1.val, E1.iv⟩
  | rt t s1 => rw [e] at hp; exact hp
  | bk r1 s1 => rw [e] at hp; exact fun σ' L' H' x1 R1 E1 => hp σ' L' H' x1 R1 ⟨E1.len, E1.val, E1.iv⟩
  | ct r1 s1 => rw [e] at hp; exact fun σ' L' H' x1 R1 E1 => hp σ' L' H' x1 R1 ⟨E1.len, E1.val, E1.iv⟩
  | bad => rw [e] at hp; exact hp
  | ex y r1 s1 =>
    rw [e] at hp
    intro cls d σ' L' H' x1 R1 E1 q
    have E1 : Er X.K X.mg W L' H' σ' r1 := ⟨E1.len, E1.val, E1.iv⟩
    obtain ⟨Ca, rfl, hm, hd⟩ := q
    dsimp only at hp
    cases hs : sel y.cls with
    | none => rw [hs] at hp; exact hp.elim
    | some b =>
      rw [hs] at hp
      refine ⟨b, hsel _ _ hs Ca hm, fun hbt a hn => ?_, fun hbf => ?_⟩
      · subst hbt
        dsimp only at hp
        split at hp
        · next hil =>
          have E2 : Er X.K X.mg (W.x X.K X.mg i a (.ref Ca) d y) L' H' (σ'.set i (some (.ref a))) (r1.set i none) := by
            refine ⟨by simp [E1.len], fun j u h => ?_, ⟨?_, ⟨Ca, rfl, hm, hd⟩, fun dx hdx m => ?_⟩, W.st E1.iv (cm.ki _)⟩
            · by_cases hj : i = j
              · subst hj; rw [List.getElem?_set_self hil] at h; cases h
              · rw [List.getElem?_set_ne hj] at h
                obtain ⟨v, h1, h2⟩ := E1.val j u h
                exact ⟨v, by rw [List.getElem?_set_ne hj]; exact h1, h2⟩
            · rw [List.getElem?_set_self (by rw [← E1.len]; exact hil)]
            · rcases hd with ⟨h4, _⟩ | ⟨dx', fs', h4, h5, _⟩
              · rw [hdx] at h4; cases h4
              · rw [hdx] at h4; cases h4
                obtain ⟨ho, h6, h7⟩ := R1.there m
                rw [h5] at h6; cases h6
                exact h7
          refine ⟨y, L', _, s1, R1, E2, ?_⟩
          have p2 := PostS.ex hp x1
          cases e2 : su y (r1.set i none) s1 with
          | nx r2 s2 => rw [e2] at p2; exact fun σ2 L2 H2 x2 R2 E3 => p2 _ L2 H2 x2 R2 (Er.unset (W := W) ⟨E3.len, E3.val, E3.iv.2⟩ (cm.ki _))
          | rt t s2 => rw [e2] at p2; exact p2
          | bk r2 s2 => rw [e2] at p2; exact fun σ2 L2 H2 x2 R2 E3 => p2 _ L2 H2 x2 R2 (Er.unset (W := W) ⟨E3.len, E3.val, E3.iv.2⟩ (cm.ki _))
          | ct r2 s2 => rw [e2] at p2; exact fun σ2 L2 H2 x2 R2 E3 => p2 _ L2 H2 x2 R2 (Er.unset (W := W) ⟨E3.len, E3.val, E3.iv.2⟩ (cm.ki _))
          | ex y2 r2 s2 => rw [e2] at p2; exact p2.elim
          | bad => rw [e2] at p2; exact p2.elim
        · exact hp.elim
      · subst hbf
        exact hp _ _ _ _ _ x1 R1 E1 ⟨Ca, rfl, hm, hd⟩
end
end Fx

set_option maxRecDepth 100000
set_option maxHeartbeats 2000000
/-! Fx: what an except suite asks of its exception: its class, its field. -/
namespace Fx
open PySem L2 PyProof.Rows PySem.W

theorem ofS_inj {a b : String} (h : Str.ofString a = Str.ofString b) : a = b := by
  rw [PySem.Str.ofString_eq_toList, PySem.Str.ofString_eq_toList] at h
  have h1 : a.toList.map Char.toNat = b.toList.map Char.toNat := by
    have := congrArg (fun z : Str => z.cps.toList) h
    simpa using this
  have h2 : a.toList = b.toList := (List.map_inj_right (fun x y e => Char.toNat_inj.mp e)).mp h1
  exact String.toList_inj.mp h2
theorem fds_get {K : PySem.W.Frag} {mg : Str → Option Value} {L : List Addr} {H : Hp} {f : String} {t : T} : ∀ {fs : List (String × T)} {fs' : List (Str × V)}, Fds K mg L H fs' fs → fs.lookup f = some t → ∃ v, fs'.lookup (Str.ofString f) = some v ∧ D K mg L H v t
  | [], _, _, e => nomatch e
  | q :: fs, [], h, _ => nomatch h.1
  | (q1, q2) :: fs, (q1', q2') :: fs', ⟨h6, h7⟩, e => by
    simp only [List.map_cons, List.cons.injEq] at h6 h7
    obtain ⟨g1, g2⟩ := h6
    cases h7 with
    | cons d1 d2 =>
      subst g1
      simp only [List.lookup] at e ⊢
      by_cases hq : f = q1
      · subst hq
        simp only [beq_self_eq_true] at e ⊢
        cases e
        exact ⟨_, rfl, d1⟩
      · have h1 : (f == q1) = false := by simpa using hq
        have h2 : (Str.ofString f == Str.ofString q1) = false := by simpa using fun z => hq (ofS_inj z)
        simp only [h1] at e
        simp only [h2]
        exact fds_get ⟨g2, d2⟩ e
theorem fds_none {K : PySem.W.Frag} {mg : Str → Option Value} {L : List Addr} {H : Hp} {f : String} : ∀ {fs : List (String × T)} {fs' : List (Str × V)}, Fds K mg L H fs' fs → fs.lookup f = none → fs'.lookup (Str.ofString f) = none
  | [], [], _, _ => rfl
  | [], _ :: _, h, _ => nomatch h.1
  | q :: fs, [], h, _ => nomatch h.1
  | (q1, q2) :: fs, (q1', q2') :: fs', ⟨h6, h7⟩, e => by
    simp only [List.map_cons, List.cons.injEq] at h6 h7
    obtain ⟨g1, g2⟩ := h6
    cases h7 with
    | cons d1 d2 =>
      subst g1
      simp only [List.lookup] at e ⊢
      by_cases hq : f = q1
      · subst hq
        simp only [beq_self_eq_true] at e
        cases e
      · have h1 : (f == q1) = false := by simpa using hq
        have h2 : (Str.ofString f == Str.ofString q1) = false := by simpa using fun z => hq (ofS_inj z)
        simp only [h1] at e
        simp only [h2]
        exact fds_none ⟨g2, d2⟩ e
/-- what the class of an exception must say, so that it is asked rightly -/
def xkB (K : PySem.W.Frag) (C : Addr) : Bool :=
  (clsIn K C).isSome && (decide (findIn K (.ref C) "__getattribute__" = some (some (.builtin "BaseException.__getattribute__"))) && (decide (findIn K (.ref C) "__getattr__" = some none) && (decide (subIn K (.ref C) (.type "BaseException") = some true) &&
  (decide (findIn K (.ref C) "__class__" = some (some (.builtin "object.__class__"))) && (decide (specialIn K (.builtin "object.__class__") "__get__" = some (some (.builtin "getset_descriptor.__get__"))) && (decide (takesIn K (.builtin "object.__class__") = some true) &&
  (decide (mroIn K C (.type "object") = some true) && hasDictIn K C)))))))
section
variable {K : PySem.W.Frag} {C x : Addr} {ox : Obj} {od : Option Obj}
theorem kitx_of_xk (h : xkB K C = true) : KitX K (.ref x) (.ref C) (fun h => InstAt h x ox C od) := by
  unfold xkB at h
  simp only [Bool.and_eq_true, decide_eq_true_eq] at h
  obtain ⟨h1, h2, h3, h4, h5, h6, h7, h8, h9⟩ := h
  exact kitx_exc h1 h2 h3 h4 h5 h6 h7 h8
theorem xfc_of_xk (h : xkB K C = true) : XfC K C := by
  unfold xkB at h
  simp only [Bool.and_eq_true, decide_eq_true_eq] at h
  obtain ⟨h1, h2, h3, h4, h5, h6, h7, h8, h9⟩ := h
  exact ⟨h2, h3, h4, h9⟩
end
/-- the answers of isinstance for exceptions of own classes: own is asked of own classes, typ of built-in ones -/
structure IsTab where
  own : String → String → Option Bool
  typ : String → String → Option Bool
  fld : String → String → Bool
def isxT (tb : IsTab) (n : String) : T → Option Bool
  | .glo m => tb.own n m
  | .ty m => tb.typ n m
  | _ => none
def isxA (tb : IsTab) (n : String) : List T → Option Bool
  | [] => some false
  | t :: r => match isxT tb n t with
    | some true => some true
    | some false => isxA tb n r
    | none => none
def isxV (tb : IsTab) (n : String) : T → Option Bool
  | .tup [] => none
  | .tup ts => isxA tb n ts
  | t => isxT tb n t
structure IsOk (K : PySem.W.Frag) (mg : Str → Option Value) (tb : IsTab) : Prop where
  own : ∀ n m b, tb.own n m = some b → ∀ Ca Cm, mg (Str.ofString n) = some (.ref Ca) → mg (Str.ofString m) = some (.ref Cm) → xkB K Ca = true ∧ kitOne K (.ref Ca) (.ref Cm) = some b
  typ : ∀ n m b, tb.typ n m = some b → ∀ Ca, mg (Str.ofString n) = some (.ref Ca) → xkB K Ca = true ∧ kitOne K (.ref Ca) (.type m) = some b
  fld : ∀ n f, tb.fld n f = true → ∀ Ca, mg (Str.ofString n) = some (.ref Ca) → xkB K Ca = true ∧ findIn K (.ref Ca) (Str.ofString f) = some none
/-- isinstance(error, c) -/
def eIsX (tb : IsTab) (y : Exn) (c : Ev) : Ev := fun r s => (c r s).bnd fun t s => match isxV tb y.cls t with | some b => .ok (.bl b) s | none => .bad
/-- error.f -/
def eXf (tb : IsTab) (y : Exn) (f : String) : Ev := fun _ s => if tb.fld y.cls f = true then (match y.fs.lookup f with | some t => .ok t s | none => .bad) else .bad
/-- isinstance of the exception that is held, by a class or a tuple of classes -/
def rIsX (K : PySem.W.Frag) (mg : Str → Option Value) (a : Addr) (cls : Value) (d : Option Addr) : List V → Hp → VK → Prop := fun xs H Q => ∃ (Ca : Addr) (L : List Addr) (y : Exn) (c : V) (b : Bool), cls = .ref Ca ∧ xkB K Ca = true ∧ XD K mg L H cls d y ∧ xs = [.ref a, c] ∧
  ((∃ cv, (∀ u, RelV c u → u = cv) ∧ kitOne K (.ref Ca) cv = some b) ∨ ∃ p vs, c = .ref p ∧ TupAt K H p vs ∧ ∀ us, Vals vs us → kitAny K (.ref Ca) us = some b) ∧ Q (.bl b) H
section
variable {X : Cx} {a : Addr} {oe : Obj} {cls : Value} {d : Option Addr} {pn : List (Addr × Obj)} {W : WS}
theorem inst_of {X : Cx} {pins : List (Addr × Obj)} {σ : L2.St} {H : Hp} {s : Shared} {Ca : Addr} {L : List Addr} {y : Exn} (I : Inv (X.suite a ((a, oe) :: pn)) pins σ H s) (hz : Zc (.ref Ca) d oe) (hf : ∃ vs, oe.data = .fields vs) (q : XD X.K X.mg L H (.ref Ca) d y) : ∃ od, InstAt s.heap a oe Ca od := by
  obtain ⟨hget, _⟩ := I.pin (a, oe) (List.mem_append_left _ List.mem_cons_self)
  obtain ⟨vs, hv⟩ := hf
  have hn : notCls oe = true := by unfold notCls; rw [hv]
  obtain ⟨_, _, _, q⟩ := q
  rcases q with ⟨rfl, _⟩ | ⟨dx, fs', rfl, h5, _⟩
  · exact ⟨none, hget, hz.1, hn, by rw [hz.2]; trivial⟩
  · have hx : ObjOk X.prog X.w H s.heap dx (.xd fs') := I.hok dx _ h5
    obtain ⟨mA, hns, hr⟩ := hx
    obtain ⟨od, ho, hl⟩ := lookIn_ns hns
    exact ⟨some od, hget, hz.1, hn, by rw [hz.2]; exact ho⟩
theorem call_isX (hz : Zc cls d oe) (hf : ∃ vs, oe.data = .fields vs) : CallR (X.suite a ((a, oe) :: pn)) (.builtin "isinstance") (rIsX X.K X.mg a cls d) := by
  intro pins s σ H xs us Q I r h
  obtain ⟨Ca, L, y, c, b, rfl, hxk, hx, rfl, hc, q⟩ := h
  obtain ⟨od, J⟩ := inst_of I hz hf hx
  cases r with
  | cons rx rr =>
    cases rr with
    | cons rt rr =>
      cases rr
      cases rx
      have fin : ∀ tk, EP (X.suite a ((a, oe) :: pn)) pins σ Q (.bool b) { s with toks := tk } := fun tk => ⟨.bl b, H, I.kept (t' := tk) fun _ _ z => z, rfl, q⟩
      rcases hc with ⟨cv, h1, h2⟩ | ⟨p, vs, rfl, h1, h2⟩
      · have ec := h1 _ rt
        subst ec
        exact kia_one (kitx_of_xk hxk) I.kIn J h2 (fun z => nomatch z) fin
      · obtain rfl := rt
        rcases h1 with h1 | ⟨o, its, n, h1, h3, h4, h5, h6⟩
        · obtain ⟨_, us, ru, hg⟩ := I.hok p _ h1
          obtain ⟨⟨oc, od', oda, osl⟩, hg, h3, n, h4⟩ := hg
          dsimp only at h3 h4
          subst h3 h4
          exact kia_tup (kitx_of_xk hxk) I.kIn J hg (h2 _ ru) (fun z => nomatch z) fin
        · have hg := I.kIn _ _ h1
          obtain ⟨oc, od', oda, osl⟩ := o
          dsimp only at h3 h4
          subst h3 h4
          exact kia_tup (its := its.toList) (kitx_of_xk hxk) I.kIn J (by simpa using hg) (h2 _ h6) (fun z => nomatch z) fin
theorem isxT_of {K : PySem.W.Frag} {mg : Str → Option Value} {tb : IsTab} (ok : IsOk K mg tb) {n : String} {Ca : Addr} (hm : mg (Str.ofString n) = some (.ref Ca)) {L : List Addr} {H : Hp} {v : V} {t : T} {b : Bool} (d : D K mg L H v t) (h : isxT tb n t = some b) :
    xkB K Ca = true ∧ ∃ cv, (∀ u, RelV v u → u = cv) ∧ kitOne K (.ref Ca) cv = some b := by
  cases d with
  | glo q =>
    obtain ⟨h1, h2⟩ := ok.own _ _ _ h _ _ hm q
    exact ⟨h1, _, fun u r => r, h2⟩
  | ty m =>
    obtain ⟨h1, h2⟩ := ok.typ _ _ _ h _ hm
    exact ⟨h1, _, fun u r => r, h2⟩
  | _ => cases h
theorem isxA_of {K : PySem.W.Frag} {mg : Str → Option Value} {tb : IsTab} (ok : IsOk K mg tb) {n : String} {Ca : Addr} (hm : mg (Str.ofString n) = some (.ref Ca)) {L : List Addr} {H : Hp} : ∀ {vs : List V} {ts : List T} {b : Bool}, Ds K mg L H vs ts → isxA tb n ts = some b → ts ≠ [] →
    xkB K Ca = true ∧ ∀ us, Vals vs us → kitAny K (.ref Ca) us = some b
  | [], [], b, d, h, hne => absurd rfl hne
  | v :: vs, t :: ts, b, .cons d1 d2, h, hne => by
    simp only [isxA] at h
    cases e : isxT tb n t with
    | none => rw [e] at h; cases h
    | some k =>
      obtain ⟨h1, cv, h2, h3⟩ := isxT_of ok hm d1 e
      rw [e] at h
      cases k with
      | true =>
        cases h
        refine ⟨h1, fun us r => ?_⟩
        cases r with
        | cons r1 r2 =>
          rw [h2 _ r1]
          simp only [kitAny, h3]
      | false =>
        simp only at h
        by_cases hn : ts = []
        · subst hn
          cases d2
          refine ⟨h1, fun us r => ?_⟩
          cases r with
          | cons r1 r2 =>
            cases r2
            rw [h2 _ r1]
            simp only [kitAny, h3]
            simpa [isxA] using h
        · obtain ⟨_, h5⟩ := isxA_of ok hm d2 h hn
          refine ⟨h1, fun us r => ?_⟩
          cases r with
          | cons r1 r2 =>
            rw [h2 _ r1]
            simp only [kitAny, h3]
            exact h5 _ r2
variable {N : List Str} {sc : Scope} {i : Nat} {y : Exn} {tb : IsTab} {pos : Pos} {ce : Expr} {fc : Ev}
/-- isinstance(error, c) -/
theorem r_isX {er : Str} {p p2 : Pos} (B : Bx (X.suite a ((a, oe) :: pn)) N sc) (hz : Zc cls d oe) (hf : ∃ vs, oe.data = .fields vs) (ok : IsOk X.K X.mg tb) (hi : N[i]? = some er) (hv : (match sc.names.lookup er with | some .local => true | some .cell => true | some .free => true | _ => false) = true)
    (hg : sc.names.lookup (Str.ofString "isinstance") = some .globalImplicit) (hm : X.mg "isinstance" = none) (hb : bootBuiltins "isinstance" = some (.builtin "isinstance")) (hc : FE (X.suite a ((a, oe) :: pn)) (W.x X.K X.mg i a cls d y) ce fc)
    (hd : (er == ("__debug__" : Str)) = false := by decide) (hcd : (er == ("__classdict__" : Str)) = false := by decide)
    (he : starEach (.Name er p :: ce :: []) X.env = (false, eval (.Name er p) X.env) :: starEach (ce :: []) X.env := by rfl) (he2 : starEach (ce :: []) X.env = (false, eval ce X.env) :: starEach [] X.env := by rfl) (hpl : (backTo pos (starEach (ce :: []) X.env)).any (·.1) = false := by rfl) :
    FE (X.suite a ((a, oe) :: pn)) (W.x X.K X.mg i a cls d y) (.Call (.Name "isinstance" p2) [.Name er p, ce] [] pos) (eIsX tb y fc) := by
  refine PEw (pe_callB (X := X.suite a ((a, oe) :: pn)) (call_isX hz hf) (B.gl hg) hm hb (pa_cons (pe_var (B.at hi) (B.vis hv) hd hcd) (pa_cons hc pa_nil he2) he) (by decide) (by decide) he hpl) fun σ H Q ⟨L, r, s, hR, hE, hp⟩ => ?_
  refine ⟨_, hE.iv.1.1, lE_bnd hR hE hp fun t s1 v L1 H1 x1 R1 E1 d1 p1 => ?_⟩
  cases e : isxV tb y.cls t with
  | none => rw [e] at p1; exact p1.elim
  | some b =>
    rw [e] at p1
    have hx := E1.iv.1.2.1
    obtain ⟨Ca, rfl, hmy, hfs⟩ := hx
    have hx : XD X.K X.mg L1 H1 (.ref Ca) d y := ⟨Ca, rfl, hmy, hfs⟩
    have q := p1 _ L1 H1 Ex.refl R1 (.bl b)
    cases t with
    | tup ts =>
      cases d1 with
      | tup h1 h2 =>
        have hn : ts ≠ [] := fun q => by rw [q] at e; cases e
        have e : isxA tb y.cls ts = some b := by
          cases ts with
          | nil => exact absurd rfl hn
          | cons _ _ => exact e
        obtain ⟨k1, k2⟩ := isxA_of ok hmy h2 e hn
        exact ⟨Ca, L1, y, _, b, rfl, k1, hx, rfl, .inr ⟨_, _, rfl, h1, k2⟩, q⟩
    | _ =>
      obtain ⟨k1, k2⟩ := isxT_of ok hmy d1 e
      exact ⟨Ca, L1, y, _, b, rfl, k1, hx, rfl, .inl k2, q⟩
/-- error.f -/
theorem r_xf {er : Str} {f : String} {p : Pos} (B : Bx (X.suite a ((a, oe) :: pn)) N sc) (hz : Zc cls d oe) (hf : ∃ vs, oe.data = .fields vs) (ok : IsOk X.K X.mg tb) (hi : N[i]? = some er) (hv : (match sc.names.lookup er with | some .local => true | some .cell => true | some .free => true | _ => false) = true)
    (hd : (er == ("__debug__" : Str)) = false := by decide) (hcd : (er == ("__classdict__" : Str)) = false := by decide) (hb : attributeBase (.Name er p) (Str.ofString f) X.env (eval (.Name er p) X.env) = eval (.Name er p) X.env := by rfl) :
    FE (X.suite a ((a, oe) :: pn)) (W.x X.K X.mg i a cls d y) (.Attribute (.Name er p) (Str.ofString f) pos) (eXf tb y f) := by
  refine ⟨fun pins s σ H Q I ⟨L, r, st, hR, hE, hp⟩ => ?_⟩
  obtain ⟨⟨h1, h2, h3⟩, h4⟩ := hE.iv
  unfold eXf at hp
  split at hp
  · next hfl =>
    cases e : y.fs.lookup f with
    | none => rw [e] at hp; exact hp.elim
    | some t =>
      rw [e] at hp
      obtain ⟨Ca, rfl, hm, hfs⟩ := h2
      obtain ⟨k1, k2⟩ := ok.fld _ _ hfl _ hm
      rcases hfs with ⟨_, e2⟩ | ⟨dx, fs', rfl, h5, h6, h7⟩
      · rw [e2] at e; cases e
      · obtain ⟨v, hl, dv⟩ := fds_get ⟨h6, h7⟩ e
        exact (pe_xf (xfc_of_xk k1) k2 hz hf (pe_var (B.at hi) (B.vis hv) hd hcd) hb).run pins s σ H Q I ⟨_, h1, rfl, rfl, dx, fs', v, rfl, h5, hl, hp v L H Ex.refl hR dv⟩
  · exact hp.elim
end
end Fx

set_option maxRecDepth 100000
set_option maxHeartbeats 2000000
/-! Fx: {}, xs[::-1], list(range(n)). -/
namespace Fx
open PySem L2 PyProof.Rows
section
variable {X : Cx} {W : WS} {N : List Str} {sc : Scope} {pos p1 p2 p3 p4 p5 : Pos} {a b e : Expr} {fa fb : Ev}
def eDct0 : Ev := fun _ s => .ok (.loc s.len) (s.add (.dct []))
theorem r_dct0 : FE X W (.Dict [] [] pos) eDct0 := PEw pe_dnewK fun σ H Q ⟨L, r, s, hR, hE, hp⟩ p hn =>
  hp _ (L ++ [p]) _ (Ex.add hn) (hR.add hn ⟨[], upd_same, rfl, .nil⟩) hR.addD
/-- the items of a list -/
def itemsL : T → Sto → Option (List T)
  | .frz ts, _ => some ts
  | .loc n, s => match s.get n with
    | some (.lst ts) => some ts
    | _ => none
  | _, _ => none
theorem itemsL_of {L : List Addr} {s : Sto} {H : Hp} {v : V} {t : T} {ts : List T} (hR : Rl X.K X.mg L s H) (d : D X.K X.mg L H v t) (h : itemsL t s = some ts) : ∃ p vs, v = .ref p ∧ SqL X.K H p vs ∧ Ds X.K X.mg L H vs ts := by
  cases t with
  | frz us =>
    cases h
    obtain ⟨p, vs, rfl, h1, h2⟩ := d.frzE
    exact ⟨p, vs, rfl, h1.sq, h2⟩
  | loc n =>
    simp only [itemsL] at h
    split at h
    · next us e0 =>
      cases h
      obtain ⟨p, vs, rfl, _, h1, h2⟩ := D.lstE hR d e0
      exact ⟨p, vs, rfl, .inl (.inl h1), h2⟩
    · cases h
  | _ => cases h
def eRev (f : Ev) : Ev := fun r s => (f r s).bnd fun t s => match itemsL t s with
  | some ts => .ok (.loc s.len) (s.add (.lst ts.reverse))
  | none => .bad
theorem Ds.rev {K : PySem.W.Frag} {mg : Str → Option Value} {L : List Addr} {H : Hp} : ∀ {vs : List V} {ts : List T}, Ds K mg L H vs ts → Ds K mg L H vs.reverse ts.reverse
  | _, _, .nil => .nil
  | _, _, .cons d q => by simpa using (Ds.rev q).app (.cons d .nil)
theorem r_rev {k : Nat} (ha : FE X W a fa) : FE X W (.Subscript a (.Slice none none (some (.UnaryOp .USub (.Constant (.int 1) k p1) p2)) p3) pos) (eRev fa) := by
  refine PEw (pe_revL ha) fun σ H Q ⟨L, r, s, hR, hE, hp⟩ => ?_
  refine lE_bnd hR hE hp fun t s1 v L1 H1 x1 R1 E1 d1 q1 => ?_
  cases e : itemsL t s1 with
  | none => rw [e] at q1; exact q1.elim
  | some ts =>
    rw [e] at q1
    obtain ⟨p, vs, rfl, h1, h2⟩ := itemsL_of R1 d1 e
    exact ⟨p, vs, rfl, h1, fun q hq => q1 _ _ _ (Ex.add hq) (R1.add hq ⟨_, upd_same, h2.rev.mono (Ex.laid hq)⟩) R1.addD⟩
theorem nat_ds {K : PySem.W.Frag} {mg : Str → Option Value} {L : List Addr} {H : Hp} : ∀ l : List Nat, Ds K mg L H (l.map fun i : Nat => V.int (0 + (i : Nat))) (l.map fun i : Nat => T.int i)
  | [] => .nil
  | i :: l => .cons (by show D K mg L H (V.int (0 + (i : Int))) (T.int i); rw [Int.zero_add]; exact .int _) (nat_ds l)
theorem rgV_ds {K : PySem.W.Frag} {mg : Str → Option Value} {L : List Addr} {H : Hp} {n : Int} : Ds K mg L H (rgV 0 n) ((List.range n.toNat).map fun i : Nat => T.int i) := by
  unfold rgV
  rw [Int.sub_zero]
  exact nat_ds _
/-- list(range(n)) -/
def eLRg (f : Ev) : Ev := fun r s => (f r s).bnd fun t s => match t with
  | .int n => if 0 ≤ n ∧ n ≤ 16777216 then .ok (.loc s.len) (s.add (.lst ((List.range n.toNat).map fun i : Nat => T.int i))) else .bad
  | _ => .bad
theorem r_lrg {p q : Pos} (cm : Cm X W) (B : Bx X N sc) (hg : sc.names.lookup (Str.ofString "list") = some .globalImplicit) (hm : X.mg "list" = none) (hg2 : sc.names.lookup (Str.ofString "range") = some .globalImplicit) (hm2 : X.mg "range" = none) (ha : FE X W a fa)
    (na : starEach [a] X.env = (false, eval a X.env) :: starEach [] X.env := by rfl) (na2 : starEach [Expr.Call (.Name "range" q) [a] [] p1] X.env = (false, eval (.Call (.Name "range" q) [a] [] p1) X.env) :: starEach [] X.env := by rfl) :
    FE X W (.Call (.Name "list" p) [.Call (.Name "range" q) [a] [] p1] [] pos) (eLRg fa) := by
  refine PEw (pe_listRg cm.calm (B.gl hg) hm (prg_1 (B.gl hg2) hm2 ha na) na2) fun σ H Q ⟨L, r, s, hR, hE, hp⟩ => ?_
  refine lE_bnd hR hE hp fun t s1 v L1 H1 x1 R1 E1 d1 q1 => ?_
  cases t with
  | int n =>
    cases d1
    dsimp only at q1
    split at q1
    · next hn =>
      refine ⟨n, rfl, ⟨by omega, by omega, by omega, by omega, by omega⟩, fun p hp => ?_⟩
      · refine q1 _ _ _ (Ex.add hp) (R1.add hp ⟨_, upd_same, ?_⟩) R1.addD
        exact rgV_ds
    · exact q1.elim
  | _ => exact q1.elim
end
end Fx

set_option maxRecDepth 100000
set_option maxHeartbeats 2000000
/-! Fx: facts of own error classes, looked at by one Bool; contexts of try and suite. -/
namespace Fx
open PySem L2 PyProof.Rows PySem.W
/-- the class object itself -/
def oexO (C : Addr) : Option Obj → Bool
  | some ⟨.type k, _, .cls u, z⟩ => k == "type" && ((match u.mro with
      | .ref C2 :: w => C2 == C && HandSPX.refsVE w
      | _ => false) && ((match z.toList with
      | [_, _, _, _, some (.builtin v), _] => v == "ValueError.__new__"
      | _ => false) && (u.hasDict && !u.hasDel)))
  | _ => false
theorem oexO_ok {C : Addr} {o : Option Obj} (h : oexO C o = true) : ∃ nm q N bs bm sn sub ab col dd k0 k1 k2 k3 k5, o = some (excClassObj nm q C N bs bm true sn sub ab col dd k0 k1 k2 k3 k5 "ValueError.__new__") ∧ HandSPX.refsVE bm = true := by
  unfold oexO at h
  split at h
  · next k dd u z =>
    simp only [Bool.and_eq_true, beq_iff_eq, Bool.not_eq_true'] at h
    obtain ⟨hk, hm, hz, hd, hdel⟩ := h
    subst hk
    split at hm
    · next C2 w e1 =>
      simp only [Bool.and_eq_true, beq_iff_eq] at hm
      obtain ⟨rfl, hw⟩ := hm
      split at hz
      · next a0 a1 a2 a3 v a5 e2 =>
        simp only [beq_iff_eq] at hz
        subst hz
        obtain ⟨nm, bs, mro, ns, qn, hd', sn, sub, ab, col, del⟩ := u
        dsimp only at e1 hd hdel
        subst e1 hd hdel
        obtain ⟨l⟩ := z
        dsimp only at e2
        subst e2
        exact ⟨_, _, _, _, _, _, _, _, _, _, _, _, _, _, _, rfl, hw⟩
      · cases hz
    · cases hm
  · cases h
/-- what a raise of the class wants of it -/
def oexB (K : PySem.W.Frag) (C : Addr) : Bool := oexO C (K.lookup C) && (decide (findIn K (.ref C) "__setattr__" = some (some (.builtin "object.__setattr__"))) && (decide (subIn K (.ref C) (.type "BaseException") = some true) && (decide (typeIn K (.ref C) = some (.type "type")) && keepIn K (.ref C))))
theorem oexB_ok {K : PySem.W.Frag} {C : Addr} (h : oexB K C = true) : OexC K C := by
  unfold oexB at h
  simp only [Bool.and_eq_true, decide_eq_true_eq] at h
  exact ⟨oexO_ok h.1, h.2.1, h.2.2.1, h.2.2.2.1, h.2.2.2.2⟩
end Fx
namespace Fx
open PySem L2 PyProof.Rows PySem.W
/-! ### a list of facts -/
inductive XF where
  /-- the class n, its instances' field f (set by __init__) -/
  | cls (n f : String)
  /-- except m: is n caught -/
  | exm (n m : String) (b : Bool)
  /-- isinstance of an n: m own, m built-in -/
  | kit (n m : String) (b : Bool)
  | kty (n m : String) (b : Bool)
def gN (K : PySem.W.Frag) (n : String) : Addr := He.ga K (Str.ofString n)
def XF.ok (K : PySem.W.Frag) : XF → Bool
  | .cls n f => oexB K (gN K n) && (xkB K (gN K n) && (decide (findIn K (.ref (gN K n)) "__init__" = some (some (.ref (He.ma K (gN K n) "__init__")))) && (decide (typeIn K (.ref (He.ma K (gN K n) "__init__")) = some (.type "function")) && decide (findIn K (.ref (gN K n)) (Str.ofString f) = some none))))
  | .exm n m b => decide (exmOne K (.ref (gN K n)) (.ref (gN K m)) = some b)
  | .kit n m b => xkB K (gN K n) && decide (kitOne K (.ref (gN K n)) (.ref (gN K m)) = some b)
  | .kty n m b => xkB K (gN K n) && decide (kitOne K (.ref (gN K n)) (.type m) = some b)
def xOk (l : List XF) (K : PySem.W.Frag) : Bool := l.all fun x => x.ok K
/-- the tables that such a list gives -/
def exmT (l : List XF) (m : String) (n : String) : Option Bool := l.findSome? fun x => match x with
  | .exm a c b => if a = n ∧ c = m then some b else none
  | _ => none
def isT (l : List XF) : IsTab where
  own := fun n m => l.findSome? fun x => match x with
    | .kit a c b => if a = n ∧ c = m then some b else none
    | _ => none
  typ := fun n m => l.findSome? fun x => match x with
    | .kty a c b => if a = n ∧ c = m then some b else none
    | _ => none
  fld := fun n f => l.any fun x => match x with
    | .cls a c => a == n && c == f
    | _ => false
/-- the names of the list stand for their classes -/
def GlN (K : PySem.W.Frag) (mg : Str → Option Value) (n : String) : Prop := mg (Str.ofString n) = some (.ref (gN K n))
section
variable {K : PySem.W.Frag} {mg : Str → Option Value} {l : List XF}
theorem xOk_at (h : xOk l K = true) {x : XF} (hx : x ∈ l) : x.ok K = true := List.all_eq_true.mp h x hx
def XF.names : XF → List String
  | .cls n _ => [n]
  | .exm n m _ => [n, m]
  | .kit n m _ => [n, m]
  | .kty n _ _ => [n]
theorem selOk_of {X : Cx} (h : xOk l X.K = true) (hn : ∀ x ∈ l, ∀ n ∈ x.names, GlN X.K X.mg n) (m : String) : SelOk X (exmT l m) (.ref (gN X.K m)) := by
  intro n b e Ca hm
  unfold exmT at e
  obtain ⟨x, hx, e2⟩ := List.exists_of_findSome?_eq_some e
  cases x with
  | exm a c b' =>
    dsimp only at e2
    split at e2
    · next hq =>
      obtain ⟨rfl, rfl⟩ := hq
      obtain rfl := Option.some.inj e2
      have h1 := hn _ hx a (by simp [XF.names])
      unfold GlN at h1
      rw [hm] at h1
      cases h1
      simpa [XF.ok] using xOk_at h hx
    · cases e2
  | _ => cases e2
theorem isOk_of (h : xOk l K = true) (hn : ∀ x ∈ l, ∀ n ∈ x.names, GlN K mg n) : IsOk K mg (isT l) where
  own := fun n m b e Ca Cm hm hm2 => by
    obtain ⟨x, hx, e2⟩ := List.exists_of_findSome?_eq_some e
    cases x with
    | kit a c b' =>
      dsimp only at e2
      split at e2
      · next hq =>
        obtain ⟨rfl, rfl⟩ := hq
        obtain rfl := Option.some.inj e2
        have h1 := hn _ hx a (by simp [XF.names])
        have h2 := hn _ hx c (by simp [XF.names])
        unfold GlN at h1 h2
        rw [hm] at h1
        rw [hm2] at h2
        cases h1; cases h2
        simpa [XF.ok] using xOk_at h hx
      · cases e2
    | _ => cases e2
  typ := fun n m b e Ca hm => by
    obtain ⟨x, hx, e2⟩ := List.exists_of_findSome?_eq_some e
    cases x with
    | kty a c b' =>
      dsimp only at e2
      split at e2
      · next hq =>
        obtain ⟨rfl, rfl⟩ := hq
        obtain rfl := Option.some.inj e2
        have h1 := hn _ hx a (by simp [XF.names])
        unfold GlN at h1
        rw [hm] at h1
        cases h1
        simpa [XF.ok] using xOk_at h hx
      · cases e2
    | _ => cases e2
  fld := fun n f e Ca hm => by
    obtain ⟨x, hx, e⟩ := List.any_eq_true.mp e
    cases x with
    | cls a c =>
      simp only [Bool.and_eq_true, beq_iff_eq] at e
      obtain ⟨rfl, rfl⟩ := e
      have h1 := hn _ hx a (by simp [XF.names])
      unfold GlN at h1
      rw [hm] at h1
      cases h1
      have h2 := xOk_at h hx
      simp only [XF.ok, Bool.and_eq_true, decide_eq_true_eq] at h2
      exact ⟨h2.2.1, h2.2.2.2.2⟩
    | _ => cases e
/-- the class n with the field f, its __init__ being told -/
theorem xcl_of {P : Program} {w : World} {base : Heap} {n f : String} (h : xOk l K = true) (hn : ∀ x ∈ l, ∀ n ∈ x.names, GlN K mg n) (hx : XF.cls n f ∈ l) {x qual sf pa : Str} {params : Arguments} {body : List Stmt} {scope : Scope} {fd : FuncData} {p1 p2 p3 p4 : Pos}
    (F : FunD K x qual params body scope [] [] (He.ma K (gN K n) "__init__") fd) (S : FnScope [sf, pa] [sf, pa] scope) (hb : body = [.Assign [.Attribute (.Name sf p1) (Str.ofString f) p2] (.Name pa p3) p4])
    (hbd : ∀ (kV doc pm : Value) (an : Option Addr) (cdv ct : Value) (us : List Value), us.length = [sf, pa].length → bindArgs (PySem.W.fnOf x qual params body scope .none kV doc pm an cdv ct) ⟨us, []⟩ = pure ([sf, pa].zip us))
    (h1 : (sf == ("__debug__" : Str)) = false := by decide) (h2 : (pa == ("__debug__" : Str)) = false := by decide) (h3 : (sf == ("__classdict__" : Str)) = false := by decide) (h4 : (pa == ("__classdict__" : Str)) = false := by decide)
    (hs : ∀ X : Cx, X.env.scope = scope → swapsWith (.Name pa p3) (some (.Attribute (.Name sf p1) (Str.ofString f) p2)) p4.line X.env = pure false := by intro _ _; rfl) : XCl P w K mg base n f := by
  have g := xOk_at h hx
  simp only [XF.ok, Bool.and_eq_true, decide_eq_true_eq] at g
  exact ⟨gN K n, _, fd, _, hn _ hx n (by simp [XF.names]), oexB_ok g.1, g.2.2.1, g.2.2.2.1, g.2.2.2.2, oex_init F S hb h1 h2 h3 h4 hs, F.bindsN hbd⟩
end
/-! ### the contexts of try and suite -/
section
variable {X : Cx} {W : WS} {N : List Str} {sc : Scope} {k : Nat}
theorem Cy.tr (c : Cy X W N sc k) (w : WX) (pn : List (Addr × Obj)) (xe : Value → Shared → Prop) (tk : Takes (X.tr pn xe) w) : Cy (X.tr pn xe) (W.at w) N sc k := ⟨⟨c.B.hN, c.B.hs, c.B.nd⟩, ⟨c.cm.calm, c.cm.kz⟩, tk, ⟨c.rm.room, c.rm.quiet⟩, ⟨c.ri.r1, c.ri.r2, c.ri.r3⟩, c.rk⟩
theorem Cm.kx {i j : Nat} {a : Addr} {cls : Value} {d : Option Addr} {y : Exn} (c : Cm X W) (h : j ≠ i) : j ∉ (W.x X.K X.mg i a cls d y).ks := fun m => by
  rcases List.mem_cons.mp m with m | m
  · exact h m
  · rw [c.kz] at m; cases m
/-- where an except suite stands -/
structure Ch (X : Cx) (N : List Str) (sc : Scope) : Prop where
  B : Bx X N sc
  hu : X.A.units + 64 < cLine
theorem Cy.suite (c : Cy X W N sc k) (a : Addr) (pn : List (Addr × Obj)) : Ch (X.suite a pn) N sc := ⟨⟨c.B.hN, c.B.hs, c.B.nd⟩, c.hu⟩
theorem Ch.hu1 (c : Ch X N sc) : X.A.units + 1 < cLine := by have := c.hu; omega
end
end Fx

set_option maxRecDepth 100000
set_option maxHeartbeats 2000000
/-! Fx: own classes: attributes, methods, properties, making. -/
namespace Fx
open PySem L2 PyProof.Rows

/-- how positional arguments become parameters: defaults behind, or the rest as a tuple -/
inductive Pk where
  | all (dts : List T) | star (n : Nat) (dts : List T)
def Pk.go : Pk → List T → Option (List T)
  | .all dts, ts => some (ts ++ dts)
  | .star n dts, ts => if n ≤ ts.length ∧ (ts.drop n).length ≤ sizeLine then some (ts.take n ++ .tup (ts.drop n) :: dts) else none
/-- the def f called with positional arguments -/
def pC (C : CallT) (f : String) (pk : Pk) (ts : List T) (s : Sto) : Out := match pk.go ts with
  | some us => C f us s
  | none => .bad
/-- where a def stands -/
inductive Dn where
  | g (f : String) | m (C f : String) | p (C f : String) | c (C f : String) | s (C f : String)
def recAt (K : PySem.W.Frag) (p : Addr) (k : String) : Addr := match PySem.W.recIn K p k with
  | some (.ref g :: _) => g
  | _ => 0
def Dn.adr (K : PySem.W.Frag) : Dn → Addr
  | .g f => He.ga K (Str.ofString f)
  | .m C f => He.ma K (gN K C) (Str.ofString f)
  | .p C f => recAt K (He.ma K (gN K C) (Str.ofString f)) "property"
  | .c C f => recAt K (He.ma K (gN K C) (Str.ofString f)) "classmethod"
  | .s C f => recAt K (He.ma K (gN K C) (Str.ofString f)) "staticmethod"
section
variable (P : Program) (w : World) (K : PySem.W.Frag) (mg : Str → Option Value) (base : Heap) (k : Nat)
/-- what the def at a promises to positional arguments -/
def FnP (a : Addr) (sp : Sp) : Prop := ∀ (A : Around) (below : List PySem.Env) (s : Shared) (H : Hp) (us : List Value) (vs : List V) (Q : VK) (E : XK), Rm k A → Env0 P w K mg base A below s H → Vals vs us → sp vs H Q E →
  codeAny (model P w) A (.call (.ref a) ⟨us, []⟩) (CR (L2.CX P w) below P w H s Q E) s
def spP (C : CallT) (f : String) (pk : Pk) : Sp := fun vs H Q E => ∃ L ts s, Rl K mg L s H ∧ Ds K mg L H vs ts ∧ PostF K mg L H Q E (pC C f pk ts s)
structure CalP (C : CallT) (f : String) (a : Addr) (pk : Pk) : Prop where
  run : FnP P w K mg base k a (spP K mg C f pk)
  kp : PySem.W.keepIn K (.ref a) = true
end
section
variable {P : Program} {w : World} {K : PySem.W.Frag} {mg : Str → Option Value} {base : Heap} {k : Nat} {C : CallT} {f : String} {a : Addr} {dts : List T}
theorem Cal.p (c : Cal P w K mg base k C f a dts) : CalP P w K mg base k C f a (.all dts) := by
  obtain ⟨fd, ps, dvs, ds, F, b, vd, dd, kp⟩ := c
  refine ⟨fun A below s H us vs Q E hr e0 rv ⟨L, ts, st, hR, hD, hp⟩ => ?_, kp⟩
  have KX : K.In s.heap := e0.mod.kin.keeps fun b o e => (e0.bs b o e).1
  have both := rv.append vd
  have sp : spF K mg C f (vs ++ dvs) H Q E := ⟨L, ts ++ dts, st, hR, hD.app (dd L H), hp⟩
  have hl : (us ++ ds).length = ps.length := by rw [← both.length]; exact F.lenF _ _ _ _ sp
  exact F.runF A below s H ⟨us, []⟩ (us ++ ds) (vs ++ dvs) Q E hr e0 (b s us KX hl) both sp
end
section
variable {X : Cx} {W : WS} {k : Nat} {a : Addr} {sp : Sp} {pins : List (Addr × Obj)} {σ : L2.St} {H : Hp} {s : Shared} {Q : VK} {us : List Value} {vs : List V}
theorem run_fnP (F : FnP X.prog X.w X.K X.mg X.base k a sp) (hr : Rm k X.A) (tk : Takes X W.w) (I : Inv X pins σ H s) (r : Vals vs us) (h : sp vs H Q (WE W.w σ)) : wpAny (model X.prog X.w) X.A (call (.ref a) us) (EP X pins σ Q) X.xe s := by
  refine wpAny_call (codeAny_mono (F X.A X.stack s H us vs Q _ hr I.env0 r h) fun r s' hq => ?_)
  match r, hq with
  | .error e, hq => exact passAt tk σ pins H s e s' I hq
  | .ok (.ret u), hq => exact I.after hq
  | .ok .next, hq => exact False.elim hq
  | .ok .brk, hq => exact False.elim hq
  | .ok .cont, hq => exact False.elim hq
/-- within a built-in: no exception leaves -/
theorem run_fnIn {A : Around} {E : Value → Shared → Prop} (F : FnP X.prog X.w X.K X.mg X.base k a sp) (hr : Rm k A) (e0 : Env0 X.prog X.w X.K X.mg X.base A X.stack s H) (I : Inv X pins σ H s) (r : Vals vs us) (h : sp vs H Q fun _ _ _ => False) : wpAny (model X.prog X.w) A (call (.ref a) us) (EP X pins σ Q) E s := by
  refine wpAny_call (codeAny_mono (F A X.stack s H us vs Q _ hr e0 r h) fun r s' hq => ?_)
  match r, hq with
  | .error e, hq =>
    obtain ⟨_, _, _, _, _, _, _, _, _, _, _, _, he⟩ := hq
    exact he.elim
  | .ok (.ret u), hq => exact I.after hq
  | .ok .next, hq => exact False.elim hq
  | .ok .brk, hq => exact False.elim hq
  | .ok .cont, hq => exact False.elim hq
end

section
variable {X : Cx} {W : WS} {k : Nat} {a : Addr} {sp : Sp} {pins : List (Addr × Obj)} {σ : L2.St} {H : Hp} {s : Shared} {Q : VK} {us : List Value} {vs : List V}
/-- within a built-in: what is raised leaves as from the body -/
theorem run_fnAt {A : Around} (F : FnP X.prog X.w X.K X.mg X.base k a sp) (hr : Rm k A) (e0 : Env0 X.prog X.w X.K X.mg X.base A X.stack s H) (tk : Takes X W.w) (I : Inv X pins σ H s) (r : Vals vs us) (h : sp vs H Q (WE W.w σ)) : wpAny (model X.prog X.w) A (call (.ref a) us) (EP X pins σ Q) X.xe s := by
  refine wpAny_call (codeAny_mono (F A X.stack s H us vs Q _ hr e0 r h) fun r s' hq => ?_)
  match r, hq with
  | .error e, hq => exact passAt tk σ pins H s e s' I hq
  | .ok (.ret u), hq => exact I.after hq
  | .ok .next, hq => exact False.elim hq
  | .ok .brk, hq => exact False.elim hq
  | .ok .cont, hq => exact False.elim hq
end

/-! ### the receiver -/
theorem D.insE {K : PySem.W.Frag} {mg : Str → Option Value} {L : List Addr} {H : Hp} {s : Sto} {v : V} {n : Nat} {c : String} {fs : List (String × T)} (hR : Rl K mg L s H) (d : D K mg L H v (.loc n)) (e : s.get n = some (.ins c fs)) :
    ∃ a Ca dx fs', v = .ref a ∧ L[n]? = some a ∧ H a = some (.ins Ca dx fs') ∧ mg (Str.ofString c) = some (.ref Ca) ∧ Fds K mg L H fs' fs := by
  cases d with
  | loc h =>
    obtain ⟨p, h1, Ca, dx, fs', h2, h3, h4⟩ := hR.get e
    rw [h] at h1; cases h1
    exact ⟨_, Ca, dx, fs', rfl, h, h2, h3, h4⟩
/-- the class and the fields of an instance -/
def insOf (t : T) (s : Sto) : Option (Nat × String × List (String × T)) := match t with
  | .loc n => (match s.get n with
    | some (.ins c fs) => some (n, c, fs)
    | _ => none)
  | _ => none
theorem insOf_of {t : T} {s : Sto} {n : Nat} {c : String} {fs : List (String × T)} (h : insOf t s = some (n, c, fs)) : t = .loc n ∧ s.get n = some (.ins c fs) := by
  unfold insOf at h
  split at h
  · split at h
    · next e => cases h; exact ⟨rfl, e⟩
    · cases h
  · cases h

/-! ### o.m(e, ..) -/
def eMeth (mt : List (String × String × Pk)) (m : String) (C : CallT) (o : Ev) (l : Lv) : Ev := fun r s => (o r s).bnd fun t s1 => match insOf t s1 with
  | some (_, c, fs) => (match mt.lookup c with
    | some (f, pk) => if (fs.lookup m).isNone = true then (l r s1).bnd fun ts s2 => pC C f pk (t :: ts) s2 else .bad
    | none => .bad)
  | none => .bad
/-- the class c has the method m: the def f -/
def MethF (P : Program) (w : World) (K : PySem.W.Frag) (mg : Str → Option Value) (base : Heap) (k : Nat) (C : CallT) (m : String) (q : String × String × Pk) : Prop :=
  ∃ Ca a, mg (Str.ofString q.1) = some (.ref Ca) ∧ Cls K Ca ∧ Meth K Ca (Str.ofString m) a ∧ CalP P w K mg base k C q.2.1 a q.2.2
theorem all_nil {α : Type} {p : α → Prop} : ∀ q ∈ ([] : List α), p q := fun _ h => nomatch h
theorem all_cons {α : Type} {p : α → Prop} {a : α} {l : List α} (h : p a) (t : ∀ q ∈ l, p q) : ∀ q ∈ a :: l, p q := fun q hq => by
  rcases List.mem_cons.mp hq with rfl | hq
  · exact h
  · exact t q hq
theorem look_all {α : Type} {p : String × α → Prop} : ∀ {l : List (String × α)} {x : String} {a : α}, (∀ q ∈ l, p q) → l.lookup x = some a → p (x, a)
  | [], _, _, _, e => nomatch e
  | (y, b) :: l, x, a, h, e => by
    simp only [List.lookup] at e
    by_cases hx : x = y
    · subst hx
      simp only [beq_self_eq_true] at e
      cases e
      exact h _ List.mem_cons_self
    · have h1 : (x == y) = false := by simpa using hx
      simp only [h1] at e
      exact look_all (fun q hq => h q (List.mem_cons_of_mem _ hq)) e
section
variable {X : Cx} {W : WS} {k : Nat} {C : CallT} {m : String} {mt : List (String × String × Pk)} {pos apos : Pos} {o e : Expr} {es : List Expr} {fo : Ev} {fl : Lv}
theorem PostE.spP {K : PySem.W.Frag} {mg : Str → Option Value} {C : CallT} {f : String} {pk : Pk} {W : WS} {L : List Addr} {H : Hp} {σ : L2.St} {Q : VK} {s : Sto} {vs : List V} {ts : List T} (hR : Rl K mg L s H) (d : Ds K mg L H vs ts) (hp : PostE K mg W L H σ Q (pC C f pk ts s)) : spP K mg C f pk vs H Q (WE W.w σ) := by
  refine ⟨L, ts, s, hR, d, ?_⟩
  cases e : pC C f pk ts s with
  | ok t s' => rw [e] at hp; exact hp
  | exc x s' => rw [e] at hp; exact hp
  | bad => rw [e] at hp; exact hp
theorem r_meth {pl : Sem Bool} (rm : Rm k X.A) (tk : Takes X W.w) (hmt : ∀ q ∈ mt, MethF X.prog X.w X.K X.mg X.base k C m q) (ho : FE X W o fo) (ha : FL X W (e :: es) fl)
    (hst : starEach (e :: es) X.env = (false, eval e X.env) :: starEach es X.env := by rfl) (hpl : (backTo pos (starEach es X.env)).any (·.1) = false := by rfl)
    (ht : eval (.Call (.Attribute o (Str.ofString m) apos) (e :: es) [] pos) X.env = (do
      let ov ← eval o X.env
      standAt apos.atName
      let (f, first) ← holding [ov] (getMethod ov (Str.ofString m) pl)
      callWith pos f first (backTo pos (starEach (e :: es) X.env)) (backToKw pos (keywordEach [] X.env))) := by rfl) :
    FE X W (.Call (.Attribute o (Str.ofString m) apos) (e :: es) [] pos) (eMeth mt m C fo fl) := by
  refine ⟨fun pins s σ H Q I ⟨L, r, st, hR, hE, hp⟩ => ?_⟩
  have go : lE X.K X.mg W fo σ H fun v H1 => ∃ p Ca dx fs g f pk, v = .ref p ∧ H1 p = some (.ins Ca dx fs) ∧ fs.lookup (Str.ofString m) = none ∧ Cls X.K Ca ∧ Meth X.K Ca (Str.ofString m) g ∧ CalP X.prog X.w X.K X.mg X.base k C f g pk ∧ lL X.K X.mg W fl σ H1 fun vs H2 => spP X.K X.mg C f pk (.ref p :: vs) H2 Q (WE W.w σ) := by
    refine lE_bnd hR hE hp fun t s1 v L1 H1 x1 R1 E1 d1 p1 => ?_
    split at p1
    · next n c fs e1 =>
      obtain ⟨rfl, e2⟩ := insOf_of e1
      obtain ⟨p, Ca, dx, fs', rfl, h1, h2, h3, h4⟩ := D.insE R1 d1 e2
      split at p1
      · next f pk e3 =>
        split at p1
        · next e4 =>
          obtain ⟨Ca', g, k1, k2, k3, k4⟩ := look_all hmt e3
          rw [h3] at k1; cases k1
          refine ⟨p, Ca, dx, fs', g, f, pk, rfl, h2, fds_none h4 (by simpa using e4), k2, k3, k4, ?_⟩
          exact lL_bnd R1 E1 p1 fun ts s2 vs L2 H2 x2 R2 E2 d2 p2 => PostE.spP R2 (.cons (d1.mono x2) d2) p2
        · exact p1.elim
      · exact p1.elim
    · exact p1.elim
  refine PySem.W.methodCall_KW (pl := pl) (thn (ho.run pins s σ H _ I go) fun u s1 ⟨x, H1, I1, rx, p, Ca, dx, fs, g, f, pk, ex, ea, l, c, hm, cp, q⟩ => ?_) ht
  subst ex
  obtain rfl : u = Value.ref p := rx
  refine getmeth_ok I1 ea c hm l ?_
  refine PySem.W.callWith_K (first := [.ref p]) (h₀ := X.base) I.ok.mod.kin hm.kp (thn (ha.run pos pins s1 σ H1 _ I1 q) fun us s2 ⟨vs, H2, I2, r, q2⟩ => ⟨I2.kIn, ?_⟩) hst hpl
  exact run_fnP (us := .ref p :: us) (vs := .ref p :: vs) cp.run rm tk I2 (.cons rfl r) q2
theorem r_meth0 {pl : Sem Bool} (rm : Rm k X.A) (tk : Takes X W.w) (hmt : ∀ q ∈ mt, MethF X.prog X.w X.K X.mg X.base k C m q) (ho : FE X W o fo)
    (ht : eval (.Call (.Attribute o (Str.ofString m) apos) [] [] pos) X.env = (do
      let ov ← eval o X.env
      standAt apos.atName
      let (f, first) ← holding [ov] (getMethod ov (Str.ofString m) pl)
      callWith pos f first (backTo pos (starEach [] X.env)) (backToKw pos (keywordEach [] X.env))) := by rfl) :
    FE X W (.Call (.Attribute o (Str.ofString m) apos) [] [] pos) (eMeth mt m C fo lNil) := by
  refine ⟨fun pins s σ H Q I ⟨L, r, st, hR, hE, hp⟩ => ?_⟩
  have go : lE X.K X.mg W fo σ H fun v H1 => ∃ p Ca dx fs g f pk, v = .ref p ∧ H1 p = some (.ins Ca dx fs) ∧ fs.lookup (Str.ofString m) = none ∧ Cls X.K Ca ∧ Meth X.K Ca (Str.ofString m) g ∧ CalP X.prog X.w X.K X.mg X.base k C f g pk ∧ spP X.K X.mg C f pk [.ref p] H1 Q (WE W.w σ) := by
    refine lE_bnd hR hE hp fun t s1 v L1 H1 x1 R1 E1 d1 p1 => ?_
    split at p1
    · next n c fs e1 =>
      obtain ⟨rfl, e2⟩ := insOf_of e1
      obtain ⟨p, Ca, dx, fs', rfl, h1, h2, h3, h4⟩ := D.insE R1 d1 e2
      split at p1
      · next f pk e3 =>
        split at p1
        · next e4 =>
          obtain ⟨Ca', g, k1, k2, k3, k4⟩ := look_all hmt e3
          rw [h3] at k1; cases k1
          refine ⟨p, Ca, dx, fs', g, f, pk, rfl, h2, fds_none h4 (by simpa using e4), k2, k3, k4, ?_⟩
          exact PostE.spP (W := W) R1 (.cons d1 .nil) p1
        · exact p1.elim
      · exact p1.elim
    · exact p1.elim
  refine PySem.W.methodCall_KW (pl := pl) (thn (ho.run pins s σ H _ I go) fun u s1 ⟨x, H1, I1, rx, p, Ca, dx, fs, g, f, pk, ex, ea, l, c, hm, cp, q⟩ => ?_) ht
  subst ex
  obtain rfl : u = Value.ref p := rx
  refine getmeth_ok I1 ea c hm l ?_
  exact PySem.W.callWith_K0 (first := [.ref p]) I1.kIn hm.kp (run_fnP (us := [.ref p]) (vs := [.ref p]) cp.run rm tk I1 (.cons rfl .nil) q)
end

/-! ### e.f -/
inductive AK where
  | fld | prop (g : String) | con (i : Int)
def Out.nox : Out → Out
  | .ok t s => .ok t s
  | _ => .bad
def attr (tb : List (String × AK)) (f : String) (C : CallT) (t : T) (s : Sto) : Out := match insOf t s with
  | some (_, c, fs) => (match tb.lookup c with
    | some .fld => (match fs.lookup f with
      | some u => .ok u s
      | none => .bad)
    | some (.prop g) => (C g [t] s).nox
    | some (.con i) => if (fs.lookup f).isNone = true then .ok (.int i) s else .bad
    | none => .bad)
  | none => .bad
def eAttr (tb : List (String × AK)) (f : String) (C : CallT) (o : Ev) : Ev := fun r s => (o r s).bnd fun t s1 => attr tb f C t s1
def AttF (P : Program) (w : World) (K : PySem.W.Frag) (mg : Str → Option Value) (base : Heap) (k : Nat) (C : CallT) (f : String) (q : String × AK) : Prop :=
  ∃ Ca, mg (Str.ofString q.1) = some (.ref Ca) ∧ Cls K Ca ∧ (match q.2 with
    | .fld => NoAttr K Ca (Str.ofString f)
    | .prop g => ∃ p a, PropOf K Ca (Str.ofString f) p a ∧ CalP P w K mg base k C g a (.all [])
    | .con i => ∃ u, Con K Ca (Str.ofString f) (.int i) u)
section
variable {X : Cx} {W : WS} {k : Nat} {C : CallT} {f : String} {tb : List (String × AK)} {pos : Pos} {o : Expr} {fo : Ev}
theorem getpropF {pins : List (Addr × Obj)} {σ : L2.St} {H : Hp} {s : Shared} {Q : VK} {b : Bool} {E' : Value → Shared → Prop} {a Ca dx p g : Addr} {fs : List (Str × V)} {f : Str} {sp : Sp} (I : Inv X pins σ H s) (ea : H a = some (.ins Ca dx fs)) (c : Cls X.K Ca) (hp : PropOf X.K Ca f p g)
    (F : FnP X.prog X.w X.K X.mg X.base k g sp) (hr : Rm k X.A.in1) (h : sp [.ref a] H Q fun _ _ _ => False) :
    wpAny (model X.prog X.w) X.A (getAttr (.ref a) f b) (EP X pins σ Q) E' s := by
  obtain ⟨mA, O, _, _, _, _⟩ := ins_get I.hok ea
  obtain ⟨od, J, _⟩ := O.look
  obtain ⟨rest, hrec⟩ := hp.rec_
  have I1 := I.tok (s.toks + 1)
  have hc : (PySem.W.clsIn X.K Ca).isSome = true := by
    obtain ⟨cd, hc, _⟩ := PySem.W.any_some c.hd
    rw [hc]
    rfl
  refine PySem.W.get_bind I.kIn J (PySem.W.plainGet_of (c.get f)).1 (PySem.W.findObj_data hc hp.at_ hp.get hp.tak) (PySem.W.plainGet_of (c.get f)).2 (wpAny_call (PySem.W.prop_get (s := { s with toks := s.toks + 1 }) I.kIn hrec ?_))
  refine codeAny_mono (F X.A.in1 X.stack { s with toks := s.toks + 1 } H [.ref a] [.ref a] Q _ hr I1.env0.in1 (.cons rfl .nil) h) fun r s' hq => ?_
  match r, hq with
  | .error e, hq =>
    obtain ⟨_, _, _, _, _, _, _, _, _, _, _, _, he⟩ := hq
    exact he.elim
  | .ok (.ret u), hq =>
    obtain ⟨v, H', I3, rv, q3⟩ := I1.after hq
    show wpAny _ _ (handedOut u) _ _ _
    rw [PySem.W.handedOut_of (handed_of rv)]
    exact wpAny_pure ⟨v, H', I3, rv, q3⟩
  | .ok .next, hq => exact False.elim hq
  | .ok .brk, hq => exact False.elim hq
  | .ok .cont, hq => exact False.elim hq
theorem PostE.nox {L : List Addr} {H : Hp} {σ : L2.St} {Q : VK} {o : Out} (hp : PostE X.K X.mg W L H σ Q o.nox) : ∃ t s, o = .ok t s ∧ PostE X.K X.mg W L H σ Q (.ok t s) := by
  cases o with
  | ok t s => exact ⟨t, s, rfl, hp⟩
  | exc x s => exact hp.elim
  | bad => exact hp.elim
theorem r_attr (ri : Ri k X.A) (htb : ∀ q ∈ tb, AttF X.prog X.w X.K X.mg X.base k C f q) (ho : FE X W o fo) (hab : attributeBase o (Str.ofString f) X.env (eval o X.env) = eval o X.env := by rfl) :
    FE X W (.Attribute o (Str.ofString f) pos) (eAttr tb f C fo) := by
  refine ⟨fun pins s σ H Q I ⟨L, r, st, hR, hE, hp⟩ => ?_⟩
  have go : lE X.K X.mg W fo σ H fun v H1 => ∃ p Ca dx fs, v = .ref p ∧ H1 p = some (.ins Ca dx fs) ∧ Cls X.K Ca ∧
      ((∃ u, NoAttr X.K Ca (Str.ofString f) ∧ fs.lookup (Str.ofString f) = some u ∧ Q u H1) ∨ (∃ q a g, PropOf X.K Ca (Str.ofString f) q a ∧ CalP X.prog X.w X.K X.mg X.base k C g a (.all []) ∧ spP X.K X.mg C g (.all []) [.ref p] H1 Q fun _ _ _ => False) ∨ ∃ i u, Con X.K Ca (Str.ofString f) (.int i) u ∧ fs.lookup (Str.ofString f) = none ∧ Q (.int i) H1) := by
    refine lE_bnd hR hE hp fun t s1 v L1 H1 x1 R1 E1 d1 p1 => ?_
    unfold attr at p1
    split at p1
    · next n c fs e1 =>
      obtain ⟨rfl, e2⟩ := insOf_of e1
      obtain ⟨p, Ca, dx, fs', rfl, h1, h2, h3, h4⟩ := D.insE R1 d1 e2
      split at p1
      · next e3 =>
        obtain ⟨Ca', k1, k2, k3⟩ := look_all htb e3
        rw [h3] at k1; cases k1
        split at p1
        · next u e4 =>
          obtain ⟨v, k4, k5⟩ := fds_get h4 e4
          exact ⟨p, Ca, dx, fs', rfl, h2, k2, .inl ⟨v, k3, k4, p1 v L1 H1 Ex.refl R1 k5⟩⟩
        · exact p1.elim
      · next g e3 =>
        obtain ⟨Ca', k1, k2, q, a, k3, k4⟩ := look_all htb e3
        rw [h3] at k1; cases k1
        obtain ⟨u, s2, e4, p2⟩ := PostE.nox p1
        refine ⟨p, Ca, dx, fs', rfl, h2, k2, .inr (.inl ⟨q, a, g, k3, k4, ?_⟩)⟩
        refine ⟨L1, [.loc n], s1, R1, .cons d1 .nil, ?_⟩
        show PostF _ _ _ _ _ _ (C g ([.loc n] ++ []) s1)
        rw [List.append_nil, e4]
        exact p2
      · next i e3 =>
        obtain ⟨Ca', k1, k2, u, k3⟩ := look_all htb e3
        rw [h3] at k1; cases k1
        split at p1
        · next e4 => exact ⟨p, Ca, dx, fs', rfl, h2, k2, .inr (.inr ⟨i, u, k3, fds_none h4 (by simpa using e4), p1 _ L1 H1 Ex.refl R1 (.int i)⟩)⟩
        · exact p1.elim
      · exact p1.elim
    · exact p1.elim
  refine attr_of hab (thn (ho.run pins s σ H _ I go) fun u s1 ⟨x, H1, I1, rx, p, Ca, dx, fs, ex, ea, c, q⟩ => ?_)
  subst ex
  obtain rfl : u = Value.ref p := rx
  rcases q with ⟨u, n, l, q⟩ | ⟨y, a, g, hp, cp, q⟩ | ⟨i, u, k, l, q⟩
  · exact getattr_ok I1 ea c n l fun u' s2 I2 ru => ⟨_, H1, I2, ru, q⟩
  · exact getpropF I1 ea c hp cp.run ri.r1 q
  · exact getcon_ok I1 ea c k l fun s2 I2 => ⟨_, H1, I2, k.rel, q⟩
end

/-! ### e.f = v -/
def putT (f : String) (v : T) : List (String × T) → List (String × T)
  | [] => [(f, v)]
  | (g, x) :: r => if g = f then (g, v) :: r else (g, x) :: putT f v r
def setFld (cs : List String) (f : String) (t y : T) (s : Sto) : Option Sto := match insOf t s with
  | some (n, c, fs) => if cs.contains c = true ∧ fs.length < 1000 then some (s.put n (.ins c (putT f y fs))) else none
  | none => none
def sFldF (cs : List String) (f : String) (a o : Ev) : Sv := fun r s => (a r s).bndS r fun y s1 => (o r s1).bndS r fun t s2 => match setFld cs f t y s2 with
  | some s3 => .nx r s3
  | none => .bad
def FldF (K : PySem.W.Frag) (mg : Str → Option Value) (f : String) (c : String) : Prop := ∃ Ca, mg (Str.ofString c) = some (.ref Ca) ∧ Cls K Ca ∧ NoAttr K Ca (Str.ofString f)
theorem fds_put {K : PySem.W.Frag} {mg : Str → Option Value} {L : List Addr} {H : Hp} {f : String} {v : V} {t : T} (d : D K mg L H v t) : ∀ {fs : List (String × T)} {fs' : List (Str × V)}, Fds K mg L H fs' fs → Fds K mg L H (putF (Str.ofString f) v fs') (putT f t fs)
  | [], [], _ => ⟨rfl, .cons d .nil⟩
  | [], _ :: _, h => nomatch h.1
  | q :: fs, [], h => nomatch h.1
  | (q1, q2) :: fs, (q1', q2') :: fs', ⟨h6, h7⟩ => by
    simp only [List.map_cons, List.cons.injEq] at h6 h7
    obtain ⟨g1, g2⟩ := h6
    cases h7 with
    | cons d1 d2 =>
      subst g1
      unfold putT putF
      by_cases hq : q1 = f
      · subst hq
        rw [if_pos rfl, if_pos rfl]
        exact ⟨by simp [g2], .cons d d2⟩
      · rw [if_neg hq, if_neg fun z => hq (ofS_inj z)]
        obtain ⟨r1, r2⟩ := fds_put d (f := f) ⟨g2, d2⟩
        exact ⟨by simp only [List.map_cons, r1], .cons d1 r2⟩
section
variable {X : Cx} {W : WS} {f : String} {cs : List String} {pos pos' : Pos} {o e : Expr} {fa fo : Ev}
theorem s_fld (hcs : ∀ c ∈ cs, FldF X.K X.mg f c) (ha : FE X W e fa) (ho : FE X W o fo) (hs : swapsWith e (some (.Attribute o (Str.ofString f) pos')) pos.line X.env = pure false := by rfl) : FS X W (.Assign [.Attribute o (Str.ofString f) pos'] e pos) (sFldF cs f fa fo) := by
  refine PSw (ps_fld ho ha hs) fun Z σ H ⟨L, r, s, hR, hE, hp⟩ => ?_
  refine lE_bndS hR hE hp fun y s1 v L1 H1 x1 R1 E1 d1 p1 => ?_
  refine lE_bndS R1 E1 p1 fun t s2 u L2 H2 x2 R2 E2 d2 p2 => ?_
  cases e1 : setFld cs f t y s2 with
  | none => rw [e1] at p2; exact p2.elim
  | some s3 =>
    rw [e1] at p2
    unfold setFld at e1
    split at e1
    · next n c fs e2 =>
      obtain ⟨rfl, e3⟩ := insOf_of e2
      obtain ⟨p, Ca, dx, fs', rfl, h1, h2, h3, h4⟩ := D.insE R2 d2 e3
      split at e1
      · next hc =>
        cases e1
        obtain ⟨Ca', k1, k2, k3⟩ := hcs c (by simpa using hc.1)
        rw [h3] at k1; cases k1
        have hl : fs'.length < 1000 := by
          have := congrArg List.length h4.1
          simp only [List.length_map] at this
          omega
        refine ⟨p, Ca, dx, fs', rfl, h2, k2, k3, hl, ?_⟩
        have x3 : Ex L2 H2 L2 (upd H2 p (.ins Ca dx (putF (Str.ofString f) v fs'))) := R2.exPut (List.mem_of_getElem? h1)
        refine p2 σ L2 _ x3 (R2.put h1 ⟨Ca, dx, _, upd_same, h3, fds_put ((d1.mono x2).mono x3) (Fds.mono h4 x3)⟩) (E2.mono x3)
      · cases e1
    · cases e1
end

/-! ### C(e, ..) -/
def mkOut (n : Nat) : Out → Out
  | .ok .non s => .ok (.loc n) s
  | .ok _ _ => .bad
  | .exc x s => .exc x s
  | .bad => .bad
def mkC (C : CallT) (c f : String) (pk : Pk) (ts : List T) (s : Sto) : Out := mkOut s.len (pC C f pk (.loc s.len :: ts) (s.add (.ins c [])))
def eMake (C : CallT) (c f : String) (pk : Pk) (l : Lv) : Ev := fun r s => (l r s).bnd fun ts s1 => mkC C c f pk ts s1
structure MkF (P : Program) (w : World) (K : PySem.W.Frag) (mg : Str → Option Value) (base : Heap) (k : Nat) (C : CallT) (c f : String) (pk : Pk) : Prop where
  ex : ∃ Ca a, mg (Str.ofString c) = some (.ref Ca) ∧ Mk K Ca a ∧ CalP P w K mg base k C f a pk
section
variable {X : Cx} {W : WS} {k : Nat} {C : CallT} {c f : String} {pk : Pk} {pos p : Pos} {e : Expr} {es : List Expr} {fl : Lv}
/-- a new instance: the reading behind its arguments -/
def mkG (K : PySem.W.Frag) (mg : Str → Option Value) (C : CallT) (f : String) (pk : Pk) (W : WS) (σ : L2.St) (Q : VK) (Ca : Addr) (vs : List V) (H1 : Hp) : Prop := ∀ x dx, H1 x = none → H1 dx = none → dx ≠ x →
  spP K mg C f pk (.ref x :: vs) (upd (upd H1 dx (.own x)) x (.ins Ca dx [])) (fun v H2 => v = .non ∧ Q (.ref x) H2) (WE W.w σ)
theorem mkG_of {L1 : List Addr} {H1 : Hp} {s1 : Sto} {σ : L2.St} {Q : VK} {vs : List V} {ts : List T} {Ca : Addr} (h3 : X.mg (Str.ofString c) = some (.ref Ca)) (R1 : Rl X.K X.mg L1 s1 H1) (d1 : Ds X.K X.mg L1 H1 vs ts) (p1 : PostE X.K X.mg W L1 H1 σ Q (mkC C c f pk ts s1)) : mkG X.K X.mg C f pk W σ Q Ca vs H1 := by
  intro x dx hx hdx hne
  have hx2 : (upd H1 dx (.own x)) x = none := by rw [upd_ne (Ne.symm hne)]; exact hx
  have Ra := R1.laid (ho := .own x) hdx
  have Rb : Rl X.K X.mg (L1 ++ [x]) (s1.add (.ins c [])) (upd (upd H1 dx (.own x)) x (.ins Ca dx [])) := Ra.add hx2 ⟨Ca, dx, [], upd_same, h3, rfl, .nil⟩
  have xx : Ex L1 H1 (L1 ++ [x]) (upd (upd H1 dx (.own x)) x (.ins Ca dx [])) := (Ex.laid hdx).trans (Ex.add hx2)
  refine ⟨_, .loc s1.len :: ts, _, Rb, .cons Ra.addD (d1.mono xx), ?_⟩
  unfold mkC at p1
  cases e : pC C f pk (.loc s1.len :: ts) (s1.add (.ins c [])) with
  | bad => rw [e] at p1; exact p1.elim
  | exc y s2 => rw [e] at p1; exact fun cls d L' H' y1 y2 y3 => p1 cls d L' H' (xx.trans y1) y2 y3
  | ok t s2 =>
    rw [e] at p1
    cases t with
    | non =>
      intro v L' H' y1 y2 y3
      cases y3
      refine ⟨rfl, p1 (.ref x) L' H' (xx.trans y1) y2 (.loc (y1.get ?_))⟩
      show (L1 ++ [x])[s1.os.length]? = _
      rw [← R1.len]
      simp
    | _ => exact p1.elim
theorem run_mkF {pins : List (Addr × Obj)} {σ : L2.St} {H : Hp} {s : Shared} {Q : VK} {us : List Value} {vs : List V} {Ca a : Addr} (M : Mk X.K Ca a) (F : FnP X.prog X.w X.K X.mg X.base k a (spP X.K X.mg C f pk)) (hr : RmMk k X.A) (tk : Takes X W.w) (I : Inv X pins σ H s) (r : Vals vs us) (h : mkG X.K X.mg C f pk W σ Q Ca vs H) :
    wpAny (model X.prog X.w) X.A (call (.ref Ca) us) (EP X pins σ Q) X.xe s := by
  have hq := h (s.heap.objs.size + 1) s.heap.objs.size (I.hok.fresh (Nat.le_succ _)) (I.hok.fresh (Nat.le_refl _)) (Nat.ne_of_lt (Nat.lt_succ_self _))
  have I2 := Inv.made (C := Ca) I
  have r2 : Vals (V.ref (s.heap.objs.size + 1) :: vs) (Value.ref (s.heap.objs.size + 1) :: us) := .cons rfl r
  refine wpAny_call (make_map (f := a) I.kIn M.makes M.init (beq_iff_eq.mp M.fn) (codeAny_mono (F _ X.stack _ _ (Value.ref (s.heap.objs.size + 1) :: us) _ _ _ (hr Ca us []) (I2.env0.make Ca us []) r2 hq) fun r s' hq' => ?_))
  match r, hq' with
  | .error e, hq' => exact passAt tk σ pins _ _ e s' I2 hq'
  | .ok (.ret u), hq' =>
    obtain ⟨v, H', I3, rv, ev, q3⟩ := I2.after hq'
    subst ev
    exact ⟨rv, ⟨V.ref (s.heap.objs.size + 1), H', I3, rfl, q3⟩⟩
  | .ok .next, hq' => exact False.elim hq'
  | .ok .brk, hq' => exact False.elim hq'
  | .ok .cont, hq' => exact False.elim hq'
theorem r_make {N : List Str} {sc : Scope} (B : Bx X N sc) (rmk : RmMk k X.A) (tk : Takes X W.w) (m : MkF X.prog X.w X.K X.mg X.base k C c f pk) (hg : sc.names.lookup (Str.ofString c) = some .globalImplicit) (ha : FL X W (e :: es) fl) (hdb : (Str.ofString c == ("__debug__" : Str)) = false := by decide)
    (he : starEach (e :: es) X.env = (false, eval e X.env) :: starEach es X.env := by rfl) (hpl : (backTo pos (starEach es X.env)).any (·.1) = false := by rfl) : FE X W (.Call (.Name (Str.ofString c) p) (e :: es) [] pos) (eMake C c f pk fl) := by
  obtain ⟨Ca, a, hm, M, F, _⟩ := m.ex
  refine ⟨fun pins s σ H Q I ⟨L, r, st, hR, hE, hp⟩ => ?_⟩
  have go : lL X.K X.mg W fl σ H fun vs H1 => mkG X.K X.mg C f pk W σ Q Ca vs H1 := lL_bnd hR hE hp fun ts s1 vs L1 H1 x1 R1 E1 d1 p1 => mkG_of hm R1 d1 p1
  refine wpAny_Call_Name_kw (ld_glob I (B.gl hg) hm ?_ hdb)
  refine PySem.W.callWith_K (h₀ := X.base) I.ok.mod.kin M.kp (thn (ha.run pos pins s σ H _ I go) fun us s1 ⟨vs, H1, I1, r, q⟩ => ⟨I1.kIn, ?_⟩) he hpl
  exact run_mkF M F rmk tk I1 r q
theorem r_make0 {N : List Str} {sc : Scope} (B : Bx X N sc) (rmk : RmMk k X.A) (tk : Takes X W.w) (m : MkF X.prog X.w X.K X.mg X.base k C c f pk) (hg : sc.names.lookup (Str.ofString c) = some .globalImplicit) (hdb : (Str.ofString c == ("__debug__" : Str)) = false := by decide) :
    FE X W (.Call (.Name (Str.ofString c) p) [] [] pos) (eMake C c f pk lNil) := by
  obtain ⟨Ca, a, hm, M, F, _⟩ := m.ex
  refine ⟨fun pins s σ H Q I ⟨L, r, st, hR, hE, hp⟩ => ?_⟩
  refine wpAny_Call_Name_kw (ld_glob I (B.gl hg) hm ?_ hdb)
  exact PySem.W.callWith_K0 I.kIn M.kp (run_mkF (us := []) (vs := []) M F rmk tk I .nil (mkG_of hm hR .nil hp))
end
end Fx

set_option maxRecDepth 100000
set_option maxHeartbeats 2000000
/-! Fx: starred parameters and arguments, classmethods. -/
namespace Fx
open PySem L2 PyProof.Rows

/-! ### def f(a, .., *v) -/
theorem Ds.split {K : PySem.W.Frag} {mg : Str → Option Value} {L : List Addr} {H : Hp} {vs : List V} {ts : List T} (n : Nat) (d : Ds K mg L H vs ts) : Ds K mg L H (vs.take n) (ts.take n) ∧ Ds K mg L H (vs.drop n) (ts.drop n) := ⟨d.take n, d.drop n⟩
theorem fnP_star {P : Program} {w : World} {K : PySem.W.Frag} {mg : Str → Option Value} {base : Heap} {k : Nat} {x qual : Str} {params : Arguments} {body : List Stmt} {scope : Scope} {a : Addr} {fd : FuncData} {N ps : List Str} {pv : Str}
    {p : String → Option FnD} {f : String} {d : FnD} (F : FunD K x qual params body scope [] [] a fd) (S : FnScope N (ps ++ [pv]) scope) (hp : p f = some d) (h1 : d.np = ps.length + 1) (h2 : d.nl = N.length)
    (hbd : ∀ (kV doc pm : Value) (an : Option Addr) (cdv ct : Value) (us rest : List Value), us.length = ps.length → bindArgs (PySem.W.fnOf x qual params body scope .none kV doc pm an cdv ct) ⟨us ++ rest, []⟩ = (newTuple rest >>= fun t => pure (ps.zip us ++ [(pv, t)])))
    (hb : ∀ (X : Cx) (W : WS), X.prog = P → X.w = w → X.K = K → X.mg = mg → X.base = base → Ctx X W N scope k → FSs X W body (d.body (run p k))) : CalP P w K mg base (k + 1) (run p (k + 1)) f a (.star ps.length []) := by
  obtain ⟨oc, od, dV, kV, doc, pm, an, cdv, ct, osl, rfl, lk, hcd, hD, _⟩ := F.ex
  have hdv : dV = .none := by
    rcases hD with ⟨_, e⟩ | ⟨e, _⟩
    · exact e
    · exact absurd rfl e
  subst hdv
  refine ⟨fun A below s H us vs Q E hr e0 rv ⟨L, ts, st, hR, hDs, hq⟩ => ?_, F.kp⟩
  unfold pC Pk.go at hq
  dsimp only at hq
  split at hq
  · next us' e1 =>
    split at e1
    · next hn =>
      cases e1
      obtain ⟨d1, d2⟩ := hDs.split ps.length
      have hlv := hDs.length
      have ev : vs = vs.take ps.length ++ vs.drop ps.length := (List.take_append_drop _ _).symm
      rw [ev] at rv
      obtain ⟨u1, u2, eu, r1, r2⟩ := StX.vals_split rv
      subst eu
      have hlw : (vs.take ps.length).length = ps.length := by rw [List.length_take]; omega
      have hl1 : u1.length = ps.length := by rw [← r1.length]; exact hlw
      have hz : (vs.drop ps.length).length ≤ sizeLine := by have := d2.length; rw [this]; exact hn.2
      have hl2 : u2.length ≤ sizeLine := by rw [← r2.length]; exact hz
      have hnew : H s.heap.objs.size = none := e0.hok.fresh (Nat.le_refl _)
      refine StX.run_bnd (k := 4 * k + 5) lk hcd S (hr.room.mono (by omega)) e0 (G := fun xs H2 => ∃ q, H q = none ∧ xs = vs.take ps.length ++ [V.ref q] ∧ H2 = upd H q (.tup (vs.drop ps.length))) (fun A' Ex Q' h => ?_) fun s2 H2 xs ⟨q, hqn, ex, eH⟩ hr' => ?_
      · rw [hbd kV doc pm an cdv ct u1 u2 hl1]
        refine wpAny_bind (wpAny_newTuple (wpAny_pure ?_) hl2)
        have new : ObjOk P w (upd H s.heap.objs.size (.tup (vs.drop ps.length))) (s.heap.push ({ cls := .type "tuple", data := .seq u2.toArray } : Obj)) s.heap.objs.size (.tup (vs.drop ps.length)) := ⟨hz, u2, r2, ⟨_, Heap.get?_push_size _ rfl, rfl, _, rfl⟩⟩
        have un := StX.un_laid (fs := frs below) (s := s) (o := ({ cls := .type "tuple", data := .seq u2.toArray } : Obj)) (u := .tup (vs.drop ps.length)) hnew
        have z := h _ _ (vs.take ps.length ++ [V.ref s.heap.objs.size]) (u1 ++ [Value.ref s.heap.objs.size]) (StX.env0_laid e0 new) un rfl (fun e s' => StX.cxUp below s H _ _ E e s' un (fun b o q => Heap.get?_push_of_some _ q) rfl) (r1.append (.cons rfl .nil))
          (by rw [List.length_append, List.length_append, hlw] <;> rfl) ⟨_, hnew, rfl, rfl⟩
        rw [List.zip_append hl1.symm] at z
        exact z
      · subst ex eH
        have ctx : Ctx (cxOf (L2.CX P w) P w K mg base N qual scope a cdv A below s2 (upd H q (.tup (vs.drop ps.length))) E) (WS.of fun cls d _ H => E cls d H) N scope k :=
          ⟨⟨rfl, rfl, S.nd⟩, ⟨rfl, rfl⟩, takes_of rfl rfl rfl rfl, hr.deeper _, hr.ri _, hr.mk' _, passes_of rfl, fun _ => rfl, rfl, rfl, rfl⟩
        refine ⟨_, hb _ _ rfl rfl rfl rfl rfl ctx, ?_⟩
        have xx : Ex L H L (upd H q (.tup (vs.drop ps.length))) := Ex.laid hqn
        have hR2 : Rl K mg L st (upd H q (.tup (vs.drop ps.length))) := hR.laid hqn
        have hD2 : Ds K mg L (upd H q (.tup (vs.drop ps.length))) (vs.take ps.length ++ [V.ref q]) (ts.take ps.length ++ [.tup (ts.drop ps.length)]) := (d1.mono xx).app (.cons (.tup (.inl upd_same) (d2.mono xx)) .nil)
        refine ⟨L, _, st, hR2, start_er hD2, ?_⟩
        simp only [run, hp, runD] at hq
        split at hq
        · rename_i e
          have hq2 := PostF.gc hR hq
          rw [h2] at hq2
          have el : (ts.take ps.length ++ [T.tup (ts.drop ps.length)]).length = ps.length + 1 := by simp only [List.length_append, List.length_take, List.length_singleton]; omega
          rw [h1] at hq2
          rw [el]
          revert hq2
          generalize d.body (run p k) _ st = o
          intro hq2
          cases o with
          | nx r s' => exact fun σ L' H' x1 x2 _ => hq2 .non L' H' (xx.trans x1) x2 .non
          | rt t s' => exact fun v L' H' x1 x2 => hq2 v L' H' (xx.trans x1) x2
          | bk r s' => exact hq2.elim
          | ct r s' => exact hq2.elim
          | ex x r s' => exact fun cls d σ L' H' x1 x2 _ x4 => hq2 cls d L' H' (xx.trans x1) x2 x4
          | bad => exact hq2.elim
        · exact hq.elim
    · cases e1
  · exact hq.elim

/-! ### c(*e), c a name that stands for a class -/
def clsOf (mt : List (String × String × Pk)) : T → Option (String × String × Pk)
  | .glo c => (mt.lookup c).map fun q => (c, q)
  | _ => none
def eMakeS (mt : List (String × String × Pk)) (C : CallT) (fe l : Ev) : Ev := fun r s => (fe r s).bnd fun c s1 => match clsOf mt c with
  | some (c, f, pk) => (l r s1).bnd fun t s2 => (match itemsT s2 t with
    | some ts => mkC C c f pk ts s2
    | none => .bad)
  | none => .bad
section
variable {X : Cx} {W : WS} {k : Nat} {C : CallT} {N : List Str} {sc : Scope} {pos p sp_ : Pos} {x : Str} {e : Expr} {fl : Ev} {mt : List (String × String × Pk)}
theorem D.gloE {K : PySem.W.Frag} {mg : Str → Option Value} {L : List Addr} {H : Hp} {v : V} {c : String} (d : D K mg L H v (.glo c)) : ∃ a, v = .ref a ∧ mg (Str.ofString c) = some (.ref a) := by
  cases d with
  | glo h => exact ⟨_, rfl, h⟩
theorem clsOf_of {t : T} {q : String × String × Pk} (h : clsOf mt t = some q) : t = .glo q.1 ∧ mt.lookup q.1 = some q.2 := by
  unfold clsOf at h
  split at h
  · next c =>
    cases e : mt.lookup c with
    | none => rw [e] at h; cases h
    | some z => rw [e] at h; cases h; exact ⟨rfl, e⟩
  · cases h
theorem r_makeS (rmk : RmMk k X.A) (tk : Takes X W.w) (hmt : ∀ q ∈ mt, MkF X.prog X.w X.K X.mg X.base k C q.1 q.2.1 q.2.2) {fe : Ev} (hf : FE X W (.Name x p) fe) (ha : FE X W e fl)
    (hst : starEach [.Starred e sp_] X.env = [(true, eval e X.env)] := by rfl) :
    FE X W (.Call (.Name x p) [.Starred e sp_] [] pos) (eMakeS mt C fe fl) := by
  refine ⟨fun pins s σ H Q I ⟨L, r, st, hR, hE, hp⟩ => ?_⟩
  have go : lE X.K X.mg W fe σ H fun v H1 => ∃ Ca a f pk, v = .ref Ca ∧ Mk X.K Ca a ∧ CalP X.prog X.w X.K X.mg X.base k C f a pk ∧ lE X.K X.mg W fl σ H1 fun y H2 => ∃ q xs, y = .ref q ∧ (SqT X.K H2 q xs ∨ SqL X.K H2 q xs) ∧ mkG X.K X.mg C f pk W σ Q Ca xs H2 := by
    refine lE_bnd hR hE hp fun c s1 v L1 H1 x1 R1 E1 d1 p1 => ?_
    split at p1
    · next c f pk e1 =>
      obtain ⟨rfl, e2⟩ := clsOf_of e1
      obtain ⟨Ca, rfl, hm⟩ := d1.gloE
      obtain ⟨Ca', a, k1, k2, k3⟩ := (look_all hmt e2).ex
      rw [hm] at k1; cases k1
      refine ⟨Ca, a, f, pk, rfl, k2, k3, lE_bnd R1 E1 p1 fun t s2 y L2 H2 x2 R2 E2 d2 p2 => ?_⟩
      split at p2
      · next xs e0 =>
        obtain ⟨q, vs, rfl, hq, hd⟩ := items_of (X := X) R2 d2 e0
        exact ⟨q, vs, rfl, hq.symm, mkG_of hm R2 hd p2⟩
      · exact p2.elim
    · exact p1.elim
  refine wpAny_Call_Name_kw (thn (hf.run pins s σ H _ I go) fun v s0 ⟨y, H0, I0, ry, Ca, a, f, pk, ey, M, F, q⟩ => ?_)
  subst ey
  obtain rfl : v = Value.ref Ca := ry
  refine PySem.W.callWith_S (h₀ := X.base) I.ok.mod.kin M.kp (thn (ha.run pins s0 σ H0 _ I0 q) fun v s1 ⟨y, H1, I1, ry, b, xs, ey, hxs, q⟩ => ?_) hst
  subst ey
  obtain rfl : v = Value.ref b := ry
  exact StX.star_any I1 hxs fun us s2 I2 rv => ⟨I2.kIn, run_mkF M F.run rmk tk I2 rv q⟩
end

/-! ### C.m(e, ..), m a classmethod -/
def eCm (mt : List (String × String × Pk)) (C : CallT) (o : Ev) (l : Lv) : Ev := fun r s => (o r s).bnd fun t s1 => match clsOf mt t with
  | some (_, f, pk) => (l r s1).bnd fun ts s2 => pC C f pk (t :: ts) s2
  | none => .bad
def CmF (P : Program) (w : World) (K : PySem.W.Frag) (mg : Str → Option Value) (base : Heap) (k : Nat) (C : CallT) (m : String) (q : String × String × Pk) : Prop :=
  ∃ Ca p g mc, mg (Str.ofString q.1) = some (.ref Ca) ∧ ClX.CRead K Ca mc ∧ ClX.CMet K Ca mc (Str.ofString m) p g ∧ CalP P w K mg base k C q.2.1 g q.2.2
section
variable {X : Cx} {W : WS} {k : Nat} {C : CallT} {m : String} {mt : List (String × String × Pk)} {pos apos : Pos} {o e : Expr} {es : List Expr} {fo : Ev} {fl : Lv}
theorem run_cmF {pins : List (Addr × Obj)} {σ : L2.St} {H : Hp} {s : Shared} {Q : VK} {us : List Value} {vs : List V} {q g Ca : Addr} {sp : Sp} (F : FnP X.prog X.w X.K X.mg X.base k g sp) (hr : Rm k X.A) (tk : Takes X W.w) (I : Inv X ((q, PySem.W.methodObj (.ref g) (.ref Ca)) :: pins) σ H s)
    (r : Vals vs us) (h : sp (.ref Ca :: vs) H Q (WE W.w σ)) : wpAny (model X.prog X.w) X.A (call (.ref q) us) (EP X pins σ Q) X.xe s := by
  have hp := ClX.pin_at I
  have I0 := ClX.unpin I
  refine wpAny_call (PySem.W.method_call hp ?_)
  refine codeAny_mono (F X.A X.stack s H (.ref Ca :: us) (.ref Ca :: vs) Q _ hr I0.env0 (.cons rfl r) h) fun r s' hq => ?_
  match r, hq with
  | .error e, hq => exact passAt tk σ pins H s e s' I0 hq
  | .ok (.ret u), hq => exact I0.after hq
  | .ok .next, hq => exact False.elim hq
  | .ok .brk, hq => exact False.elim hq
  | .ok .cont, hq => exact False.elim hq
theorem r_cm {pl : Sem Bool} (rm : Rm k X.A) (tk : Takes X W.w) (hmt : ∀ q ∈ mt, CmF X.prog X.w X.K X.mg X.base k C m q) (ho : FE X W o fo) (ha : FL X W (e :: es) fl)
    (hst : starEach (e :: es) X.env = (false, eval e X.env) :: starEach es X.env := by rfl) (hpl : (backTo pos (starEach es X.env)).any (·.1) = false := by rfl)
    (ht : eval (.Call (.Attribute o (Str.ofString m) apos) (e :: es) [] pos) X.env = (do
      let ov ← eval o X.env
      standAt apos.atName
      let (f, first) ← holding [ov] (getMethod ov (Str.ofString m) pl)
      callWith pos f first (backTo pos (starEach (e :: es) X.env)) (backToKw pos (keywordEach [] X.env))) := by rfl) :
    FE X W (.Call (.Attribute o (Str.ofString m) apos) (e :: es) [] pos) (eCm mt C fo fl) := by
  refine ⟨fun pins s σ H Q I ⟨L, r, st, hR, hE, hp⟩ => ?_⟩
  have go : lE X.K X.mg W fo σ H fun v H1 => ∃ Ca p g mc f pk, v = .ref Ca ∧ ClX.CRead X.K Ca mc ∧ ClX.CMet X.K Ca mc (Str.ofString m) p g ∧ CalP X.prog X.w X.K X.mg X.base k C f g pk ∧ lL X.K X.mg W fl σ H1 fun vs H2 => spP X.K X.mg C f pk (.ref Ca :: vs) H2 Q (WE W.w σ) := by
    refine lE_bnd hR hE hp fun c s1 v L1 H1 x1 R1 E1 d1 p1 => ?_
    split at p1
    · next c f pk e1 =>
      obtain ⟨rfl, e2⟩ := clsOf_of e1
      obtain ⟨Ca, rfl, hm⟩ := d1.gloE
      obtain ⟨Ca', p, g, mc, k1, k2, k3, k4⟩ := look_all hmt e2
      rw [hm] at k1; cases k1
      exact ⟨Ca, p, g, mc, f, pk, rfl, k2, k3, k4, lL_bnd R1 E1 p1 fun ts s2 vs L2 H2 x2 R2 E2 d2 p2 => PostE.spP R2 (.cons (d1.mono x2) d2) p2⟩
    · exact p1.elim
  refine PySem.W.methodCall_KW (pl := pl) (thn (ho.run pins s σ H _ I go) fun u s1 ⟨x, H1, I1, rx, Ca, p, g, mc, f, pk, ex, cr, cm, cp, q⟩ => ?_) ht
  subst ex
  obtain rfl : u = Value.ref Ca := rx
  refine ClX.getmethcm_ok I1 cr cm fun s2 I2 => ?_
  refine ClX.callwith_cm I2 (ClX.base_none I1 (Nat.le_refl _)) cm.fi (thn (ha.run pos _ s2 σ H1 _ I2 q) fun us s3 ⟨vs, H2, I3, rv, q2⟩ => ⟨⟨ClX.pin_at I3, I3.kIn⟩, ?_⟩) hst hpl
  exact run_cmF cp.run rm tk I3 rv q2
end
end Fx

set_option maxRecDepth 100000
set_option maxHeartbeats 2000000
/-! Fx: len(o), bool(o), str(o) of own classes; bool of tuples. -/
namespace Fx
open PySem L2 PyProof.Rows

/-- what the own special method gives -/
def spcO (mt : List (String × String × Pk)) (C : CallT) (t : T) (s : Sto) : Out := match insOf t s with
  | some (_, c, _) => (match mt.lookup c with
    | some (f, pk) => pC C f pk [t] s
    | none => .bad)
  | none => .bad
def fLenX (mt : List (String × String × Pk)) (C : CallT) (ts : List T) (s : Sto) : OV := match ts with
  | [t] => (match spcO mt C t s with
    | .ok (.int n) s' => if 0 ≤ n ∧ n < 9223372036854775808 then some (.int n, s') else none
    | _ => none)
  | _ => none
def fBoolX (mt : List (String × String × Pk)) (C : CallT) (ts : List T) (s : Sto) : OV := match ts with
  | [t] => (match spcO mt C t s with
    | .ok (.bl b) s' => some (.bl b, s')
    | _ => none)
  | _ => none
def fStrX (mt : List (String × String × Pk)) (C : CallT) (ts : List T) (s : Sto) : OV := match ts with
  | [t] => (match spcO mt C t s with
    | .ok (.str z) s' => some (.str z, s')
    | _ => none)
  | _ => none
def fBool (ts : List T) (s : Sto) : OV := match ts with
  | [.tup us] => some (.bl (!us.isEmpty), s)
  | [.bl b] => some (.bl b, s)
  | [.int i] => some (.bl (i != 0), s)
  | [.loc n] => (match s.get n with
    | some (.lst us) => some (.bl (!us.isEmpty), s)
    | _ => none)
  | _ => none
section
variable {X : Cx} {k : Nat} {C : CallT} {mt : List (String × String × Pk)} {m : String}
/-- a special method of an own instance: what is wanted -/
def rSpc (X : Cx) (k : Nat) (m : String) (ok : V → Prop) : List V → Hp → VK → Prop := fun vs H Q => ∃ p Ca dx fs a sp, vs = [.ref p] ∧ H p = some (.ins Ca dx fs) ∧ Meth X.K Ca (Str.ofString m) a ∧ FnP X.prog X.w X.K X.mg X.base k a sp ∧
  sp [.ref p] H (fun v H' => ok v ∧ Q v H') fun _ _ _ => False
theorem spc_of {L : List Addr} {s : Sto} {H : Hp} {v : V} {t : T} {Q : VK} {ok : V → Prop} (hmt : ∀ q ∈ mt, MethF X.prog X.w X.K X.mg X.base k C m q) (hR : Rl X.K X.mg L s H) (d : D X.K X.mg L H v t) {u : T} {s' : Sto} (e : spcO mt C t s = .ok u s')
    (hk : ∀ v L' H', D X.K X.mg L' H' v u → ok v) (hp : ∀ v L' H', Ex L H L' H' → Rl X.K X.mg L' s' H' → D X.K X.mg L' H' v u → Q v H') : rSpc X k m ok [v] H Q := by
  unfold spcO at e
  split at e
  · next n c fs e1 =>
    obtain ⟨rfl, e2⟩ := insOf_of e1
    obtain ⟨p, Ca, dx, fs', rfl, h1, h2, h3, h4⟩ := D.insE hR d e2
    split at e
    · next f pk e3 =>
      obtain ⟨Ca', g, k1, k2, k3, k4⟩ := look_all hmt e3
      rw [h3] at k1; cases k1
      refine ⟨p, Ca, dx, fs', g, _, rfl, h2, k3, k4.run, L, [.loc n], s, hR, .cons d .nil, ?_⟩
      dsimp only
      rw [e]
      exact fun v L' H' x1 x2 x3 => ⟨hk v L' H' x3, hp v L' H' x1 x2 x3⟩
    · cases e
  · cases e
theorem call_lenX (ri : Ri k X.A) : CallR X (.builtin "len") (rSpc X k "__len__" fun v => ∃ n, v = .int n ∧ 0 ≤ n ∧ n < 9223372036854775808) := by
  intro pins s σ H vs us Q I r ⟨p, Ca, dx, fs, a, sp, ev, e, m, F, h⟩
  subst ev
  obtain rfl := Vals.ref1 r
  obtain ⟨mA, O, _⟩ := ins_get I.hok e
  obtain ⟨od, J, _⟩ := O.look
  obtain ⟨mm, fr⟩ := I.fr
  refine PySem.W.len_K fr I.ok.mod.kin J m.at_ m.fn (wpAny_mono (run_fnIn F ri.r1 I.env0.in1 I (us := [.ref p]) (vs := [.ref p]) (.cons rfl .nil) h) (fun u s' ⟨v, H', I', rv, ⟨n, ev, h0, h1⟩, q⟩ => ?_) fun _ _ z => z)
  subst ev
  obtain ⟨t, rfl⟩ := (show ∃ t, u = Value.int n t from rv)
  exact ⟨⟨h0, by omega⟩, .int n, H', I'.tok _, ⟨_, rfl⟩, q⟩
theorem f_lenX (ri : Ri k X.A) (hmt : ∀ q ∈ mt, MethF X.prog X.w X.K X.mg X.base k C "__len__" q) : CallF X (.builtin "len") (fLenX mt C) := CallF.of fun L s ts vs H Q hR hd hp => by
  refine ⟨_, call_lenX ri, ?_⟩
  unfold fLenX at hp
  split at hp
  · next t =>
    cases hd with
    | cons d1 d2 =>
      cases d2
      split at hp
      · next n s' e1 =>
        split at hp
        · next hn => exact spc_of hmt hR d1 e1 (fun v L' H' dv => by cases dv; exact ⟨n, rfl, hn.1, hn.2⟩) hp
        · exact hp.elim
      · exact hp.elim
  · exact hp.elim
theorem own_bool {A : Around} {Q : Value → Shared → Prop} {E : Value → Shared → Prop} {s : Shared} {prog : Program} {w : World} {x : Addr} (h : wpAny (model prog w) A.in1.in1 (truthy (.ref x)) (fun b s' => Q (.bool b) s') E s) :
    wpAny (model prog w) A (call (.type "bool") [.ref x]) Q E s := by
  refine callType_codes (T := "bool") (Bi := Builtin.«object.__init__») (Q₁ := fun r s₁ => ∃ b, r = .bool b ∧ Q r s₁) PySem.F.called_bool (PySem.F.typeCall_bool_1 _) PySem.F.entry_object_init ?_ ?_
  · refine codeAny_of_tree ?_
    show wpAny _ A.in1.in1 (do checkBuiltinCall "bool.__new__" ⟨[.type "bool", .ref x], []⟩; again (.builtin "bool.__new__" ⟨[.type "bool", .ref x], []⟩)) _ _ s
    refine wpAny_bind (wpAny_of_eq (PySem.F.newCall_bool_1 _) (wpAny_pure ⟨plainId_quiet (by decide +kernel) _, codeAny_builtin PySem.F.entry_bool_new ?_⟩))
    rw [Around.under_plainId (by decide +kernel) _]
    unfold Builtin.«bool.__new__»
    refine wpAny_bind (wpAny_pure ?_)
    refine wpAny_bind (wpAny_of_eq PySem.F.conv_sub_bool ?_)
    refine wpAny_bind (wpAny_pure ?_)
    refine wpAny_bind (wpAny_mono h (fun b s' q => ?_) fun _ _ z => z)
    exact wpAny_pure ⟨b, rfl, q⟩
  · rintro obj s₁ ⟨b, rfl, hq⟩
    exact ⟨PySem.typeIs_bool _ _, PySem.F.args_object_init_2 _ _, object_init_meets PySem.F.called_bool.init.lookup PySem.F.called_bool.made (by decide) prog w A.in1 _ s₁ ⟨PySem.typeIs_bool _ _, rfl, hq⟩⟩

theorem f_boolX (ri : Ri k X.A) (hmt : ∀ q ∈ mt, MethF X.prog X.w X.K X.mg X.base k C "__bool__" q) : CallF X (.type "bool") (fBoolX mt C) := CallF.of fun L s ts vs H Q hR hd hp => by
  refine ⟨rSpc X k "__bool__" fun v => ∃ b, v = .bl b, fun pins s σ H vs us Q I r ⟨p, Ca, dx, fs, a, sp, ev, e, m, F, h⟩ => ?_, ?_⟩
  · subst ev
    obtain rfl := Vals.ref1 r
    obtain ⟨mA, O, _⟩ := ins_get I.hok e
    obtain ⟨od, J, _⟩ := O.look
    obtain ⟨mm, fr⟩ := I.fr
    refine own_bool (PySem.W.truthy_K fr I.ok.mod.kin J m.at_ m.fn (wpAny_mono (run_fnIn F ri.r2 I.env0.in1.in1 I (us := [.ref p]) (vs := [.ref p]) (.cons rfl .nil) h) (fun u s' ⟨v, H', I', rv, ⟨b, ev⟩, q⟩ => ?_) fun _ _ z => z))
    subst ev
    obtain rfl : u = Value.bool b := rv
    exact ⟨.bl b, H', I', rfl, q⟩
  · unfold fBoolX at hp
    split at hp
    · next t =>
      cases hd with
      | cons d1 d2 =>
        cases d2
        split at hp
        · next b s' e1 => exact spc_of hmt hR d1 e1 (fun v L' H' dv => by cases dv; exact ⟨b, rfl⟩) hp
        · exact hp.elim
    · exact hp.elim
theorem f_strX (ri : Ri k X.A) (hmt : ∀ q ∈ mt, MethF X.prog X.w X.K X.mg X.base k C "__str__" q) : CallF X (.type "str") (fStrX mt C) := CallF.of fun L s ts vs H Q hR hd hp => by
  refine ⟨rSpc X k "__str__" fun v => ∃ b, v = .str b, fun pins s σ H vs us Q I r ⟨p, Ca, dx, fs, a, sp, ev, e, m, F, h⟩ => ?_, ?_⟩
  · subst ev
    obtain rfl := Vals.ref1 r
    obtain ⟨mA, O, _⟩ := ins_get I.hok e
    obtain ⟨od, J, _⟩ := O.look
    refine PySem.W.kso_call ri.r2.room.units0 I.kIn J m.at_ m.fn (wpAny_mono (run_fnIn F ri.r2 I.env0.in1.in1 I (us := [.ref p]) (vs := [.ref p]) (.cons rfl .nil) h) (fun u s' ⟨v, H', I', rv, ⟨b, ev⟩, q⟩ => ?_) fun _ _ z => z)
    subst ev
    obtain ⟨t, rfl⟩ := (show ∃ t, u = Value.str b t from rv)
    exact ⟨.str b, H', I', ⟨t, rfl⟩, q⟩
  · unfold fStrX at hp
    split at hp
    · next t =>
      cases hd with
      | cons d1 d2 =>
        cases d2
        split at hp
        · next b s' e1 => exact spc_of hmt hR d1 e1 (fun v L' H' dv => by cases dv; exact ⟨b, rfl⟩) hp
        · exact hp.elim
    · exact hp.elim
theorem call_boolT : CallR X (.type "bool") (fun xs H Q => ∃ (a : Addr) (zs : List V), xs = [.ref a] ∧ SqT X.K H a zs ∧ Q (.bl (!zs.isEmpty)) H) := by
  intro pins s σ H xs us Q I r h
  obtain ⟨a, zs, rfl, hq, q⟩ := h
  obtain rfl := Vals.ref1 r
  obtain ⟨its, rv, pl, hz⟩ := I.tuple hq
  have hl := line63
  have hlen := rv.length
  exact own_bool (truthy_tuple pl (by simp only [List.size_toArray]; omega) ⟨.bl (!zs.isEmpty), H, I.tok _, by rw [isEmpty_of rv]; rfl, q⟩)
theorem Ds.isEmpty {K : PySem.W.Frag} {mg : Str → Option Value} {L : List Addr} {H : Hp} {vs : List V} {ts : List T} (d : Ds K mg L H vs ts) : vs.isEmpty = ts.isEmpty := by
  cases d <;> rfl
theorem f_bool : CallF X (.type "bool") fBool := CallF.of fun L s ts vs H Q hR hd hp => by
  unfold fBool at hp
  split at hp
  · next us =>
    cases hd with
    | cons d1 d2 =>
      cases d2
      cases d1 with
      | tup h1 h2 => exact ⟨_, call_boolT, _, _, rfl, h1.sq, hp _ L H Ex.refl hR (by rw [h2.isEmpty]; exact .bl _)⟩
  · next b =>
    cases hd with
    | cons d1 d2 =>
      cases d2
      cases d1
      exact ⟨_, call_bool1, .inr ⟨b, rfl, hp _ L H Ex.refl hR (.bl _)⟩⟩
  · next i =>
    cases hd with
    | cons d1 d2 =>
      cases d2
      cases d1
      exact ⟨_, call_bool1, .inl ⟨i, rfl, hp _ L H Ex.refl hR (.bl _)⟩⟩
  · next n =>
    cases hd with
    | cons d1 d2 =>
      cases d2
      split at hp
      · next us e0 =>
        obtain ⟨p, ws, rfl, _, h1, h2⟩ := D.lstE hR d1 e0
        exact ⟨_, call_boolL, p, ws, rfl, .inl (.inl h1), hp _ L H Ex.refl hR (by rw [h2.isEmpty]; exact .bl _)⟩
      · exact hp.elim
  · exact hp.elim
end
end Fx

set_option maxRecDepth 100000
set_option maxHeartbeats 2000000
/-! Fx: try: a block / finally: a suite. -/
namespace L2
open PySem PySem.Spec PyProof.Rows
/-- the block ends, or raises; the suite ends -/
def tFinB (tb : WX → TS) (tf tfs : TS) (Wout : WX) : TS := fun D σ H => tb (wFin tfs Wout) { nx := fun σ1 H1 => tf D σ1 H1, rt := fun _ _ => False } σ H
section
variable {X : Cx} {body : List Stmt} {f₀ : Stmt} {fs : List Stmt} {pos : Pos} {tb : WX → TS} {tf tfs : TS} {Wout : WX}
theorem fin_nx {D : Ends} {pins : List (Addr × Obj)} {s : Shared} {σ : St} {H : Hp} {E : Value → Shared → Prop} (hf : PSs X.nox (f₀ :: fs) tf) (I : Inv X pins σ H s) (h : tf D σ H) :
    wpAny (model X.prog X.w) X.A (execs (f₀ :: fs) X.env) (fun g s' => match g with
      | .next => SP X pins D .next s'
      | g => SP X pins D g s') E s := by
  refine wpAny_mono (hf.run pins s σ H D (I.wish _) h) (fun g s1 q => ?_) fun _ _ z => False.elim z
  have q' : SP X pins D g s1 := q.unwish
  cases g with
  | next => exact q'
  | ret w2 => exact q'
  | brk => exact q'
  | cont => exact q'
theorem ps_finB (hs : X.stack = X.env :: X.outer) (hf : X.env.frame = some X.env.locals) (hex : X.ex = []) (tk : Takes X Wout)
    (hb : ∀ (W : WX) (pn : List (Addr × Obj)) (xe : Value → Shared → Prop), Takes (X.tr pn xe) W → PassesOwn (model X.prog X.w) X.A X.env xe → PSs (X.tr pn xe) body (tb W))
    (hfin : PSs X.nox (f₀ :: fs) tf) (hsu : ∀ (a : Addr) (pn : List (Addr × Obj)), PSs (X.suite a pn) (f₀ :: fs) tfs) : PS X (.Try body [] [] (f₀ :: fs) pos) (tFinB tb tf tfs Wout) := by
  refine ⟨fun pins s σ H D I h => ?_⟩
  have ok := I.ok
  refine wpAny_Try_finally ?_
  refine wpAny_mono ((hb (wFin tfs Wout) (X.pn ++ pins) (fun x s₁ => wpAny (model X.prog X.w) X.A (noteFrame x X.env) (fun _ s₂ => FinallyRaised X.prog X.w X.A X.xe X.env (f₀ :: fs) (SP X pins D) x s₂) (FinallyRaised X.prog X.w X.A X.xe X.env (f₀ :: fs) (SP X pins D)) s₁)
    (fun u s' xx => ?_) PassesOwn.looking).run [] s σ H { nx := fun σ1 H1 => tf D σ1 H1, rt := fun _ _ => False } (I.toTry _) h) (fun g s1 z => ?_) (fun x s1 hx => hx)
  · exact fin_exc hs hf hex ok tk hsu xx
  · cases g with
    | next =>
      obtain ⟨σ1, H1, I1, q1⟩ := z
      refine wpAny_execs_nil ?_
      exact fin_nx hfin (I1.ofTry ok) q1
    | ret w2 =>
      obtain ⟨_, _, _, _, _, q⟩ := z
      exact False.elim q
    | brk =>
      obtain ⟨_, _, _, q⟩ := z
      exact False.elim q
    | cont =>
      obtain ⟨_, _, _, q⟩ := z
      exact False.elim q
end
end L2
namespace Fx
open PySem L2 PyProof.Rows
def sFin (b f : Sv) : Sv := fun r s => match b r s with
  | .nx r1 s1 => (match f r1 s1 with
    | .ex _ _ _ => .bad
    | o => o)
  | .ex x r1 s1 => (match f r1 s1 with
    | .nx r2 s2 => .ex x r2 s2
    | _ => .bad)
  | _ => .bad
section
variable {X : Cx} {W : WS} {N : List Str} {sc : Scope} {pos : Pos} {body : List Stmt} {f₀ : Stmt} {fs : List Stmt} {fb ff : Sv}
theorem s_fin (cm : Cm X W) (hs : X.stack = X.env :: X.outer) (hf : X.env.frame = some X.env.locals) (hex : X.ex = []) (tk : Takes X W.w)
    (hb : ∀ (w : WX) (pn : List (Addr × Obj)) (xe : Value → Shared → Prop), Takes (X.tr pn xe) w → PassesOwn (model X.prog X.w) X.A X.env xe → FSs (X.tr pn xe) (W.at w) body fb)
    (hfin : FSs X.nox (W.at fun _ _ _ _ => False) (f₀ :: fs) ff) (hsu : ∀ (a : Addr) (pn : List (Addr × Obj)), FSs (X.suite a pn) (W.at fun _ _ _ _ => False) (f₀ :: fs) ff) :
    FS X W (.Try body [] [] (f₀ :: fs) pos) (sFin fb ff) := by
  refine PSw (ps_finB (tb := fun w => lS X.K X.mg (W.at w) fb) (tf := lS X.K X.mg (W.at fun _ _ _ _ => False) ff) (tfs := lS X.K X.mg (W.at fun _ _ _ _ => False) ff) hs hf hex tk hb hfin hsu) fun Z σ H ⟨L, r, s, hR, hE, hp⟩ => ?_
  refine ⟨L, r, s, hR, ⟨hE.len, hE.val, hE.iv⟩, ?_⟩
  simp only [sFin] at hp
  cases e : fb r s with
  | nx r1 s1 =>
    rw [e] at hp
    intro σ' L' H' x1 R1 E1
    refine ⟨L', r1, s1, R1, ⟨E1.len, E1.val, E1.iv⟩, ?_⟩
    have p2 := PostS.ex hp x1
    cases e2 : ff r1 s1 with
    | nx r2 s2 => simp only [e2] at p2; exact fun σ2 L2 H2 y1 y2 y3 => p2 σ2 L2 H2 y1 y2 ⟨y3.len, y3.val, y3.iv⟩
    | rt t s2 => simp only [e2] at p2; exact p2
    | bk r2 s2 => simp only [e2] at p2; exact fun σ2 L2 H2 y1 y2 y3 => p2 σ2 L2 H2 y1 y2 ⟨y3.len, y3.val, y3.iv⟩
    | ct r2 s2 => simp only [e2] at p2; exact fun σ2 L2 H2 y1 y2 y3 => p2 σ2 L2 H2 y1 y2 ⟨y3.len, y3.val, y3.iv⟩
    | ex y r2 s2 => simp only [e2] at p2; exact p2.elim
    | bad => simp only [e2] at p2; exact p2.elim
  | rt t s1 => rw [e] at hp; exact hp.elim
  | bk r1 s1 => rw [e] at hp; exact hp.elim
  | ct r1 s1 => rw [e] at hp; exact hp.elim
  | bad => rw [e] at hp; exact hp.elim
  | ex y r1 s1 =>
    rw [e] at hp
    intro cls d σ' L' H' x1 R1 E1 q
    refine ⟨L', r1, s1, R1, ⟨E1.len, E1.val, E1.iv⟩, ?_⟩
    have p2 := PostS.ex hp x1
    cases e2 : ff r1 s1 with
    | nx r2 s2 =>
      simp only [e2] at p2
      intro σ2 L2 H2 x2 R2 E2
      refine p2 cls d σ2 L2 H2 x2 R2 ⟨E2.len, E2.val, E2.iv⟩ (q.mono x2 fun dx hdx m => ?_)
      obtain ⟨Ca, _, _, hd⟩ := q
      rcases hd with ⟨h4, _⟩ | ⟨dx', fs', h4, h5, _⟩
      · rw [hdx] at h4; cases h4
      · rw [hdx] at h4; cases h4
        obtain ⟨ho, h6, h7⟩ := R1.there m
        rw [h5] at h6; cases h6
        exact h7
    | rt t s2 => simp only [e2] at p2; exact p2.elim
    | bk r2 s2 => simp only [e2] at p2; exact p2.elim
    | ct r2 s2 => simp only [e2] at p2; exact p2.elim
    | ex y r2 s2 => simp only [e2] at p2; exact p2.elim
    | bad => simp only [e2] at p2; exact p2.elim
end
/-- where a finally suite stands, nothing being raised -/
theorem Cy.nox {X : Cx} {W : WS} {N : List Str} {sc : Scope} {k : Nat} (c : Cy X W N sc k) : Cy X.nox (W.at fun _ _ _ _ => False) N sc k :=
  ⟨⟨c.B.hN, c.B.hs, c.B.nd⟩, ⟨c.cm.calm, c.cm.kz⟩, fun _ _ ⟨_, _, _, _, _, _, _, _, _, _, _, _, _, _, _, _, w⟩ => w.elim, ⟨c.rm.room, c.rm.quiet⟩, ⟨c.ri.r1, c.ri.r2, c.ri.r3⟩, c.rk⟩
end Fx

set_option maxRecDepth 100000
set_option maxHeartbeats 4000000
/-! Fx: enumerate(tuple), zip of tuples, lists, one of each; range with a step. -/
namespace Fx
open PySem L2 PyProof.Rows

theorem meets_enum1B {v : Value} {o : Obj} {H : Heap → Prop} (B : Begins v o H) :
    Meets (Builtin.«enumerate.__new__» ⟨[.type "enumerate", v], []⟩) (fun _ R s => H s.heap ∧
      R (.ok (.ret (.ref (s.heap.push o).objs.size))) { s with heap := (s.heap.push o).push { cls := .type "enumerate", data := .fields #[.none, .bool false, .ref s.heap.objs.size, rawInt 0, .none, .none] } }) :=
  .of_wp fun prog w A R s h => by
    obtain ⟨hp, g, d, tk, os⟩ := s; obtain ⟨h1, h⟩ := h
    have hsub := sub_enumerate
    have q1 : ∀ {A' : Around} {E : Value → Shared → Prop} {Q : Value → Shared → Prop}, Q (.ref hp.objs.size) ⟨hp.push o, g, d, tk, os⟩ → wpAny (model prog w) A' (pyIter v) Q E ⟨hp, g, d, tk, os⟩ :=
      fun q => B.iter prog w _ _ ⟨hp, g, d, tk, os⟩ _ h1 q
    wp_walk using q1
    refine wpAny_stack_any fun st => wpAny_pure ?_
    split
    · rename_i c _ _ _ _ _
      cases (c == Value.type "enumerate")
      · wp_walk using q1
        exact ⟨_, rfl, h⟩
      · wp_walk using q1
        exact ⟨_, rfl, h⟩
    · wp_walk using q1
      exact ⟨_, rfl, h⟩

section
variable {prog : Program} {w : World} {A : Around} {E : Value → Shared → Prop} {s : Shared}
theorem enum1_begins {v : Value} {o : Obj} {H : Heap → Prop} {Q : Value → Shared → Prop} (B : Begins v o H) (h1 : H s.heap)
    (h : ∀ h', IsEnum h' (s.heap.objs.size + 1) s.heap.objs.size 0 .none → h'.get? s.heap.objs.size = some o → h'.objs.size = s.heap.objs.size + 2 →
      (∀ b o, s.heap.get? b = some o → h'.get? b = some o) → Q (.ref (s.heap.objs.size + 1)) { s with heap := h' }) :
    wpAny (model prog w) A (call (.type "enumerate") [v]) Q E s := by
  refine callType_new F.called_enumerate (by decide) (F.typeCall_enumerate_1 _) (F.newCall_enumerate_1 _) (fun obj => F.args_object_init_2 obj _) F.entry_enumerate_new
    (meets_enum1B B) ⟨h1, ?_⟩
  have hz : (s.heap.push o).objs.size = s.heap.objs.size + 1 := Heap.size_push ..
  show _ ∧ _
  rw [hz]
  have he : IsEnum ((s.heap.push o).push { cls := .type "enumerate", data := .fields #[.none, .bool false, .ref s.heap.objs.size, rawInt 0, .none, .none] }) (s.heap.objs.size + 1) s.heap.objs.size 0 .none := by
    have := Heap.get?_push_size (s.heap.push o) (o := { cls := .type "enumerate", data := .fields #[.none, .bool false, .ref s.heap.objs.size, rawInt 0, .none, .none] }) rfl
    rw [hz] at this; exact this
  refine ⟨⟨_, he, rfl⟩, h _ he (Heap.get?_push_of_some _ (Heap.get?_push_size _ B.free)) (by rw [Heap.size_push, hz]) fun b o x => Heap.get?_push_of_some _ (Heap.get?_push_of_some _ x)⟩
end
theorem enumT_end {prog : Program} {w : World} {A : Around} {E : Value → Shared → Prop} {s : Shared} {e it t : Addr} {i : Int} {k : Nat} {items : Array Value} {old : Value} {Q : Option Value → Shared → Prop} (hh : A.handled = none)
    (he : IsEnum s.heap e it i old) (hit : s.heap.IsTupleIter it t k) (ht : s.heap.IsTuple t items) (hx : items[k]? = none)
    (hQ : ∀ h', Heap.ExtBut it s.heap h' → Q none { s with heap := h' }) : wpAny (model prog w) A (pyNext (.ref e)) Q E s := by
  have hT : s.TypeIs (.ref e) "enumerate" := ⟨_, he, rfl⟩
  unfold pyNext
  refine wpAny_bind (wpAny_attempt (wpAny_callSpecial?_slot (name := Str.ofString "__next__") hT F.slot_enumerate_next
    (wpAny_call_entry F.slot_enumerate_next hT F.entry_enumerate_next ?_ (F.args_enumerate_next_1 _))))
  show wpAny _ _ (field (.ref e) 2 >>= _) _ _ _
  refine wpAny_bind (wpAny_field he rfl (x := .ref it) rfl ?_)
  refine wpAny_bind (wpAny_nextOf_tuple_end (show A.in1.handled = none from hh) hit ht hx fun h' ex hs hc => ?_)
  obtain ⟨o, ho, hoc⟩ := hc
  refine wpAny_bind (wpAny_isInstance (T := "StopIteration") (b := true) ⟨o, ho, hoc⟩ isSubtype_stop ?_)
  exact wpAny_pure (hQ _ hs)
/-- the tuple at a, each item in a new pair -/
def IteT (K : PySem.W.Frag) (a : Addr) : It :=
  ⟨fun i H => ∃ (xs : List V) (x : V), SqT K H a xs ∧ xs[i]? = some x, fun i H v H' => ∃ T x, v = .ref T ∧ H T = none ∧ H' = upd H T (.tup [.int (i : Nat), x]) ∧ ∀ xs, SqT K H a xs → xs[i]? = some x, fun i H => ∃ xs : List V, SqT K H a xs ∧ xs.length ≤ i⟩
theorem turn_enumT {P : Program} {w : World} {K : PySem.W.Frag} {elts : List Expr} {kk : Nat} {tpos : Pos} (a e it : Addr) :
    Turn P w K (.Tuple elts kk tpos) (IteT K a) [e, it] e (fun i h => (∃ old, IsEnum h e it ((i : Nat) : Int) old) ∧ h.IsTupleIter it a i ∧ e ≠ it ∧ a ≠ it ∧ a ≠ e) where
  mem := by simp
  obj := fun i h st b hb => by
    obtain ⟨⟨old, he⟩, ⟨o, ho, hc, hd⟩, _⟩ := st
    have e' : b = e ∨ b = it := by simpa using hb
    rcases e' with z | z
    · rw [z]; exact ⟨_, he, fun v q => nomatch q⟩
    · rw [z]; exact ⟨o, ho, fun v q => by rw [hd] at q; cases q⟩
  keep := fun i h h' st k => let ⟨⟨old, he⟩, hi, hne⟩ := st; ⟨⟨old, k e (by simp) _ he⟩, hi.at fun o q => k it (by simp) o q, hne⟩
  item := by
    intro X hP hw hK hc i pins s σ H E I hf st hg
    subst hP hw hK
    obtain ⟨⟨old, he⟩, hit, hne, hai, hae⟩ := st
    obtain ⟨xs, x, hq, hx⟩ := hg
    obtain ⟨its, rv, p, hz⟩ := I.tuple hq
    obtain ⟨u, hu, ru⟩ := rv.get hx
    have hel : e < s.heap.objs.size := Heap.lt_size he
    have hil : it < s.heap.objs.size := by obtain ⟨_, q, _⟩ := hit; exact Heap.lt_size q
    have D := Draws.tuple (prog := X.prog) (w := X.w) (A := X.A.in1) (I.ok.hd hc) it a hai its.toArray
    have hi : i < its.toArray.size := by
      have := (List.getElem?_eq_some_iff.mp hu).1
      simpa using this
    refine wpAny_pyNext_enum_itemC D he ⟨hit, p⟩ hi hne (by simp [hne, Ne.symm hae]) fun y h' tk hy ho hit' hT hsz hk => ?_
    have hyu : y = u := by
      have h1 : its.toArray[i]? = some u := by simpa using hu
      rw [h1] at hy
      exact (Option.some.inj hy).symm
    subst hyu
    refine ⟨_, rfl, wpAny_letOwnedTupleGo_enum (s := { s with heap := h', toks := tk + 1 }) ho fun h'' he' sb => ?_⟩
    have hT2 : h''.get? s.heap.objs.size = some { cls := .type "tuple", data := .seq #[.int i tk, y] } := (sb.2 _ (Nat.ne_of_gt hel)).trans hT
    have new : ObjOk X.prog X.w (upd H s.heap.objs.size (.tup [.int (i : Nat), x])) h'' s.heap.objs.size (.tup [.int (i : Nat), x]) :=
      ⟨by show 2 ≤ sizeLine; decide, [.int i tk, y], .cons ⟨_, rfl⟩ (.cons ru .nil), ⟨_, hT2, rfl, _, rfl⟩⟩
    have I1 : Inv X pins σ (upd H s.heap.objs.size (.tup [.int (i : Nat), x])) { s with heap := h'', toks := tk + 1 } :=
      I.turnedNew (ch := [e, it]) (fun b ob hb q => (sb.2 b (fun z => hb (by simp [z]))).trans (hk b ob (fun z => hb (by simp [z])) (fun z => hb (by simp [z])) q)) hf (Nat.le_refl _) new
    refine ⟨.ref s.heap.objs.size, _, I1, rfl, ⟨_, x, rfl, I.hok.fresh (Nat.le_refl _), rfl, fun ys hy => by rw [I.tuple_inj hy hq]; exact hx⟩, ⟨⟨y, ?_⟩, hit'.1.at fun o q => (sb.2 it (Ne.symm hne)).trans q, hne, hai, hae⟩, fun b hb => ?_⟩
    · have e1 : ((i + 1 : Nat) : Int) = (i : Int) + 1 := by omega
      rw [e1]; exact he'
    · have hb' : b < s.heap.objs.size := by
        have e' : b = e ∨ b = it := by simpa using hb
        rcases e' with z | z
        · rw [z]; exact hel
        · rw [z]; exact hil
      rw [upd_ne (Nat.ne_of_lt hb')]
      exact (hf b hb).1
  done := by
    intro X hP hw hK hc i pins s σ H E I hf st hg
    subst hP hw hK
    obtain ⟨⟨old, he⟩, hit, hne, hai, hae⟩ := st
    obtain ⟨xs, hq, hx⟩ := hg
    obtain ⟨its, rv, p, hz⟩ := I.tuple hq
    obtain ⟨f0, f1, f2, f3, f4, f5⟩ := hf it (by simp)
    have hl := rv.length
    exact enumT_end (I.ok.hd hc) he hit p (by simp; omega) fun h' eb => ⟨rfl, I.turned (t' := s.toks) (fun b o hb q => eb b o hb q) f0 f1 f3 f4 f5⟩
  self := fun A i s Q E st h => let ⟨⟨_, he⟩, _⟩ := st; wpAny_pyIter_enum he h

def iEnumA (K : PySem.W.Frag) (ta : TA) : TI := fun σ H R => ta σ H fun vs H1 => ∃ a xs, vs = [.ref a] ∧ ((SqL K H1 a xs ∧ R (Ite K a) H1) ∨ (SqT K H1 a xs ∧ R (IteT K a) H1))
theorem pi_enumA {X : Cx} {e : Expr} {ta : TA} {p pos tpos : Pos} {elts : List Expr} {kk : Nat} (hg : Gl X "enumerate") (hm : X.mg "enumerate" = none) (ha : PA X [e] ta) (hs : starEach [e] X.env = [(false, eval e X.env)] := by rfl) :
    PI X (.Tuple elts kk tpos) (.Call (.Name "enumerate" p) [e] [] pos) (iEnumA X.K ta) := by
  refine ⟨fun pins s σ H R I h => ?_⟩
  refine Call_ (ld_blt I hg hm boot_enumerate (PyProof.Rows.callWith_type1 (thn (ha.run pos pins s σ H _ I h) fun us s1 ⟨vs, H1, I1, r1, q1⟩ => ?_) hs rfl))
  obtain ⟨a, xs, ex, q1⟩ := q1
  subst ex
  cases r1 with
  | cons r rr =>
    cases rr
    cases r
    have fpo : ∀ b ∈ [s1.heap.objs.size + 1, s1.heap.objs.size], FpOk X pins H1 b := fun b hb => by
      have e' : b = s1.heap.objs.size + 1 ∨ b = s1.heap.objs.size := by simpa using hb
      have hle : s1.heap.objs.size ≤ b := by
        rcases e' with z | z
        · rw [z]; exact Nat.le_add_right _ _
        · rw [z]; exact Nat.le_refl _
      exact I1.fpOk hle (I1.hok.fresh hle)
    rcases q1 with ⟨hq, q⟩ | ⟨hq, q⟩
    · obtain ⟨its, rv, p', hz⟩ := I1.list hq
      refine call_enumerate_list p'.isList fun h' he hit hsz hk => wpAny_pyIter_enum he ?_
      have I2 : Inv X pins σ H1 { s1 with heap := h' } := I1.kept (t' := s1.toks) hk
      exact ⟨s1.heap.objs.size + 1, [s1.heap.objs.size + 1, s1.heap.objs.size], _, _, H1, rfl, I2, turn_enum a (s1.heap.objs.size + 1) s1.heap.objs.size, ⟨⟨.none, he⟩, hit, Nat.succ_ne_self _⟩, fpo, q⟩
    · obtain ⟨its, rv, p', hz⟩ := I1.tuple hq
      have hlt : a < s1.heap.objs.size := by obtain ⟨o, ho, _⟩ := id p'; exact Heap.lt_size ho
      refine enum1_begins (begins_tuple a its.toArray) p' fun h' he hit hsz hk => wpAny_pyIter_enum he ?_
      have I2 : Inv X pins σ H1 { s1 with heap := h' } := I1.kept (t' := s1.toks) hk
      exact ⟨s1.heap.objs.size + 1, [s1.heap.objs.size + 1, s1.heap.objs.size], _, _, H1, rfl, I2, turn_enumT a (s1.heap.objs.size + 1) s1.heap.objs.size, ⟨⟨.none, he⟩, ⟨_, hit, rfl, rfl⟩, Nat.succ_ne_self _, Nat.ne_of_lt hlt, Nat.ne_of_lt (Nat.lt_succ_of_lt hlt)⟩, fpo, q⟩
/-- a walk over a tuple in pairs -/
theorem walk_enumT {K : PySem.W.Frag} {a : Addr} {xs : List V} : Walk (IteT K a) xs.length (fun H => SqT K H a xs) (YPair (fun i => some (.int (i : Nat))) fun i => xs[i]?) :=
  ⟨fun i _ hi q => ⟨xs, xs[i]'hi, q, by simp [hi]⟩, fun _ q => ⟨xs, q, Nat.le_refl _⟩, fun i H v H' _ q ⟨T, x, h1, h2, h3, h4⟩ => ⟨T, .int (i : Nat), x, h1, h2, h3, rfl, h4 xs q⟩⟩
theorem walk_zipT {K : PySem.W.Frag} {a b : Addr} {xs ys : List V} : Walk (RZ.ItzT K a b) (min xs.length ys.length) (fun H => SqT K H a xs ∧ SqT K H b ys) (YPair (fun i => xs[i]?) fun i => ys[i]?) :=
  ⟨fun i _ hi q => ⟨xs, ys, xs[i]'(by omega), ys[i]'(by omega), q.1, q.2, by simp [show i < xs.length by omega], by simp [show i < ys.length by omega]⟩, fun _ q => ⟨xs, ys, q.1, q.2, by omega⟩,
    fun i H v H' _ q ⟨T, x, y, h1, h2, h3, h4, h5⟩ => ⟨T, x, y, h1, h2, h3, h4 xs q.1, h5 ys q.2⟩⟩
/-- enumerate of a list or a tuple -/
noncomputable def iEnA (l : Lv) : Iv := fun r s => (l r s).bndI fun ts s => match ts with
  | [.tup us] => .ok ((enumP us).map fun p => T.tup [p.1, p.2]) chkT s
  | [x] => (match lstI x s with | some (us, chk) => .ok ((enumP us).map fun p => T.tup [p.1, p.2]) chk s | none => .bad)
  | _ => .bad
section
variable {X : Cx} {W : WS} {N : List Str} {sc : Scope} {pos p : Pos} {a b c : Expr} {fl : Lv}
theorem i_enA {elts : List Expr} {kk : Nat} {tpos : Pos} (B : Bx X N sc) (hg : sc.names.lookup ("enumerate" : Str) = some .globalImplicit) (hm : X.mg "enumerate" = none) (ha : FL X W [a] fl) (hs : starEach [a] X.env = [(false, eval a X.env)] := by rfl) :
    FI X W (.Tuple elts kk tpos) (.Call (.Name "enumerate" p) [a] [] pos) (iEnA fl) := by
  refine PIw (pi_enumA (B.gl hg) hm ha hs) fun σ H R ⟨L, r, s, hR, hE, hp⟩ => ?_
  refine lL_bndI hR hE hp fun t1 s1 v1 L1 H1 x1 R1 d1 p1 => ?_
  have pr : ∀ {us : List T} {ws : List V} {i : Nat} {x y : T} {v w : V} {L2 : List Addr} {H2 : Hp}, Ds X.K X.mg L2 H2 ws us → (enumP us)[i]? = some (x, y) → some (V.int (i : Nat)) = some v → ws[i]? = some w → D X.K X.mg L2 H2 v x ∧ D X.K X.mg L2 H2 w y := by
    intro us ws i x y v w L2 H2 h2 e1 e2 e3
    simp only [enumP, List.getElem?_zipWith] at e1
    cases e4 : us[i]? with
    | none => simp [e4] at e1
    | some u =>
      have hi : i < us.length := (List.getElem?_eq_some_iff.mp e4).1
      have eu : us[i] = u := by
        have := List.getElem?_eq_getElem hi
        rw [e4] at this; exact (Option.some.inj this).symm
      simp [hi, eu] at e1
      obtain ⟨rfl, rfl⟩ := e1
      obtain ⟨w', h5, h6⟩ := h2.get e4
      rw [e3] at h5; cases h5
      cases e2
      exact ⟨.int _, h6⟩
  split at p1
  · next us =>
    obtain ⟨v, rfl, dv⟩ := one_of (X := X) d1
    obtain ⟨p, vs, rfl, h1, h2⟩ := dv.tupE
    refine ⟨p, vs, rfl, .inr ⟨h1.sq, p1 _ L1 H1 Ex.refl R1 (walkF_pair (n := us.length) (by simp [enumP]) fun L2 s2 H2 x2 R2 hk => ?_)⟩⟩
    have wk := walk_enumT (K := X.K) (a := p) (xs := vs)
    rw [h2.length] at wk
    exact ⟨_, _, _, wk, (SqT.frame h1 x2).sq, fun i x y v w e1 e2 e3 => pr (h2.monoW x2) e1 e2 e3⟩
  · next x _ =>
    split at p1
    · next us chk e0 =>
      obtain ⟨v, rfl, dv⟩ := one_of (X := X) d1
      obtain ⟨p, vs, rfl, hq, hl, hw⟩ := lstI_of R1 dv e0
      refine ⟨p, vs, rfl, .inl ⟨hq, p1 _ L1 H1 Ex.refl R1 (walkF_pair (n := us.length) (by simp [enumP]) fun L2 s2 H2 x2 R2 hk => ?_)⟩⟩
      obtain ⟨ws, h1, h2⟩ := hw L2 s2 H2 x2 R2 hk
      have wk := walk_enum (K := X.K) (a := p) (xs := ws)
      rw [h2.length] at wk
      exact ⟨_, _, _, wk, h1, fun i x y v w e1 e2 e3 => pr h2 e1 e2 e3⟩
    · exact p1.elim
  · exact p1.elim
/-! ### zip of two tuples, two lists -/
def zipP (ts us : List T) : List (T × T) := ts.zip us
noncomputable def iZp (l : Lv) : Iv := fun r s => (l r s).bndI fun ts s => match ts with
  | [.tup us, .tup ws] => .ok ((zipP us ws).map fun p => T.tup [p.1, p.2]) chkT s
  | [x, y] => (match lstI x s, lstI y s with
    | some (us, c1), some (ws, c2) => .ok ((zipP us ws).map fun p => T.tup [p.1, p.2]) (fun s => c1 s && c2 s) s
    | _, _ => .bad)
  | _ => .bad
theorem zipP_at {us ws : List T} {i : Nat} {x y : T} (h : (zipP us ws)[i]? = some (x, y)) : us[i]? = some x ∧ ws[i]? = some y := by
  unfold zipP at h
  rw [List.getElem?_zip_eq_some] at h
  exact h
theorem i_zp {elts : List Expr} {kk : Nat} {tpos : Pos} (B : Bx X N sc) (hg : sc.names.lookup ("zip" : Str) = some .globalImplicit) (hm : X.mg "zip" = none) (ha : FL X W [a, b] fl) (hs : starEach [a, b] X.env = (false, eval a X.env) :: starEach [b] X.env := by rfl) (hpl : (backTo pos (starEach [b] X.env)).any (·.1) = false := by rfl) :
    FI X W (.Tuple elts kk tpos) (.Call (.Name "zip" p) [a, b] [] pos) (iZp fl) := by
  refine PIw (RZ.pi_zipA (B.gl hg) hm ha hs hpl) fun σ H R ⟨L, r, s, hR, hE, hp⟩ => ?_
  refine lL_bndI hR hE hp fun t1 s1 v1 L1 H1 x1 R1 d1 p1 => ?_
  split at p1
  · next us ws =>
    obtain ⟨v, w, rfl, dv, dw⟩ := two_of (X := X) d1
    obtain ⟨p, vs, rfl, h1, h2⟩ := dv.tupE
    obtain ⟨q, zs, rfl, h3, h4⟩ := dw.tupE
    refine ⟨p, q, vs, zs, rfl, .inr ⟨h1.sq, h3.sq, p1 _ L1 H1 Ex.refl R1 (walkF_pair (n := min us.length ws.length) (by simp [zipP]) fun L2 s2 H2 x2 R2 hk => ?_)⟩⟩
    have wk := walk_zipT (K := X.K) (a := p) (b := q) (xs := vs) (ys := zs)
    rw [h2.length, h4.length] at wk
    refine ⟨_, _, _, wk, ⟨(SqT.frame h1 x2).sq, (SqT.frame h3 x2).sq⟩, fun i x y v w e1 e2 e3 => ?_⟩
    obtain ⟨g1, g2⟩ := zipP_at e1
    obtain ⟨v', k1, k2⟩ := h2.get g1
    obtain ⟨w', k3, k4⟩ := h4.get g2
    rw [e2] at k1; cases k1
    rw [e3] at k3; cases k3
    exact ⟨k2.monoW x2, k4.monoW x2⟩
  · next x y _ =>
    split at p1
    · next us c1 ws c2 e0 e9 =>
      obtain ⟨v, w, rfl, dv, dw⟩ := two_of (X := X) d1
      obtain ⟨p, vs, rfl, hq, hl, hw⟩ := lstI_of R1 dv e0
      obtain ⟨q, zs, rfl, hq2, hl2, hw2⟩ := lstI_of R1 dw e9
      refine ⟨p, q, vs, zs, rfl, .inl ⟨hq, hq2, p1 _ L1 H1 Ex.refl R1 (walkF_pair (n := min us.length ws.length) (by simp [zipP]) fun L2 s2 H2 x2 R2 hk => ?_)⟩⟩
      simp only [Bool.and_eq_true] at hk
      obtain ⟨vs2, h1, h2⟩ := hw L2 s2 H2 x2 R2 hk.1
      obtain ⟨zs2, h3, h4⟩ := hw2 L2 s2 H2 x2 R2 hk.2
      have wk := walk_zip (K := X.K) (a := p) (b := q) (xs := vs2) (ys := zs2) rfl
      rw [h2.length, h4.length] at wk
      refine ⟨_, _, _, wk, ⟨h1, h3⟩, fun i x y v w e1 e2 e3 => ?_⟩
      obtain ⟨g1, g2⟩ := zipP_at e1
      obtain ⟨v', k1, k2⟩ := h2.get g1
      obtain ⟨w', k3, k4⟩ := h4.get g2
      rw [e2] at k1; cases k1
      rw [e3] at k3; cases k3
      exact ⟨k2, k4⟩
    · exact p1.elim
  · exact p1.elim
/-! ### range with a step -/
def rgC (i j c : Int) : List T := (List.range (Builtin.Range.rangeSize i j c).toNat).map fun (k : Nat) => T.int (i + (k : Int) * c)
def iRg3 (l : Lv) : Iv := fun r s => (l r s).bndI fun ts s => match ts with
  | [.int i, .int j, .int c] => if c ≠ 0 ∧ c.natAbs < 1073741824 ∧ Builtin.Range.small i j c = true then .ok (rgC i j c) chkT s else .bad
  | _ => .bad
theorem rgC_ds {K : PySem.W.Frag} {mg : Str → Option Value} {L : List Addr} {H : Hp} (i c : Int) : ∀ l : List Nat, Ds K mg L H (l.map fun (k : Nat) => V.int (i + (k : Int) * c)) (l.map fun (k : Nat) => T.int (i + (k : Int) * c))
  | [] => .nil
  | _ :: r => .cons (.int _) (rgC_ds i c r)
theorem walkF_rgC {K : PySem.W.Frag} {mg : Str → Option Value} {L : List Addr} {H : Hp} {i j c : Int} : WalkF K mg L H (Itc i c (Builtin.Range.rangeSize i j c).toNat) (rgC i j c) chkT := by
  refine walkF_same (xs := (List.range (Builtin.Range.rangeSize i j c).toNat).map fun (k : Nat) => V.int (i + (k : Int) * c)) (G := fun _ => True) (Y := fun k v => k < (Builtin.Range.rangeSize i j c).toNat ∧ v = .int (i + (k : Int) * c)) ?_ (fun k x h => ?_) fun L1 s1 H1 x1 R1 _ => ⟨trivial, rgC_ds _ _ _⟩
  · have := walk_rangeC (lo := i) (c := c) (n := (Builtin.Range.rangeSize i j c).toNat)
    rw [List.length_map, List.length_range]
    exact this.mono (fun _ h => h) fun k H x H' hk _ y => ⟨y.1, hk, y.2⟩
  · obtain ⟨h1, rfl⟩ := h
    simp [h1]
theorem three_of {L : List Addr} {H : Hp} {vs : List V} {t u w : T} (d : Ds X.K X.mg L H vs [t, u, w]) : ∃ a b c, vs = [a, b, c] ∧ D X.K X.mg L H a t ∧ D X.K X.mg L H b u ∧ D X.K X.mg L H c w := by
  cases d with
  | cons h1 q1 =>
    cases q1 with
    | cons h2 q2 =>
      cases q2 with
      | cons h3 q3 => cases q3; exact ⟨_, _, _, rfl, h1, h2, h3⟩
theorem i_rg3 {tg : Expr} (B : Bx X N sc) (hg : sc.names.lookup ("range" : Str) = some .globalImplicit) (hm : X.mg "range" = none) (ha : FL X W [a, b, c] fl) (hs : starEach [a, b, c] X.env = (false, eval a X.env) :: starEach [b, c] X.env := by rfl) (hpl : (backTo pos (starEach [b, c] X.env)).any (·.1) = false := by rfl) : FI X W tg (.Call (.Name "range" p) [a, b, c] [] pos) (iRg3 fl) := by
  refine PIw (pi_range3 (B.gl hg) hm ha hs hpl) fun σ H R ⟨L, r, s, hR, hE, hp⟩ => ?_
  refine lL_bndI hR hE hp fun t1 s1 v1 L1 H1 x1 R1 d1 p1 => ?_
  split at p1
  · next i j c =>
    split at p1
    · next hz =>
      obtain ⟨v, w, u, rfl, dv, dw, du⟩ := three_of (X := X) d1
      cases dv.intE; cases dw.intE; cases du.intE
      exact ⟨i, j, c, _, rfl, ⟨hz.1, hz.2.1, hz.2.2, rangeSize_toNat i j c⟩, p1 _ L1 H1 Ex.refl R1 walkF_rgC⟩
    · exact p1.elim
  · exact p1.elim
end
end Fx

set_option maxRecDepth 100000
set_option maxHeartbeats 4000000
/-! Fx: f'{n:,}'. -/
namespace Fx
open PySem L2 PyProof.Rows Builtin Float
def commaF : FormatSpec := { align := 62, grouping := some ',' }
/-- the text of {n:,} -/
def commaT (a : Int) : Str := intSpecText commaF a
theorem groups_len (sep : Nat) : ∀ (turns : Nat) (ds : List Nat) (room : Int) (out : List Nat), room ≤ 0 → (groupsFromRight' 3 sep turns ds room out).length ≤ out.length + 4 * turns
  | 0, _, _, out, _ => by simp [groupsFromRight']
  | t + 1, ds, room, out, hr => by
    unfold groupsFromRight'
    dsimp only
    have hn : min 3 (max (max (ds.length : Int) room) 1).toNat ≤ 3 := Nat.min_le_left _ _
    generalize min 3 (max (max (ds.length : Int) room) 1).toNat = n at hn
    have hl : (List.replicate (n - ds.length) 48 ++ (ds.take n).reverse ++ out).length ≤ out.length + 3 := by
      simp only [List.length_append, List.length_replicate, List.length_reverse, List.length_take]
      omega
    split
    · omega
    · have := groups_len sep t (ds.drop n) (room - n - 1) (sep :: (List.replicate (n - ds.length) 48 ++ (ds.take n).reverse ++ out)) (by omega)
      rw [List.length_cons] at this
      omega
theorem commaT_len {a : Int} (h0 : 0 ≤ a) (h : (Nat.toDigits 10 a.natAbs).length ≤ 100) : (commaT a).length ≤ 1000 := by
  have hn : decide (a < 0) = false := decide_eq_false (by omega)
  unfold commaT intSpecText intField'
  simp only [hn, commaF, Bool.false_eq_true, if_false, show ((48 : Nat) == 32) = false by decide, show ((32 : Nat) == 48) = false by decide, Bool.false_and]
  show (List.toArray _).size ≤ 1000
  rw [List.size_toArray]
  have g := groups_len 44 ((Nat.toDigits 10 a.natAbs).length + 1) ((Nat.toDigits 10 a.natAbs).map fun c => c.toNat).reverse 0 [] (by decide)
  simp only [List.length_nil] at g
  simp only [List.length_append, List.length_replicate, List.length_nil]
  repeat' split
  all_goals (simp at *) <;> (try omega)
set_option maxHeartbeats 8000000 in
theorem formatField_f {prog : Program} {w : World} {A : Around} {E : Value → Shared → Prop} {s : Shared} {a : Int} {t : Tok} {Q : Value → Shared → Prop} {spec : Str} {f : FormatSpec} (hlog : a.natAbs.log2 < 1920) (hl : (intSpecText f a).length ≤ sizeLine)
    (hp : parseFormatSpec spec.cps.toList "int" 62 = .ok f) (hne : (spec.length == 0) = false)
    (hasc : ((spec.cps.toList.drop 1).any (· ≥ 128) || (spec.cps.getD 0 0 ≥ 128 && !([60, 62, 61, 94] : List Nat).contains (spec.cps.getD 1 0))) = false)
    (hty : f.type.getD (if spec.cps.back? == some 0 then 0 else 100) = 100) (hpr : f.precision = none) (hz : f.noNeg0 = false) (hal : f.alt = false) (hw : f.width.getD 0 ≤ 100000)
    (h : Q (.str (intSpecText f a) (s.toks + 1)) { s with toks := s.toks + 1 + 1 }) (hsz : spec.length ≤ sizeLine) : wpAny (model prog w) A (formatField (.int a t) spec) Q E s := by
  have e : formatField (.int a t) spec = holding [.int a t] (pyFormat (.int a t) spec) := by
    unfold formatField
    simp only [hne, Bool.false_eq_true, if_false]
  rw [e]
  refine wpAny_holding ?_
  unfold pyFormat
  refine wpAny_bind (wpAny_mkStr ?_ hsz)
  refine wpAny_bind (m := callSpecial? (.int a t) (Str.ofString "__format__") [.str spec s.toks]) (wpAny_callSpecial?_slot (name := Str.ofString "__format__") (PySem.typeIs_int _ a t) PyProof.Rows.slot_int_format ?_)
  refine wpAny_call (codeAny_call_builtin PyProof.Rows.slot_int_format.plain PyProof.Rows.entry_int_format (PyProof.Rows.slot_int_format.check _ _ _ _ _ _ _ _ (PySem.typeIs_int _ a t) (PyProof.Rows.args_int_format _ _) ?_))
  unfold Builtin.«int.__format__»
  simp only [selfAndOne, noKeywords, Int.intOfSelf, asInt?, asStr?, List.isEmpty_nil, if_true, pure_bind, bind_pure, bind_assoc, hne, hasc, Bool.false_eq_true, if_false,
    show (Value.str spec s.toks == Value.none) = false from rfl]
  refine wpAny_bind (PySem.wpAny_typeNameOf (T := "str") (PySem.typeIs_str _ _ _) (by decide) fun _ => ?_)
  refine wpAny_bind (wpAny_typeNameOfCut_int ?_)
  simp only [hp, hty]
  rw [if_pos (by decide)]
  show wpAny _ _ (if _ then _ else _) _ _ _
  rw [if_neg (by simp [hpr])]
  show wpAny _ _ (if _ then _ else _) _ _ _
  rw [if_neg (by simp [hz])]
  show wpAny _ _ (if _ then _ else _) _ _ _
  rw [if_neg (by decide)]
  show wpAny _ _ (do let r ← Builtin.overDigitLimit? a; _) _ _ _
  rw [PyProof.Rows.overDigitLimit_small hlog]
  refine wpAny_bind (wpAny_pure ?_)
  show wpAny _ _ (if _ then _ else _) _ _ _
  have hw' : ¬ (f.width.getD 0 > 100000) := by omega
  rw [if_neg (by simpa using hw')]
  simp only [hal, Bool.false_eq_true, if_false, show ((10 : Nat) == 10) = true by decide, if_true]
  suffices hh : ∀ Y, Y = intSpecText f a → wpAny (model prog w) A.in1 (retStr Y) _ _ _ from hh _ (by kernel_rfl)
  intro Y hY
  subst hY
  unfold retStr
  refine wpAny_bind (wpAny_mkStr (wpAny_pure ?_) hl)
  dsimp only
  exact wpAny_bind (wpAny_isInstance (PySem.typeIs_str _ _ _) isSubtype_str_str (wpAny_pure h))
theorem formatField_comma {prog : Program} {w : World} {A : Around} {E : Value → Shared → Prop} {s : Shared} {a : Int} {t : Tok} {Q : Value → Shared → Prop} (hlog : a.natAbs.log2 < 1920) (hl : (commaT a).length ≤ sizeLine)
    (h : Q (.str (commaT a) (s.toks + 1)) { s with toks := s.toks + 1 + 1 }) : wpAny (model prog w) A (formatField (.int a t) ",") Q E s :=
  formatField_f (f := commaF) hlog hl (by rfl) (by decide) (by decide) (by decide) rfl rfl rfl (by decide) h (by rw [sizeLine_eq]; decide)
end Fx
namespace Fx
open PySem L2 PyProof.Rows
def fmtC : T → Sto → OV
  | .int i, s => if 0 ≤ i ∧ i < 1000000000000000000000000000000 then some (.str (commaT i), s) else none
  | _, _ => none
theorem small_log {n : Nat} (h : n < 1000000000000000000000000000000) : n.log2 < 1920 := by
  by_cases h0 : n = 0
  · subst h0; decide
  · have := Nat.log2_self_le h0
    apply Classical.byContradiction
    intro hc
    have h1 : 2 ^ 1920 ≤ 2 ^ n.log2 := Nat.pow_le_pow_right (by decide) (by omega)
    have h2 : (1000000000000000000000000000000 : Nat) ≤ 2 ^ 1920 := by decide
    omega
theorem commaT_ok {i : Int} (h0 : 0 ≤ i) (h1 : i < 1000000000000000000000000000000) : (commaT i).length ≤ 1000 := commaT_len h0 (by
  have e := (Nat.length_repr_le_iff (n := i.natAbs) (by decide : 0 < 100)).mpr (by
    have : i.natAbs < 1000000000000000000000000000000 := by omega
    exact Nat.lt_of_lt_of_le this (by decide))
  rwa [← String.length_toList, Nat.toList_repr] at e)
section
variable {X : Cx} {W : WS} {pos p1 p2 : Pos} {a : Expr} {fa : Ev} {j : Nat}
theorem r_fmtC (ha : FE X W a fa) : FE X W (.FormattedValue a (-1) (some (.JoinedStr [.Constant (.str ",") j p1] p2)) pos) (eUn fmtC fa) := by
  refine ⟨fun pins s σ H Q I ⟨L, r, st, hR, hE, hp⟩ => ?_⟩
  have go : lE X.K X.mg W fa σ H fun v H1 => ∃ i : Int, v = .int i ∧ 0 ≤ i ∧ i < 1000000000000000000000000000000 ∧ Q (.str (commaT i)) H1 := by
    refine lE_bnd hR hE hp fun t1 s1 v1 L1 H1 x1 R1 E1 d1 p1 => ?_
    have p2 := PostV.of p1
    unfold fmtC at p2
    split at p2
    · next i =>
      split at p2
      · next hz =>
        cases d1.intE
        exact ⟨i, rfl, hz.1, hz.2, p2.here R1 (.str _)⟩
      · exact p2.elim
    · exact p2.elim
  refine PySem.wpAny_FormattedValue_spec (thn (ha.run pins s σ H _ I go) fun v s1 ⟨x, H1, I1, r1, i, ex, h0, h1, q⟩ => ?_)
  subst ex
  obtain ⟨t, rfl⟩ := (show ∃ t, v = Value.int i t from r1)
  refine wpAny_JoinedStr_one (thn ((pe_str (X := X) (x := ",") (j := j) (pos := p1)).run pins s1 σ H1 (fun v H => v = .str "," ∧ H = H1) I1 ⟨rfl, rfl⟩) fun u s2 ⟨y, H2, I2, r2, ey, eH⟩ => ?_)
  subst ey eH
  obtain ⟨t2, rfl⟩ := (show ∃ t, u = Value.str "," t from r2)
  refine ⟨",", t2, rfl, ?_⟩
  refine formatField_comma (small_log (by omega)) (Nat.le_trans (commaT_ok h0 h1) (by rw [sizeLine_eq]; decide)) ?_
  exact ⟨.str (commaT i), H2, I2.tok _, ⟨_, rfl⟩, q⟩
end
end Fx

set_option maxRecDepth 100000
set_option maxHeartbeats 4000000
/-! Fx: tuple * int, any int. -/
namespace Fx
open PySem L2 PyProof.Rows
theorem tuple_mul0 (l : Addr) (items : Array Value) (n : Nat) (dd : Option Addr) (sl : Array (Option Value)) (x : Int) (u : Tok) (c0 : (decide (x < -(2 ^ 63)) || decide (x ≥ 2 ^ 63)) = false) (c1 : (items.isEmpty || x == 1) = false) (c2 : (decide (x ≤ 0) || items.isEmpty) = true) :
    Meets (Builtin.«tuple.__mul__» ⟨[.ref l, .int x u], []⟩) (fun _ R s => s.heap.get? l = some { cls := .type "tuple", dict := dd, data := .seq items n, slots := sl } ∧
      R (.ok (.ret (Value.ref s.heap.objs.size))) { s with heap := s.heap.push { cls := Value.type "tuple", data := Data.seq #[] }, toks := s.toks }) :=
  .of_wp fun prog w A R s h => by
    obtain ⟨hp, g, d, tk, os⟩ := s
    obtain ⟨hl, h⟩ := h
    have f1 := AutoSeq1.idx_int
    wp_walk using wpAny_loadPart' hl
    repeat (first
      | (refine wpAny_ite_false (decide_eq_false (by rw [c0]; exact Bool.false_ne_true)) ?_; wp_walk using wpAny_loadPart' hl)
      | (refine wpAny_ite_false (decide_eq_false (by rw [c1]; exact Bool.false_ne_true)) ?_; wp_walk using wpAny_loadPart' hl)
      | (refine wpAny_ite_true (decide_eq_true (by rw [c2])) ?_; wp_walk using wpAny_loadPart' hl))
    exact ⟨_, rfl, h⟩
theorem tuple_mul1 (l : Addr) (items : Array Value) (n : Nat) (dd : Option Addr) (sl : Array (Option Value)) (x : Int) (u : Tok) (c0 : (decide (x < -(2 ^ 63)) || decide (x ≥ 2 ^ 63)) = false) (c1 : (items.isEmpty || x == 1) = true) :
    Meets (Builtin.«tuple.__mul__» ⟨[.ref l, .int x u], []⟩) (fun _ R s => s.heap.get? l = some { cls := .type "tuple", dict := dd, data := .seq items n, slots := sl } ∧
      R (.ok (.ret (Value.ref l))) s) :=
  .of_wp fun prog w A R s h => by
    obtain ⟨hp, g, d, tk, os⟩ := s
    obtain ⟨hl, h⟩ := h
    have f1 := AutoSeq1.idx_int
    wp_walk using wpAny_loadPart' hl
    repeat (first
      | (refine wpAny_ite_false (decide_eq_false (by rw [c0]; exact Bool.false_ne_true)) ?_; wp_walk using wpAny_loadPart' hl)
      | (refine wpAny_ite_true (decide_eq_true (by rw [c1])) ?_; wp_walk using wpAny_loadPart' hl))
    exact ⟨_, rfl, h⟩

section
variable {X : Cx}
def rRep0 (K : PySem.W.Frag) : R2 := fun x y H Q => ∃ l k xs, x = .ref l ∧ y = .int k ∧ SqT K H l xs ∧ xs ≠ [] ∧ -1000 ≤ k ∧ k ≤ 0 ∧ ∀ p, H p = none → Q (.ref p) (upd H p (.tup []))
theorem op_rep0 : OpR X (binaryOp .Mult) (rRep0 X.K) := by
  intro pins s σ H x y v u Q I rx ry h
  obtain ⟨l, k, xs, rfl, rfl, hT, hne, h1, h2, q⟩ := h
  cases rx
  obtain ⟨t, rfl⟩ := ry
  obtain ⟨its, r, ⟨⟨cls, dd, data, sl⟩, ho, hc, n, hd⟩, hs⟩ := I.tuple hT
  simp only at hc hd
  subst hc hd
  have hle : its.length = xs.length := r.length.symm
  have hn : its ≠ [] := fun e => hne (by
    rw [e] at hle
    exact List.eq_nil_of_length_eq_zero hle.symm)
  have hi : its.toArray.isEmpty = false := by
    cases its with
    | nil => exact absurd rfl hn
    | cons a b => rfl
  have c0 : (decide (k < -(2 ^ 63)) || decide (k ≥ 2 ^ 63)) = false := by
    rw [decide_eq_false (by omega), decide_eq_false (by omega)] <;> rfl
  have c1 : (its.toArray.isEmpty || k == 1) = false := by
    rw [hi, Bool.false_or]
    exact beq_eq_false_iff_ne.mpr (by omega)
  have c2 : (decide (k ≤ 0) || its.toArray.isEmpty) = true := by
    rw [decide_eq_true h2] <;> rfl
  refine wpAny_binaryOp_repeat_ref (T := "tuple") (U := "int") (by decide) ⟨_, ho, rfl⟩ (fun s' => PySem.typeIs_int s' k t) noFill_tuple_mul PySem.F.fills_int_mul PySem.F.slot_int_rmul repeat_tuple PySem.F.slot_int_index.lookup
    (call_meets PySem.F.slot_int_rmul (PySem.typeIs_int s k t) PySem.F.entry_int_rmul (PySem.F.args_int_rmul_2 _ _) (int_rmul_tuple k t l its.toArray n dd sl)
      ⟨ho, rfl, ⟨_, ho, rfl⟩, call_meets PySem.F.slot_tuple_mul ⟨_, ho, rfl⟩ PySem.F.entry_tuple_mul (PySem.F.args_tuple_mul_2 _ _) (tuple_mul0 l its.toArray n dd sl k t c0 c1 c2) ⟨ho, ?_⟩⟩)
  refine ⟨.ref s.heap.objs.size, _, I.laid (t' := s.toks) (o := .tup []) (fun b ob q => Heap.get?_push_of_some _ q) (Nat.le_refl _) ?_, rfl, q _ (I.hok.fresh (Nat.le_refl _))⟩
  exact ⟨Nat.zero_le _, [], .nil, IsTup.new _ _⟩
def rRep1 (K : PySem.W.Frag) : R2 := fun x y H Q => ∃ l xs, x = .ref l ∧ y = .int 1 ∧ SqT K H l xs ∧ Q (.ref l) H
theorem op_rep1 : OpR X (binaryOp .Mult) (rRep1 X.K) := by
  intro pins s σ H x y v u Q I rx ry h
  obtain ⟨l, xs, rfl, rfl, hT, q⟩ := h
  cases rx
  obtain ⟨t, rfl⟩ := ry
  obtain ⟨its, r, ⟨⟨cls, dd, data, sl⟩, ho, hc, n, hd⟩, hs⟩ := I.tuple hT
  simp only at hc hd
  subst hc hd
  have c0 : (decide ((1 : Int) < -(2 ^ 63)) || decide ((1 : Int) ≥ 2 ^ 63)) = false := by decide
  have c1 : (its.toArray.isEmpty || (1 : Int) == 1) = true := by simp
  refine wpAny_binaryOp_repeat_ref (T := "tuple") (U := "int") (by decide) ⟨_, ho, rfl⟩ (fun s' => PySem.typeIs_int s' 1 t) noFill_tuple_mul PySem.F.fills_int_mul PySem.F.slot_int_rmul repeat_tuple PySem.F.slot_int_index.lookup
    (call_meets PySem.F.slot_int_rmul (PySem.typeIs_int s 1 t) PySem.F.entry_int_rmul (PySem.F.args_int_rmul_2 _ _) (int_rmul_tuple 1 t l its.toArray n dd sl)
      ⟨ho, rfl, ⟨_, ho, rfl⟩, call_meets PySem.F.slot_tuple_mul ⟨_, ho, rfl⟩ PySem.F.entry_tuple_mul (PySem.F.args_tuple_mul_2 _ _) (tuple_mul1 l its.toArray n dd sl 1 t c0 c1) ⟨ho, ?_⟩⟩)
  exact ⟨.ref l, H, I, rfl, q⟩
/-- a text n times -/
def repS (x : Str) (n : Nat) : Str := ⟨(List.replicate n x.cps).foldl (· ++ ·) #[]⟩
theorem rep_size (a : Array Nat) : ∀ (n : Nat) (b : Array Nat), ((List.replicate n a).foldl (· ++ ·) b).size = b.size + n * a.size
  | 0, b => by simp
  | n + 1, b => by rw [List.replicate_succ, List.foldl_cons, rep_size a n, Array.size_append, Nat.succ_mul]; omega
theorem repS_len (x : Str) (n : Nat) : (repS x n).length = n * x.length := by
  show ((List.replicate n x.cps).foldl (· ++ ·) #[]).size = _
  rw [rep_size]
  exact Nat.zero_add _
def rRepS : R2 := fun x y H Q => ∃ i k, x = .str i ∧ y = .int k ∧ 1 ≤ i.length ∧ i.length ≤ 1000 ∧ 2 ≤ k ∧ k ≤ 1000 ∧ Q (.str (repS i k.toNat)) H
theorem op_repS : OpR X (binaryOp .Mult) rRepS := by
  intro pins s σ H x y v u Q I rx ry h
  obtain ⟨i, k, rfl, rfl, h1, h2, h3, h4, q⟩ := h
  obtain ⟨t, rfl⟩ := rx
  obtain ⟨t2, rfl⟩ := ry
  have hm : i.length * k.toNat ≤ 1000000 := by
    have := Nat.mul_le_mul h2 (show k.toNat ≤ 1000 by omega)
    omega
  refine P.mul_str (by rw [decide_eq_false (by omega), decide_eq_false (by omega)] <;> rfl) (fun _ _ => ?_) (fun _ _ => ?_) ?_
  · refine Int.not_lt.mpr ((Int.le_ediv_iff_mul_le (by omega)).mpr ?_)
    have e : ((i.length * k.toNat : Nat) : Int) = (i.length : Int) * k := by rw [Int.natCast_mul, Int.toNat_of_nonneg (by omega)]
    omega
  · exact decide_eq_false (by rw [sizeLine_eq]; omega)
  · have c : (k == 1 || i.length == 0) = false := by
      rw [Bool.or_eq_false_iff]
      exact ⟨beq_eq_false_iff_ne.mpr (by omega), beq_eq_false_iff_ne.mpr (by omega)⟩
    rw [if_neg (by omega), c]
    have z : (repS i k.toNat).length ≤ sizeLine := by rw [repS_len, sizeLine_eq, Nat.mul_comm]; omega
    exact ⟨z, ⟨.str (repS i k.toNat), H, I.tok _, ⟨_, rfl⟩, q⟩⟩
/-- * of ints, lists, tuples, texts -/
def oMulT (x y : T) (s : Sto) : OV := match x, y with
  | .tup a, .int k => if a ≠ [] ∧ a.length ≤ 1000 ∧ -1000 ≤ k ∧ k ≤ 1000 then some (.tup (List.replicate k.toNat a).flatten, s) else none
  | .str a, .int k => if 1 ≤ a.length ∧ a.length ≤ 1000 ∧ 2 ≤ k ∧ k ≤ 1000 then some (.str (repS a k.toNat), s) else none
  | _, _ => oMul x y s
theorem f_mulT : OpF X (binaryOp .Mult) oMulT := by
  intro pins s σ H x y v u Q I rx ry ⟨L, st, t1, t2, hR, h1, h2, hp⟩
  unfold oMulT at hp
  split at hp
  · next a k =>
    split at hp
    · next hz =>
      obtain ⟨z1, z2, z3, z4⟩ := hz
      obtain ⟨p, vs, rfl, q1, q2⟩ := h1.tupE
      cases h2.intE
      have hl := q2.length
      have hne : vs ≠ [] := fun e => z1 (by rw [e] at hl; exact List.eq_nil_of_length_eq_zero hl.symm)
      by_cases k0 : k ≤ 0
      · have e : (List.replicate k.toNat a).flatten = [] := by rw [Int.toNat_of_nonpos k0]; rfl
        rw [e] at hp
        exact op_rep0 pins s σ H _ _ v u Q I rx ry ⟨p, k, vs, rfl, rfl, q1.sq, hne, z3, k0, fun r hr => hp _ L _ (Ex.laid hr) (hR.laid hr) (.tup (.inl upd_same) .nil)⟩
      · by_cases k1 : k = 1
        · subst k1
          have e : (List.replicate (1 : Int).toNat a).flatten = a := by simp
          rw [e] at hp
          exact op_rep1 pins s σ H _ _ v u Q I rx ry ⟨p, vs, rfl, rfl, q1.sq, hp _ L H Ex.refl hR (.tup q1 q2)⟩
        · exact op_repT pins s σ H _ _ v u Q I rx ry ⟨p, k, vs, rfl, rfl, q1.sq, hne, by omega, z4, by omega, fun r hr => hp _ L _ (Ex.laid hr) (hR.laid hr) (.tup (.inl upd_same) ((q2.rep _).mono (Ex.laid hr)))⟩
    · exact hp.elim
  · next a k =>
    split at hp
    · next hz =>
      obtain ⟨z1, z2, z3, z4⟩ := hz
      cases h1.strE
      cases h2.intE
      exact op_repS pins s σ H _ _ v u Q I rx ry ⟨a, k, rfl, rfl, z1, z2, z3, z4, hp _ L H Ex.refl hR (.str _)⟩
    · exact hp.elim
  · exact f_mul pins s σ H x y v u Q I rx ry ⟨L, st, t1, t2, hR, h1, h2, hp⟩
end
end Fx

set_option maxRecDepth 100000
set_option maxHeartbeats 2000000
/-! Fx: what the head tells: globals, defs wherever they stand, classes. -/
namespace Fx
open PySem L2 PyProof.Rows PySem.W

/-! ### class facts -/
inductive CF where
  /-- the instances of C are plain -/
  | cls (C : String)
  /-- C.m is the def d -/
  | meth (C m : String) (d : Dn)
  /-- C.f is a property, its getter d -/
  | prop (C f : String) (d : Dn)
  /-- C.f is the int i -/
  | con (C f : String) (i : Int)
  /-- no class of C has the name f -/
  | fld (C f : String)
  /-- C(..) makes an instance by the __init__ d -/
  | mk (C : String) (d : Dn)
  /-- C.m is a classmethod, its def d -/
  | cm (C m : String) (d : Dn)
def plainB (K : Frag) (C : String) : Bool := (He.Fa.cls (Str.ofString C)).ok K
def findB (K : Frag) (C f : String) (a : Addr) : Bool := He.eqO (findIn K (.ref (gN K C)) (Str.ofString f)) (some (some (.ref a)))
def isRec (K : Frag) (p : Addr) (k : String) (g : Addr) : Bool := match recIn K p k with
  | some (.ref h :: _) => decide (h = g)
  | _ => false
def conB (K : Frag) (C f : String) (i : Int) : Bool := match findIn K (.ref (gN K C)) (Str.ofString f) with
  | some (some (.int j t)) => decide (j = i) && (decide (specialIn K (.int j t) "__get__" = some none) && !copiedNames.contains (Str.ofString f))
  | _ => false
def cmB (K : Frag) (C m : String) : Bool := match findCls K (.ref (gN K C)) (.type "type") (Str.ofString m) with
  | some (.get (.builtin b) (.ref p) .none (.ref c)) => b == "classmethod.__get__" && (decide (p = He.ma K (gN K C) (Str.ofString m)) && decide (c = gN K C))
  | _ => false
theorem cmB_ok {K : Frag} {C m : String} (h : cmB K C m = true) : findCls K (.ref (gN K C)) (.type "type") (Str.ofString m) = some (.get (.builtin "classmethod.__get__") (.ref (He.ma K (gN K C) (Str.ofString m))) .none (.ref (gN K C))) := by
  unfold cmB at h
  split at h
  · next b p c e =>
    simp only [Bool.and_eq_true, beq_iff_eq, decide_eq_true_eq] at h
    obtain ⟨h1, h2, h3⟩ := h
    rw [e, h1, h2, h3]
  · cases h
def CF.ok (K : Frag) : CF → Bool
  | .cls C => plainB K C
  | .meth C m d => findB K C m (d.adr K) && (isFn K (.ref (d.adr K)) && keepIn K (.ref (d.adr K)))
  | .prop C f d => findB K C f (He.ma K (gN K C) (Str.ofString f)) && (decide (specialIn K (.ref (He.ma K (gN K C) (Str.ofString f))) "__get__" = some (some (.builtin "property.__get__"))) && (decide (takesIn K (.ref (He.ma K (gN K C) (Str.ofString f))) = some true) && isRec K (He.ma K (gN K C) (Str.ofString f)) "property" (d.adr K)))
  | .con C f i => conB K C f i
  | .fld C f => He.eqO (findIn K (.ref (gN K C)) (Str.ofString f)) (some none)
  | .mk C d => makesIn K (gN K C) && (findB K C "__init__" (d.adr K) && (isFn K (.ref (d.adr K)) && keepIn K (.ref (gN K C))))
  | .cm C m d => readsIn K (gN K C) (.type "type") && (decide (specialIn K (.ref (gN K C)) "__getattribute__" = some (some (.builtin "type.__getattribute__"))) &&
      (cmB K C m &&
      (isRec K (He.ma K (gN K C) (Str.ofString m)) "classmethod" (d.adr K) && fnIn K (d.adr K))))
def cOk (l : List CF) (K : Frag) : Bool := l.all fun x => x.ok K
theorem cOk_at {l : List CF} {K : Frag} (h : cOk l K = true) (i : Nat) {x : CF} (hx : l[i]? = some x := by rfl) : x.ok K = true := List.all_eq_true.mp h x (List.mem_of_getElem? hx)
theorem ba {a b : Bool} (h : (a && b) = true) : a = true ∧ b = true := Bool.and_eq_true_iff.mp h
theorem isRec_ok {K : Frag} {p : Addr} {k : String} {g : Addr} (h : isRec K p k g = true) : ∃ rest, recIn K p k = some (.ref g :: rest) := by
  unfold isRec at h
  split at h
  · next h' rest e =>
    rw [of_decide_eq_true h] at e
    exact ⟨rest, e⟩
  · cases h
section
variable {K : Frag} {mg : Str → Option Value} {C f m : String} {d : Dn}
theorem cls_at (h : (CF.cls C).ok K = true) : Cls K (gN K C) := He.cls_ok h
theorem meth_at (h : (CF.meth C m d).ok K = true) : Meth K (gN K C) (Str.ofString m) (d.adr K) := by
  obtain ⟨h1, h2⟩ := ba h
  obtain ⟨h2, h3⟩ := ba h2
  exact ⟨He.eqO_ok h1, h2, h3⟩
theorem prop_at (h : (CF.prop C f d).ok K = true) : PropOf K (gN K C) (Str.ofString f) (He.ma K (gN K C) (Str.ofString f)) (d.adr K) := by
  obtain ⟨h1, h2⟩ := ba h
  obtain ⟨h2, h3⟩ := ba h2
  obtain ⟨h3, h4⟩ := ba h3
  exact ⟨He.eqO_ok h1, of_decide_eq_true h2, of_decide_eq_true h3, isRec_ok h4⟩
theorem con_at {i : Int} (h : (CF.con C f i).ok K = true) : ∃ u, Con K (gN K C) (Str.ofString f) (.int i) u := by
  have h : conB K C f i = true := h
  unfold conB at h
  split at h
  · next j t e =>
    obtain ⟨h1, h2⟩ := ba h
    obtain ⟨h2, h3⟩ := ba h2
    have hj : j = i := of_decide_eq_true h1
    subst hj
    exact ⟨.int j t, e, ⟨t, rfl⟩, of_decide_eq_true h2, by simpa using h3⟩
  · cases h
theorem fld_at (h : (CF.fld C f).ok K = true) : NoAttr K (gN K C) (Str.ofString f) := He.eqO_ok h
theorem mk_at (h : (CF.mk C d).ok K = true) : Mk K (gN K C) (d.adr K) := by
  obtain ⟨h1, h2⟩ := ba h
  obtain ⟨h2, h3⟩ := ba h2
  obtain ⟨h3, h4⟩ := ba h3
  exact ⟨h1, He.eqO_ok h2, h3, h4⟩
theorem cm_at (h : (CF.cm C m d).ok K = true) : ClX.CRead K (gN K C) (.type "type") ∧ ClX.CMet K (gN K C) (.type "type") (Str.ofString m) (He.ma K (gN K C) (Str.ofString m)) (d.adr K) := by
  obtain ⟨h1, h2⟩ := ba h
  obtain ⟨h2, h3⟩ := ba h2
  obtain ⟨h3, h4⟩ := ba h3
  obtain ⟨h4, h5⟩ := ba h4
  exact ⟨⟨h1, of_decide_eq_true h2⟩, cmB_ok h3, isRec_ok h4, h5⟩
section
variable {P : Program} {w : World} {base : Heap} {k : Nat} {CT : CallT} {g : String} {pk : Pk}
theorem methF_of (hg : GlN K mg C) (h1 : (CF.cls C).ok K = true) (h2 : (CF.meth C m d).ok K = true) (c : CalP P w K mg base k CT g (d.adr K) pk) : MethF P w K mg base k CT m (C, g, pk) := ⟨_, _, hg, cls_at h1, meth_at h2, c⟩
theorem attF_fld (hg : GlN K mg C) (h1 : (CF.cls C).ok K = true) (h2 : (CF.fld C f).ok K = true) : AttF P w K mg base k CT f (C, .fld) := ⟨_, hg, cls_at h1, fld_at h2⟩
theorem attF_prop (hg : GlN K mg C) (h1 : (CF.cls C).ok K = true) (h2 : (CF.prop C f d).ok K = true) (c : CalP P w K mg base k CT g (d.adr K) (.all [])) : AttF P w K mg base k CT f (C, .prop g) := ⟨_, hg, cls_at h1, _, _, prop_at h2, c⟩
theorem attF_con {i : Int} (hg : GlN K mg C) (h1 : (CF.cls C).ok K = true) (h2 : (CF.con C f i).ok K = true) : AttF P w K mg base k CT f (C, .con i) := ⟨_, hg, cls_at h1, con_at h2⟩
theorem fldF_of (hg : GlN K mg C) (h1 : (CF.cls C).ok K = true) (h2 : (CF.fld C f).ok K = true) : FldF K mg f C := ⟨_, hg, cls_at h1, fld_at h2⟩
theorem mkF_of (hg : GlN K mg C) (h2 : (CF.mk C d).ok K = true) (c : CalP P w K mg base k CT g (d.adr K) pk) : MkF P w K mg base k CT C g pk := ⟨⟨_, _, hg, mk_at h2, c⟩⟩
theorem cmF_of (hg : GlN K mg C) (h2 : (CF.cm C m d).ok K = true) (c : CalP P w K mg base k CT g (d.adr K) pk) : CmF P w K mg base k CT m (C, g, pk) := ⟨_, _, _, _, hg, (cm_at h2).1, (cm_at h2).2, c⟩
end
end

/-- a def at level 0 promises nothing -/
theorem calP_zero {P : Program} {w : World} {K : Frag} {mg : Str → Option Value} {base : Heap} {p : String → Option FnD} {f : String} {a : Addr} {pk : Pk} (kp : keepIn K (.ref a) = true) : CalP P w K mg base 0 (run p 0) f a pk :=
  ⟨fun A b s H us vs Q E _ _ _ ⟨_, ts, _, _, _, h⟩ => by
    unfold pC at h
    split at h <;> exact h.elim, kp⟩
/-! ### the Hook -/
structure DefF where
  at_ : Dn
  name : Str
  qual : Str
  params : Arguments
  body : List Stmt
  scope : Scope
  dfl : List He.Dv := []
  kwd : List (Str × He.Dv) := []
def fnA (K : Frag) (a : Addr) : He.FnW := match K.lookup a with
  | some ⟨_, _, .func fd, _⟩ => some (fd.name, fd.qualname, fd.params, fd.body, fd.scope, fd.globals, fd.closure, fd.builtins)
  | _ => none
def DefF.val (d : DefF) : He.FnW := some (d.name, d.qual, d.params, .stmts d.body, d.scope, mainGlobals, [], builtinsNs)
def DefF.dvs (K : Frag) (d : DefF) : List V := d.dfl.map (He.Dv.v K)
def DefF.kws (K : Frag) (d : DefF) : List (Str × V) := d.kwd.map fun q => (q.1, q.2.v K)
def DefF.ok (K : Frag) (d : DefF) : Bool := keepIn K (.ref (d.at_.adr K)) && (match K.lookup (d.at_.adr K) with
  | some ⟨_, _, .func fd, _⟩ => codeIn K fd.code d.qual && (He.dflB K fd.defaults (d.dvs K) && He.kwdB K fd.kwdefaults (d.kws K))
  | _ => false)
theorem DefF.funD {K : Frag} {d : DefF} (e : fnA K (d.at_.adr K) = d.val) (c : d.ok K = true) : ∃ fd, FunD K d.name d.qual d.params d.body d.scope (d.dvs K) (d.kws K) (d.at_.adr K) fd := by
  obtain ⟨kp, c2⟩ := ba c
  unfold fnA at e
  cases q : K.lookup (d.at_.adr K) with
  | none =>
    rw [q] at c2
    cases c2
  | some o =>
    obtain ⟨oc, od, dt, osl⟩ := o
    rw [q] at c2 e
    cases dt with
    | func fd =>
      obtain ⟨n1, n2, n3, n4, n5, n6, n7, n8, n9, n10, n11, n12, n13, n14, n15⟩ := fd
      have e2 : (some (n1, n2, n3, n4, n5, n6, n7, n15) : He.FnW) = some (d.name, d.qual, d.params, .stmts d.body, d.scope, mainGlobals, [], builtinsNs) := e
      simp only [Option.some.injEq, Prod.mk.injEq] at e2
      obtain ⟨h1, h2, h3, h4, h5, h6, h7, h8⟩ := e2
      subst h1 h2 h3 h4 h5 h6 h7 h8
      have c3 : (codeIn K n13 d.qual && (He.dflB K n8 (d.dvs K) && He.kwdB K n9 (d.kws K))) = true := c2
      obtain ⟨k1, k2⟩ := ba c3
      obtain ⟨k3, k4⟩ := ba k2
      exact ⟨_, ⟨oc, od, n8, n9, n10, n11, n12, n13, n14, osl, rfl, q, k1, He.dflB_ok k3, He.kwdB_ok k4⟩, kp⟩
    | _ => cases c2
abbrev AlF : Type := Bool × List He.FnW
def obsF (fa : List He.Fa) (fn : List DefF) (ex : Frag → Bool) (K : Frag) : AlF := ((fa.all fun f => f.ok K) && ((fn.all fun d => d.ok K) && ex K), fn.map fun d => fnA K (d.at_.adr K))
def valF (fn : List DefF) : AlF := (true, fn.map DefF.val)
def SaysF (fa : List He.Fa) (fn : List DefF) (ex : Frag → Bool) (K : Frag) : Prop := obsF fa fn ex K = valF fn
/-- the code objects of the defs among them -/
def codesF (g : Addr → Option Obj) (as : List Addr) : List Addr := as.flatMap fun a => match g a with
  | some ⟨_, _, .func fd, _⟩ => He.refV fd.code
  | _ => []
/-- what an object names; of a class its table alone -/
def refsF (o : Obj) : List Addr := match o with
  | ⟨_, _, .cls cd, _⟩ => [cd.ns]
  | o => He.refsD o
/-- .. layer by layer -/
def layF (g : Addr → Option Obj) : Nat → List Addr → List Addr
  | 0, as => as
  | n + 1, as => as ++ layF g n (as.flatMap fun a => match g a with
    | some o => refsF o
    | none => [])
/-- the objects at these addresses, empty tables left out, the defs' code, and the interpreter's own statics -/
def frC (g : Addr → Option Obj) (as : List Addr) : Frag := He.frT g as ++ He.frG g (codesF g as ++ [cStatics])
/-- .. for what the names reach in n steps -/
def frK (g : Addr → Option Obj) (n : Nat) : Frag := frC g (layF g n [mainGlobals])
theorem frK_in {n : Nat} {h : Heap} : (frK h.get? n).In h := fun a o e => by
  rcases List.mem_append.mp (He.lookup_mem (show (He.frT h.get? (layF h.get? n [mainGlobals]) ++ He.frG h.get? (codesF h.get? (layF h.get? n [mainGlobals]) ++ [cStatics])).lookup a = some o from e)) with m | m
  · exact He.frG_mem (List.mem_filter.mp m).1
  · exact He.frG_mem m
def obsFG (n : Nat) (fa : List He.Fa) (fn : List DefF) (ex : Frag → Bool) (g : Addr → Option Obj) : AlF := obsF fa fn ex (frK g n)
def hookF (n : Nat) (fa : List He.Fa) (fn : List DefF) (ex : Frag → Bool) : Hook where
  α := AlF
  obs := fun s => obsFG n fa fn ex s.heap.get?
  val := fun _ => valF fn
  says := fun _ h => ∃ K : Frag, K.In h ∧ SaysF fa fn ex K
  of := fun _ _ e => ⟨_, frK_in, e⟩
  keeps := fun _ _ _ ⟨K, hK, c⟩ k => ⟨K, Frag.In.keeps hK k, c⟩
theorem obsFG_eq {n : Nat} {fa : List He.Fa} {fn : List DefF} {ex : Frag → Bool} {g : Addr → Option Obj} {s : Shared} (h : ∀ a, g a = s.heap.get? a) : obsFG n fa fn ex g = (hookF n fa fn ex).obs s := by
  have e : g = s.heap.get? := funext h
  rw [e] <;> rfl
section
variable {fa : List He.Fa} {fn : List DefF} {ex : Frag → Bool} {K : Frag}
theorem SaysF.fact (c : SaysF fa fn ex K) (i : Nat) {f : He.Fa} (h : fa[i]? = some f := by rfl) : f.ok K = true := by
  have c1 := (ba (show ((fa.all fun f => f.ok K) && ((fn.all fun d => d.ok K) && ex K)) = true from congrArg (fun z : AlF => z.1) c)).1
  exact List.all_eq_true.mp c1 f (List.mem_of_getElem? h)
theorem SaysF.more (c : SaysF fa fn ex K) : ex K = true := (ba (ba (show ((fa.all fun f => f.ok K) && ((fn.all fun d => d.ok K) && ex K)) = true from congrArg (fun z : AlF => z.1) c)).2).2
theorem SaysF.def_ (c : SaysF fa fn ex K) (i : Nat) {d : DefF} (h : fn[i]? = some d := by rfl) : ∃ fd, FunD K d.name d.qual d.params d.body d.scope (d.dvs K) (d.kws K) (d.at_.adr K) fd := by
  have c2 := (ba (ba (show ((fa.all fun f => f.ok K) && ((fn.all fun d => d.ok K) && ex K)) = true from congrArg (fun z : AlF => z.1) c)).2).1
  have e : fn.map (fun d => fnA K (d.at_.adr K)) = fn.map DefF.val := congrArg (fun z : AlF => z.2) c
  have e2 : (fn.map fun d => fnA K (d.at_.adr K))[i]? = (fn.map DefF.val)[i]? := by rw [e]
  rw [List.getElem?_map, List.getElem?_map, h] at e2
  exact DefF.funD (Option.some.inj e2) (List.all_eq_true.mp c2 d (List.mem_of_getElem? h))
end
end Fx

set_option maxRecDepth 100000
set_option maxHeartbeats 4000000
namespace K72
open PySem PySem.Spec PyProof.Rows L2 Fx

def xl : List XF := [.cls "BadText" "index", .exm "BadText" "LampError" true, .kit "BadText" "BadLamp" false, .kit "BadText" "BadLog" false, .kit "BadText" "BadMotions" false, .kit "BadText" "BadText" true, .kit "BadText" "NoIndex" false, .kty "BadText" "ValueError" true]
def top (i : Nat) : Stmt := PySem.Challenge.pw_lampstays_k72_other_texts_refused.main.body.getD i (.Pass ⟨0, 0, 0, 0⟩)
theorem bt_ValueError : bootBuiltins "ValueError" = some (.type "ValueError") := by decide +kernel
theorem bt_abs : bootBuiltins "abs" = some (.builtin "abs") := by decide +kernel
theorem bt_all : bootBuiltins "all" = some (.builtin "all") := by decide +kernel
theorem bt_bool : bootBuiltins "bool" = some (.type "bool") := by decide +kernel
theorem bt_enumerate : bootBuiltins "enumerate" = some (.type "enumerate") := by decide +kernel
theorem bt_int : bootBuiltins "int" = some (.type "int") := by decide +kernel
theorem bt_isinstance : bootBuiltins "isinstance" = some (.builtin "isinstance") := by decide +kernel
theorem bt_len : bootBuiltins "len" = some (.builtin "len") := by decide +kernel
theorem bt_list : bootBuiltins "list" = some (.type "list") := by decide +kernel
theorem bt_min : bootBuiltins "min" = some (.builtin "min") := by decide +kernel
theorem bt_range : bootBuiltins "range" = some (.type "range") := by decide +kernel
theorem bt_repr : bootBuiltins "repr" = some (.builtin "repr") := by decide +kernel
theorem bt_str : bootBuiltins "str" = some (.type "str") := by decide +kernel
theorem bt_tuple : bootBuiltins "tuple" = some (.type "tuple") := by decide +kernel
structure Gs (K : PySem.W.Frag) (mg : Str → Option Value) : Prop where
  s_DIGITS : ∃ t, mg "DIGITS" = some (.str "0123456789" t)
  s_HOLD : ∃ t, mg "HOLD" = some (.str "hold" t)
  i_LIMIT : ∃ t, mg "LIMIT" = some (.int 2000000000 t)
  i_LONGEST : ∃ t, mg "LONGEST" = some (.int 20 t)
  i_MAX_LAMPS : ∃ t, mg "MAX_LAMPS" = some (.int 6 t)
  i_MAX_MINUTE : ∃ t, mg "MAX_MINUTE" = some (.int 1000000000 t)
  i_MAX_RUNS : ∃ t, mg "MAX_RUNS" = some (.int 360 t)
  i_MAX_STRETCHES : ∃ t, mg "MAX_STRETCHES" = some (.int 60 t)
  s_NONE : ∃ t, mg "NONE" = some (.str "none" t)
  s_PULSE : ∃ t, mg "PULSE" = some (.str "pulse" t)
  f_ValueError : mg "ValueError" = none
  f_abs : mg "abs" = none
  f_all : mg "all" = none
  f_bool : mg "bool" = none
  f_enumerate : mg "enumerate" = none
  f_int : mg "int" = none
  f_isinstance : mg "isinstance" = none
  f_len : mg "len" = none
  f_list : mg "list" = none
  f_min : mg "min" = none
  f_range : mg "range" = none
  f_repr : mg "repr" = none
  f_str : mg "str" = none
  f_tuple : mg "tuple" = none
  g_BadText : GlN K mg "BadText"
  g_LampError : GlN K mg "LampError"
  g_NoIndex : GlN K mg "NoIndex"
  g_BadMotions : GlN K mg "BadMotions"
  g_BadLog : GlN K mg "BadLog"
  g_BadLamp : GlN K mg "BadLamp"
  x : xOk xl K = true
  xn : ∀ y ∈ xl, ∀ n ∈ y.names, GlN K mg n
  d_is_integer : mg (Str.ofString "is_integer") = some (.ref (He.ga K "is_integer"))
  d_is_minute : mg (Str.ofString "is_minute") = some (.ref (He.ga K "is_minute"))
  d_is_lamp : mg (Str.ofString "is_lamp") = some (.ref (He.ga K "is_lamp"))
  d_end_of : mg (Str.ofString "end_of") = some (.ref (He.ga K "end_of"))
  d_is_run : mg (Str.ofString "is_run") = some (.ref (He.ga K "is_run"))
  d_is_stretch : mg (Str.ofString "is_stretch") = some (.ref (He.ga K "is_stretch"))
  d_read_integer : mg (Str.ofString "read_integer") = some (.ref (He.ga K "read_integer"))
  d_read_pair : mg (Str.ofString "read_pair") = some (.ref (He.ga K "read_pair"))
  d_words_of : mg (Str.ofString "words_of") = some (.ref (He.ga K "words_of"))
  d_read_lamp : mg (Str.ofString "read_lamp") = some (.ref (He.ga K "read_lamp"))
  d_parse_lamps : mg (Str.ofString "parse_lamps") = some (.ref (He.ga K "parse_lamps"))
  d_parse_log : mg (Str.ofString "parse_log") = some (.ref (He.ga K "parse_log"))
  d_read_run : mg (Str.ofString "read_run") = some (.ref (He.ga K "read_run"))
  d_parse_motions : mg (Str.ofString "parse_motions") = some (.ref (He.ga K "parse_motions"))
  d__law_opened : mg (Str.ofString "_law_opened") = some (.ref (He.ga K "_law_opened"))
  d__law_draw : mg (Str.ofString "_law_draw") = some (.ref (He.ga K "_law_draw"))
  d__law_one : mg (Str.ofString "_law_one") = some (.ref (He.ga K "_law_one"))
  d__law_lamp : mg (Str.ofString "_law_lamp") = some (.ref (He.ga K "_law_lamp"))
  d__law_far_runs : mg (Str.ofString "_law_far_runs") = some (.ref (He.ga K "_law_far_runs"))
  d__law_log : mg (Str.ofString "_law_log") = some (.ref (He.ga K "_law_log"))
  d__law_odd : mg (Str.ofString "_law_odd") = some (.ref (He.ga K "_law_odd"))
  d__law_number : mg (Str.ofString "_law_number") = some (.ref (He.ga K "_law_number"))
  d__law_spaced : mg (Str.ofString "_law_spaced") = some (.ref (He.ga K "_law_spaced"))
  d__law_is_run : mg (Str.ofString "_law_is_run") = some (.ref (He.ga K "_law_is_run"))
  d__law_whole : mg (Str.ofString "_law_whole") = some (.ref (He.ga K "_law_whole"))
  d__law_is_part : mg (Str.ofString "_law_is_part") = some (.ref (He.ga K "_law_is_part"))
  d__law_lamps_text : mg (Str.ofString "_law_lamps_text") = some (.ref (He.ga K "_law_lamps_text"))
  d__law_log_text : mg (Str.ofString "_law_log_text") = some (.ref (He.ga K "_law_log_text"))
  d__law_runs_text : mg (Str.ofString "_law_runs_text") = some (.ref (He.ga K "_law_runs_text"))
  d__law_item : mg (Str.ofString "_law_item") = some (.ref (He.ga K "_law_item"))
  d__law_read : mg (Str.ofString "_law_read") = some (.ref (He.ga K "_law_read"))
  d__law_told : mg (Str.ofString "_law_told") = some (.ref (He.ga K "_law_told"))
  d__law_changed : mg (Str.ofString "_law_changed") = some (.ref (He.ga K "_law_changed"))
  d_law : mg (Str.ofString "law") = some (.ref (He.ga K "law"))
structure Gc (P : Program) (w : World) (K : PySem.W.Frag) (mg : Str → Option Value) (base : Heap) (k : Nat) (C : CallT) : Prop where
  c_is_integer : Cal P w K mg base k C "is_integer" (Dn.adr K (.g "is_integer")) []
  c_is_minute : Cal P w K mg base k C "is_minute" (Dn.adr K (.g "is_minute")) []
  c_is_lamp : Cal P w K mg base k C "is_lamp" (Dn.adr K (.g "is_lamp")) []
  c_end_of : Cal P w K mg base k C "end_of" (Dn.adr K (.g "end_of")) []
  c_is_run : Cal P w K mg base k C "is_run" (Dn.adr K (.g "is_run")) []
  c_is_stretch : Cal P w K mg base k C "is_stretch" (Dn.adr K (.g "is_stretch")) []
  c_read_integer : Cal P w K mg base k C "read_integer" (Dn.adr K (.g "read_integer")) []
  c_read_pair : Cal P w K mg base k C "read_pair" (Dn.adr K (.g "read_pair")) []
  c_words_of : Cal P w K mg base k C "words_of" (Dn.adr K (.g "words_of")) []
  c_read_lamp : Cal P w K mg base k C "read_lamp" (Dn.adr K (.g "read_lamp")) []
  c_parse_lamps : Cal P w K mg base k C "parse_lamps" (Dn.adr K (.g "parse_lamps")) []
  c_parse_log : Cal P w K mg base k C "parse_log" (Dn.adr K (.g "parse_log")) []
  c_read_run : Cal P w K mg base k C "read_run" (Dn.adr K (.g "read_run")) []
  c_parse_motions : Cal P w K mg base k C "parse_motions" (Dn.adr K (.g "parse_motions")) []
  c__law_opened : Cal P w K mg base k C "_law_opened" (Dn.adr K (.g "_law_opened")) []
  c__law_draw : Cal P w K mg base k C "_law_draw" (Dn.adr K (.g "_law_draw")) []
  c__law_one : Cal P w K mg base k C "_law_one" (Dn.adr K (.g "_law_one")) []
  c__law_lamp : Cal P w K mg base k C "_law_lamp" (Dn.adr K (.g "_law_lamp")) []
  c__law_far_runs : Cal P w K mg base k C "_law_far_runs" (Dn.adr K (.g "_law_far_runs")) []
  c__law_log : Cal P w K mg base k C "_law_log" (Dn.adr K (.g "_law_log")) []
  c__law_odd : Cal P w K mg base k C "_law_odd" (Dn.adr K (.g "_law_odd")) []
  c__law_number : Cal P w K mg base k C "_law_number" (Dn.adr K (.g "_law_number")) []
  c__law_spaced : Cal P w K mg base k C "_law_spaced" (Dn.adr K (.g "_law_spaced")) []
  c__law_is_run : Cal P w K mg base k C "_law_is_run" (Dn.adr K (.g "_law_is_run")) []
  c__law_whole : Cal P w K mg base k C "_law_whole" (Dn.adr K (.g "_law_whole")) []
  c__law_is_part : Cal P w K mg base k C "_law_is_part" (Dn.adr K (.g "_law_is_part")) []
  c__law_lamps_text : Cal P w K mg base k C "_law_lamps_text" (Dn.adr K (.g "_law_lamps_text")) []
  c__law_log_text : Cal P w K mg base k C "_law_log_text" (Dn.adr K (.g "_law_log_text")) []
  c__law_runs_text : Cal P w K mg base k C "_law_runs_text" (Dn.adr K (.g "_law_runs_text")) []
  c__law_item : Cal P w K mg base k C "_law_item" (Dn.adr K (.g "_law_item")) []
  c__law_read : Cal P w K mg base k C "_law_read" (Dn.adr K (.g "_law_read")) []
  c__law_told : Cal P w K mg base k C "_law_told" (Dn.adr K (.g "_law_told")) []
  c__law_changed : Cal P w K mg base k C "_law_changed" (Dn.adr K (.g "_law_changed")) []
  c_law : Cal P w K mg base k C "law" (Dn.adr K (.g "law")) []
  x_BadText : XCl P w K mg base "BadText" "index"

/-! is_integer -/
abbrev st_is_integer : Stmt := top 15
abbrev sc_is_integer : Scope := defScope st_is_integer
abbrev N_is_integer : List Str := ["value", "low", "high"]
noncomputable def b_is_integer (C : CallT) : Sv := (sRet (eAnd (eB fIsI (lCons (eVar 0) (lCons (eC (.ty "int")) lNil))) (eAnd (eNot (eB fIsI (lCons (eVar 0) (lCons (eC (.ty "bool")) lNil)))) (eChain oLe oLe (eVar 1) (eVar 0) (eVar 2)))))

/-! is_minute -/
abbrev st_is_minute : Stmt := top 16
abbrev sc_is_minute : Scope := defScope st_is_minute
abbrev N_is_minute : List Str := ["value"]
noncomputable def b_is_minute (C : CallT) : Sv := (sRet (eCall C "is_integer" (lDef (lCons (eVar 0) (lCons (eC (.int 0)) (lCons (eC (.int 1000000000)) lNil))) [])))

/-! is_lamp -/
abbrev st_is_lamp : Stmt := top 17
abbrev sc_is_lamp : Scope := defScope st_is_lamp
abbrev N_is_lamp : List Str := ["value"]
noncomputable def b_is_lamp (C : CallT) : Sv := (sSeq (sIf (bOr (bNot (bT (eB fIsI (lCons (eVar 0) (lCons (eC (.ty "tuple")) lNil))))) (bOr (bV (eBin oNe (eB fLen (lCons (eVar 0) lNil)) (eC (.int 2)))) (bNot (bT (eB fIsI (lCons (eBin oIx (eVar 0) (eC (.int 0))) (lCons (eC (.ty "str")) lNil))))))) (sRet (eC (.bl false))) sNil)
  (sRet (eAnd (eBin oIn (eBin oIx (eVar 0) (eC (.int 0))) (eTup (lCons (eC (.str "hold")) (lCons (eC (.str "pulse")) lNil)))) (eCall C "is_integer" (lDef (lCons (eBin oIx (eVar 0) (eC (.int 1))) (lCons (eC (.int 1)) (lCons (eC (.int 1000000000)) lNil))) [])))))

/-! end_of -/
abbrev st_end_of : Stmt := top 18
abbrev sc_end_of : Scope := defScope st_end_of
abbrev N_end_of : List Str := ["run", "first", "step", "count"]
noncomputable def b_end_of (C : CallT) : Sv := (sSeq (sAsg (eVar 0) (gTp 3 (gsCons (gNm 1) (gsCons (gNm 2) (gsCons (gNm 3) gsNil)))))
  (sRet (eBin oAdd (eVar 1) (eBin oMulT (eVar 2) (eBin oSub (eVar 3) (eC (.int 1)))))))

/-! is_run -/
abbrev st_is_run : Stmt := top 19
abbrev sc_is_run : Scope := defScope st_is_run
abbrev N_is_run : List Str := ["value", "first", "step", "count"]
noncomputable def b_is_run (C : CallT) : Sv := (sSeq (sIf (bOr (bNot (bT (eB fIsI (lCons (eVar 0) (lCons (eC (.ty "tuple")) lNil))))) (bOr (bV (eBin oNe (eB fLen (lCons (eVar 0) lNil)) (eC (.int 3)))) (bNot (bT (eCall C "is_minute" (lDef (lCons (eBin oIx (eVar 0) (eC (.int 0))) lNil) [])))))) (sRet (eC (.bl false))) sNil)
  (sSeq (sAsg (eVar 0) (gTp 3 (gsCons (gNm 1) (gsCons (gNm 2) (gsCons (gNm 3) gsNil)))))
  (sSeq (sIf (bOr (bNot (bT (eCall C "is_integer" (lDef (lCons (eVar 2) (lCons (eC (.int 1)) (lCons (eC (.int 1000000000)) lNil))) [])))) (bNot (bT (eCall C "is_integer" (lDef (lCons (eVar 3) (lCons (eC (.int 1)) (lCons (eBin oAdd (eC (.int 1000000000)) (eC (.int 1))) lNil))) []))))) (sRet (eC (.bl false))) sNil)
  (sRet (eAnd (eBin oLe (eCall C "end_of" (lDef (lCons (eVar 0) lNil) [])) (eC (.int 1000000000))) (eOr (eBin oGt (eVar 3) (eC (.int 1))) (eBin oEq (eVar 2) (eC (.int 1)))))))))

/-! is_stretch -/
abbrev st_is_stretch : Stmt := top 20
abbrev sc_is_stretch : Scope := defScope st_is_stretch
abbrev N_is_stretch : List Str := ["value"]
noncomputable def b_is_stretch (C : CallT) : Sv := (sSeq (sIf (bOr (bNot (bT (eB fIsI (lCons (eVar 0) (lCons (eC (.ty "tuple")) lNil))))) (bOr (bV (eBin oNe (eB fLen (lCons (eVar 0) lNil)) (eC (.int 2)))) (bNot (bT (eCall C "is_integer" (lDef (lCons (eBin oIx (eVar 0) (eC (.int 0))) (lCons (eC (.int 0)) (lCons (eC (.int 2000000000)) lNil))) [])))))) (sRet (eC (.bl false))) sNil)
  (sRet (eCall C "is_integer" (lDef (lCons (eBin oIx (eVar 0) (eC (.int 1))) (lCons (eBin oAdd (eBin oIx (eVar 0) (eC (.int 0))) (eC (.int 1))) (lCons (eC (.int 2000000000)) lNil))) []))))

/-! read_integer -/
abbrev st_read_integer : Stmt := top 25
abbrev sc_read_integer : Scope := defScope st_read_integer
abbrev N_read_integer : List Str := ["word", "sign"]
noncomputable def b_read_integer (C : CallT) : Sv := (sSeq (sIf (bOr (bNot (bV (eChain oLe oLe (eC (.int 1)) (eB fLen (lCons (eVar 0) lNil)) (eC (.int 20))))) (bNot (bT (eTmp hAll (lComp (iSeq (eVar 0)) (gNm 1) bYes (eBin oIn (eVar 1) (eC (.str "0123456789"))) [1]))))) (sRet (eC .non)) sNil)
  (sRet (eIf (bAnd (bV (eBin oEq (eBin oIx (eVar 0) (eC (.int 0))) (eC (.str "0")))) (bV (eBin oNe (eVar 0) (eC (.str "0"))))) (eC .non) (eB fInt (lCons (eVar 0) lNil)))))

/-! read_pair -/
abbrev st_read_pair : Stmt := top 26
abbrev sc_read_pair : Scope := defScope st_read_pair
abbrev N_read_pair : List Str := ["word", "sign", "parts", "part"]
noncomputable def b_read_pair (C : CallT) : Sv := (sSeq (sAsg (eComp (lComp (iSeq (eM "str" mSplit (eVar 0) (lCons (eVar 1) lNil))) (gNm 3) bYes (eCall C "read_integer" (lDef (lCons (eVar 3) lNil) [])) [3])) (gNm 2))
  (sRet (eIf (bAnd (bV (eBin oEq (eB fLen (lCons (eVar 2) lNil)) (eC (.int 2)))) (bV (eBin oNotIn (eC .non) (eVar 2)))) (eB fTup (lCons (eVar 2) lNil)) (eC .non))))

/-! words_of -/
abbrev st_words_of : Stmt := top 27
abbrev sc_words_of : Scope := defScope st_words_of
abbrev N_words_of : List Str := ["value"]
noncomputable def b_words_of (C : CallT) : Sv := (sSeq (sIf (bNot (bT (eB fIsI (lCons (eVar 0) (lCons (eC (.ty "str")) lNil))))) (sRaise "BadText" "index" (eC .non)) sNil)
  (sRet (eIf (bV (eBin oEq (eVar 0) (eC (.str "none")))) (eLst lNil) (eM "str" mSplit (eVar 0) (lCons (eC (.str " ")) lNil)))))

/-! read_lamp -/
abbrev st_read_lamp : Stmt := top 28
abbrev sc_read_lamp : Scope := defScope st_read_lamp
abbrev N_read_lamp : List Str := ["word", "kind", "rest", "found"]
noncomputable def b_read_lamp (C : CallT) : Sv := (sSeq (sAsg (eM "str" mSplit (eVar 0) (lCons (eC (.str ":")) lNil)) (gStF (gsCons (gNm 1) (gsCons (gNm 2) gsNil))))
  (sSeq (sAsg (eIf (bV (eBin oEq (eB fLen (lCons (eVar 2) lNil)) (eC (.int 1)))) (eTup (lCons (eVar 1) (lCons (eCall C "read_integer" (lDef (lCons (eBin oIx (eVar 2) (eC (.int 0))) lNil) [])) lNil))) (eC .non)) (gNm 3))
  (sRet (eIf (bT (eCall C "is_lamp" (lDef (lCons (eVar 3) lNil) []))) (eVar 3) (eC .non)))))

/-! parse_lamps -/
abbrev st_parse_lamps : Stmt := top 29
abbrev sc_parse_lamps : Scope := defScope st_parse_lamps
abbrev N_parse_lamps : List Str := ["value", "found", "at", "word", "lamp"]
noncomputable def b_parse_lamps (C : CallT) : Sv := (sSeq (sAsg (eLst lNil) (gNm 1))
  (sSeq (sFor (iEnA (lCons (eCall C "words_of" (lDef (lCons (eVar 0) lNil) [])) lNil)) (gTp 2 (gsCons (gNm 2) (gsCons (gNm 3) gsNil))) (sSeq (sAsg (eCall C "read_lamp" (lDef (lCons (eVar 3) lNil) [])) (gNm 4))
  (sSeq (sIf (bOr (bV (eBin oIsN (eVar 4) (eC .non))) (bV (eBin oGe (eVar 2) (eC (.int 6))))) (sRaise "BadText" "index" (eVar 2)) sNil)
  (sEx (eM "list" mAppend (eVar 1) (lCons (eVar 4) lNil))))))
  (sRet (eB fTup (lCons (eVar 1) lNil)))))

/-! parse_log -/
abbrev st_parse_log : Stmt := top 30
abbrev sc_parse_log : Scope := defScope st_parse_log
abbrev N_parse_log : List Str := ["value", "found", "last", "at", "word", "stretch"]
noncomputable def b_parse_log (C : CallT) : Sv := (sSeq (sPar 1 2 (lCons (eLst lNil) (lCons (eUn uNeg (eC (.int 1))) lNil)))
  (sSeq (sFor (iEnA (lCons (eCall C "words_of" (lDef (lCons (eVar 0) lNil) [])) lNil)) (gTp 2 (gsCons (gNm 3) (gsCons (gNm 4) gsNil))) (sSeq (sAsg (eCall C "read_pair" (lDef (lCons (eVar 4) (lCons (eC (.str "-")) lNil)) [])) (gNm 5))
  (sSeq (sIf (bOr (bNot (bT (eCall C "is_stretch" (lDef (lCons (eVar 5) lNil) [])))) (bOr (bV (eBin oLe (eBin oIx (eVar 5) (eC (.int 0))) (eVar 2))) (bV (eBin oGe (eVar 3) (eC (.int 60)))))) (sRaise "BadText" "index" (eVar 3)) sNil)
  (sSeq (sEx (eM "list" mAppend (eVar 1) (lCons (eVar 5) lNil)))
  (sAsg (eBin oIx (eVar 5) (eC (.int 1))) (gNm 2))))))
  (sRet (eB fTup (lCons (eVar 1) lNil)))))

/-! read_run -/
abbrev st_read_run : Stmt := top 31
abbrev sc_read_run : Scope := defScope st_read_run
abbrev N_read_run : List Str := ["word", "head", "rest", "first", "pair"]
noncomputable def b_read_run (C : CallT) : Sv := (sSeq (sAsg (eM "str" mSplit (eVar 0) (lCons (eC (.str "+")) lNil)) (gStF (gsCons (gNm 1) (gsCons (gNm 2) gsNil))))
  (sSeq (sAsg (eCall C "read_integer" (lDef (lCons (eVar 1) lNil) [])) (gNm 3))
  (sSeq (sIf (bV (eBin oEq (eVar 2) (eLst lNil))) (sRet (eIf (bV (eBin oNotN (eVar 3) (eC .non))) (eTup (lCons (eVar 3) (lCons (eC (.int 1)) (lCons (eC (.int 1)) lNil)))) (eC .non))) sNil)
  (sSeq (sAsg (eCall C "read_pair" (lDef (lCons (eBin oIx (eVar 2) (eC (.int 0))) (lCons (eC (.str "x")) lNil)) [])) (gNm 4))
  (sSeq (sIf (bOr (bV (eBin oGt (eB fLen (lCons (eVar 2) lNil)) (eC (.int 1)))) (bOr (bV (eBin oIsN (eVar 3) (eC .non))) (bOr (bV (eBin oIsN (eVar 4) (eC .non))) (bV (eBin oLt (eBin oIx (eVar 4) (eC (.int 1))) (eC (.int 2))))))) (sRet (eC .non)) sNil)
  (sRet (eTup (lCons (eVar 3) (lStar (eVar 4) lNil)))))))))

/-! parse_motions -/
abbrev st_parse_motions : Stmt := top 32
abbrev sc_parse_motions : Scope := defScope st_parse_motions
abbrev N_parse_motions : List Str := ["value", "found", "last", "at", "word", "run"]
noncomputable def b_parse_motions (C : CallT) : Sv := (sSeq (sPar 1 2 (lCons (eLst lNil) (lCons (eUn uNeg (eC (.int 1))) lNil)))
  (sSeq (sFor (iEnA (lCons (eCall C "words_of" (lDef (lCons (eVar 0) lNil) [])) lNil)) (gTp 2 (gsCons (gNm 3) (gsCons (gNm 4) gsNil))) (sSeq (sAsg (eCall C "read_run" (lDef (lCons (eVar 4) lNil) [])) (gNm 5))
  (sSeq (sIf (bOr (bNot (bT (eCall C "is_run" (lDef (lCons (eVar 5) lNil) [])))) (bOr (bV (eBin oLe (eBin oIx (eVar 5) (eC (.int 0))) (eVar 2))) (bV (eBin oGe (eVar 3) (eC (.int 360)))))) (sRaise "BadText" "index" (eVar 3)) sNil)
  (sSeq (sEx (eM "list" mAppend (eVar 1) (lCons (eVar 5) lNil)))
  (sAsg (eCall C "end_of" (lDef (lCons (eVar 5) lNil) [])) (gNm 2))))))
  (sRet (eB fTup (lCons (eVar 1) lNil)))))

/-! _law_opened -/
abbrev st__law_opened : Stmt := top 34
abbrev sc__law_opened : Scope := defScope st__law_opened
abbrev N__law_opened : List Str := ["script", "cells", "cell"]
noncomputable def b__law_opened (C : CallT) : Sv := (sSeq (sAsg (eComp (lComp (iSeq (eSl (eVar 0) pNone (pSome (eC (.int 64))))) (gNm 2) bYes (eB fAbs (lCons (eVar 2) lNil)) [2])) (gNm 1))
  (sRet (eDct [((eC (.str "deep")), (eComp (lComp (iSeq (eVar 1)) (gNm 2) (bV (eBin oGe (eVar 2) (eBin oPow (eC (.int 10)) (eC (.int 18))))) (eVar 2) [2]))), ((eC (.str "all")), (eBin oAdd (eVar 1) (eBin oMulT (eLst (lCons (eC (.int 53)) lNil)) (eB fInt (lCons (eBin oEq (eVar 1) (eLst lNil)) lNil))))), ((eC (.str "times")), (eC (.int 0)))])))

/-! _law_draw -/
abbrev st__law_draw : Stmt := top 35
abbrev sc__law_draw : Scope := defScope st__law_draw
abbrev N__law_draw : List Str := ["pot", "many", "rest", "times", "cells", "seed"]
noncomputable def b__law_draw (C : CallT) : Sv := (sSeq (sWhile (bV (eBin oNe (eBin oIx (eVar 0) (eC (.str "deep"))) (eLst lNil))) (sSeq (sAsg (eM "list" mPop (eBin oIx (eVar 0) (eC (.str "deep"))) (lCons (eC (.int 0)) lNil)) (gNm 2))
  (sIf (bV (eBin oGt (eVar 2) (eC (.int 0)))) (sSeq (sEx (eM "list" mInsert (eBin oIx (eVar 0) (eC (.str "deep"))) (lCons (eC (.int 0)) (lCons (eBin oDiv (eVar 2) (eVar 1)) lNil))))
  (sRet (eBin oMod (eVar 2) (eVar 1)))) sNil)))
  (sSeq (sPar 3 4 (lCons (eBin oIx (eVar 0) (eC (.str "times"))) (lCons (eBin oIx (eVar 0) (eC (.str "all"))) lNil)))
  (sSeq (sAsg (eBin oAdd (eVar 3) (eC (.int 1))) (gSubF (eVar 0) (eC (.str "times"))))
  (sSeq (sAsg (eBin oAdd (eBin oMod (eBin oIx (eVar 4) (eBin oMod (eVar 3) (eB fLen (lCons (eVar 4) lNil)))) (eC (.int 4294967291))) (eBin oMulT (eC (.int 2246822519)) (eBin oAdd (eVar 3) (eC (.int 1))))) (gNm 5))
  (sSeq (sAsg (eBin oMod (eBin oMulT (eBin oMod (eVar 5) (eC (.int 4294967291))) (eBin oAdd (eBin oMod (eVar 5) (eC (.int 50021))) (eC (.int 13)))) (eC (.int 4294967291))) (gNm 5))
  (sSeq (sAsg (eBin oMod (eBin oMulT (eBin oMod (eBin oAdd (eBin oMulT (eVar 5) (eVar 5)) (eBin oMulT (eC (.int 668265263)) (eVar 3))) (eC (.int 4294967291))) (eC (.int 374761393))) (eC (.int 4294967291))) (gNm 5))
  (sRet (eBin oMod (eBin oDiv (eVar 5) (eC (.int 16))) (eVar 1)))))))))

/-! _law_one -/
abbrev st__law_one : Stmt := top 36
abbrev sc__law_one : Scope := defScope st__law_one
abbrev N__law_one : List Str := ["pot", "items"]
noncomputable def b__law_one (C : CallT) : Sv := (sRet (eBin oIx (eVar 1) (eCall C "_law_draw" (lDef (lCons (eVar 0) (lCons (eB fLen (lCons (eVar 1) lNil)) lNil)) []))))

/-! _law_lamp -/
abbrev st__law_lamp : Stmt := top 37
abbrev sc__law_lamp : Scope := defScope st__law_lamp
abbrev N__law_lamp : List Str := ["pot", "great", "stay"]
noncomputable def b__law_lamp (C : CallT) : Sv := (sSeq (sAsg (eG (eCall C "_law_one" (lDef (lCons (eVar 0) (lCons (eLst (lCons (eC (.int 1)) (lCons (eC (.int 2)) (lCons (eBin oAdd (eC (.int 1)) (eCall C "_law_draw" (lDef (lCons (eVar 0) (lCons (eC (.int 12)) lNil)) []))) (lCons (eBin oAdd (eC (.int 1)) (eCall C "_law_draw" (lDef (lCons (eVar 0) (lCons (eC (.int 40)) lNil)) []))) (lCons (eBin oAdd (eC (.int 1)) (eCall C "_law_draw" (lDef (lCons (eVar 0) (lCons (eVar 1) lNil)) []))) (lCons (eVar 1) lNil))))))) lNil)) []))) (gNm 2))
  (sRet (eTup (lCons (eG (eCall C "_law_one" (lDef (lCons (eVar 0) (lCons (eLst (lCons (eC (.str "hold")) (lCons (eC (.str "pulse")) lNil))) lNil)) []))) (lCons (eVar 2) lNil)))))

/-! _law_far_runs -/
abbrev st__law_far_runs : Stmt := top 38
abbrev sc__law_far_runs : Scope := defScope st__law_far_runs
abbrev N__law_far_runs : List Str := ["pot", "upto", "found", "here", "most", "k", "step", "count", "pause"]
noncomputable def b__law_far_runs (C : CallT) : Sv := (sSeq (sPar3 2 3 4 (lCons (eLst lNil) (lCons (eG (eCall C "_law_one" (lDef (lCons (eVar 0) (lCons (eLst (lCons (eC (.int 0)) (lCons (eCall C "_law_draw" (lDef (lCons (eVar 0) (lCons (eC (.int 100)) lNil)) [])) (lCons (eCall C "_law_draw" (lDef (lCons (eVar 0) (lCons (eBin oPow (eC (.int 10)) (eC (.int 8))) lNil)) [])) lNil)))) lNil)) []))) (lCons (eBin oPow (eC (.int 10)) (eC (.int 9))) lNil))))
  (sSeq (sFor (iRg1 (lCons (eCall C "_law_draw" (lDef (lCons (eVar 0) (lCons (eBin oAdd (eVar 1) (eC (.int 1))) lNil)) [])) lNil)) (gNm 5) (sSeq (sAsg (eG (eCall C "_law_one" (lDef (lCons (eVar 0) (lCons (eLst (lCons (eC (.int 1)) (lCons (eC (.int 2)) (lCons (eBin oAdd (eC (.int 1)) (eCall C "_law_draw" (lDef (lCons (eVar 0) (lCons (eC (.int 30)) lNil)) []))) (lCons (eBin oAdd (eC (.int 1)) (eCall C "_law_draw" (lDef (lCons (eVar 0) (lCons (eBin oPow (eC (.int 10)) (eC (.int 6))) lNil)) []))) (lCons (eBin oPow (eC (.int 10)) (eC (.int 8))) lNil)))))) lNil)) []))) (gNm 6))
  (sSeq (sAsg (eBin oAdd (eC (.int 1)) (eB fMin2 (lCons (eBin oDiv (eBin oSub (eVar 4) (eVar 3)) (eVar 6)) (lCons (eG (eCall C "_law_one" (lDef (lCons (eVar 0) (lCons (eLst (lCons (eC (.int 0)) (lCons (eC (.int 1)) (lCons (eCall C "_law_draw" (lDef (lCons (eVar 0) (lCons (eC (.int 6)) lNil)) [])) (lCons (eCall C "_law_draw" (lDef (lCons (eVar 0) (lCons (eBin oPow (eC (.int 10)) (eC (.int 7))) lNil)) [])) (lCons (eVar 4) lNil)))))) lNil)) []))) lNil)))) (gNm 7))
  (sIf (bV (eBin oLe (eVar 3) (eVar 4))) (sSeq (sEx (eM "list" mAppend (eVar 2) (lCons (eTup (lCons (eVar 3) (lCons (eIf (bV (eBin oGt (eVar 7) (eC (.int 1)))) (eVar 6) (eC (.int 1))) (lCons (eVar 7) lNil)))) lNil)))
  (sSeq (sAsg (eG (eCall C "_law_one" (lDef (lCons (eVar 0) (lCons (eLst (lCons (eC (.int 1)) (lCons (eC (.int 2)) (lCons (eBin oAdd (eC (.int 1)) (eCall C "_law_draw" (lDef (lCons (eVar 0) (lCons (eC (.int 99)) lNil)) []))) (lCons (eBin oAdd (eC (.int 1)) (eCall C "_law_draw" (lDef (lCons (eVar 0) (lCons (eBin oPow (eC (.int 10)) (eC (.int 7))) lNil)) []))) lNil))))) lNil)) []))) (gNm 8))
  (sAsg (eBin oAdd (eBin oAdd (eVar 3) (eBin oMulT (eVar 6) (eBin oSub (eVar 7) (eC (.int 1))))) (eVar 8)) (gNm 3)))) sNil))))
  (sRet (eB fTup (lCons (eVar 2) lNil)))))

/-! _law_log -/
abbrev st__law_log : Stmt := top 39
abbrev sc__law_log : Scope := defScope st__law_log
abbrev N__law_log : List Str := ["pot", "upto", "great", "found", "here", "k", "size", "part"]
noncomputable def b__law_log (C : CallT) : Sv := (sSeq (sPar 3 4 (lCons (eLst lNil) (lCons (eG (eCall C "_law_one" (lDef (lCons (eVar 0) (lCons (eLst (lCons (eC (.int 0)) (lCons (eC (.int 1)) (lCons (eCall C "_law_draw" (lDef (lCons (eVar 0) (lCons (eVar 2) lNil)) [])) lNil)))) lNil)) []))) lNil)))
  (sSeq (sFor (iRg1 (lCons (eCall C "_law_draw" (lDef (lCons (eVar 0) (lCons (eBin oAdd (eVar 1) (eC (.int 1))) lNil)) [])) lNil)) (gNm 5) (sSeq (sAsg (eG (eCall C "_law_one" (lDef (lCons (eVar 0) (lCons (eLst (lCons (eC (.int 1)) (lCons (eC (.int 2)) (lCons (eBin oAdd (eC (.int 1)) (eCall C "_law_draw" (lDef (lCons (eVar 0) (lCons (eC (.int 20)) lNil)) []))) (lCons (eBin oAdd (eC (.int 1)) (eCall C "_law_draw" (lDef (lCons (eVar 0) (lCons (eVar 2) lNil)) []))) lNil))))) lNil)) []))) (gNm 6))
  (sSeq (sEx (eM "list" mAppend (eVar 3) (lCons (eTup (lCons (eVar 4) (lCons (eBin oAdd (eVar 4) (eVar 6)) lNil))) lNil)))
  (sAsg (eBin oAdd (eBin oAdd (eVar 4) (eVar 6)) (eG (eCall C "_law_one" (lDef (lCons (eVar 0) (lCons (eLst (lCons (eC (.int 1)) (lCons (eC (.int 2)) (lCons (eBin oAdd (eC (.int 1)) (eCall C "_law_draw" (lDef (lCons (eVar 0) (lCons (eC (.int 20)) lNil)) []))) (lCons (eBin oAdd (eC (.int 1)) (eCall C "_law_draw" (lDef (lCons (eVar 0) (lCons (eVar 2) lNil)) []))) lNil))))) lNil)) [])))) (gNm 4)))))
  (sRet (eTmp hTup (lComp (iSeq (eVar 3)) (gNm 7) (bV (eBin oLe (eBin oIx (eVar 7) (eC (.int 1))) (eBin oMulT (eC (.int 2)) (eBin oPow (eC (.int 10)) (eC (.int 9)))))) (eVar 7) [7])))))

/-! _law_odd -/
abbrev st__law_odd : Stmt := top 40
abbrev sc__law_odd : Scope := defScope st__law_odd
abbrev N__law_odd : List Str := ["pot", "items"]
noncomputable def b__law_odd (C : CallT) : Sv := (sSeq (sAsg (eLst (lCons (eC .non) (lCons (eC (.bl true)) (lCons (eC (.bl false)) (lCons (eUn uNeg (eC (.int 1))) (lCons (eC (.int 0)) (lCons (eC (.int 1)) (lCons (eC (.int 7)) (lCons (eBin oPow (eC (.int 10)) (eC (.int 9))) (lCons (eBin oAdd (eBin oPow (eC (.int 10)) (eC (.int 9))) (eC (.int 1))) (lCons (eBin oPow (eC (.int 10)) (eC (.int 39))) (lCons (eC (.str "")) (lCons (eC (.str "hold")) (lCons (eC (.str "0")) (lCons (eTup lNil) (lCons (eLst lNil) (lCons eDct0 (lCons (eTup (lCons (eC (.int 0)) lNil)) (lCons (eLst (lCons (eC (.int 0)) lNil)) lNil))))))))))))))))))) (gNm 1))
  (sSeq (sAsg (eBin oAdd (eVar 1) (eLst (lCons (eTup (lCons (eC (.bl true)) lNil)) (lCons (eTup (lCons (eC (.int 0)) (lCons (eC (.int 1)) lNil))) (lCons (eTup (lCons (eC (.int 0)) (lCons (eC (.int 1)) (lCons (eC (.int 1)) lNil)))) (lCons (eTup (lCons (eC (.str "hold")) (lCons (eC (.int 5)) lNil))) (lCons (eC (.str "none")) (lCons (eDct [((eC (.str "a")), (eC (.int 0)))]) lNil)))))))) (gNm 1))
  (sRet (eG (eCall C "_law_one" (lDef (lCons (eVar 0) (lCons (eBin oAdd (eVar 1) (eLst (lCons (eTup (lCons (eTup (lCons (eC (.str "hold")) (lCons (eC (.int 1)) lNil))) lNil)) lNil))) lNil)) []))))))

/-! _law_number -/
abbrev st__law_number : Stmt := top 41
abbrev sc__law_number : Scope := defScope st__law_number
abbrev N__law_number : List Str := ["part", "sign"]
noncomputable def b__law_number (C : CallT) : Sv := (sSeq (sIf (bOr (bV (eBin oEq (eVar 0) (eC (.str "")))) (bOr (bV (eBin oGt (eB fLen (lCons (eVar 0) lNil)) (eC (.int 20)))) (bV (eBin oNe (eComp (lComp (iSeq (eVar 0)) (gNm 1) (bV (eBin oNotIn (eVar 1) (eC (.str "0123456789")))) (eVar 1) [1])) (eLst lNil))))) (sRet (eC .non)) sNil)
  (sRet (eIf (bAnd (bV (eBin oEq (eBin oIx (eVar 0) (eC (.int 0))) (eC (.str "0")))) (bV (eBin oNe (eVar 0) (eC (.str "0"))))) (eC .non) (eB fInt (lCons (eVar 0) lNil)))))

/-! _law_spaced -/
abbrev st__law_spaced : Stmt := top 42
abbrev sc__law_spaced : Scope := defScope st__law_spaced
abbrev N__law_spaced : List Str := ["items", "item"]
noncomputable def b__law_spaced (C : CallT) : Sv := (sRet (eJoin (eC (.str " ")) (lComp (iSeq (eVar 0)) (gNm 1) bYes (eB fStr (lCons (eVar 1) lNil)) [1])))

/-! _law_is_run -/
abbrev st__law_is_run : Stmt := top 43
abbrev sc__law_is_run : Scope := defScope st__law_is_run
abbrev N__law_is_run : List Str := ["value", "first", "step", "count", "k"]
noncomputable def b__law_is_run (C : CallT) : Sv := (sSeq (sIf (bOr (bNot (bT (eB fIsI (lCons (eVar 0) (lCons (eC (.ty "tuple")) lNil))))) (bOr (bV (eBin oNe (eB fLen (lCons (eVar 0) lNil)) (eC (.int 3)))) (bV (eBin oNe (eComp (lComp (iSeq (eVar 0)) (gNm 4) (bNot (bT (eCall C "_law_whole" (lDef (lCons (eVar 4) (lCons (eC (.int 0)) (lCons (eBin oAdd (eBin oPow (eC (.int 10)) (eC (.int 9))) (eC (.int 1))) lNil))) [])))) (eVar 4) [4])) (eLst lNil))))) (sRet (eC (.bl false))) sNil)
  (sSeq (sAsg (eVar 0) (gTp 3 (gsCons (gNm 1) (gsCons (gNm 2) (gsCons (gNm 3) gsNil)))))
  (sSeq (sIf (bOr (bV (eBin oEq (eVar 2) (eC (.int 0)))) (bOr (bV (eBin oEq (eVar 3) (eC (.int 0)))) (bAnd (bV (eBin oEq (eVar 3) (eC (.int 1)))) (bV (eBin oGt (eVar 2) (eC (.int 1))))))) (sRet (eC (.bl false))) sNil)
  (sRet (eBin oLe (eBin oAdd (eVar 1) (eBin oMulT (eVar 2) (eBin oSub (eVar 3) (eC (.int 1))))) (eBin oPow (eC (.int 10)) (eC (.int 9))))))))

/-! _law_whole -/
abbrev st__law_whole : Stmt := top 44
abbrev sc__law_whole : Scope := defScope st__law_whole
abbrev N__law_whole : List Str := ["value", "low", "high"]
noncomputable def b__law_whole (C : CallT) : Sv := (sRet (eAnd (eB fIsI (lCons (eVar 0) (lCons (eC (.ty "int")) lNil))) (eAnd (eNot (eB fIsI (lCons (eVar 0) (lCons (eC (.ty "bool")) lNil)))) (eChain oLe oLe (eVar 1) (eVar 0) (eVar 2)))))

/-! _law_is_part -/
abbrev st__law_is_part : Stmt := top 45
abbrev sc__law_is_part : Scope := defScope st__law_is_part
abbrev N__law_is_part : List Str := ["value", "k"]
noncomputable def b__law_is_part (C : CallT) : Sv := (sSeq (sIf (bOr (bNot (bT (eB fIsI (lCons (eVar 0) (lCons (eC (.ty "tuple")) lNil))))) (bOr (bV (eBin oNe (eB fLen (lCons (eVar 0) lNil)) (eC (.int 2)))) (bV (eBin oNe (eComp (lComp (iSeq (eVar 0)) (gNm 1) (bNot (bT (eCall C "_law_whole" (lDef (lCons (eVar 1) (lCons (eC (.int 0)) (lCons (eBin oMulT (eC (.int 2)) (eBin oPow (eC (.int 10)) (eC (.int 9)))) lNil))) [])))) (eVar 1) [1])) (eLst lNil))))) (sRet (eC (.bl false))) sNil)
  (sRet (eBin oLt (eBin oIx (eVar 0) (eC (.int 0))) (eBin oIx (eVar 0) (eC (.int 1))))))

/-! _law_lamps_text -/
abbrev st__law_lamps_text : Stmt := top 46
abbrev sc__law_lamps_text : Scope := defScope st__law_lamps_text
abbrev N__law_lamps_text : List Str := ["lamps", "lamp"]
noncomputable def b__law_lamps_text (C : CallT) : Sv := (sRet (eIf (bV (eBin oNe (eVar 0) (eTup lNil))) (eJoin (eC (.str " ")) (lComp (iSeq (eVar 0)) (gNm 1) bYes (eBin oAdd (eBin oAdd (eBin oIx (eVar 1) (eC (.int 0))) (eC (.str ":"))) (eB fStr (lCons (eBin oIx (eVar 1) (eC (.int 1))) lNil))) [1])) (eC (.str "none"))))

/-! _law_log_text -/
abbrev st__law_log_text : Stmt := top 47
abbrev sc__law_log_text : Scope := defScope st__law_log_text
abbrev N__law_log_text : List Str := ["log", "on", "off"]
noncomputable def b__law_log_text (C : CallT) : Sv := (sRet (eIf (bV (eBin oNe (eVar 0) (eTup lNil))) (eJoin (eC (.str " ")) (lComp (iSeq (eVar 0)) (gTp 2 (gsCons (gNm 1) (gsCons (gNm 2) gsNil))) bYes (eBin oAdd (eBin oAdd (eB fStr (lCons (eVar 1) lNil)) (eC (.str "-"))) (eB fStr (lCons (eVar 2) lNil))) [1, 2])) (eC (.str "none"))))

/-! _law_runs_text -/
abbrev st__law_runs_text : Stmt := top 48
abbrev sc__law_runs_text : Scope := defScope st__law_runs_text
abbrev N__law_runs_text : List Str := ["runs", "found", "first", "step", "count"]
noncomputable def b__law_runs_text (C : CallT) : Sv := (sSeq (sAsg (eLst lNil) (gNm 1))
  (sSeq (sFor (iSeq (eVar 0)) (gTp 3 (gsCons (gNm 2) (gsCons (gNm 3) (gsCons (gNm 4) gsNil)))) (sEx (eM "list" mAppend (eVar 1) (lCons (eBin oAdd (eB fStr (lCons (eVar 2) lNil)) (eIf (bV (eBin oGt (eVar 4) (eC (.int 1)))) (eBin oAdd (eBin oAdd (eBin oAdd (eC (.str "+")) (eB fStr (lCons (eVar 3) lNil))) (eC (.str "x"))) (eB fStr (lCons (eVar 4) lNil))) (eC (.str "")))) lNil))))
  (sRet (eIf (bV (eBin oNe (eVar 0) (eTup lNil))) (eM "str" mJoin (eC (.str " ")) (lCons (eVar 1) lNil)) (eC (.str "none"))))))

/-! _law_item -/
abbrev st__law_item : Stmt := top 49
abbrev sc__law_item : Scope := defScope st__law_item
abbrev N__law_item : List Str := ["way", "part", "bits", "stay", "is_right", "pair", "rest", "run", "bit"]
noncomputable def b__law_item (C : CallT) : Sv := (sSeq (sIf (bV (eBin oEq (eVar 0) (eC (.int 0)))) (sSeq (sAsg (eM "str" mSplit (eVar 1) (lCons (eC (.str ":")) lNil)) (gNm 2))
  (sSeq (sAsg (eIf (bV (eBin oEq (eB fLen (lCons (eVar 2) lNil)) (eC (.int 2)))) (eCall C "_law_number" (lDef (lCons (eBin oIx (eVar 2) (eC (.int 1))) lNil) [])) (eC .non)) (gNm 3))
  (sSeq (sAsg (eAnd (eBin oNotN (eVar 3) (eC .non)) (eAnd (eChain oLe oLe (eC (.int 1)) (eVar 3) (eBin oPow (eC (.int 10)) (eC (.int 9)))) (eBin oIn (eBin oIx (eVar 2) (eC (.int 0))) (eLst (lCons (eC (.str "hold")) (lCons (eC (.str "pulse")) lNil)))))) (gNm 4))
  (sRet (eIf (bT (eVar 4)) (eTup (lCons (eBin oIx (eVar 2) (eC (.int 0))) (lCons (eVar 3) lNil))) (eC .non)))))) sNil)
  (sSeq (sIf (bV (eBin oEq (eVar 0) (eC (.int 1)))) (sSeq (sAsg (eTmp hTup (lComp (iSeq (eM "str" mSplit (eVar 1) (lCons (eC (.str "-")) lNil))) (gNm 8) bYes (eCall C "_law_number" (lDef (lCons (eVar 8) lNil) [])) [8])) (gNm 5))
  (sRet (eIf (bAnd (bV (eBin oNotIn (eC .non) (eVar 5))) (bT (eCall C "_law_is_part" (lDef (lCons (eVar 5) lNil) [])))) (eVar 5) (eC .non)))) sNil)
  (sSeq (sAsg (eM "str" mSplit (eVar 1) (lCons (eC (.str "+")) lNil)) (gNm 2))
  (sSeq (sIf (bV (eBin oEq (eB fLen (lCons (eVar 2) lNil)) (eC (.int 1)))) (sAsg (eLst (lCons (eVar 1) (lCons (eC (.str "1x1")) lNil))) (gNm 2)) sNil)
  (sSeq (sAsg (eComp (lComp (iSeq (eM "str" mSplit (eBin oIx (eVar 2) (eC (.int 1))) (lCons (eC (.str "x")) lNil))) (gNm 8) bYes (eCall C "_law_number" (lDef (lCons (eVar 8) lNil) [])) [8])) (gNm 6))
  (sSeq (sAsg (eB fTup (lCons (eBin oAdd (eLst (lCons (eCall C "_law_number" (lDef (lCons (eBin oIx (eVar 2) (eC (.int 0))) lNil) [])) lNil)) (eVar 6)) lNil)) (gNm 7))
  (sSeq (sIf (bOr (bV (eBin oGt (eB fLen (lCons (eVar 2) lNil)) (eC (.int 2)))) (bOr (bV (eBin oIn (eC .non) (eVar 7))) (bOr (bNot (bT (eCall C "_law_is_run" (lDef (lCons (eVar 7) lNil) [])))) (bAnd (bV (eBin oIn (eC (.str "+")) (eVar 1))) (bV (eBin oLt (eBin oIx (eVar 7) (eC (.int 2))) (eC (.int 2)))))))) (sRet (eC .non)) sNil)
  (sRet (eVar 7)))))))))

/-! _law_read -/
abbrev st__law_read : Stmt := top 50
abbrev sc__law_read : Scope := defScope st__law_read
abbrev N__law_read : List Str := ["way", "text", "found", "last", "k", "part", "item"]
noncomputable def b__law_read (C : CallT) : Sv := (sSeq (sPar 2 3 (lCons (eLst lNil) (lCons (eUn uNeg (eC (.int 1))) lNil)))
  (sSeq (sFor (iEnA (lCons (eIf (bV (eBin oEq (eVar 1) (eC (.str "none")))) (eLst lNil) (eM "str" mSplit (eVar 1) (lCons (eC (.str " ")) lNil))) lNil)) (gTp 2 (gsCons (gNm 4) (gsCons (gNm 5) gsNil))) (sSeq (sAsg (eCall C "_law_item" (lDef (lCons (eVar 0) (lCons (eVar 5) lNil)) [])) (gNm 6))
  (sSeq (sIf (bOr (bV (eBin oIsN (eVar 6) (eC .non))) (bV (eBin oGe (eVar 4) (eBin oIx (eLst (lCons (eC (.int 6)) (lCons (eC (.int 60)) (lCons (eC (.int 360)) lNil)))) (eVar 0))))) (sRet (eLst (lCons (eVar 4) lNil))) sNil)
  (sSeq (sIf (bAnd (bV (eBin oGt (eVar 0) (eC (.int 0)))) (bV (eBin oLe (eBin oIx (eVar 6) (eC (.int 0))) (eVar 3)))) (sRet (eLst (lCons (eVar 4) lNil))) sNil)
  (sSeq (sIf (bV (eBin oGt (eVar 0) (eC (.int 0)))) (sAsg (eIf (bV (eBin oEq (eVar 0) (eC (.int 1)))) (eBin oIx (eVar 6) (eC (.int 1))) (eBin oAdd (eBin oIx (eVar 6) (eC (.int 0))) (eBin oMulT (eBin oIx (eVar 6) (eC (.int 1))) (eBin oSub (eBin oIx (eVar 6) (eC (.int 2))) (eC (.int 1)))))) (gNm 3)) sNil)
  (sEx (eM "list" mAppend (eVar 2) (lCons (eVar 6) lNil))))))))
  (sRet (eB fTup (lCons (eVar 2) lNil)))))

/-! _law_told -/
abbrev st__law_told : Stmt := top 51
abbrev sc__law_told : Scope := defScope st__law_told
abbrev N__law_told : List Str := ["way", "value", "found", "error", "alone"]
noncomputable def b__law_told (C : CallT) : Sv := (sSeq (sAsg (eC .non) (gNm 2))
  (sSeq (sTryAs (sIf (bV (eBin oEq (eVar 0) (eC (.int 0)))) (sAsg (eCall C "parse_lamps" (lDef (lCons (eVar 1) lNil) [])) (gNm 2)) (sAsg (eIf (bV (eBin oEq (eVar 0) (eC (.int 1)))) (eCall C "parse_log" (lDef (lCons (eVar 1) lNil) [])) (eCall C "parse_motions" (lDef (lCons (eVar 1) lNil) []))) (gNm 2))) 3 (exmT xl "LampError") (fun yx => (sSeq (sAsg (eAnd (eIsX (isT xl) yx (eC (.ty "ValueError"))) (eNot (eIsX (isT xl) yx (eTup (lCons (eC (.glo "BadLamp")) (lCons (eC (.glo "BadLog")) (lCons (eC (.glo "BadMotions")) (lCons (eC (.glo "NoIndex")) lNil)))))))) (gNm 4))
  (sAsg (eIf (bAnd (bT (eVar 4)) (bT (eIsX (isT xl) yx (eC (.glo "BadText"))))) (eLst (lCons (eXf (isT xl) yx "index") lNil)) (eC (.str "other"))) (gNm 2)))))
  (sRet (eVar 2))))

/-! _law_changed -/
abbrev st__law_changed : Stmt := top 52
abbrev sc__law_changed : Scope := defScope st__law_changed
abbrev N__law_changed : List Str := ["pot", "text", "at", "words", "spot", "sign", "some", "part", "texts"]
noncomputable def b__law_changed (C : CallT) : Sv := (sSeq (sPar 2 3 (lCons (eCall C "_law_draw" (lDef (lCons (eVar 0) (lCons (eBin oAdd (eB fLen (lCons (eVar 1) lNil)) (eC (.int 1))) lNil)) [])) (lCons (eM "str" mSplit (eVar 1) (lCons (eC (.str " ")) lNil)) lNil)))
  (sSeq (sPar 4 5 (lCons (eCall C "_law_draw" (lDef (lCons (eVar 0) (lCons (eBin oAdd (eB fLen (lCons (eVar 3) lNil)) (eC (.int 1))) lNil)) [])) (lCons (eG (eCall C "_law_one" (lDef (lCons (eVar 0) (lCons (eLst (lCons (eC (.str "0")) (lCons (eC (.str " ")) (lCons (eC (.str "-")) (lCons (eC (.str "1")) (lCons (eC (.str "x")) (lCons (eC (.str "\n")) (lCons (eC (.str "+")) (lCons (eC (.str ":")) (lCons (eC (.str "9")) (lCons (eC (.str "h")) lNil))))))))))) lNil)) []))) lNil)))
  (sSeq (sAsg (eLst (lCons (eC (.str "")) (lCons (eC (.str "00")) (lCons (eC (.str "3-8")) (lCons (eC (.str "5+2x3")) (lCons (eC (.str "hold:3")) (lCons (eC (.str "pulse:0")) (lCons (eC (.str "10+1x1")) (lCons (eC (.str "7+0x2")) (lCons (eC (.str "0-0")) (lCons (eC (.str "none")) (lCons (eBin oMulT (eC (.str "1")) (eC (.int 21))) lNil)))))))))))) (gNm 6))
  (sSeq (sAsg (eBin oAdd (eVar 6) (eLst (lCons (eC (.str "2000000000-2000000001")) (lCons (eC (.str "1000000000")) (lCons (eC (.str "999999999+1x2")) (lCons (eC (.str "1000000000+1x2")) (lCons (eC (.str "03-9")) (lCons (eC (.str "hold:03")) lNil)))))))) (gNm 6))
  (sSeq (sAsg (eG (eCall C "_law_one" (lDef (lCons (eVar 0) (lCons (eBin oAdd (eBin oAdd (eVar 3) (eVar 6)) (eLst (lCons (eC (.str "hold:1:2")) lNil))) lNil)) []))) (gNm 7))
  (sSeq (sAsg (eLst (lCons (eBin oAdd (eBin oAdd (eSl (eVar 1) pNone (pSome (eVar 2))) (eVar 5)) (eSl (eVar 1) (pSome (eVar 2)) pNone)) (lCons (eBin oAdd (eBin oAdd (eSl (eVar 1) pNone (pSome (eVar 2))) (eVar 5)) (eSl (eVar 1) (pSome (eBin oAdd (eVar 2) (eC (.int 1)))) pNone)) (lCons (eBin oAdd (eSl (eVar 1) pNone (pSome (eVar 2))) (eSl (eVar 1) (pSome (eBin oAdd (eVar 2) (eC (.int 1)))) pNone)) (lCons (eBin oAdd (eVar 1) (eC (.str " "))) lNil))))) (gNm 8))
  (sSeq (sEx (eM "list" mAppend (eVar 8) (lCons (eG (eCall C "_law_spaced" (lDef (lCons (eBin oAdd (eBin oAdd (eSl (eVar 3) pNone (pSome (eVar 4))) (eLst (lCons (eVar 7) lNil))) (eSl (eVar 3) (pSome (eVar 4)) pNone)) lNil) []))) lNil)))
  (sSeq (sEx (eM "list" mAppend (eVar 8) (lCons (eG (eCall C "_law_spaced" (lDef (lCons (eBin oAdd (eBin oAdd (eSl (eVar 3) pNone (pSome (eVar 4))) (eLst (lCons (eVar 7) lNil))) (eSl (eVar 3) (pSome (eBin oAdd (eVar 4) (eC (.int 1)))) pNone)) lNil) []))) lNil)))
  (sRet (eG (eCall C "_law_one" (lDef (lCons (eVar 0) (lCons (eBin oAdd (eVar 8) (eLst (lCons (eCall C "_law_spaced" (lDef (lCons (eRev (eVar 3)) lNil) [])) (lCons (eBin oAdd (eBin oAdd (eVar 1) (eC (.str " "))) (eVar 1)) (lCons (eBin oAdd (eVar 1) (eVar 1)) (lCons (eBin oAdd (eC (.str " ")) (eVar 1)) lNil)))))) lNil)) []))))))))))))

/-! law -/
abbrev st_law : Stmt := top 53
abbrev sc_law : Scope := defScope st_law
abbrev N_law : List Str := ["script", "pot", "turn", "lamps", "texts", "short", "value", "due", "other", "text", "k", "way"]
noncomputable def b_law (C : CallT) : Sv := (sSeq (sAsg (eCall C "_law_opened" (lDef (lCons (eVar 0) lNil) [])) (gNm 1))
  (sSeq (sFor (iRg1 (lCons (eC (.int 4)) lNil)) (gNm 2) (sSeq (sAsg (eTmp hTup (lComp (iRg1 (lCons (eBin oAdd (eC (.int 1)) (eCall C "_law_draw" (lDef (lCons (eVar 1) (lCons (eC (.int 6)) lNil)) []))) lNil)) (gNm 10) bYes (eCall C "_law_lamp" (lDef (lCons (eVar 1) (lCons (eBin oPow (eC (.int 10)) (eC (.int 9))) lNil)) [])) [10])) (gNm 3))
  (sSeq (sAsg (eLst (lCons (eCall C "_law_lamps_text" (lDef (lCons (eVar 3) lNil) [])) (lCons (eCall C "_law_log_text" (lDef (lCons (eCall C "_law_log" (lDef (lCons (eVar 1) (lCons (eC (.int 9)) (lCons (eC (.int 100)) lNil))) [])) lNil) [])) (lCons (eCall C "_law_runs_text" (lDef (lCons (eCall C "_law_far_runs" (lDef (lCons (eVar 1) (lCons (eC (.int 9)) lNil)) [])) lNil) [])) lNil)))) (gNm 4))
  (sSeq (sAsg (eBin oAdd (eVar 4) (eLst (lCons (eC (.str "none")) (lCons (eC (.str "")) (lCons (eC (.str " ")) (lCons (eC (.str "none none")) (lCons (eC (.str "0")) (lCons (eC (.str "0-1")) (lCons (eC (.str "0-1 1-2")) (lCons (eC (.str "0-1 2-3")) (lCons (eC (.str "3 4 5")) (lCons (eC (.str "3+1x2 4")) (lCons (eC (.str "3+1x2 5")) lNil))))))))))))) (gNm 4))
  (sSeq (sEx (eM "list" mAppend (eVar 4) (lCons (eG (eCall C "_law_spaced" (lDef (lCons (eComp (lComp (iRg1 (lCons (eC (.int 61)) lNil)) (gNm 10) bYes (eBin oAdd (eBin oAdd (eB fStr (lCons (eBin oMulT (eC (.int 3)) (eVar 10)) lNil)) (eC (.str "-"))) (eB fStr (lCons (eBin oAdd (eBin oMulT (eC (.int 3)) (eVar 10)) (eC (.int 1))) lNil))) [10])) lNil) []))) lNil)))
  (sSeq (sAsg (eBin oAdd (eVar 4) (eLst (lCons (eG (eCall C "_law_spaced" (lDef (lCons (eBin oMulT (eLst (lCons (eC (.str "hold:1")) lNil)) (eC (.int 7))) lNil) []))) (lCons (eCall C "_law_spaced" (lDef (lCons (eLRg (eC (.int 361))) lNil) [])) (lCons (eC (.str "hold")) (lCons (eC (.str "hold:")) (lCons (eC (.str "Hold:1")) lNil))))))) (gNm 4))
  (sSeq (sAsg (eBin oAdd (eVar 4) (eLst (lCons (eC (.str "hold:1000000001")) (lCons (eC (.str "-1-3")) lNil)))) (gNm 4))
  (sSeq (sAsg (eComp (lComp (iSeq (eVar 4)) (gNm 9) (bV (eBin oLt (eB fLen (lCons (eVar 9) lNil)) (eC (.int 400)))) (eVar 9) [9])) (gNm 5))
  (sSeq (sFor (iSeq (eBin oAdd (eVar 4) (eComp (lComp (iRg1 (lCons (eC (.int 24)) lNil)) (gNm 10) bYes (eCall C "_law_changed" (lDef (lCons (eVar 1) (lCons (eCall C "_law_one" (lDef (lCons (eVar 1) (lCons (eVar 5) lNil)) [])) lNil)) [])) [10])))) (gNm 6) (sSeq (sAsg (eComp (lComp (iRg1 (lCons (eC (.int 3)) lNil)) (gNm 11) bYes (eCall C "_law_read" (lDef (lCons (eVar 11) (lCons (eVar 6) lNil)) [])) [11])) (gNm 7))
  (sIf (bV (eBin oNe (eB fRepr (lCons (eComp (lComp (iRg1 (lCons (eC (.int 3)) lNil)) (gNm 11) bYes (eCall C "_law_told" (lDef (lCons (eVar 11) (lCons (eVar 6) lNil)) [])) [11])) lNil)) (eB fRepr (lCons (eVar 7) lNil)))) (sRet (eC (.bl false))) sNil)))
  (sSeq (sAsg (eG (eCall C "_law_one" (lDef (lCons (eVar 1) (lCons (eLst (lCons (eTup lNil) (lCons (eLst lNil) (lCons (eC (.int 0)) (lCons (eTup (lCons (eC (.str "none")) lNil)) (lCons (eDct [((eC (.str "0")), (eC (.int 1)))]) lNil)))))) lNil)) []))) (gNm 8))
  (sFor (iSeq (eLst (lCons (eC .non) (lCons (eC (.int 5)) (lCons (eC (.bl true)) (lCons (eVar 3) (lCons (eLst (lCons (eC (.str "3")) lNil)) (lCons eDct0 (lCons (eVar 8) lNil))))))))) (gNm 6) (sIf (bV (eBin oNe (eB fRepr (lCons (eComp (lComp (iRg1 (lCons (eC (.int 3)) lNil)) (gNm 11) bYes (eCall C "_law_told" (lDef (lCons (eVar 11) (lCons (eVar 6) lNil)) [])) [11])) lNil)) (eC (.str "[[None], [None], [None]]")))) (sRet (eC (.bl false))) sNil))))))))))))
  (sRet (eC (.bl true)))))
theorem ok_is_integer {X : Cx} {W : WS} {k : Nat} {C : CallT} (G : Gs X.K X.mg) (Q : Gc X.prog X.w X.K X.mg X.base k C) (c : Cy X W N_is_integer sc_is_integer k) (po : PassesOwn (model X.prog X.w) X.A X.env X.xe) (fnc : ∀ x, X.fn x = true) (hst : X.stack = X.env :: X.outer) (hfr : X.env.frame = some X.env.locals) (hex : X.ex = []) : FSs X W (defBody st_is_integer) (b_is_integer C) :=
  (s_one (s_ret (r_and (r_callB c.B f_isI rfl G.f_isinstance bt_isinstance (l_cons (r_var (i := 0) c.B rfl rfl) (l_cons (r_ty c.B rfl G.f_int bt_int) l_nil))) (r_and (r_not (r_callB c.B f_isI rfl G.f_isinstance bt_isinstance (l_cons (r_var (i := 0) c.B rfl rfl) (l_cons (r_ty c.B rfl G.f_bool bt_bool) l_nil)))) (r_one (r_chain f_le f_le rfl (r_var (i := 1) c.B rfl rfl) (r_var (i := 0) c.B rfl rfl) (r_var (i := 2) c.B rfl rfl)))))))
theorem ok_is_minute {X : Cx} {W : WS} {k : Nat} {C : CallT} (G : Gs X.K X.mg) (Q : Gc X.prog X.w X.K X.mg X.base k C) (c : Cy X W N_is_minute sc_is_minute k) (po : PassesOwn (model X.prog X.w) X.A X.env X.xe) (fnc : ∀ x, X.fn x = true) (hst : X.stack = X.env :: X.outer) (hfr : X.env.frame = some X.env.locals) (hex : X.ex = []) : FSs X W (defBody st_is_minute) (b_is_minute C) :=
  (s_one (s_ret (r_call c.B Q.c_is_integer c.rm c.tk rfl G.d_is_integer (l_cons (r_var (i := 0) c.B rfl rfl) (l_cons r_int (l_cons (r_gint c.B rfl G.i_MAX_MINUTE) l_nil))))))
theorem ok_is_lamp {X : Cx} {W : WS} {k : Nat} {C : CallT} (G : Gs X.K X.mg) (Q : Gc X.prog X.w X.K X.mg X.base k C) (c : Cy X W N_is_lamp sc_is_lamp k) (po : PassesOwn (model X.prog X.w) X.A X.env X.xe) (fnc : ∀ x, X.fn x = true) (hst : X.stack = X.env :: X.outer) (hfr : X.env.frame = some X.env.locals) (hex : X.ex = []) : FSs X W (defBody st_is_lamp) (b_is_lamp C) :=
  (s_seq (s_if (FW.fb (t_or (t_not (t_tru (r_callB c.B f_isI rfl G.f_isinstance bt_isinstance (l_cons (r_var (i := 0) c.B rfl rfl) (l_cons (r_ty c.B rfl G.f_tuple bt_tuple) l_nil))))) (t_or (t_cmp (f_ne c.hu) rfl (r_callB c.B f_len rfl G.f_len bt_len (l_cons (r_var (i := 0) c.B rfl rfl) l_nil)) r_int) (t_or1 (t_not (t_tru (r_callB c.B f_isI rfl G.f_isinstance bt_isinstance (l_cons (r_ix c.hu1 (r_var (i := 0) c.B rfl rfl) r_int (by intro _ _; rfl)) (l_cons (r_ty c.B rfl G.f_str bt_str) l_nil))))))))) (s_one (s_ret r_bl)) s_nil)
  (s_one (s_ret (r_and (r_cmp f_in rfl (r_ix c.hu1 (r_var (i := 0) c.B rfl rfl) r_int (by intro _ _; rfl)) (r_tup (l_cons (r_gstr c.B rfl G.s_HOLD) (l_cons (r_gstr c.B rfl G.s_PULSE) l_nil)))) (r_one (r_call c.B Q.c_is_integer c.rm c.tk rfl G.d_is_integer (l_cons (r_ix c.hu1 (r_var (i := 0) c.B rfl rfl) r_int (by intro _ _; rfl)) (l_cons r_int (l_cons (r_gint c.B rfl G.i_MAX_MINUTE) l_nil)))))))))
theorem ok_end_of {X : Cx} {W : WS} {k : Nat} {C : CallT} (G : Gs X.K X.mg) (Q : Gc X.prog X.w X.K X.mg X.base k C) (c : Cy X W N_end_of sc_end_of k) (po : PassesOwn (model X.prog X.w) X.A X.env X.xe) (fnc : ∀ x, X.fn x = true) (hst : X.stack = X.env :: X.outer) (hfr : X.env.frame = some X.env.locals) (hex : X.ex = []) : FSs X W (defBody st_end_of) (b_end_of C) :=
  (s_seq (s_asg (ws := [1, 2, 3]) (r_var (i := 0) c.B rfl rfl) (g_tup c.B c.cm (gs_cons (g_nm (i := 1) c.B rfl rfl (c.cm.ki _) (by decide)) (gs_cons (g_nm (i := 2) c.B rfl rfl (c.cm.ki _) (by decide)) (gs_cons (g_nm (i := 3) c.B rfl rfl (c.cm.ki _) (by decide)) gs_nil)))) (gTp_ok (gsCons_ok (gsCons_ok (gsCons_ok gsNil_ok)))))
  (s_one (s_ret (r_bin f_add (r_var (i := 1) c.B rfl rfl) (r_bin f_mulT (r_var (i := 2) c.B rfl rfl) (r_bin f_sub (r_var (i := 3) c.B rfl rfl) r_int))))))
theorem ok_is_run {X : Cx} {W : WS} {k : Nat} {C : CallT} (G : Gs X.K X.mg) (Q : Gc X.prog X.w X.K X.mg X.base k C) (c : Cy X W N_is_run sc_is_run k) (po : PassesOwn (model X.prog X.w) X.A X.env X.xe) (fnc : ∀ x, X.fn x = true) (hst : X.stack = X.env :: X.outer) (hfr : X.env.frame = some X.env.locals) (hex : X.ex = []) : FSs X W (defBody st_is_run) (b_is_run C) :=
  (s_seq (s_if (FW.fb (t_or (t_not (t_tru (r_callB c.B f_isI rfl G.f_isinstance bt_isinstance (l_cons (r_var (i := 0) c.B rfl rfl) (l_cons (r_ty c.B rfl G.f_tuple bt_tuple) l_nil))))) (t_or (t_cmp (f_ne c.hu) rfl (r_callB c.B f_len rfl G.f_len bt_len (l_cons (r_var (i := 0) c.B rfl rfl) l_nil)) r_int) (t_or1 (t_not (t_tru (r_call c.B Q.c_is_minute c.rm c.tk rfl G.d_is_minute (l_cons (r_ix c.hu1 (r_var (i := 0) c.B rfl rfl) r_int (by intro _ _; rfl)) l_nil)))))))) (s_one (s_ret r_bl)) s_nil)
  (s_seq (s_asg (ws := [1, 2, 3]) (r_var (i := 0) c.B rfl rfl) (g_tup c.B c.cm (gs_cons (g_nm (i := 1) c.B rfl rfl (c.cm.ki _) (by decide)) (gs_cons (g_nm (i := 2) c.B rfl rfl (c.cm.ki _) (by decide)) (gs_cons (g_nm (i := 3) c.B rfl rfl (c.cm.ki _) (by decide)) gs_nil)))) (gTp_ok (gsCons_ok (gsCons_ok (gsCons_ok gsNil_ok)))))
  (s_seq (s_if (FW.fb (t_or (t_not (t_tru (r_call c.B Q.c_is_integer c.rm c.tk rfl G.d_is_integer (l_cons (r_var (i := 2) c.B rfl rfl) (l_cons r_int (l_cons (r_gint c.B rfl G.i_MAX_MINUTE) l_nil)))))) (t_or1 (t_not (t_tru (r_call c.B Q.c_is_integer c.rm c.tk rfl G.d_is_integer (l_cons (r_var (i := 3) c.B rfl rfl) (l_cons r_int (l_cons (r_bin f_add (r_gint c.B rfl G.i_MAX_MINUTE) r_int) l_nil))))))))) (s_one (s_ret r_bl)) s_nil)
  (s_one (s_ret (r_and (r_cmp f_le rfl (r_call c.B Q.c_end_of c.rm c.tk rfl G.d_end_of (l_cons (r_var (i := 0) c.B rfl rfl) l_nil)) (r_gint c.B rfl G.i_MAX_MINUTE)) (r_one (r_or (r_cmp f_gt rfl (r_var (i := 3) c.B rfl rfl) r_int) (r_one (r_cmp (f_eq c.hu) rfl (r_var (i := 2) c.B rfl rfl) r_int))))))))))
theorem ok_is_stretch {X : Cx} {W : WS} {k : Nat} {C : CallT} (G : Gs X.K X.mg) (Q : Gc X.prog X.w X.K X.mg X.base k C) (c : Cy X W N_is_stretch sc_is_stretch k) (po : PassesOwn (model X.prog X.w) X.A X.env X.xe) (fnc : ∀ x, X.fn x = true) (hst : X.stack = X.env :: X.outer) (hfr : X.env.frame = some X.env.locals) (hex : X.ex = []) : FSs X W (defBody st_is_stretch) (b_is_stretch C) :=
  (s_seq (s_if (FW.fb (t_or (t_not (t_tru (r_callB c.B f_isI rfl G.f_isinstance bt_isinstance (l_cons (r_var (i := 0) c.B rfl rfl) (l_cons (r_ty c.B rfl G.f_tuple bt_tuple) l_nil))))) (t_or (t_cmp (f_ne c.hu) rfl (r_callB c.B f_len rfl G.f_len bt_len (l_cons (r_var (i := 0) c.B rfl rfl) l_nil)) r_int) (t_or1 (t_not (t_tru (r_call c.B Q.c_is_integer c.rm c.tk rfl G.d_is_integer (l_cons (r_ix c.hu1 (r_var (i := 0) c.B rfl rfl) r_int (by intro _ _; rfl)) (l_cons r_int (l_cons (r_gint c.B rfl G.i_LIMIT) l_nil)))))))))) (s_one (s_ret r_bl)) s_nil)
  (s_one (s_ret (r_call c.B Q.c_is_integer c.rm c.tk rfl G.d_is_integer (l_cons (r_ix c.hu1 (r_var (i := 0) c.B rfl rfl) r_int (by intro _ _; rfl)) (l_cons (r_bin f_add (r_ix c.hu1 (r_var (i := 0) c.B rfl rfl) r_int (by intro _ _; rfl)) r_int) (l_cons (r_gint c.B rfl G.i_LIMIT) l_nil)))))))
theorem ok_read_integer {X : Cx} {W : WS} {k : Nat} {C : CallT} (G : Gs X.K X.mg) (Q : Gc X.prog X.w X.K X.mg X.base k C) (c : Cy X W N_read_integer sc_read_integer k) (po : PassesOwn (model X.prog X.w) X.A X.env X.xe) (fnc : ∀ x, X.fn x = true) (hst : X.stack = X.env :: X.outer) (hfr : X.env.frame = some X.env.locals) (hex : X.ex = []) : FSs X W (defBody st_read_integer) (b_read_integer C) :=
  (s_seq (s_if (FW.fb (t_or (t_not (t_chain f_le f_le rfl r_int (r_callB c.B f_len rfl G.f_len bt_len (l_cons (r_var (i := 0) c.B rfl rfl) l_nil)) (r_gint c.B rfl G.i_LONGEST))) (t_or1 (t_not (t_tru (r_tmpB c.B (c_all c.cm.calm) rfl G.f_all bt_all (c_comp (own := [("sign", 1)]) c.B c.cm (i_seq (r_var (i := 0) c.B rfl rfl)) ⟨rfl, by decide +kernel, by decide +kernel, by decide +kernel, by decide +kernel⟩ (fun s H C cl fp => have c1 := c.blk _ s H C cl fp; (g_nm (i := 1) c1.B rfl rfl (c1.cm.ki _) (by decide))) (fun s H C cl fp => ts_nil) (fun s H C cl fp => have c1 := c.blk _ s H C cl fp; (r_cmp f_in rfl (r_var (i := 1) c1.B rfl rfl) (r_gstr c1.B rfl G.s_DIGITS)))))))))) (s_one (s_ret r_non)) s_nil)
  (s_one (s_ret (r_if (FW.fb (t_and (t_cmp (f_eq c.hu) rfl (r_ix c.hu1 (r_var (i := 0) c.B rfl rfl) r_int (by intro _ _; rfl)) r_str) (t_and1 (t_cmp (f_ne c.hu) rfl (r_var (i := 0) c.B rfl rfl) r_str)))) r_non (r_callT c.B f_int rfl G.f_int bt_int (l_cons (r_var (i := 0) c.B rfl rfl) l_nil))))))
theorem ok_read_pair {X : Cx} {W : WS} {k : Nat} {C : CallT} (G : Gs X.K X.mg) (Q : Gc X.prog X.w X.K X.mg X.base k C) (c : Cy X W N_read_pair sc_read_pair k) (po : PassesOwn (model X.prog X.w) X.A X.env X.xe) (fnc : ∀ x, X.fn x = true) (hst : X.stack = X.env :: X.outer) (hfr : X.env.frame = some X.env.locals) (hex : X.ex = []) : FSs X W (defBody st_read_pair) (b_read_pair C) :=
  (s_seq (s_setLc (i := 2) (own := [("part", 3)]) c.B c.cm rfl rfl (i_seq (r_m F.plainAttrs_str F.slot_str_split F.type_str_split m_split (r_var (i := 0) c.B rfl rfl) (l_cons (r_var (i := 1) c.B rfl rfl) l_nil))) ⟨rfl, by decide +kernel, by decide +kernel, by decide +kernel, by decide +kernel⟩ rfl (fun s H C cl fp => have c1 := c.blk _ s H C cl fp; (g_nm (i := 3) c1.B rfl rfl (c1.cm.ki _) (by decide))) (fun s H C cl fp => ts_nil) (fun s H C cl fp => have c1 := c.blk _ s H C cl fp; (r_call c1.B Q.c_read_integer c1.rm c1.tk rfl G.d_read_integer (l_cons (r_var (i := 3) c1.B rfl rfl) l_nil))))
  (s_one (s_ret (r_if (FW.fb (t_and (t_cmp (f_eq c.hu) rfl (r_callB c.B f_len rfl G.f_len bt_len (l_cons (r_var (i := 2) c.B rfl rfl) l_nil)) r_int) (t_and1 (t_cmp f_notIn rfl r_non (r_var (i := 2) c.B rfl rfl))))) (r_callT c.B f_tup rfl G.f_tuple bt_tuple (l_cons (r_var (i := 2) c.B rfl rfl) l_nil)) r_non))))
theorem ok_words_of {X : Cx} {W : WS} {k : Nat} {C : CallT} (G : Gs X.K X.mg) (Q : Gc X.prog X.w X.K X.mg X.base k C) (c : Cy X W N_words_of sc_words_of k) (po : PassesOwn (model X.prog X.w) X.A X.env X.xe) (fnc : ∀ x, X.fn x = true) (hst : X.stack = X.env :: X.outer) (hfr : X.env.frame = some X.env.locals) (hex : X.ex = []) : FSs X W (defBody st_words_of) (b_words_of C) :=
  (s_seq (s_if (t_not (t_tru (r_callB c.B f_isI rfl G.f_isinstance bt_isinstance (l_cons (r_var (i := 0) c.B rfl rfl) (l_cons (r_ty c.B rfl G.f_str bt_str) l_nil))))) (s_one (s_raise (C := "BadText") (f := "index") c.B c.cm c.tk c.rm Q.x_BadText rfl r_non)) s_nil)
  (s_one (s_ret (r_if (t_cmp (f_eq c.hu) rfl (r_var (i := 0) c.B rfl rfl) (r_gstr c.B rfl G.s_NONE)) (r_lst l_nil) (r_m F.plainAttrs_str F.slot_str_split F.type_str_split m_split (r_var (i := 0) c.B rfl rfl) (l_cons r_str l_nil))))))
theorem ok_read_lamp {X : Cx} {W : WS} {k : Nat} {C : CallT} (G : Gs X.K X.mg) (Q : Gc X.prog X.w X.K X.mg X.base k C) (c : Cy X W N_read_lamp sc_read_lamp k) (po : PassesOwn (model X.prog X.w) X.A X.env X.xe) (fnc : ∀ x, X.fn x = true) (hst : X.stack = X.env :: X.outer) (hfr : X.env.frame = some X.env.locals) (hex : X.ex = []) : FSs X W (defBody st_read_lamp) (b_read_lamp C) :=
  (s_seq (s_asg (ws := [1, 2]) (r_m F.plainAttrs_str F.slot_str_split F.type_str_split m_split (r_var (i := 0) c.B rfl rfl) (l_cons r_str l_nil)) (g_star c.B c.cm (gs_cons (g_nm (i := 1) c.B rfl rfl (c.cm.ki _) (by decide)) (gs_cons (g_nm (i := 2) c.B rfl rfl (c.cm.ki _) (by decide)) gs_nil))) (gStF_ok (gsCons_ok (gsCons_ok gsNil_ok))))
  (s_seq (s_set (i := 3) c.B rfl rfl (c.cm.ki _) (r_if (t_cmp (f_eq c.hu) rfl (r_callB c.B f_len rfl G.f_len bt_len (l_cons (r_var (i := 2) c.B rfl rfl) l_nil)) r_int) (r_tup (l_cons (r_var (i := 1) c.B rfl rfl) (l_cons (r_call c.B Q.c_read_integer c.rm c.tk rfl G.d_read_integer (l_cons (r_ix c.hu1 (r_var (i := 2) c.B rfl rfl) r_int (by intro _ _; rfl)) l_nil)) l_nil))) r_non))
  (s_one (s_ret (r_if (t_tru (r_call c.B Q.c_is_lamp c.rm c.tk rfl G.d_is_lamp (l_cons (r_var (i := 3) c.B rfl rfl) l_nil))) (r_var (i := 3) c.B rfl rfl) r_non)))))
theorem ok_parse_lamps {X : Cx} {W : WS} {k : Nat} {C : CallT} (G : Gs X.K X.mg) (Q : Gc X.prog X.w X.K X.mg X.base k C) (c : Cy X W N_parse_lamps sc_parse_lamps k) (po : PassesOwn (model X.prog X.w) X.A X.env X.xe) (fnc : ∀ x, X.fn x = true) (hst : X.stack = X.env :: X.outer) (hfr : X.env.frame = some X.env.locals) (hex : X.ex = []) : FSs X W (defBody st_parse_lamps) (b_parse_lamps C) :=
  (s_seq (s_set (i := 1) c.B rfl rfl (c.cm.ki _) (r_lst l_nil))
  (s_seq (s_for (ws := [2, 3]) po c.B c.cm (i_enA c.B rfl G.f_enumerate (l_cons (r_call c.B Q.c_words_of c.rm c.tk rfl G.d_words_of (l_cons (r_var (i := 0) c.B rfl rfl) l_nil)) l_nil)) (g_tup c.B c.cm (gs_cons (g_nm (i := 2) c.B rfl rfl (c.cm.ki _) (by decide)) (gs_cons (g_nm (i := 3) c.B rfl rfl (c.cm.ki _) (by decide)) gs_nil))) (s_seq (s_set (i := 4) c.B rfl rfl (c.cm.ki _) (r_call c.B Q.c_read_lamp c.rm c.tk rfl G.d_read_lamp (l_cons (r_var (i := 3) c.B rfl rfl) l_nil)))
  (s_seq (s_if (FW.fb (t_or (t_cmp f_isN rfl (r_var (i := 4) c.B rfl rfl) r_non) (t_or1 (t_cmp f_ge rfl (r_var (i := 2) c.B rfl rfl) (r_gint c.B rfl G.i_MAX_LAMPS))))) (s_one (s_raise (C := "BadText") (f := "index") c.B c.cm c.tk c.rm Q.x_BadText rfl (r_var (i := 2) c.B rfl rfl))) s_nil)
  (s_one (s_ex (r_m F.plainAttrs_list F.slot_list_append F.type_list_append m_append (r_var (i := 1) c.B rfl rfl) (l_cons (r_var (i := 4) c.B rfl rfl) l_nil)))))))
  (s_one (s_ret (r_callT c.B f_tup rfl G.f_tuple bt_tuple (l_cons (r_var (i := 1) c.B rfl rfl) l_nil))))))
theorem ok_parse_log {X : Cx} {W : WS} {k : Nat} {C : CallT} (G : Gs X.K X.mg) (Q : Gc X.prog X.w X.K X.mg X.base k C) (c : Cy X W N_parse_log sc_parse_log k) (po : PassesOwn (model X.prog X.w) X.A X.env X.xe) (fnc : ∀ x, X.fn x = true) (hst : X.stack = X.env :: X.outer) (hfr : X.env.frame = some X.env.locals) (hex : X.ex = []) : FSs X W (defBody st_parse_log) (b_parse_log C) :=
  (s_seq (s_par (i := 1) (j := 2) c.B c.cm rfl rfl (by decide) rfl rfl (l_cons (r_lst l_nil) (l_cons (r_un f_neg r_int) l_nil)) (c.B.swS rfl))
  (s_seq (s_for (ws := [3, 4]) po c.B c.cm (i_enA c.B rfl G.f_enumerate (l_cons (r_call c.B Q.c_words_of c.rm c.tk rfl G.d_words_of (l_cons (r_var (i := 0) c.B rfl rfl) l_nil)) l_nil)) (g_tup c.B c.cm (gs_cons (g_nm (i := 3) c.B rfl rfl (c.cm.ki _) (by decide)) (gs_cons (g_nm (i := 4) c.B rfl rfl (c.cm.ki _) (by decide)) gs_nil))) (s_seq (s_set (i := 5) c.B rfl rfl (c.cm.ki _) (r_call c.B Q.c_read_pair c.rm c.tk rfl G.d_read_pair (l_cons (r_var (i := 4) c.B rfl rfl) (l_cons r_str l_nil))))
  (s_seq (s_if (FW.fb (t_or (t_not (t_tru (r_call c.B Q.c_is_stretch c.rm c.tk rfl G.d_is_stretch (l_cons (r_var (i := 5) c.B rfl rfl) l_nil)))) (t_or (t_cmp f_le rfl (r_ix c.hu1 (r_var (i := 5) c.B rfl rfl) r_int (by intro _ _; rfl)) (r_var (i := 2) c.B rfl rfl)) (t_or1 (t_cmp f_ge rfl (r_var (i := 3) c.B rfl rfl) (r_gint c.B rfl G.i_MAX_STRETCHES)))))) (s_one (s_raise (C := "BadText") (f := "index") c.B c.cm c.tk c.rm Q.x_BadText rfl (r_var (i := 3) c.B rfl rfl))) s_nil)
  (s_seq (s_ex (r_m F.plainAttrs_list F.slot_list_append F.type_list_append m_append (r_var (i := 1) c.B rfl rfl) (l_cons (r_var (i := 5) c.B rfl rfl) l_nil)))
  (s_one (s_set (i := 2) c.B rfl rfl (c.cm.ki _) (r_ix c.hu1 (r_var (i := 5) c.B rfl rfl) r_int (by intro _ _; rfl))))))))
  (s_one (s_ret (r_callT c.B f_tup rfl G.f_tuple bt_tuple (l_cons (r_var (i := 1) c.B rfl rfl) l_nil))))))
theorem ok_read_run {X : Cx} {W : WS} {k : Nat} {C : CallT} (G : Gs X.K X.mg) (Q : Gc X.prog X.w X.K X.mg X.base k C) (c : Cy X W N_read_run sc_read_run k) (po : PassesOwn (model X.prog X.w) X.A X.env X.xe) (fnc : ∀ x, X.fn x = true) (hst : X.stack = X.env :: X.outer) (hfr : X.env.frame = some X.env.locals) (hex : X.ex = []) : FSs X W (defBody st_read_run) (b_read_run C) :=
  (s_seq (s_asg (ws := [1, 2]) (r_m F.plainAttrs_str F.slot_str_split F.type_str_split m_split (r_var (i := 0) c.B rfl rfl) (l_cons r_str l_nil)) (g_star c.B c.cm (gs_cons (g_nm (i := 1) c.B rfl rfl (c.cm.ki _) (by decide)) (gs_cons (g_nm (i := 2) c.B rfl rfl (c.cm.ki _) (by decide)) gs_nil))) (gStF_ok (gsCons_ok (gsCons_ok gsNil_ok))))
  (s_seq (s_set (i := 3) c.B rfl rfl (c.cm.ki _) (r_call c.B Q.c_read_integer c.rm c.tk rfl G.d_read_integer (l_cons (r_var (i := 1) c.B rfl rfl) l_nil)))
  (s_seq (s_if (t_cmp (f_eq c.hu) rfl (r_var (i := 2) c.B rfl rfl) (r_lst l_nil)) (s_one (s_ret (r_if (t_cmp f_notN rfl (r_var (i := 3) c.B rfl rfl) r_non) (r_tup (l_cons (r_var (i := 3) c.B rfl rfl) (l_cons r_int (l_cons r_int l_nil)))) r_non))) s_nil)
  (s_seq (s_set (i := 4) c.B rfl rfl (c.cm.ki _) (r_call c.B Q.c_read_pair c.rm c.tk rfl G.d_read_pair (l_cons (r_ix c.hu1 (r_var (i := 2) c.B rfl rfl) r_int (by intro _ _; rfl)) (l_cons r_str l_nil))))
  (s_seq (s_if (FW.fb (t_or (t_cmp f_gt rfl (r_callB c.B f_len rfl G.f_len bt_len (l_cons (r_var (i := 2) c.B rfl rfl) l_nil)) r_int) (t_or (t_cmp f_isN rfl (r_var (i := 3) c.B rfl rfl) r_non) (t_or (t_cmp f_isN rfl (r_var (i := 4) c.B rfl rfl) r_non) (t_or1 (t_cmp f_lt rfl (r_ix c.hu1 (r_var (i := 4) c.B rfl rfl) r_int (by intro _ _; rfl)) r_int)))))) (s_one (s_ret r_non)) s_nil)
  (s_one (s_ret (r_tup (l_cons (r_var (i := 3) c.B rfl rfl) (l_star (r_var (i := 4) c.B rfl rfl) l_nil))))))))))
theorem ok_parse_motions {X : Cx} {W : WS} {k : Nat} {C : CallT} (G : Gs X.K X.mg) (Q : Gc X.prog X.w X.K X.mg X.base k C) (c : Cy X W N_parse_motions sc_parse_motions k) (po : PassesOwn (model X.prog X.w) X.A X.env X.xe) (fnc : ∀ x, X.fn x = true) (hst : X.stack = X.env :: X.outer) (hfr : X.env.frame = some X.env.locals) (hex : X.ex = []) : FSs X W (defBody st_parse_motions) (b_parse_motions C) :=
  (s_seq (s_par (i := 1) (j := 2) c.B c.cm rfl rfl (by decide) rfl rfl (l_cons (r_lst l_nil) (l_cons (r_un f_neg r_int) l_nil)) (c.B.swS rfl))
  (s_seq (s_for (ws := [3, 4]) po c.B c.cm (i_enA c.B rfl G.f_enumerate (l_cons (r_call c.B Q.c_words_of c.rm c.tk rfl G.d_words_of (l_cons (r_var (i := 0) c.B rfl rfl) l_nil)) l_nil)) (g_tup c.B c.cm (gs_cons (g_nm (i := 3) c.B rfl rfl (c.cm.ki _) (by decide)) (gs_cons (g_nm (i := 4) c.B rfl rfl (c.cm.ki _) (by decide)) gs_nil))) (s_seq (s_set (i := 5) c.B rfl rfl (c.cm.ki _) (r_call c.B Q.c_read_run c.rm c.tk rfl G.d_read_run (l_cons (r_var (i := 4) c.B rfl rfl) l_nil)))
  (s_seq (s_if (FW.fb (t_or (t_not (t_tru (r_call c.B Q.c_is_run c.rm c.tk rfl G.d_is_run (l_cons (r_var (i := 5) c.B rfl rfl) l_nil)))) (t_or (t_cmp f_le rfl (r_ix c.hu1 (r_var (i := 5) c.B rfl rfl) r_int (by intro _ _; rfl)) (r_var (i := 2) c.B rfl rfl)) (t_or1 (t_cmp f_ge rfl (r_var (i := 3) c.B rfl rfl) (r_gint c.B rfl G.i_MAX_RUNS)))))) (s_one (s_raise (C := "BadText") (f := "index") c.B c.cm c.tk c.rm Q.x_BadText rfl (r_var (i := 3) c.B rfl rfl))) s_nil)
  (s_seq (s_ex (r_m F.plainAttrs_list F.slot_list_append F.type_list_append m_append (r_var (i := 1) c.B rfl rfl) (l_cons (r_var (i := 5) c.B rfl rfl) l_nil)))
  (s_one (s_set (i := 2) c.B rfl rfl (c.cm.ki _) (r_call c.B Q.c_end_of c.rm c.tk rfl G.d_end_of (l_cons (r_var (i := 5) c.B rfl rfl) l_nil))))))))
  (s_one (s_ret (r_callT c.B f_tup rfl G.f_tuple bt_tuple (l_cons (r_var (i := 1) c.B rfl rfl) l_nil))))))
theorem ok__law_opened {X : Cx} {W : WS} {k : Nat} {C : CallT} (G : Gs X.K X.mg) (Q : Gc X.prog X.w X.K X.mg X.base k C) (c : Cy X W N__law_opened sc__law_opened k) (po : PassesOwn (model X.prog X.w) X.A X.env X.xe) (fnc : ∀ x, X.fn x = true) (hst : X.stack = X.env :: X.outer) (hfr : X.env.frame = some X.env.locals) (hex : X.ex = []) : FSs X W (defBody st__law_opened) (b__law_opened C) :=
  (s_seq (s_setLc (i := 1) (own := [("cell", 2)]) c.B c.cm rfl rfl (i_seq (r_slice (r_var (i := 0) c.B rfl rfl) p_none (p_some r_int))) ⟨rfl, by decide +kernel, by decide +kernel, by decide +kernel, by decide +kernel⟩ rfl (fun s H C cl fp => have c1 := c.blk _ s H C cl fp; (g_nm (i := 2) c1.B rfl rfl (c1.cm.ki _) (by decide))) (fun s H C cl fp => ts_nil) (fun s H C cl fp => have c1 := c.blk _ s H C cl fp; (r_callB c1.B f_abs rfl G.f_abs bt_abs (l_cons (r_var (i := 2) c1.B rfl rfl) l_nil))))
  (s_one (s_ret (r_dct (.cons r_str (r_comp (c_comp (own := [("cell", 2)]) c.B c.cm (i_seq (r_var (i := 1) c.B rfl rfl)) ⟨rfl, by decide +kernel, by decide +kernel, by decide +kernel, by decide +kernel⟩ (fun s H C cl fp => have c1 := c.blk _ s H C cl fp; (g_nm (i := 2) c1.B rfl rfl (c1.cm.ki _) (by decide))) (fun s H C cl fp => have c1 := c.blk _ s H C cl fp; (ts_one (t_cmp f_ge rfl (r_var (i := 2) c1.B rfl rfl) (r_bin f_pow r_int r_int)))) (fun s H C cl fp => have c1 := c.blk _ s H C cl fp; (r_var (i := 2) c1.B rfl rfl)))) (.cons r_str (r_bin f_add (r_var (i := 1) c.B rfl rfl) (r_bin f_mulT (r_lst (l_cons r_int l_nil)) (r_callT c.B f_int rfl G.f_int bt_int (l_cons (r_cmp (f_eq c.hu) rfl (r_var (i := 1) c.B rfl rfl) (r_lst l_nil)) l_nil)))) (.cons r_str r_int .nil)))))))
theorem ok__law_draw {X : Cx} {W : WS} {k : Nat} {C : CallT} (G : Gs X.K X.mg) (Q : Gc X.prog X.w X.K X.mg X.base k C) (c : Cy X W N__law_draw sc__law_draw k) (po : PassesOwn (model X.prog X.w) X.A X.env X.xe) (fnc : ∀ x, X.fn x = true) (hst : X.stack = X.env :: X.outer) (hfr : X.env.frame = some X.env.locals) (hex : X.ex = []) : FSs X W (defBody st__law_draw) (b__law_draw C) :=
  (s_seq (s_while po (t_cmp (f_ne c.hu) rfl (r_ix c.hu1 (r_var (i := 0) c.B rfl rfl) r_str (by intro _ _; rfl)) (r_lst l_nil)) (s_seq (s_set (i := 2) c.B rfl rfl (c.cm.ki _) (r_m F.plainAttrs_list F.slot_list_pop F.type_list_pop m_pop (r_ix c.hu1 (r_var (i := 0) c.B rfl rfl) r_str (by intro _ _; rfl)) (l_cons r_int l_nil)))
  (s_one (s_if (t_cmp f_gt rfl (r_var (i := 2) c.B rfl rfl) r_int) (s_seq (s_ex (r_m F.plainAttrs_list F.slot_list_insert F.type_list_insert m_insert (r_ix c.hu1 (r_var (i := 0) c.B rfl rfl) r_str (by intro _ _; rfl)) (l_cons r_int (l_cons (r_bin f_div (r_var (i := 2) c.B rfl rfl) (r_var (i := 1) c.B rfl rfl)) l_nil))))
  (s_one (s_ret (r_bin f_mod (r_var (i := 2) c.B rfl rfl) (r_var (i := 1) c.B rfl rfl))))) s_nil))))
  (s_seq (s_par (i := 3) (j := 4) c.B c.cm rfl rfl (by decide) rfl rfl (l_cons (r_ix c.hu1 (r_var (i := 0) c.B rfl rfl) r_str (by intro _ _; rfl)) (l_cons (r_ix c.hu1 (r_var (i := 0) c.B rfl rfl) r_str (by intro _ _; rfl)) l_nil)) (c.B.swS rfl))
  (s_seq (s_asg (ws := []) (r_bin f_add (r_var (i := 3) c.B rfl rfl) r_int) (g_sub c.hu1 (r_var (i := 0) c.B rfl rfl) r_str) gSubF_ok)
  (s_seq (s_set (i := 5) c.B rfl rfl (c.cm.ki _) (r_bin f_add (r_bin f_mod (r_ix c.hu1 (r_var (i := 4) c.B rfl rfl) (r_bin f_mod (r_var (i := 3) c.B rfl rfl) (r_callB c.B f_len rfl G.f_len bt_len (l_cons (r_var (i := 4) c.B rfl rfl) l_nil))) (by intro _ _; rfl)) r_int) (r_bin f_mulT r_int (r_bin f_add (r_var (i := 3) c.B rfl rfl) r_int))))
  (s_seq (s_set (i := 5) c.B rfl rfl (c.cm.ki _) (r_bin f_mod (r_bin f_mulT (r_bin f_mod (r_var (i := 5) c.B rfl rfl) r_int) (r_bin f_add (r_bin f_mod (r_var (i := 5) c.B rfl rfl) r_int) r_int)) r_int))
  (s_seq (s_set (i := 5) c.B rfl rfl (c.cm.ki _) (r_bin f_mod (r_bin f_mulT (r_bin f_mod (r_bin f_add (r_bin f_mulT (r_var (i := 5) c.B rfl rfl) (r_var (i := 5) c.B rfl rfl)) (r_bin f_mulT r_int (r_var (i := 3) c.B rfl rfl))) r_int) r_int) r_int))
  (s_one (s_ret (r_bin f_mod (r_bin f_div (r_var (i := 5) c.B rfl rfl) r_int) (r_var (i := 1) c.B rfl rfl))))))))))
theorem ok__law_one {X : Cx} {W : WS} {k : Nat} {C : CallT} (G : Gs X.K X.mg) (Q : Gc X.prog X.w X.K X.mg X.base k C) (c : Cy X W N__law_one sc__law_one k) (po : PassesOwn (model X.prog X.w) X.A X.env X.xe) (fnc : ∀ x, X.fn x = true) (hst : X.stack = X.env :: X.outer) (hfr : X.env.frame = some X.env.locals) (hex : X.ex = []) : FSs X W (defBody st__law_one) (b__law_one C) :=
  (s_one (s_ret (r_ix c.hu1 (r_var (i := 1) c.B rfl rfl) (r_call c.B Q.c__law_draw c.rm c.tk rfl G.d__law_draw (l_cons (r_var (i := 0) c.B rfl rfl) (l_cons (r_callB c.B f_len rfl G.f_len bt_len (l_cons (r_var (i := 1) c.B rfl rfl) l_nil)) l_nil))) (by intro _ _; rfl))))
theorem ok__law_lamp {X : Cx} {W : WS} {k : Nat} {C : CallT} (G : Gs X.K X.mg) (Q : Gc X.prog X.w X.K X.mg X.base k C) (c : Cy X W N__law_lamp sc__law_lamp k) (po : PassesOwn (model X.prog X.w) X.A X.env X.xe) (fnc : ∀ x, X.fn x = true) (hst : X.stack = X.env :: X.outer) (hfr : X.env.frame = some X.env.locals) (hex : X.ex = []) : FSs X W (defBody st__law_lamp) (b__law_lamp C) :=
  (s_seq (s_set (i := 2) c.B rfl rfl (c.cm.ki _) (r_G (r_call c.B Q.c__law_one c.rm c.tk rfl G.d__law_one (l_cons (r_var (i := 0) c.B rfl rfl) (l_cons (r_lst (l_cons r_int (l_cons r_int (l_cons (r_bin f_add r_int (r_call c.B Q.c__law_draw c.rm c.tk rfl G.d__law_draw (l_cons (r_var (i := 0) c.B rfl rfl) (l_cons r_int l_nil)))) (l_cons (r_bin f_add r_int (r_call c.B Q.c__law_draw c.rm c.tk rfl G.d__law_draw (l_cons (r_var (i := 0) c.B rfl rfl) (l_cons r_int l_nil)))) (l_cons (r_bin f_add r_int (r_call c.B Q.c__law_draw c.rm c.tk rfl G.d__law_draw (l_cons (r_var (i := 0) c.B rfl rfl) (l_cons (r_var (i := 1) c.B rfl rfl) l_nil)))) (l_cons (r_var (i := 1) c.B rfl rfl) l_nil))))))) l_nil)))))
  (s_one (s_ret (r_tup (l_cons (r_G (r_call c.B Q.c__law_one c.rm c.tk rfl G.d__law_one (l_cons (r_var (i := 0) c.B rfl rfl) (l_cons (r_lst (l_cons r_str (l_cons r_str l_nil))) l_nil)))) (l_cons (r_var (i := 2) c.B rfl rfl) l_nil))))))
theorem ok__law_far_runs {X : Cx} {W : WS} {k : Nat} {C : CallT} (G : Gs X.K X.mg) (Q : Gc X.prog X.w X.K X.mg X.base k C) (c : Cy X W N__law_far_runs sc__law_far_runs k) (po : PassesOwn (model X.prog X.w) X.A X.env X.xe) (fnc : ∀ x, X.fn x = true) (hst : X.stack = X.env :: X.outer) (hfr : X.env.frame = some X.env.locals) (hex : X.ex = []) : FSs X W (defBody st__law_far_runs) (b__law_far_runs C) :=
  (s_seq (s_par3 (i := 2) (j := 3) (l := 4) c.B c.cm rfl rfl rfl (by decide) (by decide) (by decide) rfl rfl rfl (l_cons (r_lst l_nil) (l_cons (r_G (r_call c.B Q.c__law_one c.rm c.tk rfl G.d__law_one (l_cons (r_var (i := 0) c.B rfl rfl) (l_cons (r_lst (l_cons r_int (l_cons (r_call c.B Q.c__law_draw c.rm c.tk rfl G.d__law_draw (l_cons (r_var (i := 0) c.B rfl rfl) (l_cons r_int l_nil))) (l_cons (r_call c.B Q.c__law_draw c.rm c.tk rfl G.d__law_draw (l_cons (r_var (i := 0) c.B rfl rfl) (l_cons (r_bin f_pow r_int r_int) l_nil))) l_nil)))) l_nil)))) (l_cons (r_bin f_pow r_int r_int) l_nil))) rfl)
  (s_seq (s_for (ws := [5]) po c.B c.cm (i_rg1 c.B rfl G.f_range (l_cons (r_call c.B Q.c__law_draw c.rm c.tk rfl G.d__law_draw (l_cons (r_var (i := 0) c.B rfl rfl) (l_cons (r_bin f_add (r_var (i := 1) c.B rfl rfl) r_int) l_nil))) l_nil)) (g_nm (i := 5) c.B rfl rfl (c.cm.ki _) (by decide)) (s_seq (s_set (i := 6) c.B rfl rfl (c.cm.ki _) (r_G (r_call c.B Q.c__law_one c.rm c.tk rfl G.d__law_one (l_cons (r_var (i := 0) c.B rfl rfl) (l_cons (r_lst (l_cons r_int (l_cons r_int (l_cons (r_bin f_add r_int (r_call c.B Q.c__law_draw c.rm c.tk rfl G.d__law_draw (l_cons (r_var (i := 0) c.B rfl rfl) (l_cons r_int l_nil)))) (l_cons (r_bin f_add r_int (r_call c.B Q.c__law_draw c.rm c.tk rfl G.d__law_draw (l_cons (r_var (i := 0) c.B rfl rfl) (l_cons (r_bin f_pow r_int r_int) l_nil)))) (l_cons (r_bin f_pow r_int r_int) l_nil)))))) l_nil)))))
  (s_seq (s_set (i := 7) c.B rfl rfl (c.cm.ki _) (r_bin f_add r_int (r_callB c.B (f_min2 c.cm.calm) rfl G.f_min bt_min (l_cons (r_bin f_div (r_bin f_sub (r_var (i := 4) c.B rfl rfl) (r_var (i := 3) c.B rfl rfl)) (r_var (i := 6) c.B rfl rfl)) (l_cons (r_G (r_call c.B Q.c__law_one c.rm c.tk rfl G.d__law_one (l_cons (r_var (i := 0) c.B rfl rfl) (l_cons (r_lst (l_cons r_int (l_cons r_int (l_cons (r_call c.B Q.c__law_draw c.rm c.tk rfl G.d__law_draw (l_cons (r_var (i := 0) c.B rfl rfl) (l_cons r_int l_nil))) (l_cons (r_call c.B Q.c__law_draw c.rm c.tk rfl G.d__law_draw (l_cons (r_var (i := 0) c.B rfl rfl) (l_cons (r_bin f_pow r_int r_int) l_nil))) (l_cons (r_var (i := 4) c.B rfl rfl) l_nil)))))) l_nil)))) l_nil)))))
  (s_one (s_if (t_cmp f_le rfl (r_var (i := 3) c.B rfl rfl) (r_var (i := 4) c.B rfl rfl)) (s_seq (s_ex (r_m F.plainAttrs_list F.slot_list_append F.type_list_append m_append (r_var (i := 2) c.B rfl rfl) (l_cons (r_tup (l_cons (r_var (i := 3) c.B rfl rfl) (l_cons (r_if (t_cmp f_gt rfl (r_var (i := 7) c.B rfl rfl) r_int) (r_var (i := 6) c.B rfl rfl) r_int) (l_cons (r_var (i := 7) c.B rfl rfl) l_nil)))) l_nil)))
  (s_seq (s_set (i := 8) c.B rfl rfl (c.cm.ki _) (r_G (r_call c.B Q.c__law_one c.rm c.tk rfl G.d__law_one (l_cons (r_var (i := 0) c.B rfl rfl) (l_cons (r_lst (l_cons r_int (l_cons r_int (l_cons (r_bin f_add r_int (r_call c.B Q.c__law_draw c.rm c.tk rfl G.d__law_draw (l_cons (r_var (i := 0) c.B rfl rfl) (l_cons r_int l_nil)))) (l_cons (r_bin f_add r_int (r_call c.B Q.c__law_draw c.rm c.tk rfl G.d__law_draw (l_cons (r_var (i := 0) c.B rfl rfl) (l_cons (r_bin f_pow r_int r_int) l_nil)))) l_nil))))) l_nil)))))
  (s_one (s_set (i := 3) c.B rfl rfl (c.cm.ki _) (r_bin f_add (r_bin f_add (r_var (i := 3) c.B rfl rfl) (r_bin f_mulT (r_var (i := 6) c.B rfl rfl) (r_bin f_sub (r_var (i := 7) c.B rfl rfl) r_int))) (r_var (i := 8) c.B rfl rfl)))))) s_nil)))))
  (s_one (s_ret (r_callT c.B f_tup rfl G.f_tuple bt_tuple (l_cons (r_var (i := 2) c.B rfl rfl) l_nil))))))
theorem ok__law_log {X : Cx} {W : WS} {k : Nat} {C : CallT} (G : Gs X.K X.mg) (Q : Gc X.prog X.w X.K X.mg X.base k C) (c : Cy X W N__law_log sc__law_log k) (po : PassesOwn (model X.prog X.w) X.A X.env X.xe) (fnc : ∀ x, X.fn x = true) (hst : X.stack = X.env :: X.outer) (hfr : X.env.frame = some X.env.locals) (hex : X.ex = []) : FSs X W (defBody st__law_log) (b__law_log C) :=
  (s_seq (s_par (i := 3) (j := 4) c.B c.cm rfl rfl (by decide) rfl rfl (l_cons (r_lst l_nil) (l_cons (r_G (r_call c.B Q.c__law_one c.rm c.tk rfl G.d__law_one (l_cons (r_var (i := 0) c.B rfl rfl) (l_cons (r_lst (l_cons r_int (l_cons r_int (l_cons (r_call c.B Q.c__law_draw c.rm c.tk rfl G.d__law_draw (l_cons (r_var (i := 0) c.B rfl rfl) (l_cons (r_var (i := 2) c.B rfl rfl) l_nil))) l_nil)))) l_nil)))) l_nil)) (c.B.swS rfl))
  (s_seq (s_for (ws := [5]) po c.B c.cm (i_rg1 c.B rfl G.f_range (l_cons (r_call c.B Q.c__law_draw c.rm c.tk rfl G.d__law_draw (l_cons (r_var (i := 0) c.B rfl rfl) (l_cons (r_bin f_add (r_var (i := 1) c.B rfl rfl) r_int) l_nil))) l_nil)) (g_nm (i := 5) c.B rfl rfl (c.cm.ki _) (by decide)) (s_seq (s_set (i := 6) c.B rfl rfl (c.cm.ki _) (r_G (r_call c.B Q.c__law_one c.rm c.tk rfl G.d__law_one (l_cons (r_var (i := 0) c.B rfl rfl) (l_cons (r_lst (l_cons r_int (l_cons r_int (l_cons (r_bin f_add r_int (r_call c.B Q.c__law_draw c.rm c.tk rfl G.d__law_draw (l_cons (r_var (i := 0) c.B rfl rfl) (l_cons r_int l_nil)))) (l_cons (r_bin f_add r_int (r_call c.B Q.c__law_draw c.rm c.tk rfl G.d__law_draw (l_cons (r_var (i := 0) c.B rfl rfl) (l_cons (r_var (i := 2) c.B rfl rfl) l_nil)))) l_nil))))) l_nil)))))
  (s_seq (s_ex (r_m F.plainAttrs_list F.slot_list_append F.type_list_append m_append (r_var (i := 3) c.B rfl rfl) (l_cons (r_tup (l_cons (r_var (i := 4) c.B rfl rfl) (l_cons (r_bin f_add (r_var (i := 4) c.B rfl rfl) (r_var (i := 6) c.B rfl rfl)) l_nil))) l_nil)))
  (s_one (s_set (i := 4) c.B rfl rfl (c.cm.ki _) (r_bin f_add (r_bin f_add (r_var (i := 4) c.B rfl rfl) (r_var (i := 6) c.B rfl rfl)) (r_G (r_call c.B Q.c__law_one c.rm c.tk rfl G.d__law_one (l_cons (r_var (i := 0) c.B rfl rfl) (l_cons (r_lst (l_cons r_int (l_cons r_int (l_cons (r_bin f_add r_int (r_call c.B Q.c__law_draw c.rm c.tk rfl G.d__law_draw (l_cons (r_var (i := 0) c.B rfl rfl) (l_cons r_int l_nil)))) (l_cons (r_bin f_add r_int (r_call c.B Q.c__law_draw c.rm c.tk rfl G.d__law_draw (l_cons (r_var (i := 0) c.B rfl rfl) (l_cons (r_var (i := 2) c.B rfl rfl) l_nil)))) l_nil))))) l_nil))))))))))
  (s_one (s_ret (r_tmpT c.B c_tup rfl G.f_tuple bt_tuple (c_comp (own := [("part", 7)]) c.B c.cm (i_seq (r_var (i := 3) c.B rfl rfl)) ⟨rfl, by decide +kernel, by decide +kernel, by decide +kernel, by decide +kernel⟩ (fun s H C cl fp => have c1 := c.blk _ s H C cl fp; (g_nm (i := 7) c1.B rfl rfl (c1.cm.ki _) (by decide))) (fun s H C cl fp => have c1 := c.blk _ s H C cl fp; (ts_one (t_cmp f_le rfl (r_ix c1.hu1 (r_var (i := 7) c1.B rfl rfl) r_int (by intro _ _; rfl)) (r_bin f_mulT r_int (r_bin f_pow r_int r_int))))) (fun s H C cl fp => have c1 := c.blk _ s H C cl fp; (r_var (i := 7) c1.B rfl rfl))))))))
theorem ok__law_odd {X : Cx} {W : WS} {k : Nat} {C : CallT} (G : Gs X.K X.mg) (Q : Gc X.prog X.w X.K X.mg X.base k C) (c : Cy X W N__law_odd sc__law_odd k) (po : PassesOwn (model X.prog X.w) X.A X.env X.xe) (fnc : ∀ x, X.fn x = true) (hst : X.stack = X.env :: X.outer) (hfr : X.env.frame = some X.env.locals) (hex : X.ex = []) : FSs X W (defBody st__law_odd) (b__law_odd C) :=
  (s_seq (s_set (i := 1) c.B rfl rfl (c.cm.ki _) (r_lst (l_cons r_non (l_cons r_bl (l_cons r_bl (l_cons (r_un f_neg r_int) (l_cons r_int (l_cons r_int (l_cons r_int (l_cons (r_bin f_pow r_int r_int) (l_cons (r_bin f_add (r_bin f_pow r_int r_int) r_int) (l_cons (r_bin f_pow r_int r_int) (l_cons r_str (l_cons r_str (l_cons r_str (l_cons (r_tup l_nil) (l_cons (r_lst l_nil) (l_cons r_dct0 (l_cons (r_tup (l_cons r_int l_nil)) (l_cons (r_lst (l_cons r_int l_nil)) l_nil))))))))))))))))))))
  (s_seq (s_set (i := 1) c.B rfl rfl (c.cm.ki _) (r_bin f_add (r_var (i := 1) c.B rfl rfl) (r_lst (l_cons (r_tup (l_cons r_bl l_nil)) (l_cons (r_tup (l_cons r_int (l_cons r_int l_nil))) (l_cons (r_tup (l_cons r_int (l_cons r_int (l_cons r_int l_nil)))) (l_cons (r_tup (l_cons r_str (l_cons r_int l_nil))) (l_cons r_str (l_cons (r_dct (.cons r_str r_int .nil)) l_nil)))))))))
  (s_one (s_ret (r_G (r_call c.B Q.c__law_one c.rm c.tk rfl G.d__law_one (l_cons (r_var (i := 0) c.B rfl rfl) (l_cons (r_bin f_add (r_var (i := 1) c.B rfl rfl) (r_lst (l_cons (r_tup (l_cons (r_tup (l_cons r_str (l_cons r_int l_nil))) l_nil)) l_nil))) l_nil))))))))
theorem ok__law_number {X : Cx} {W : WS} {k : Nat} {C : CallT} (G : Gs X.K X.mg) (Q : Gc X.prog X.w X.K X.mg X.base k C) (c : Cy X W N__law_number sc__law_number k) (po : PassesOwn (model X.prog X.w) X.A X.env X.xe) (fnc : ∀ x, X.fn x = true) (hst : X.stack = X.env :: X.outer) (hfr : X.env.frame = some X.env.locals) (hex : X.ex = []) : FSs X W (defBody st__law_number) (b__law_number C) :=
  (s_seq (s_if (FW.fb (t_or (t_cmp (f_eq c.hu) rfl (r_var (i := 0) c.B rfl rfl) r_str) (t_or (t_cmp f_gt rfl (r_callB c.B f_len rfl G.f_len bt_len (l_cons (r_var (i := 0) c.B rfl rfl) l_nil)) r_int) (t_or1 (t_cmp (f_ne c.hu) rfl (r_comp (c_comp (own := [("sign", 1)]) c.B c.cm (i_seq (r_var (i := 0) c.B rfl rfl)) ⟨rfl, by decide +kernel, by decide +kernel, by decide +kernel, by decide +kernel⟩ (fun s H C cl fp => have c1 := c.blk _ s H C cl fp; (g_nm (i := 1) c1.B rfl rfl (c1.cm.ki _) (by decide))) (fun s H C cl fp => have c1 := c.blk _ s H C cl fp; (ts_one (t_cmp f_notIn rfl (r_var (i := 1) c1.B rfl rfl) r_str))) (fun s H C cl fp => have c1 := c.blk _ s H C cl fp; (r_var (i := 1) c1.B rfl rfl)))) (r_lst l_nil)))))) (s_one (s_ret r_non)) s_nil)
  (s_one (s_ret (r_if (FW.fb (t_and (t_cmp (f_eq c.hu) rfl (r_ix c.hu1 (r_var (i := 0) c.B rfl rfl) r_int (by intro _ _; rfl)) r_str) (t_and1 (t_cmp (f_ne c.hu) rfl (r_var (i := 0) c.B rfl rfl) r_str)))) r_non (r_callT c.B f_int rfl G.f_int bt_int (l_cons (r_var (i := 0) c.B rfl rfl) l_nil))))))
theorem ok__law_spaced {X : Cx} {W : WS} {k : Nat} {C : CallT} (G : Gs X.K X.mg) (Q : Gc X.prog X.w X.K X.mg X.base k C) (c : Cy X W N__law_spaced sc__law_spaced k) (po : PassesOwn (model X.prog X.w) X.A X.env X.xe) (fnc : ∀ x, X.fn x = true) (hst : X.stack = X.env :: X.outer) (hfr : X.env.frame = some X.env.locals) (hex : X.ex = []) : FSs X W (defBody st__law_spaced) (b__law_spaced C) :=
  (s_one (s_ret (r_join r_str (c_comp (own := [("item", 1)]) c.B c.cm (i_seq (r_var (i := 0) c.B rfl rfl)) ⟨rfl, by decide +kernel, by decide +kernel, by decide +kernel, by decide +kernel⟩ (fun s H C cl fp => have c1 := c.blk _ s H C cl fp; (g_nm (i := 1) c1.B rfl rfl (c1.cm.ki _) (by decide))) (fun s H C cl fp => ts_nil) (fun s H C cl fp => have c1 := c.blk _ s H C cl fp; (r_callT c1.B f_str rfl G.f_str bt_str (l_cons (r_var (i := 1) c1.B rfl rfl) l_nil)))))))
theorem ok__law_is_run {X : Cx} {W : WS} {k : Nat} {C : CallT} (G : Gs X.K X.mg) (Q : Gc X.prog X.w X.K X.mg X.base k C) (c : Cy X W N__law_is_run sc__law_is_run k) (po : PassesOwn (model X.prog X.w) X.A X.env X.xe) (fnc : ∀ x, X.fn x = true) (hst : X.stack = X.env :: X.outer) (hfr : X.env.frame = some X.env.locals) (hex : X.ex = []) : FSs X W (defBody st__law_is_run) (b__law_is_run C) :=
  (s_seq (s_if (FW.fb (t_or (t_not (t_tru (r_callB c.B f_isI rfl G.f_isinstance bt_isinstance (l_cons (r_var (i := 0) c.B rfl rfl) (l_cons (r_ty c.B rfl G.f_tuple bt_tuple) l_nil))))) (t_or (t_cmp (f_ne c.hu) rfl (r_callB c.B f_len rfl G.f_len bt_len (l_cons (r_var (i := 0) c.B rfl rfl) l_nil)) r_int) (t_or1 (t_cmp (f_ne c.hu) rfl (r_comp (c_comp (own := [("k", 4)]) c.B c.cm (i_seq (r_var (i := 0) c.B rfl rfl)) ⟨rfl, by decide +kernel, by decide +kernel, by decide +kernel, by decide +kernel⟩ (fun s H C cl fp => have c1 := c.blk _ s H C cl fp; (g_nm (i := 4) c1.B rfl rfl (c1.cm.ki _) (by decide))) (fun s H C cl fp => have c1 := c.blk _ s H C cl fp; (ts_one (t_not (t_tru (r_call c1.B Q.c__law_whole c1.rm c1.tk rfl G.d__law_whole (l_cons (r_var (i := 4) c1.B rfl rfl) (l_cons r_int (l_cons (r_bin f_add (r_bin f_pow r_int r_int) r_int) l_nil)))))))) (fun s H C cl fp => have c1 := c.blk _ s H C cl fp; (r_var (i := 4) c1.B rfl rfl)))) (r_lst l_nil)))))) (s_one (s_ret r_bl)) s_nil)
  (s_seq (s_asg (ws := [1, 2, 3]) (r_var (i := 0) c.B rfl rfl) (g_tup c.B c.cm (gs_cons (g_nm (i := 1) c.B rfl rfl (c.cm.ki _) (by decide)) (gs_cons (g_nm (i := 2) c.B rfl rfl (c.cm.ki _) (by decide)) (gs_cons (g_nm (i := 3) c.B rfl rfl (c.cm.ki _) (by decide)) gs_nil)))) (gTp_ok (gsCons_ok (gsCons_ok (gsCons_ok gsNil_ok)))))
  (s_seq (s_if (FW.fb (t_or (t_cmp (f_eq c.hu) rfl (r_var (i := 2) c.B rfl rfl) r_int) (t_or (t_cmp (f_eq c.hu) rfl (r_var (i := 3) c.B rfl rfl) r_int) (t_or1 (FW.fb (t_and (t_cmp (f_eq c.hu) rfl (r_var (i := 3) c.B rfl rfl) r_int) (t_and1 (t_cmp f_gt rfl (r_var (i := 2) c.B rfl rfl) r_int)))))))) (s_one (s_ret r_bl)) s_nil)
  (s_one (s_ret (r_cmp f_le rfl (r_bin f_add (r_var (i := 1) c.B rfl rfl) (r_bin f_mulT (r_var (i := 2) c.B rfl rfl) (r_bin f_sub (r_var (i := 3) c.B rfl rfl) r_int))) (r_bin f_pow r_int r_int)))))))
theorem ok__law_whole {X : Cx} {W : WS} {k : Nat} {C : CallT} (G : Gs X.K X.mg) (Q : Gc X.prog X.w X.K X.mg X.base k C) (c : Cy X W N__law_whole sc__law_whole k) (po : PassesOwn (model X.prog X.w) X.A X.env X.xe) (fnc : ∀ x, X.fn x = true) (hst : X.stack = X.env :: X.outer) (hfr : X.env.frame = some X.env.locals) (hex : X.ex = []) : FSs X W (defBody st__law_whole) (b__law_whole C) :=
  (s_one (s_ret (r_and (r_callB c.B f_isI rfl G.f_isinstance bt_isinstance (l_cons (r_var (i := 0) c.B rfl rfl) (l_cons (r_ty c.B rfl G.f_int bt_int) l_nil))) (r_and (r_not (r_callB c.B f_isI rfl G.f_isinstance bt_isinstance (l_cons (r_var (i := 0) c.B rfl rfl) (l_cons (r_ty c.B rfl G.f_bool bt_bool) l_nil)))) (r_one (r_chain f_le f_le rfl (r_var (i := 1) c.B rfl rfl) (r_var (i := 0) c.B rfl rfl) (r_var (i := 2) c.B rfl rfl)))))))
theorem ok__law_is_part {X : Cx} {W : WS} {k : Nat} {C : CallT} (G : Gs X.K X.mg) (Q : Gc X.prog X.w X.K X.mg X.base k C) (c : Cy X W N__law_is_part sc__law_is_part k) (po : PassesOwn (model X.prog X.w) X.A X.env X.xe) (fnc : ∀ x, X.fn x = true) (hst : X.stack = X.env :: X.outer) (hfr : X.env.frame = some X.env.locals) (hex : X.ex = []) : FSs X W (defBody st__law_is_part) (b__law_is_part C) :=
  (s_seq (s_if (FW.fb (t_or (t_not (t_tru (r_callB c.B f_isI rfl G.f_isinstance bt_isinstance (l_cons (r_var (i := 0) c.B rfl rfl) (l_cons (r_ty c.B rfl G.f_tuple bt_tuple) l_nil))))) (t_or (t_cmp (f_ne c.hu) rfl (r_callB c.B f_len rfl G.f_len bt_len (l_cons (r_var (i := 0) c.B rfl rfl) l_nil)) r_int) (t_or1 (t_cmp (f_ne c.hu) rfl (r_comp (c_comp (own := [("k", 1)]) c.B c.cm (i_seq (r_var (i := 0) c.B rfl rfl)) ⟨rfl, by decide +kernel, by decide +kernel, by decide +kernel, by decide +kernel⟩ (fun s H C cl fp => have c1 := c.blk _ s H C cl fp; (g_nm (i := 1) c1.B rfl rfl (c1.cm.ki _) (by decide))) (fun s H C cl fp => have c1 := c.blk _ s H C cl fp; (ts_one (t_not (t_tru (r_call c1.B Q.c__law_whole c1.rm c1.tk rfl G.d__law_whole (l_cons (r_var (i := 1) c1.B rfl rfl) (l_cons r_int (l_cons (r_bin f_mulT r_int (r_bin f_pow r_int r_int)) l_nil)))))))) (fun s H C cl fp => have c1 := c.blk _ s H C cl fp; (r_var (i := 1) c1.B rfl rfl)))) (r_lst l_nil)))))) (s_one (s_ret r_bl)) s_nil)
  (s_one (s_ret (r_cmp f_lt rfl (r_ix c.hu1 (r_var (i := 0) c.B rfl rfl) r_int (by intro _ _; rfl)) (r_ix c.hu1 (r_var (i := 0) c.B rfl rfl) r_int (by intro _ _; rfl))))))
theorem ok__law_lamps_text {X : Cx} {W : WS} {k : Nat} {C : CallT} (G : Gs X.K X.mg) (Q : Gc X.prog X.w X.K X.mg X.base k C) (c : Cy X W N__law_lamps_text sc__law_lamps_text k) (po : PassesOwn (model X.prog X.w) X.A X.env X.xe) (fnc : ∀ x, X.fn x = true) (hst : X.stack = X.env :: X.outer) (hfr : X.env.frame = some X.env.locals) (hex : X.ex = []) : FSs X W (defBody st__law_lamps_text) (b__law_lamps_text C) :=
  (s_one (s_ret (r_if (t_cmp (f_ne c.hu) rfl (r_var (i := 0) c.B rfl rfl) (r_tup l_nil)) (r_join r_str (c_comp (own := [("lamp", 1)]) c.B c.cm (i_seq (r_var (i := 0) c.B rfl rfl)) ⟨rfl, by decide +kernel, by decide +kernel, by decide +kernel, by decide +kernel⟩ (fun s H C cl fp => have c1 := c.blk _ s H C cl fp; (g_nm (i := 1) c1.B rfl rfl (c1.cm.ki _) (by decide))) (fun s H C cl fp => ts_nil) (fun s H C cl fp => have c1 := c.blk _ s H C cl fp; (r_bin f_add (r_bin f_add (r_ix c1.hu1 (r_var (i := 1) c1.B rfl rfl) r_int (by intro _ _; rfl)) r_str) (r_callT c1.B f_str rfl G.f_str bt_str (l_cons (r_ix c1.hu1 (r_var (i := 1) c1.B rfl rfl) r_int (by intro _ _; rfl)) l_nil)))))) r_str)))
theorem ok__law_log_text {X : Cx} {W : WS} {k : Nat} {C : CallT} (G : Gs X.K X.mg) (Q : Gc X.prog X.w X.K X.mg X.base k C) (c : Cy X W N__law_log_text sc__law_log_text k) (po : PassesOwn (model X.prog X.w) X.A X.env X.xe) (fnc : ∀ x, X.fn x = true) (hst : X.stack = X.env :: X.outer) (hfr : X.env.frame = some X.env.locals) (hex : X.ex = []) : FSs X W (defBody st__law_log_text) (b__law_log_text C) :=
  (s_one (s_ret (r_if (t_cmp (f_ne c.hu) rfl (r_var (i := 0) c.B rfl rfl) (r_tup l_nil)) (r_join r_str (c_comp (own := [("on", 1), ("off", 2)]) c.B c.cm (i_seq (r_var (i := 0) c.B rfl rfl)) ⟨rfl, by decide +kernel, by decide +kernel, by decide +kernel, by decide +kernel⟩ (fun s H C cl fp => have c1 := c.blk _ s H C cl fp; (g_tup c1.B c1.cm (gs_cons (g_nm (i := 1) c1.B rfl rfl (c1.cm.ki _) (by decide)) (gs_cons (g_nm (i := 2) c1.B rfl rfl (c1.cm.ki _) (by decide)) gs_nil)))) (fun s H C cl fp => ts_nil) (fun s H C cl fp => have c1 := c.blk _ s H C cl fp; (r_bin f_add (r_bin f_add (r_callT c1.B f_str rfl G.f_str bt_str (l_cons (r_var (i := 1) c1.B rfl rfl) l_nil)) r_str) (r_callT c1.B f_str rfl G.f_str bt_str (l_cons (r_var (i := 2) c1.B rfl rfl) l_nil)))))) r_str)))
theorem ok__law_runs_text {X : Cx} {W : WS} {k : Nat} {C : CallT} (G : Gs X.K X.mg) (Q : Gc X.prog X.w X.K X.mg X.base k C) (c : Cy X W N__law_runs_text sc__law_runs_text k) (po : PassesOwn (model X.prog X.w) X.A X.env X.xe) (fnc : ∀ x, X.fn x = true) (hst : X.stack = X.env :: X.outer) (hfr : X.env.frame = some X.env.locals) (hex : X.ex = []) : FSs X W (defBody st__law_runs_text) (b__law_runs_text C) :=
  (s_seq (s_set (i := 1) c.B rfl rfl (c.cm.ki _) (r_lst l_nil))
  (s_seq (s_for (ws := [2, 3, 4]) po c.B c.cm (i_seq (r_var (i := 0) c.B rfl rfl)) (g_tup c.B c.cm (gs_cons (g_nm (i := 2) c.B rfl rfl (c.cm.ki _) (by decide)) (gs_cons (g_nm (i := 3) c.B rfl rfl (c.cm.ki _) (by decide)) (gs_cons (g_nm (i := 4) c.B rfl rfl (c.cm.ki _) (by decide)) gs_nil)))) (s_one (s_ex (r_m F.plainAttrs_list F.slot_list_append F.type_list_append m_append (r_var (i := 1) c.B rfl rfl) (l_cons (r_bin f_add (r_callT c.B f_str rfl G.f_str bt_str (l_cons (r_var (i := 2) c.B rfl rfl) l_nil)) (r_if (t_cmp f_gt rfl (r_var (i := 4) c.B rfl rfl) r_int) (r_bin f_add (r_bin f_add (r_bin f_add r_str (r_callT c.B f_str rfl G.f_str bt_str (l_cons (r_var (i := 3) c.B rfl rfl) l_nil))) r_str) (r_callT c.B f_str rfl G.f_str bt_str (l_cons (r_var (i := 4) c.B rfl rfl) l_nil))) r_str)) l_nil)))))
  (s_one (s_ret (r_if (t_cmp (f_ne c.hu) rfl (r_var (i := 0) c.B rfl rfl) (r_tup l_nil)) (r_m F.plainAttrs_str F.slot_str_join F.type_str_join m_join r_str (l_cons (r_var (i := 1) c.B rfl rfl) l_nil)) r_str)))))
theorem ok__law_item {X : Cx} {W : WS} {k : Nat} {C : CallT} (G : Gs X.K X.mg) (Q : Gc X.prog X.w X.K X.mg X.base k C) (c : Cy X W N__law_item sc__law_item k) (po : PassesOwn (model X.prog X.w) X.A X.env X.xe) (fnc : ∀ x, X.fn x = true) (hst : X.stack = X.env :: X.outer) (hfr : X.env.frame = some X.env.locals) (hex : X.ex = []) : FSs X W (defBody st__law_item) (b__law_item C) :=
  (s_seq (s_if (t_cmp (f_eq c.hu) rfl (r_var (i := 0) c.B rfl rfl) r_int) (s_seq (s_set (i := 2) c.B rfl rfl (c.cm.ki _) (r_m F.plainAttrs_str F.slot_str_split F.type_str_split m_split (r_var (i := 1) c.B rfl rfl) (l_cons r_str l_nil)))
  (s_seq (s_set (i := 3) c.B rfl rfl (c.cm.ki _) (r_if (t_cmp (f_eq c.hu) rfl (r_callB c.B f_len rfl G.f_len bt_len (l_cons (r_var (i := 2) c.B rfl rfl) l_nil)) r_int) (r_call c.B Q.c__law_number c.rm c.tk rfl G.d__law_number (l_cons (r_ix c.hu1 (r_var (i := 2) c.B rfl rfl) r_int (by intro _ _; rfl)) l_nil)) r_non))
  (s_seq (s_set (i := 4) c.B rfl rfl (c.cm.ki _) (r_and (r_cmp f_notN rfl (r_var (i := 3) c.B rfl rfl) r_non) (r_and (r_chain f_le f_le rfl r_int (r_var (i := 3) c.B rfl rfl) (r_bin f_pow r_int r_int)) (r_one (r_cmp f_in rfl (r_ix c.hu1 (r_var (i := 2) c.B rfl rfl) r_int (by intro _ _; rfl)) (r_lst (l_cons r_str (l_cons r_str l_nil))))))))
  (s_one (s_ret (r_if (t_tru (r_var (i := 4) c.B rfl rfl)) (r_tup (l_cons (r_ix c.hu1 (r_var (i := 2) c.B rfl rfl) r_int (by intro _ _; rfl)) (l_cons (r_var (i := 3) c.B rfl rfl) l_nil))) r_non)))))) s_nil)
  (s_seq (s_if (t_cmp (f_eq c.hu) rfl (r_var (i := 0) c.B rfl rfl) r_int) (s_seq (s_set (i := 5) c.B rfl rfl (c.cm.ki _) (r_tmpT c.B c_tup rfl G.f_tuple bt_tuple (c_comp (own := [("bit", 8)]) c.B c.cm (i_seq (r_m F.plainAttrs_str F.slot_str_split F.type_str_split m_split (r_var (i := 1) c.B rfl rfl) (l_cons r_str l_nil))) ⟨rfl, by decide +kernel, by decide +kernel, by decide +kernel, by decide +kernel⟩ (fun s H C cl fp => have c1 := c.blk _ s H C cl fp; (g_nm (i := 8) c1.B rfl rfl (c1.cm.ki _) (by decide))) (fun s H C cl fp => ts_nil) (fun s H C cl fp => have c1 := c.blk _ s H C cl fp; (r_call c1.B Q.c__law_number c1.rm c1.tk rfl G.d__law_number (l_cons (r_var (i := 8) c1.B rfl rfl) l_nil))))))
  (s_one (s_ret (r_if (FW.fb (t_and (t_cmp f_notIn rfl r_non (r_var (i := 5) c.B rfl rfl)) (t_and1 (t_tru (r_call c.B Q.c__law_is_part c.rm c.tk rfl G.d__law_is_part (l_cons (r_var (i := 5) c.B rfl rfl) l_nil)))))) (r_var (i := 5) c.B rfl rfl) r_non)))) s_nil)
  (s_seq (s_set (i := 2) c.B rfl rfl (c.cm.ki _) (r_m F.plainAttrs_str F.slot_str_split F.type_str_split m_split (r_var (i := 1) c.B rfl rfl) (l_cons r_str l_nil)))
  (s_seq (s_if (t_cmp (f_eq c.hu) rfl (r_callB c.B f_len rfl G.f_len bt_len (l_cons (r_var (i := 2) c.B rfl rfl) l_nil)) r_int) (s_one (s_set (i := 2) c.B rfl rfl (c.cm.ki _) (r_lst (l_cons (r_var (i := 1) c.B rfl rfl) (l_cons r_str l_nil))))) s_nil)
  (s_seq (s_setLc (i := 6) (own := [("bit", 8)]) c.B c.cm rfl rfl (i_seq (r_m F.plainAttrs_str F.slot_str_split F.type_str_split m_split (r_ix c.hu1 (r_var (i := 2) c.B rfl rfl) r_int (by intro _ _; rfl)) (l_cons r_str l_nil))) ⟨rfl, by decide +kernel, by decide +kernel, by decide +kernel, by decide +kernel⟩ rfl (fun s H C cl fp => have c1 := c.blk _ s H C cl fp; (g_nm (i := 8) c1.B rfl rfl (c1.cm.ki _) (by decide))) (fun s H C cl fp => ts_nil) (fun s H C cl fp => have c1 := c.blk _ s H C cl fp; (r_call c1.B Q.c__law_number c1.rm c1.tk rfl G.d__law_number (l_cons (r_var (i := 8) c1.B rfl rfl) l_nil))))
  (s_seq (s_set (i := 7) c.B rfl rfl (c.cm.ki _) (r_callT c.B f_tup rfl G.f_tuple bt_tuple (l_cons (r_bin f_add (r_lst (l_cons (r_call c.B Q.c__law_number c.rm c.tk rfl G.d__law_number (l_cons (r_ix c.hu1 (r_var (i := 2) c.B rfl rfl) r_int (by intro _ _; rfl)) l_nil)) l_nil)) (r_var (i := 6) c.B rfl rfl)) l_nil)))
  (s_seq (s_if (FW.fb (t_or (t_cmp f_gt rfl (r_callB c.B f_len rfl G.f_len bt_len (l_cons (r_var (i := 2) c.B rfl rfl) l_nil)) r_int) (t_or (t_cmp f_in rfl r_non (r_var (i := 7) c.B rfl rfl)) (t_or (t_not (t_tru (r_call c.B Q.c__law_is_run c.rm c.tk rfl G.d__law_is_run (l_cons (r_var (i := 7) c.B rfl rfl) l_nil)))) (t_or1 (FW.fb (t_and (t_cmp f_in rfl r_str (r_var (i := 1) c.B rfl rfl)) (t_and1 (t_cmp f_lt rfl (r_ix c.hu1 (r_var (i := 7) c.B rfl rfl) r_int (by intro _ _; rfl)) r_int))))))))) (s_one (s_ret r_non)) s_nil)
  (s_one (s_ret (r_var (i := 7) c.B rfl rfl))))))))))
theorem ok__law_read {X : Cx} {W : WS} {k : Nat} {C : CallT} (G : Gs X.K X.mg) (Q : Gc X.prog X.w X.K X.mg X.base k C) (c : Cy X W N__law_read sc__law_read k) (po : PassesOwn (model X.prog X.w) X.A X.env X.xe) (fnc : ∀ x, X.fn x = true) (hst : X.stack = X.env :: X.outer) (hfr : X.env.frame = some X.env.locals) (hex : X.ex = []) : FSs X W (defBody st__law_read) (b__law_read C) :=
  (s_seq (s_par (i := 2) (j := 3) c.B c.cm rfl rfl (by decide) rfl rfl (l_cons (r_lst l_nil) (l_cons (r_un f_neg r_int) l_nil)) (c.B.swS rfl))
  (s_seq (s_for (ws := [4, 5]) po c.B c.cm (i_enA c.B rfl G.f_enumerate (l_cons (r_if (t_cmp (f_eq c.hu) rfl (r_var (i := 1) c.B rfl rfl) r_str) (r_lst l_nil) (r_m F.plainAttrs_str F.slot_str_split F.type_str_split m_split (r_var (i := 1) c.B rfl rfl) (l_cons r_str l_nil))) l_nil)) (g_tup c.B c.cm (gs_cons (g_nm (i := 4) c.B rfl rfl (c.cm.ki _) (by decide)) (gs_cons (g_nm (i := 5) c.B rfl rfl (c.cm.ki _) (by decide)) gs_nil))) (s_seq (s_set (i := 6) c.B rfl rfl (c.cm.ki _) (r_call c.B Q.c__law_item c.rm c.tk rfl G.d__law_item (l_cons (r_var (i := 0) c.B rfl rfl) (l_cons (r_var (i := 5) c.B rfl rfl) l_nil))))
  (s_seq (s_if (FW.fb (t_or (t_cmp f_isN rfl (r_var (i := 6) c.B rfl rfl) r_non) (t_or1 (t_cmp f_ge rfl (r_var (i := 4) c.B rfl rfl) (r_ix c.hu1 (r_lst (l_cons r_int (l_cons r_int (l_cons r_int l_nil)))) (r_var (i := 0) c.B rfl rfl) (by intro _ _; rfl)))))) (s_one (s_ret (r_lst (l_cons (r_var (i := 4) c.B rfl rfl) l_nil)))) s_nil)
  (s_seq (s_if (FW.fb (t_and (t_cmp f_gt rfl (r_var (i := 0) c.B rfl rfl) r_int) (t_and1 (t_cmp f_le rfl (r_ix c.hu1 (r_var (i := 6) c.B rfl rfl) r_int (by intro _ _; rfl)) (r_var (i := 3) c.B rfl rfl))))) (s_one (s_ret (r_lst (l_cons (r_var (i := 4) c.B rfl rfl) l_nil)))) s_nil)
  (s_seq (s_if (t_cmp f_gt rfl (r_var (i := 0) c.B rfl rfl) r_int) (s_one (s_set (i := 3) c.B rfl rfl (c.cm.ki _) (r_if (t_cmp (f_eq c.hu) rfl (r_var (i := 0) c.B rfl rfl) r_int) (r_ix c.hu1 (r_var (i := 6) c.B rfl rfl) r_int (by intro _ _; rfl)) (r_bin f_add (r_ix c.hu1 (r_var (i := 6) c.B rfl rfl) r_int (by intro _ _; rfl)) (r_bin f_mulT (r_ix c.hu1 (r_var (i := 6) c.B rfl rfl) r_int (by intro _ _; rfl)) (r_bin f_sub (r_ix c.hu1 (r_var (i := 6) c.B rfl rfl) r_int (by intro _ _; rfl)) r_int)))))) s_nil)
  (s_one (s_ex (r_m F.plainAttrs_list F.slot_list_append F.type_list_append m_append (r_var (i := 2) c.B rfl rfl) (l_cons (r_var (i := 6) c.B rfl rfl) l_nil)))))))))
  (s_one (s_ret (r_callT c.B f_tup rfl G.f_tuple bt_tuple (l_cons (r_var (i := 2) c.B rfl rfl) l_nil))))))
theorem ok__law_told {X : Cx} {W : WS} {k : Nat} {C : CallT} (G : Gs X.K X.mg) (Q : Gc X.prog X.w X.K X.mg X.base k C) (c : Cy X W N__law_told sc__law_told k) (po : PassesOwn (model X.prog X.w) X.A X.env X.xe) (fnc : ∀ x, X.fn x = true) (hst : X.stack = X.env :: X.outer) (hfr : X.env.frame = some X.env.locals) (hex : X.ex = []) : FSs X W (defBody st__law_told) (b__law_told C) :=
  (s_seq (s_set (i := 2) c.B rfl rfl (c.cm.ki _) r_non)
  (s_seq (s_tryAs (i := 3) c.B c.cm hst hfr rfl rfl ⟨c.B.gl rfl, by decide, .inl G.g_LampError⟩ c.tk (selOk_of G.x G.xn "LampError") (fun w pn xe tk pob => have cb := c.tr w pn xe tk; (s_one (s_if (t_cmp (f_eq cb.hu) rfl (r_var (i := 0) cb.B rfl rfl) r_int) (s_one (s_set (i := 2) cb.B rfl rfl (cb.cm.ki _) (r_call cb.B Q.c_parse_lamps cb.rm cb.tk rfl G.d_parse_lamps (l_cons (r_var (i := 1) cb.B rfl rfl) l_nil)))) (s_one (s_set (i := 2) cb.B rfl rfl (cb.cm.ki _) (r_if (t_cmp (f_eq cb.hu) rfl (r_var (i := 0) cb.B rfl rfl) r_int) (r_call cb.B Q.c_parse_log cb.rm cb.tk rfl G.d_parse_log (l_cons (r_var (i := 1) cb.B rfl rfl) l_nil)) (r_call cb.B Q.c_parse_motions cb.rm cb.tk rfl G.d_parse_motions (l_cons (r_var (i := 1) cb.B rfl rfl) l_nil)))))))) (fun a oe cls d pn yx hz hd => have ch := c.suite a ((a, oe) :: pn); (s_seq (s_set (i := 4) ch.B rfl rfl (c.cm.kx (by decide)) (r_and (r_isX ch.B hz hd (isOk_of G.x G.xn) (i := 3) rfl rfl rfl G.f_isinstance bt_isinstance (r_ty ch.B rfl G.f_ValueError bt_ValueError)) (r_one (r_not (r_isX ch.B hz hd (isOk_of G.x G.xn) (i := 3) rfl rfl rfl G.f_isinstance bt_isinstance (r_tup (l_cons (r_glo (x := "BadLamp") ch.B rfl G.g_BadLamp) (l_cons (r_glo (x := "BadLog") ch.B rfl G.g_BadLog) (l_cons (r_glo (x := "BadMotions") ch.B rfl G.g_BadMotions) (l_cons (r_glo (x := "NoIndex") ch.B rfl G.g_NoIndex) l_nil))))))))))
  (s_one (s_set (i := 2) ch.B rfl rfl (c.cm.kx (by decide)) (r_if (FW.fb (t_and (t_tru (r_var (i := 4) ch.B rfl rfl)) (t_and1 (t_tru (r_isX ch.B hz hd (isOk_of G.x G.xn) (i := 3) rfl rfl rfl G.f_isinstance bt_isinstance (r_glo (x := "BadText") ch.B rfl G.g_BadText)))))) (r_lst (l_cons (r_xf (f := "index") ch.B hz hd (isOk_of G.x G.xn) (i := 3) rfl rfl) l_nil)) r_str))))))
  (s_one (s_ret (r_var (i := 2) c.B rfl rfl)))))
theorem ok__law_changed {X : Cx} {W : WS} {k : Nat} {C : CallT} (G : Gs X.K X.mg) (Q : Gc X.prog X.w X.K X.mg X.base k C) (c : Cy X W N__law_changed sc__law_changed k) (po : PassesOwn (model X.prog X.w) X.A X.env X.xe) (fnc : ∀ x, X.fn x = true) (hst : X.stack = X.env :: X.outer) (hfr : X.env.frame = some X.env.locals) (hex : X.ex = []) : FSs X W (defBody st__law_changed) (b__law_changed C) :=
  (s_seq (s_par (i := 2) (j := 3) c.B c.cm rfl rfl (by decide) rfl rfl (l_cons (r_call c.B Q.c__law_draw c.rm c.tk rfl G.d__law_draw (l_cons (r_var (i := 0) c.B rfl rfl) (l_cons (r_bin f_add (r_callB c.B f_len rfl G.f_len bt_len (l_cons (r_var (i := 1) c.B rfl rfl) l_nil)) r_int) l_nil))) (l_cons (r_m F.plainAttrs_str F.slot_str_split F.type_str_split m_split (r_var (i := 1) c.B rfl rfl) (l_cons r_str l_nil)) l_nil)) (c.B.swS rfl))
  (s_seq (s_par (i := 4) (j := 5) c.B c.cm rfl rfl (by decide) rfl rfl (l_cons (r_call c.B Q.c__law_draw c.rm c.tk rfl G.d__law_draw (l_cons (r_var (i := 0) c.B rfl rfl) (l_cons (r_bin f_add (r_callB c.B f_len rfl G.f_len bt_len (l_cons (r_var (i := 3) c.B rfl rfl) l_nil)) r_int) l_nil))) (l_cons (r_G (r_call c.B Q.c__law_one c.rm c.tk rfl G.d__law_one (l_cons (r_var (i := 0) c.B rfl rfl) (l_cons (r_lst (l_cons r_str (l_cons r_str (l_cons r_str (l_cons r_str (l_cons r_str (l_cons r_str (l_cons r_str (l_cons r_str (l_cons r_str (l_cons r_str l_nil))))))))))) l_nil)))) l_nil)) (c.B.swS rfl))
  (s_seq (s_set (i := 6) c.B rfl rfl (c.cm.ki _) (r_lst (l_cons r_str (l_cons r_str (l_cons r_str (l_cons r_str (l_cons r_str (l_cons r_str (l_cons r_str (l_cons r_str (l_cons r_str (l_cons r_str (l_cons (r_bin f_mulT r_str r_int) l_nil)))))))))))))
  (s_seq (s_set (i := 6) c.B rfl rfl (c.cm.ki _) (r_bin f_add (r_var (i := 6) c.B rfl rfl) (r_lst (l_cons r_str (l_cons r_str (l_cons r_str (l_cons r_str (l_cons r_str (l_cons r_str l_nil)))))))))
  (s_seq (s_set (i := 7) c.B rfl rfl (c.cm.ki _) (r_G (r_call c.B Q.c__law_one c.rm c.tk rfl G.d__law_one (l_cons (r_var (i := 0) c.B rfl rfl) (l_cons (r_bin f_add (r_bin f_add (r_var (i := 3) c.B rfl rfl) (r_var (i := 6) c.B rfl rfl)) (r_lst (l_cons r_str l_nil))) l_nil)))))
  (s_seq (s_set (i := 8) c.B rfl rfl (c.cm.ki _) (r_lst (l_cons (r_bin f_add (r_bin f_add (r_slice (r_var (i := 1) c.B rfl rfl) p_none (p_some (r_var (i := 2) c.B rfl rfl))) (r_var (i := 5) c.B rfl rfl)) (r_slice (r_var (i := 1) c.B rfl rfl) (p_some (r_var (i := 2) c.B rfl rfl)) p_none)) (l_cons (r_bin f_add (r_bin f_add (r_slice (r_var (i := 1) c.B rfl rfl) p_none (p_some (r_var (i := 2) c.B rfl rfl))) (r_var (i := 5) c.B rfl rfl)) (r_slice (r_var (i := 1) c.B rfl rfl) (p_some (r_bin f_add (r_var (i := 2) c.B rfl rfl) r_int)) p_none)) (l_cons (r_bin f_add (r_slice (r_var (i := 1) c.B rfl rfl) p_none (p_some (r_var (i := 2) c.B rfl rfl))) (r_slice (r_var (i := 1) c.B rfl rfl) (p_some (r_bin f_add (r_var (i := 2) c.B rfl rfl) r_int)) p_none)) (l_cons (r_bin f_add (r_var (i := 1) c.B rfl rfl) r_str) l_nil))))))
  (s_seq (s_ex (r_m F.plainAttrs_list F.slot_list_append F.type_list_append m_append (r_var (i := 8) c.B rfl rfl) (l_cons (r_G (r_call c.B Q.c__law_spaced c.rm c.tk rfl G.d__law_spaced (l_cons (r_bin f_add (r_bin f_add (r_slice (r_var (i := 3) c.B rfl rfl) p_none (p_some (r_var (i := 4) c.B rfl rfl))) (r_lst (l_cons (r_var (i := 7) c.B rfl rfl) l_nil))) (r_slice (r_var (i := 3) c.B rfl rfl) (p_some (r_var (i := 4) c.B rfl rfl)) p_none)) l_nil))) l_nil)))
  (s_seq (s_ex (r_m F.plainAttrs_list F.slot_list_append F.type_list_append m_append (r_var (i := 8) c.B rfl rfl) (l_cons (r_G (r_call c.B Q.c__law_spaced c.rm c.tk rfl G.d__law_spaced (l_cons (r_bin f_add (r_bin f_add (r_slice (r_var (i := 3) c.B rfl rfl) p_none (p_some (r_var (i := 4) c.B rfl rfl))) (r_lst (l_cons (r_var (i := 7) c.B rfl rfl) l_nil))) (r_slice (r_var (i := 3) c.B rfl rfl) (p_some (r_bin f_add (r_var (i := 4) c.B rfl rfl) r_int)) p_none)) l_nil))) l_nil)))
  (s_one (s_ret (r_G (r_call c.B Q.c__law_one c.rm c.tk rfl G.d__law_one (l_cons (r_var (i := 0) c.B rfl rfl) (l_cons (r_bin f_add (r_var (i := 8) c.B rfl rfl) (r_lst (l_cons (r_call c.B Q.c__law_spaced c.rm c.tk rfl G.d__law_spaced (l_cons (r_rev (r_var (i := 3) c.B rfl rfl)) l_nil)) (l_cons (r_bin f_add (r_bin f_add (r_var (i := 1) c.B rfl rfl) r_str) (r_var (i := 1) c.B rfl rfl)) (l_cons (r_bin f_add (r_var (i := 1) c.B rfl rfl) (r_var (i := 1) c.B rfl rfl)) (l_cons (r_bin f_add r_str (r_var (i := 1) c.B rfl rfl)) l_nil)))))) l_nil))))))))))))))
theorem ok_law {X : Cx} {W : WS} {k : Nat} {C : CallT} (G : Gs X.K X.mg) (Q : Gc X.prog X.w X.K X.mg X.base k C) (c : Cy X W N_law sc_law k) (po : PassesOwn (model X.prog X.w) X.A X.env X.xe) (fnc : ∀ x, X.fn x = true) (hst : X.stack = X.env :: X.outer) (hfr : X.env.frame = some X.env.locals) (hex : X.ex = []) : FSs X W (defBody st_law) (b_law C) :=
  (s_seq (s_setC (i := 1) c.B rfl rfl (fnc _) (c.cm.ki _) (r_call c.B Q.c__law_opened c.rm c.tk rfl G.d__law_opened (l_cons (r_var (i := 0) c.B rfl rfl) l_nil)))
  (s_seq (s_for (ws := [2]) po c.B c.cm (i_rg1 c.B rfl G.f_range (l_cons r_int l_nil)) (g_nm (i := 2) c.B rfl rfl (c.cm.ki _) (by decide)) (s_seq (s_set (i := 3) c.B rfl rfl (c.cm.ki _) (r_tmpT c.B c_tup rfl G.f_tuple bt_tuple (c_comp (own := [("k", 10)]) c.B c.cm (i_rg1 c.B rfl G.f_range (l_cons (r_bin f_add r_int (r_call c.B Q.c__law_draw c.rm c.tk rfl G.d__law_draw (l_cons (r_var (i := 1) c.B rfl rfl) (l_cons r_int l_nil)))) l_nil)) ⟨rfl, by decide +kernel, by decide +kernel, by decide +kernel, by decide +kernel⟩ (fun s H C cl fp => have c1 := c.blk _ s H C cl fp; (g_nm (i := 10) c1.B rfl rfl (c1.cm.ki _) (by decide))) (fun s H C cl fp => ts_nil) (fun s H C cl fp => have c1 := c.blk _ s H C cl fp; (r_call c1.B Q.c__law_lamp c1.rm c1.tk rfl G.d__law_lamp (l_cons (r_var (i := 1) c1.B rfl rfl) (l_cons (r_bin f_pow r_int r_int) l_nil)))))))
  (s_seq (s_set (i := 4) c.B rfl rfl (c.cm.ki _) (r_lst (l_cons (r_call c.B Q.c__law_lamps_text c.rm c.tk rfl G.d__law_lamps_text (l_cons (r_var (i := 3) c.B rfl rfl) l_nil)) (l_cons (r_call c.B Q.c__law_log_text c.rm c.tk rfl G.d__law_log_text (l_cons (r_call c.B Q.c__law_log c.rm c.tk rfl G.d__law_log (l_cons (r_var (i := 1) c.B rfl rfl) (l_cons r_int (l_cons r_int l_nil)))) l_nil)) (l_cons (r_call c.B Q.c__law_runs_text c.rm c.tk rfl G.d__law_runs_text (l_cons (r_call c.B Q.c__law_far_runs c.rm c.tk rfl G.d__law_far_runs (l_cons (r_var (i := 1) c.B rfl rfl) (l_cons r_int l_nil))) l_nil)) l_nil)))))
  (s_seq (s_set (i := 4) c.B rfl rfl (c.cm.ki _) (r_bin f_add (r_var (i := 4) c.B rfl rfl) (r_lst (l_cons r_str (l_cons r_str (l_cons r_str (l_cons r_str (l_cons r_str (l_cons r_str (l_cons r_str (l_cons r_str (l_cons r_str (l_cons r_str (l_cons r_str l_nil))))))))))))))
  (s_seq (s_ex (r_m F.plainAttrs_list F.slot_list_append F.type_list_append m_append (r_var (i := 4) c.B rfl rfl) (l_cons (r_G (r_call c.B Q.c__law_spaced c.rm c.tk rfl G.d__law_spaced (l_cons (r_comp (c_comp (own := [("k", 10)]) c.B c.cm (i_rg1 c.B rfl G.f_range (l_cons r_int l_nil)) ⟨rfl, by decide +kernel, by decide +kernel, by decide +kernel, by decide +kernel⟩ (fun s H C cl fp => have c1 := c.blk _ s H C cl fp; (g_nm (i := 10) c1.B rfl rfl (c1.cm.ki _) (by decide))) (fun s H C cl fp => ts_nil) (fun s H C cl fp => have c1 := c.blk _ s H C cl fp; (r_bin f_add (r_bin f_add (r_callT c1.B f_str rfl G.f_str bt_str (l_cons (r_bin f_mulT r_int (r_var (i := 10) c1.B rfl rfl)) l_nil)) r_str) (r_callT c1.B f_str rfl G.f_str bt_str (l_cons (r_bin f_add (r_bin f_mulT r_int (r_var (i := 10) c1.B rfl rfl)) r_int) l_nil)))))) l_nil))) l_nil)))
  (s_seq (s_set (i := 4) c.B rfl rfl (c.cm.ki _) (r_bin f_add (r_var (i := 4) c.B rfl rfl) (r_lst (l_cons (r_G (r_call c.B Q.c__law_spaced c.rm c.tk rfl G.d__law_spaced (l_cons (r_bin f_mulT (r_lst (l_cons r_str l_nil)) r_int) l_nil))) (l_cons (r_call c.B Q.c__law_spaced c.rm c.tk rfl G.d__law_spaced (l_cons (r_lrg c.cm c.B rfl G.f_list rfl G.f_range r_int) l_nil)) (l_cons r_str (l_cons r_str (l_cons r_str l_nil))))))))
  (s_seq (s_set (i := 4) c.B rfl rfl (c.cm.ki _) (r_bin f_add (r_var (i := 4) c.B rfl rfl) (r_lst (l_cons r_str (l_cons r_str l_nil)))))
  (s_seq (s_setC (i := 5) c.B rfl rfl (fnc _) (c.cm.ki _) (r_comp (c_comp (own := [("text", 9)]) c.B c.cm (i_seq (r_var (i := 4) c.B rfl rfl)) ⟨rfl, by decide +kernel, by decide +kernel, by decide +kernel, by decide +kernel⟩ (fun s H C cl fp => have c1 := c.blk _ s H C cl fp; (g_nm (i := 9) c1.B rfl rfl (c1.cm.ki _) (by decide))) (fun s H C cl fp => have c1 := c.blk _ s H C cl fp; (ts_one (t_cmp f_lt rfl (r_callB c1.B f_len rfl G.f_len bt_len (l_cons (r_var (i := 9) c1.B rfl rfl) l_nil)) r_int))) (fun s H C cl fp => have c1 := c.blk _ s H C cl fp; (r_var (i := 9) c1.B rfl rfl)))) (c.B.swW rfl))
  (s_seq (s_for (ws := [6]) po c.B c.cm (i_seq (r_bin f_add (r_var (i := 4) c.B rfl rfl) (r_comp (c_comp (own := [("k", 10)]) c.B c.cm (i_rg1 c.B rfl G.f_range (l_cons r_int l_nil)) ⟨rfl, by decide +kernel, by decide +kernel, by decide +kernel, by decide +kernel⟩ (fun s H C cl fp => have c1 := c.blk _ s H C cl fp; (g_nm (i := 10) c1.B rfl rfl (c1.cm.ki _) (by decide))) (fun s H C cl fp => ts_nil) (fun s H C cl fp => have c1 := c.blk _ s H C cl fp; (r_call c1.B Q.c__law_changed c1.rm c1.tk rfl G.d__law_changed (l_cons (r_var (i := 1) c1.B rfl rfl) (l_cons (r_call c1.B Q.c__law_one c1.rm c1.tk rfl G.d__law_one (l_cons (r_var (i := 1) c1.B rfl rfl) (l_cons (r_var (i := 5) c1.B rfl rfl) l_nil))) l_nil)))))))) (g_nmC (i := 6) c.B rfl rfl (fnc _) (c.cm.ki _) (by decide)) (s_seq (s_setLc (i := 7) (own := [("way", 11)]) c.B c.cm rfl rfl (i_rg1 c.B rfl G.f_range (l_cons r_int l_nil)) ⟨rfl, by decide +kernel, by decide +kernel, by decide +kernel, by decide +kernel⟩ rfl (fun s H C cl fp => have c1 := c.blk _ s H C cl fp; (g_nm (i := 11) c1.B rfl rfl (c1.cm.ki _) (by decide))) (fun s H C cl fp => ts_nil) (fun s H C cl fp => have c1 := c.blk _ s H C cl fp; (r_call c1.B Q.c__law_read c1.rm c1.tk rfl G.d__law_read (l_cons (r_var (i := 11) c1.B rfl rfl) (l_cons (r_var (i := 6) c1.B rfl rfl) l_nil)))))
  (s_one (s_if (t_cmp (f_ne c.hu) rfl (r_callB c.B (f_repr c.hu c.rm.quiet) rfl G.f_repr bt_repr (l_cons (r_comp (c_comp (own := [("way", 11)]) c.B c.cm (i_rg1 c.B rfl G.f_range (l_cons r_int l_nil)) ⟨rfl, by decide +kernel, by decide +kernel, by decide +kernel, by decide +kernel⟩ (fun s H C cl fp => have c1 := c.blk _ s H C cl fp; (g_nm (i := 11) c1.B rfl rfl (c1.cm.ki _) (by decide))) (fun s H C cl fp => ts_nil) (fun s H C cl fp => have c1 := c.blk _ s H C cl fp; (r_call c1.B Q.c__law_told c1.rm c1.tk rfl G.d__law_told (l_cons (r_var (i := 11) c1.B rfl rfl) (l_cons (r_var (i := 6) c1.B rfl rfl) l_nil)))))) l_nil)) (r_callB c.B (f_repr c.hu c.rm.quiet) rfl G.f_repr bt_repr (l_cons (r_var (i := 7) c.B rfl rfl) l_nil))) (s_one (s_ret r_bl)) s_nil))))
  (s_seq (s_set (i := 8) c.B rfl rfl (c.cm.ki _) (r_G (r_call c.B Q.c__law_one c.rm c.tk rfl G.d__law_one (l_cons (r_var (i := 1) c.B rfl rfl) (l_cons (r_lst (l_cons (r_tup l_nil) (l_cons (r_lst l_nil) (l_cons r_int (l_cons (r_tup (l_cons r_str l_nil)) (l_cons (r_dct (.cons r_str r_int .nil)) l_nil)))))) l_nil)))))
  (s_one (s_for (ws := [6]) po c.B c.cm (i_seq (r_lst (l_cons r_non (l_cons r_int (l_cons r_bl (l_cons (r_var (i := 3) c.B rfl rfl) (l_cons (r_lst (l_cons r_str l_nil)) (l_cons r_dct0 (l_cons (r_var (i := 8) c.B rfl rfl) l_nil))))))))) (g_nmC (i := 6) c.B rfl rfl (fnc _) (c.cm.ki _) (by decide)) (s_one (s_if (t_cmp (f_ne c.hu) rfl (r_callB c.B (f_repr c.hu c.rm.quiet) rfl G.f_repr bt_repr (l_cons (r_comp (c_comp (own := [("way", 11)]) c.B c.cm (i_rg1 c.B rfl G.f_range (l_cons r_int l_nil)) ⟨rfl, by decide +kernel, by decide +kernel, by decide +kernel, by decide +kernel⟩ (fun s H C cl fp => have c1 := c.blk _ s H C cl fp; (g_nm (i := 11) c1.B rfl rfl (c1.cm.ki _) (by decide))) (fun s H C cl fp => ts_nil) (fun s H C cl fp => have c1 := c.blk _ s H C cl fp; (r_call c1.B Q.c__law_told c1.rm c1.tk rfl G.d__law_told (l_cons (r_var (i := 11) c1.B rfl rfl) (l_cons (r_var (i := 6) c1.B rfl rfl) l_nil)))))) l_nil)) r_str) (s_one (s_ret r_bl)) s_nil))))))))))))))
  (s_one (s_ret r_bl))))

/-! the program -/
noncomputable def pl : List (String × FnD) := [("is_integer", ⟨3, 3, b_is_integer⟩),
  ("is_minute", ⟨1, 1, b_is_minute⟩),
  ("is_lamp", ⟨1, 1, b_is_lamp⟩),
  ("end_of", ⟨1, 4, b_end_of⟩),
  ("is_run", ⟨1, 4, b_is_run⟩),
  ("is_stretch", ⟨1, 1, b_is_stretch⟩),
  ("read_integer", ⟨1, 2, b_read_integer⟩),
  ("read_pair", ⟨2, 4, b_read_pair⟩),
  ("words_of", ⟨1, 1, b_words_of⟩),
  ("read_lamp", ⟨1, 4, b_read_lamp⟩),
  ("parse_lamps", ⟨1, 5, b_parse_lamps⟩),
  ("parse_log", ⟨1, 6, b_parse_log⟩),
  ("read_run", ⟨1, 5, b_read_run⟩),
  ("parse_motions", ⟨1, 6, b_parse_motions⟩),
  ("_law_opened", ⟨1, 3, b__law_opened⟩),
  ("_law_draw", ⟨2, 6, b__law_draw⟩),
  ("_law_one", ⟨2, 2, b__law_one⟩),
  ("_law_lamp", ⟨2, 3, b__law_lamp⟩),
  ("_law_far_runs", ⟨2, 9, b__law_far_runs⟩),
  ("_law_log", ⟨3, 8, b__law_log⟩),
  ("_law_odd", ⟨1, 2, b__law_odd⟩),
  ("_law_number", ⟨1, 2, b__law_number⟩),
  ("_law_spaced", ⟨1, 2, b__law_spaced⟩),
  ("_law_is_run", ⟨1, 5, b__law_is_run⟩),
  ("_law_whole", ⟨3, 3, b__law_whole⟩),
  ("_law_is_part", ⟨1, 2, b__law_is_part⟩),
  ("_law_lamps_text", ⟨1, 2, b__law_lamps_text⟩),
  ("_law_log_text", ⟨1, 3, b__law_log_text⟩),
  ("_law_runs_text", ⟨1, 5, b__law_runs_text⟩),
  ("_law_item", ⟨2, 9, b__law_item⟩),
  ("_law_read", ⟨2, 7, b__law_read⟩),
  ("_law_told", ⟨2, 5, b__law_told⟩),
  ("_law_changed", ⟨2, 9, b__law_changed⟩),
  ("law", ⟨1, 12, b_law⟩)]
noncomputable def pr (x : String) : Option FnD := pl.lookup x
theorem fs_is_integer : FnScope N_is_integer ["value", "low", "high"] sc_is_integer := ⟨rfl, rfl, rfl, by decide +kernel, rfl, by decide +kernel, by decide +kernel⟩
theorem fs_is_minute : FnScope N_is_minute ["value"] sc_is_minute := ⟨rfl, rfl, rfl, by decide +kernel, rfl, by decide +kernel, by decide +kernel⟩
theorem fs_is_lamp : FnScope N_is_lamp ["value"] sc_is_lamp := ⟨rfl, rfl, rfl, by decide +kernel, rfl, by decide +kernel, by decide +kernel⟩
theorem fs_end_of : FnScope N_end_of ["run"] sc_end_of := ⟨rfl, rfl, rfl, by decide +kernel, rfl, by decide +kernel, by decide +kernel⟩
theorem fs_is_run : FnScope N_is_run ["value"] sc_is_run := ⟨rfl, rfl, rfl, by decide +kernel, rfl, by decide +kernel, by decide +kernel⟩
theorem fs_is_stretch : FnScope N_is_stretch ["value"] sc_is_stretch := ⟨rfl, rfl, rfl, by decide +kernel, rfl, by decide +kernel, by decide +kernel⟩
theorem fs_read_integer : FnScope N_read_integer ["word"] sc_read_integer := ⟨rfl, rfl, rfl, by decide +kernel, rfl, by decide +kernel, by decide +kernel⟩
theorem fs_read_pair : FnScope N_read_pair ["word", "sign"] sc_read_pair := ⟨rfl, rfl, rfl, by decide +kernel, rfl, by decide +kernel, by decide +kernel⟩
theorem fs_words_of : FnScope N_words_of ["value"] sc_words_of := ⟨rfl, rfl, rfl, by decide +kernel, rfl, by decide +kernel, by decide +kernel⟩
theorem fs_read_lamp : FnScope N_read_lamp ["word"] sc_read_lamp := ⟨rfl, rfl, rfl, by decide +kernel, rfl, by decide +kernel, by decide +kernel⟩
theorem fs_parse_lamps : FnScope N_parse_lamps ["value"] sc_parse_lamps := ⟨rfl, rfl, rfl, by decide +kernel, rfl, by decide +kernel, by decide +kernel⟩
theorem fs_parse_log : FnScope N_parse_log ["value"] sc_parse_log := ⟨rfl, rfl, rfl, by decide +kernel, rfl, by decide +kernel, by decide +kernel⟩
theorem fs_read_run : FnScope N_read_run ["word"] sc_read_run := ⟨rfl, rfl, rfl, by decide +kernel, rfl, by decide +kernel, by decide +kernel⟩
theorem fs_parse_motions : FnScope N_parse_motions ["value"] sc_parse_motions := ⟨rfl, rfl, rfl, by decide +kernel, rfl, by decide +kernel, by decide +kernel⟩
theorem fs__law_opened : FnScope N__law_opened ["script"] sc__law_opened := ⟨rfl, rfl, rfl, by decide +kernel, rfl, by decide +kernel, by decide +kernel⟩
theorem fs__law_draw : FnScope N__law_draw ["pot", "many"] sc__law_draw := ⟨rfl, rfl, rfl, by decide +kernel, rfl, by decide +kernel, by decide +kernel⟩
theorem fs__law_one : FnScope N__law_one ["pot", "items"] sc__law_one := ⟨rfl, rfl, rfl, by decide +kernel, rfl, by decide +kernel, by decide +kernel⟩
theorem fs__law_lamp : FnScope N__law_lamp ["pot", "great"] sc__law_lamp := ⟨rfl, rfl, rfl, by decide +kernel, rfl, by decide +kernel, by decide +kernel⟩
theorem fs__law_far_runs : FnScope N__law_far_runs ["pot", "upto"] sc__law_far_runs := ⟨rfl, rfl, rfl, by decide +kernel, rfl, by decide +kernel, by decide +kernel⟩
theorem fs__law_log : FnScope N__law_log ["pot", "upto", "great"] sc__law_log := ⟨rfl, rfl, rfl, by decide +kernel, rfl, by decide +kernel, by decide +kernel⟩
theorem fs__law_odd : FnScope N__law_odd ["pot"] sc__law_odd := ⟨rfl, rfl, rfl, by decide +kernel, rfl, by decide +kernel, by decide +kernel⟩
theorem fs__law_number : FnScope N__law_number ["part"] sc__law_number := ⟨rfl, rfl, rfl, by decide +kernel, rfl, by decide +kernel, by decide +kernel⟩
theorem fs__law_spaced : FnScope N__law_spaced ["items"] sc__law_spaced := ⟨rfl, rfl, rfl, by decide +kernel, rfl, by decide +kernel, by decide +kernel⟩
theorem fs__law_is_run : FnScope N__law_is_run ["value"] sc__law_is_run := ⟨rfl, rfl, rfl, by decide +kernel, rfl, by decide +kernel, by decide +kernel⟩
theorem fs__law_whole : FnScope N__law_whole ["value", "low", "high"] sc__law_whole := ⟨rfl, rfl, rfl, by decide +kernel, rfl, by decide +kernel, by decide +kernel⟩
theorem fs__law_is_part : FnScope N__law_is_part ["value"] sc__law_is_part := ⟨rfl, rfl, rfl, by decide +kernel, rfl, by decide +kernel, by decide +kernel⟩
theorem fs__law_lamps_text : FnScope N__law_lamps_text ["lamps"] sc__law_lamps_text := ⟨rfl, rfl, rfl, by decide +kernel, rfl, by decide +kernel, by decide +kernel⟩
theorem fs__law_log_text : FnScope N__law_log_text ["log"] sc__law_log_text := ⟨rfl, rfl, rfl, by decide +kernel, rfl, by decide +kernel, by decide +kernel⟩
theorem fs__law_runs_text : FnScope N__law_runs_text ["runs"] sc__law_runs_text := ⟨rfl, rfl, rfl, by decide +kernel, rfl, by decide +kernel, by decide +kernel⟩
theorem fs__law_item : FnScope N__law_item ["way", "part"] sc__law_item := ⟨rfl, rfl, rfl, by decide +kernel, rfl, by decide +kernel, by decide +kernel⟩
theorem fs__law_read : FnScope N__law_read ["way", "text"] sc__law_read := ⟨rfl, rfl, rfl, by decide +kernel, rfl, by decide +kernel, by decide +kernel⟩
theorem fs__law_told : FnScope N__law_told ["way", "value"] sc__law_told := ⟨rfl, rfl, rfl, by decide +kernel, rfl, by decide +kernel, by decide +kernel⟩
theorem fs__law_changed : FnScope N__law_changed ["pot", "text"] sc__law_changed := ⟨rfl, rfl, rfl, by decide +kernel, rfl, by decide +kernel, by decide +kernel⟩
theorem fs_law : FnScope N_law ["script"] sc_law := ⟨rfl, rfl, rfl, by decide +kernel, rfl, by decide +kernel, by decide +kernel⟩
theorem pr_is_integer : pr "is_integer" = some ⟨3, 3, b_is_integer⟩ := rfl
theorem pr_is_minute : pr "is_minute" = some ⟨1, 1, b_is_minute⟩ := rfl
theorem pr_is_lamp : pr "is_lamp" = some ⟨1, 1, b_is_lamp⟩ := rfl
theorem pr_end_of : pr "end_of" = some ⟨1, 4, b_end_of⟩ := rfl
theorem pr_is_run : pr "is_run" = some ⟨1, 4, b_is_run⟩ := rfl
theorem pr_is_stretch : pr "is_stretch" = some ⟨1, 1, b_is_stretch⟩ := rfl
theorem pr_read_integer : pr "read_integer" = some ⟨1, 2, b_read_integer⟩ := rfl
theorem pr_read_pair : pr "read_pair" = some ⟨2, 4, b_read_pair⟩ := rfl
theorem pr_words_of : pr "words_of" = some ⟨1, 1, b_words_of⟩ := rfl
theorem pr_read_lamp : pr "read_lamp" = some ⟨1, 4, b_read_lamp⟩ := rfl
theorem pr_parse_lamps : pr "parse_lamps" = some ⟨1, 5, b_parse_lamps⟩ := rfl
theorem pr_parse_log : pr "parse_log" = some ⟨1, 6, b_parse_log⟩ := rfl
theorem pr_read_run : pr "read_run" = some ⟨1, 5, b_read_run⟩ := rfl
theorem pr_parse_motions : pr "parse_motions" = some ⟨1, 6, b_parse_motions⟩ := rfl
theorem pr__law_opened : pr "_law_opened" = some ⟨1, 3, b__law_opened⟩ := rfl
theorem pr__law_draw : pr "_law_draw" = some ⟨2, 6, b__law_draw⟩ := rfl
theorem pr__law_one : pr "_law_one" = some ⟨2, 2, b__law_one⟩ := rfl
theorem pr__law_lamp : pr "_law_lamp" = some ⟨2, 3, b__law_lamp⟩ := rfl
theorem pr__law_far_runs : pr "_law_far_runs" = some ⟨2, 9, b__law_far_runs⟩ := rfl
theorem pr__law_log : pr "_law_log" = some ⟨3, 8, b__law_log⟩ := rfl
theorem pr__law_odd : pr "_law_odd" = some ⟨1, 2, b__law_odd⟩ := rfl
theorem pr__law_number : pr "_law_number" = some ⟨1, 2, b__law_number⟩ := rfl
theorem pr__law_spaced : pr "_law_spaced" = some ⟨1, 2, b__law_spaced⟩ := rfl
theorem pr__law_is_run : pr "_law_is_run" = some ⟨1, 5, b__law_is_run⟩ := rfl
theorem pr__law_whole : pr "_law_whole" = some ⟨3, 3, b__law_whole⟩ := rfl
theorem pr__law_is_part : pr "_law_is_part" = some ⟨1, 2, b__law_is_part⟩ := rfl
theorem pr__law_lamps_text : pr "_law_lamps_text" = some ⟨1, 2, b__law_lamps_text⟩ := rfl
theorem pr__law_log_text : pr "_law_log_text" = some ⟨1, 3, b__law_log_text⟩ := rfl
theorem pr__law_runs_text : pr "_law_runs_text" = some ⟨1, 5, b__law_runs_text⟩ := rfl
theorem pr__law_item : pr "_law_item" = some ⟨2, 9, b__law_item⟩ := rfl
theorem pr__law_read : pr "_law_read" = some ⟨2, 7, b__law_read⟩ := rfl
theorem pr__law_told : pr "_law_told" = some ⟨2, 5, b__law_told⟩ := rfl
theorem pr__law_changed : pr "_law_changed" = some ⟨2, 9, b__law_changed⟩ := rfl
theorem pr_law : pr "law" = some ⟨1, 12, b_law⟩ := rfl
def df_is_integer : DefF := ⟨(.g "is_integer"), Str.ofString "is_integer", Str.ofString "is_integer", defArgs st_is_integer, defBody st_is_integer, defScope st_is_integer, [], []⟩
def df_is_minute : DefF := ⟨(.g "is_minute"), Str.ofString "is_minute", Str.ofString "is_minute", defArgs st_is_minute, defBody st_is_minute, defScope st_is_minute, [], []⟩
def df_is_lamp : DefF := ⟨(.g "is_lamp"), Str.ofString "is_lamp", Str.ofString "is_lamp", defArgs st_is_lamp, defBody st_is_lamp, defScope st_is_lamp, [], []⟩
def df_end_of : DefF := ⟨(.g "end_of"), Str.ofString "end_of", Str.ofString "end_of", defArgs st_end_of, defBody st_end_of, defScope st_end_of, [], []⟩
def df_is_run : DefF := ⟨(.g "is_run"), Str.ofString "is_run", Str.ofString "is_run", defArgs st_is_run, defBody st_is_run, defScope st_is_run, [], []⟩
def df_is_stretch : DefF := ⟨(.g "is_stretch"), Str.ofString "is_stretch", Str.ofString "is_stretch", defArgs st_is_stretch, defBody st_is_stretch, defScope st_is_stretch, [], []⟩
def df_read_integer : DefF := ⟨(.g "read_integer"), Str.ofString "read_integer", Str.ofString "read_integer", defArgs st_read_integer, defBody st_read_integer, defScope st_read_integer, [], []⟩
def df_read_pair : DefF := ⟨(.g "read_pair"), Str.ofString "read_pair", Str.ofString "read_pair", defArgs st_read_pair, defBody st_read_pair, defScope st_read_pair, [], []⟩
def df_words_of : DefF := ⟨(.g "words_of"), Str.ofString "words_of", Str.ofString "words_of", defArgs st_words_of, defBody st_words_of, defScope st_words_of, [], []⟩
def df_read_lamp : DefF := ⟨(.g "read_lamp"), Str.ofString "read_lamp", Str.ofString "read_lamp", defArgs st_read_lamp, defBody st_read_lamp, defScope st_read_lamp, [], []⟩
def df_parse_lamps : DefF := ⟨(.g "parse_lamps"), Str.ofString "parse_lamps", Str.ofString "parse_lamps", defArgs st_parse_lamps, defBody st_parse_lamps, defScope st_parse_lamps, [], []⟩
def df_parse_log : DefF := ⟨(.g "parse_log"), Str.ofString "parse_log", Str.ofString "parse_log", defArgs st_parse_log, defBody st_parse_log, defScope st_parse_log, [], []⟩
def df_read_run : DefF := ⟨(.g "read_run"), Str.ofString "read_run", Str.ofString "read_run", defArgs st_read_run, defBody st_read_run, defScope st_read_run, [], []⟩
def df_parse_motions : DefF := ⟨(.g "parse_motions"), Str.ofString "parse_motions", Str.ofString "parse_motions", defArgs st_parse_motions, defBody st_parse_motions, defScope st_parse_motions, [], []⟩
def df__law_opened : DefF := ⟨(.g "_law_opened"), Str.ofString "_law_opened", Str.ofString "_law_opened", defArgs st__law_opened, defBody st__law_opened, defScope st__law_opened, [], []⟩
def df__law_draw : DefF := ⟨(.g "_law_draw"), Str.ofString "_law_draw", Str.ofString "_law_draw", defArgs st__law_draw, defBody st__law_draw, defScope st__law_draw, [], []⟩
def df__law_one : DefF := ⟨(.g "_law_one"), Str.ofString "_law_one", Str.ofString "_law_one", defArgs st__law_one, defBody st__law_one, defScope st__law_one, [], []⟩
def df__law_lamp : DefF := ⟨(.g "_law_lamp"), Str.ofString "_law_lamp", Str.ofString "_law_lamp", defArgs st__law_lamp, defBody st__law_lamp, defScope st__law_lamp, [], []⟩
def df__law_far_runs : DefF := ⟨(.g "_law_far_runs"), Str.ofString "_law_far_runs", Str.ofString "_law_far_runs", defArgs st__law_far_runs, defBody st__law_far_runs, defScope st__law_far_runs, [], []⟩
def df__law_log : DefF := ⟨(.g "_law_log"), Str.ofString "_law_log", Str.ofString "_law_log", defArgs st__law_log, defBody st__law_log, defScope st__law_log, [], []⟩
def df__law_odd : DefF := ⟨(.g "_law_odd"), Str.ofString "_law_odd", Str.ofString "_law_odd", defArgs st__law_odd, defBody st__law_odd, defScope st__law_odd, [], []⟩
def df__law_number : DefF := ⟨(.g "_law_number"), Str.ofString "_law_number", Str.ofString "_law_number", defArgs st__law_number, defBody st__law_number, defScope st__law_number, [], []⟩
def df__law_spaced : DefF := ⟨(.g "_law_spaced"), Str.ofString "_law_spaced", Str.ofString "_law_spaced", defArgs st__law_spaced, defBody st__law_spaced, defScope st__law_spaced, [], []⟩
def df__law_is_run : DefF := ⟨(.g "_law_is_run"), Str.ofString "_law_is_run", Str.ofString "_law_is_run", defArgs st__law_is_run, defBody st__law_is_run, defScope st__law_is_run, [], []⟩
def df__law_whole : DefF := ⟨(.g "_law_whole"), Str.ofString "_law_whole", Str.ofString "_law_whole", defArgs st__law_whole, defBody st__law_whole, defScope st__law_whole, [], []⟩
def df__law_is_part : DefF := ⟨(.g "_law_is_part"), Str.ofString "_law_is_part", Str.ofString "_law_is_part", defArgs st__law_is_part, defBody st__law_is_part, defScope st__law_is_part, [], []⟩
def df__law_lamps_text : DefF := ⟨(.g "_law_lamps_text"), Str.ofString "_law_lamps_text", Str.ofString "_law_lamps_text", defArgs st__law_lamps_text, defBody st__law_lamps_text, defScope st__law_lamps_text, [], []⟩
def df__law_log_text : DefF := ⟨(.g "_law_log_text"), Str.ofString "_law_log_text", Str.ofString "_law_log_text", defArgs st__law_log_text, defBody st__law_log_text, defScope st__law_log_text, [], []⟩
def df__law_runs_text : DefF := ⟨(.g "_law_runs_text"), Str.ofString "_law_runs_text", Str.ofString "_law_runs_text", defArgs st__law_runs_text, defBody st__law_runs_text, defScope st__law_runs_text, [], []⟩
def df__law_item : DefF := ⟨(.g "_law_item"), Str.ofString "_law_item", Str.ofString "_law_item", defArgs st__law_item, defBody st__law_item, defScope st__law_item, [], []⟩
def df__law_read : DefF := ⟨(.g "_law_read"), Str.ofString "_law_read", Str.ofString "_law_read", defArgs st__law_read, defBody st__law_read, defScope st__law_read, [], []⟩
def df__law_told : DefF := ⟨(.g "_law_told"), Str.ofString "_law_told", Str.ofString "_law_told", defArgs st__law_told, defBody st__law_told, defScope st__law_told, [], []⟩
def df__law_changed : DefF := ⟨(.g "_law_changed"), Str.ofString "_law_changed", Str.ofString "_law_changed", defArgs st__law_changed, defBody st__law_changed, defScope st__law_changed, [], []⟩
def df_law : DefF := ⟨(.g "law"), Str.ofString "law", Str.ofString "law", defArgs st_law, defBody st_law, defScope st_law, [], []⟩
abbrev sx_BadText : Stmt := inClass (top 11) 0
theorem fx_BadText : FnScope ["self", "index"] ["self", "index"] (defScope sx_BadText) := ⟨rfl, rfl, rfl, by decide +kernel, rfl, by decide +kernel, by decide +kernel⟩
def dx_BadText : DefF := ⟨.m "BadText" "__init__", Str.ofString "__init__", Str.ofString "BadText.__init__", defArgs sx_BadText, defBody sx_BadText, defScope sx_BadText, [], []⟩
def fn : List DefF := [df_is_integer, df_is_minute, df_is_lamp, df_end_of, df_is_run, df_is_stretch, df_read_integer, df_read_pair, df_words_of, df_read_lamp, df_parse_lamps, df_parse_log, df_read_run, df_parse_motions, df__law_opened, df__law_draw, df__law_one, df__law_lamp, df__law_far_runs, df__law_log, df__law_odd, df__law_number, df__law_spaced, df__law_is_run, df__law_whole, df__law_is_part, df__law_lamps_text, df__law_log_text, df__law_runs_text, df__law_item, df__law_read, df__law_told, df__law_changed, df_law, dx_BadText]
def fa : List He.Fa := [.str "DIGITS" "0123456789", .str "HOLD" "hold", .int "LIMIT" 2000000000, .int "LONGEST" 20, .int "MAX_LAMPS" 6, .int "MAX_MINUTE" 1000000000, .int "MAX_RUNS" 360, .int "MAX_STRETCHES" 60, .str "NONE" "none", .str "PULSE" "pulse", .free "ValueError", .free "abs", .free "all", .free "bool", .free "enumerate", .free "int", .free "isinstance", .free "len", .free "list", .free "min", .free "range", .free "repr", .free "str", .free "tuple", .glo "BadText", .glo "LampError", .glo "NoIndex", .glo "BadMotions", .glo "BadLog", .glo "BadLamp", .glo "is_integer", .glo "is_minute", .glo "is_lamp", .glo "end_of", .glo "is_run", .glo "is_stretch", .glo "read_integer", .glo "read_pair", .glo "words_of", .glo "read_lamp", .glo "parse_lamps", .glo "parse_log", .glo "read_run", .glo "parse_motions", .glo "_law_opened", .glo "_law_draw", .glo "_law_one", .glo "_law_lamp", .glo "_law_far_runs", .glo "_law_log", .glo "_law_odd", .glo "_law_number", .glo "_law_spaced", .glo "_law_is_run", .glo "_law_whole", .glo "_law_is_part", .glo "_law_lamps_text", .glo "_law_log_text", .glo "_law_runs_text", .glo "_law_item", .glo "_law_read", .glo "_law_told", .glo "_law_changed", .glo "law"]
def exK (K : PySem.W.Frag) : Bool := xOk xl K
theorem gs_of {K : PySem.W.Frag} {h : Heap} {mg : Str → Option Value} (X : K.In h) (G : h.Ns mainGlobals mg) (c : SaysF fa fn exK K) : Gs K mg := ⟨
  He.str_ok X G (c.fact 0 (f := .str "DIGITS" "0123456789") rfl),
  He.str_ok X G (c.fact 1 (f := .str "HOLD" "hold") rfl),
  He.int_ok X G (c.fact 2 (f := .int "LIMIT" 2000000000) rfl),
  He.int_ok X G (c.fact 3 (f := .int "LONGEST" 20) rfl),
  He.int_ok X G (c.fact 4 (f := .int "MAX_LAMPS" 6) rfl),
  He.int_ok X G (c.fact 5 (f := .int "MAX_MINUTE" 1000000000) rfl),
  He.int_ok X G (c.fact 6 (f := .int "MAX_RUNS" 360) rfl),
  He.int_ok X G (c.fact 7 (f := .int "MAX_STRETCHES" 60) rfl),
  He.str_ok X G (c.fact 8 (f := .str "NONE" "none") rfl),
  He.str_ok X G (c.fact 9 (f := .str "PULSE" "pulse") rfl),
  He.free_ok X G (c.fact 10 (f := .free "ValueError") rfl),
  He.free_ok X G (c.fact 11 (f := .free "abs") rfl),
  He.free_ok X G (c.fact 12 (f := .free "all") rfl),
  He.free_ok X G (c.fact 13 (f := .free "bool") rfl),
  He.free_ok X G (c.fact 14 (f := .free "enumerate") rfl),
  He.free_ok X G (c.fact 15 (f := .free "int") rfl),
  He.free_ok X G (c.fact 16 (f := .free "isinstance") rfl),
  He.free_ok X G (c.fact 17 (f := .free "len") rfl),
  He.free_ok X G (c.fact 18 (f := .free "list") rfl),
  He.free_ok X G (c.fact 19 (f := .free "min") rfl),
  He.free_ok X G (c.fact 20 (f := .free "range") rfl),
  He.free_ok X G (c.fact 21 (f := .free "repr") rfl),
  He.free_ok X G (c.fact 22 (f := .free "str") rfl),
  He.free_ok X G (c.fact 23 (f := .free "tuple") rfl),
  (He.glo_ok X G (c.fact 24 (f := .glo "BadText") rfl)),
  (He.glo_ok X G (c.fact 25 (f := .glo "LampError") rfl)),
  (He.glo_ok X G (c.fact 26 (f := .glo "NoIndex") rfl)),
  (He.glo_ok X G (c.fact 27 (f := .glo "BadMotions") rfl)),
  (He.glo_ok X G (c.fact 28 (f := .glo "BadLog") rfl)),
  (He.glo_ok X G (c.fact 29 (f := .glo "BadLamp") rfl)),
  c.more,
  by
    have hg : ∀ n ∈ (["BadText", "LampError", "NoIndex", "BadMotions", "BadLog", "BadLamp"] : List String), GlN K mg n := by
      intro n hn
      simp only [List.mem_cons, List.not_mem_nil, or_false] at hn
      rcases hn with rfl | rfl | rfl | rfl | rfl | rfl
      · exact (He.glo_ok X G (c.fact 24 (f := .glo "BadText") rfl))
      · exact (He.glo_ok X G (c.fact 25 (f := .glo "LampError") rfl))
      · exact (He.glo_ok X G (c.fact 26 (f := .glo "NoIndex") rfl))
      · exact (He.glo_ok X G (c.fact 27 (f := .glo "BadMotions") rfl))
      · exact (He.glo_ok X G (c.fact 28 (f := .glo "BadLog") rfl))
      · exact (He.glo_ok X G (c.fact 29 (f := .glo "BadLamp") rfl))
    intro y hy n hn
    exact hg n (List.all_eq_true.mp (List.all_eq_true.mp (show (xl.all fun y => y.names.all fun n => (["BadText", "LampError", "NoIndex", "BadMotions", "BadLog", "BadLamp"] : List String).contains n) = true by decide +kernel) y hy) n hn |> List.contains_iff_mem.mp),
  He.glo_ok X G (c.fact 30 (f := .glo "is_integer") rfl),
  He.glo_ok X G (c.fact 31 (f := .glo "is_minute") rfl),
  He.glo_ok X G (c.fact 32 (f := .glo "is_lamp") rfl),
  He.glo_ok X G (c.fact 33 (f := .glo "end_of") rfl),
  He.glo_ok X G (c.fact 34 (f := .glo "is_run") rfl),
  He.glo_ok X G (c.fact 35 (f := .glo "is_stretch") rfl),
  He.glo_ok X G (c.fact 36 (f := .glo "read_integer") rfl),
  He.glo_ok X G (c.fact 37 (f := .glo "read_pair") rfl),
  He.glo_ok X G (c.fact 38 (f := .glo "words_of") rfl),
  He.glo_ok X G (c.fact 39 (f := .glo "read_lamp") rfl),
  He.glo_ok X G (c.fact 40 (f := .glo "parse_lamps") rfl),
  He.glo_ok X G (c.fact 41 (f := .glo "parse_log") rfl),
  He.glo_ok X G (c.fact 42 (f := .glo "read_run") rfl),
  He.glo_ok X G (c.fact 43 (f := .glo "parse_motions") rfl),
  He.glo_ok X G (c.fact 44 (f := .glo "_law_opened") rfl),
  He.glo_ok X G (c.fact 45 (f := .glo "_law_draw") rfl),
  He.glo_ok X G (c.fact 46 (f := .glo "_law_one") rfl),
  He.glo_ok X G (c.fact 47 (f := .glo "_law_lamp") rfl),
  He.glo_ok X G (c.fact 48 (f := .glo "_law_far_runs") rfl),
  He.glo_ok X G (c.fact 49 (f := .glo "_law_log") rfl),
  He.glo_ok X G (c.fact 50 (f := .glo "_law_odd") rfl),
  He.glo_ok X G (c.fact 51 (f := .glo "_law_number") rfl),
  He.glo_ok X G (c.fact 52 (f := .glo "_law_spaced") rfl),
  He.glo_ok X G (c.fact 53 (f := .glo "_law_is_run") rfl),
  He.glo_ok X G (c.fact 54 (f := .glo "_law_whole") rfl),
  He.glo_ok X G (c.fact 55 (f := .glo "_law_is_part") rfl),
  He.glo_ok X G (c.fact 56 (f := .glo "_law_lamps_text") rfl),
  He.glo_ok X G (c.fact 57 (f := .glo "_law_log_text") rfl),
  He.glo_ok X G (c.fact 58 (f := .glo "_law_runs_text") rfl),
  He.glo_ok X G (c.fact 59 (f := .glo "_law_item") rfl),
  He.glo_ok X G (c.fact 60 (f := .glo "_law_read") rfl),
  He.glo_ok X G (c.fact 61 (f := .glo "_law_told") rfl),
  He.glo_ok X G (c.fact 62 (f := .glo "_law_changed") rfl),
  He.glo_ok X G (c.fact 63 (f := .glo "law") rfl)⟩
variable {P : Program} {w : World} {K : PySem.W.Frag} {mg : Str → Option Value} {base : Heap}
theorem z_is_integer (c : SaysF fa fn exK K) : Cal P w K mg base 0 (run pr 0) "is_integer" (Dn.adr K (.g "is_integer")) [] := (let ⟨_, F⟩ := c.def_ 0 (d := df_is_integer) rfl; ⟨_, ["value", "low", "high"], [], [], fnF_zero, F.bindsN fun _ _ _ _ _ _ us hl => match us, hl with | [_, _, _], _ => rfl, .nil, fun _ _ => .nil, F.kp⟩)
theorem y_is_integer (G : Gs K mg) (c : SaysF fa fn exK K) {k : Nat} (Q : Gc P w K mg base k (run pr k)) : Cal P w K mg base (k + 1) (run pr (k + 1)) "is_integer" (Dn.adr K (.g "is_integer")) [] := (let ⟨_, F⟩ := c.def_ 0 (d := df_is_integer) rfl; ⟨_, ["value", "low", "high"], [], [], fnF_of F fs_is_integer pr_is_integer rfl rfl fun X W e1 e2 e3 e4 e5 cx => (by subst e1 e2 e3 e4 e5; exact ok_is_integer G Q cx.cy cx.po cx.fn cx.st cx.fr cx.ex), F.bindsN fun _ _ _ _ _ _ us hl => match us, hl with | [_, _, _], _ => rfl, .nil, fun _ _ => .nil, F.kp⟩)
theorem z_is_minute (c : SaysF fa fn exK K) : Cal P w K mg base 0 (run pr 0) "is_minute" (Dn.adr K (.g "is_minute")) [] := (let ⟨_, F⟩ := c.def_ 1 (d := df_is_minute) rfl; ⟨_, ["value"], [], [], fnF_zero, F.bindsN fun _ _ _ _ _ _ us hl => match us, hl with | [_], _ => rfl, .nil, fun _ _ => .nil, F.kp⟩)
theorem y_is_minute (G : Gs K mg) (c : SaysF fa fn exK K) {k : Nat} (Q : Gc P w K mg base k (run pr k)) : Cal P w K mg base (k + 1) (run pr (k + 1)) "is_minute" (Dn.adr K (.g "is_minute")) [] := (let ⟨_, F⟩ := c.def_ 1 (d := df_is_minute) rfl; ⟨_, ["value"], [], [], fnF_of F fs_is_minute pr_is_minute rfl rfl fun X W e1 e2 e3 e4 e5 cx => (by subst e1 e2 e3 e4 e5; exact ok_is_minute G Q cx.cy cx.po cx.fn cx.st cx.fr cx.ex), F.bindsN fun _ _ _ _ _ _ us hl => match us, hl with | [_], _ => rfl, .nil, fun _ _ => .nil, F.kp⟩)
theorem z_is_lamp (c : SaysF fa fn exK K) : Cal P w K mg base 0 (run pr 0) "is_lamp" (Dn.adr K (.g "is_lamp")) [] := (let ⟨_, F⟩ := c.def_ 2 (d := df_is_lamp) rfl; ⟨_, ["value"], [], [], fnF_zero, F.bindsN fun _ _ _ _ _ _ us hl => match us, hl with | [_], _ => rfl, .nil, fun _ _ => .nil, F.kp⟩)
theorem y_is_lamp (G : Gs K mg) (c : SaysF fa fn exK K) {k : Nat} (Q : Gc P w K mg base k (run pr k)) : Cal P w K mg base (k + 1) (run pr (k + 1)) "is_lamp" (Dn.adr K (.g "is_lamp")) [] := (let ⟨_, F⟩ := c.def_ 2 (d := df_is_lamp) rfl; ⟨_, ["value"], [], [], fnF_of F fs_is_lamp pr_is_lamp rfl rfl fun X W e1 e2 e3 e4 e5 cx => (by subst e1 e2 e3 e4 e5; exact ok_is_lamp G Q cx.cy cx.po cx.fn cx.st cx.fr cx.ex), F.bindsN fun _ _ _ _ _ _ us hl => match us, hl with | [_], _ => rfl, .nil, fun _ _ => .nil, F.kp⟩)
theorem z_end_of (c : SaysF fa fn exK K) : Cal P w K mg base 0 (run pr 0) "end_of" (Dn.adr K (.g "end_of")) [] := (let ⟨_, F⟩ := c.def_ 3 (d := df_end_of) rfl; ⟨_, ["run"], [], [], fnF_zero, F.bindsN fun _ _ _ _ _ _ us hl => match us, hl with | [_], _ => rfl, .nil, fun _ _ => .nil, F.kp⟩)
theorem y_end_of (G : Gs K mg) (c : SaysF fa fn exK K) {k : Nat} (Q : Gc P w K mg base k (run pr k)) : Cal P w K mg base (k + 1) (run pr (k + 1)) "end_of" (Dn.adr K (.g "end_of")) [] := (let ⟨_, F⟩ := c.def_ 3 (d := df_end_of) rfl; ⟨_, ["run"], [], [], fnF_of F fs_end_of pr_end_of rfl rfl fun X W e1 e2 e3 e4 e5 cx => (by subst e1 e2 e3 e4 e5; exact ok_end_of G Q cx.cy cx.po cx.fn cx.st cx.fr cx.ex), F.bindsN fun _ _ _ _ _ _ us hl => match us, hl with | [_], _ => rfl, .nil, fun _ _ => .nil, F.kp⟩)
theorem z_is_run (c : SaysF fa fn exK K) : Cal P w K mg base 0 (run pr 0) "is_run" (Dn.adr K (.g "is_run")) [] := (let ⟨_, F⟩ := c.def_ 4 (d := df_is_run) rfl; ⟨_, ["value"], [], [], fnF_zero, F.bindsN fun _ _ _ _ _ _ us hl => match us, hl with | [_], _ => rfl, .nil, fun _ _ => .nil, F.kp⟩)
theorem y_is_run (G : Gs K mg) (c : SaysF fa fn exK K) {k : Nat} (Q : Gc P w K mg base k (run pr k)) : Cal P w K mg base (k + 1) (run pr (k + 1)) "is_run" (Dn.adr K (.g "is_run")) [] := (let ⟨_, F⟩ := c.def_ 4 (d := df_is_run) rfl; ⟨_, ["value"], [], [], fnF_of F fs_is_run pr_is_run rfl rfl fun X W e1 e2 e3 e4 e5 cx => (by subst e1 e2 e3 e4 e5; exact ok_is_run G Q cx.cy cx.po cx.fn cx.st cx.fr cx.ex), F.bindsN fun _ _ _ _ _ _ us hl => match us, hl with | [_], _ => rfl, .nil, fun _ _ => .nil, F.kp⟩)
theorem z_is_stretch (c : SaysF fa fn exK K) : Cal P w K mg base 0 (run pr 0) "is_stretch" (Dn.adr K (.g "is_stretch")) [] := (let ⟨_, F⟩ := c.def_ 5 (d := df_is_stretch) rfl; ⟨_, ["value"], [], [], fnF_zero, F.bindsN fun _ _ _ _ _ _ us hl => match us, hl with | [_], _ => rfl, .nil, fun _ _ => .nil, F.kp⟩)
theorem y_is_stretch (G : Gs K mg) (c : SaysF fa fn exK K) {k : Nat} (Q : Gc P w K mg base k (run pr k)) : Cal P w K mg base (k + 1) (run pr (k + 1)) "is_stretch" (Dn.adr K (.g "is_stretch")) [] := (let ⟨_, F⟩ := c.def_ 5 (d := df_is_stretch) rfl; ⟨_, ["value"], [], [], fnF_of F fs_is_stretch pr_is_stretch rfl rfl fun X W e1 e2 e3 e4 e5 cx => (by subst e1 e2 e3 e4 e5; exact ok_is_stretch G Q cx.cy cx.po cx.fn cx.st cx.fr cx.ex), F.bindsN fun _ _ _ _ _ _ us hl => match us, hl with | [_], _ => rfl, .nil, fun _ _ => .nil, F.kp⟩)
theorem z_read_integer (c : SaysF fa fn exK K) : Cal P w K mg base 0 (run pr 0) "read_integer" (Dn.adr K (.g "read_integer")) [] := (let ⟨_, F⟩ := c.def_ 6 (d := df_read_integer) rfl; ⟨_, ["word"], [], [], fnF_zero, F.bindsN fun _ _ _ _ _ _ us hl => match us, hl with | [_], _ => rfl, .nil, fun _ _ => .nil, F.kp⟩)
theorem y_read_integer (G : Gs K mg) (c : SaysF fa fn exK K) {k : Nat} (Q : Gc P w K mg base k (run pr k)) : Cal P w K mg base (k + 1) (run pr (k + 1)) "read_integer" (Dn.adr K (.g "read_integer")) [] := (let ⟨_, F⟩ := c.def_ 6 (d := df_read_integer) rfl; ⟨_, ["word"], [], [], fnF_of F fs_read_integer pr_read_integer rfl rfl fun X W e1 e2 e3 e4 e5 cx => (by subst e1 e2 e3 e4 e5; exact ok_read_integer G Q cx.cy cx.po cx.fn cx.st cx.fr cx.ex), F.bindsN fun _ _ _ _ _ _ us hl => match us, hl with | [_], _ => rfl, .nil, fun _ _ => .nil, F.kp⟩)
theorem z_read_pair (c : SaysF fa fn exK K) : Cal P w K mg base 0 (run pr 0) "read_pair" (Dn.adr K (.g "read_pair")) [] := (let ⟨_, F⟩ := c.def_ 7 (d := df_read_pair) rfl; ⟨_, ["word", "sign"], [], [], fnF_zero, F.bindsN fun _ _ _ _ _ _ us hl => match us, hl with | [_, _], _ => rfl, .nil, fun _ _ => .nil, F.kp⟩)
theorem y_read_pair (G : Gs K mg) (c : SaysF fa fn exK K) {k : Nat} (Q : Gc P w K mg base k (run pr k)) : Cal P w K mg base (k + 1) (run pr (k + 1)) "read_pair" (Dn.adr K (.g "read_pair")) [] := (let ⟨_, F⟩ := c.def_ 7 (d := df_read_pair) rfl; ⟨_, ["word", "sign"], [], [], fnF_of F fs_read_pair pr_read_pair rfl rfl fun X W e1 e2 e3 e4 e5 cx => (by subst e1 e2 e3 e4 e5; exact ok_read_pair G Q cx.cy cx.po cx.fn cx.st cx.fr cx.ex), F.bindsN fun _ _ _ _ _ _ us hl => match us, hl with | [_, _], _ => rfl, .nil, fun _ _ => .nil, F.kp⟩)
theorem z_words_of (c : SaysF fa fn exK K) : Cal P w K mg base 0 (run pr 0) "words_of" (Dn.adr K (.g "words_of")) [] := (let ⟨_, F⟩ := c.def_ 8 (d := df_words_of) rfl; ⟨_, ["value"], [], [], fnF_zero, F.bindsN fun _ _ _ _ _ _ us hl => match us, hl with | [_], _ => rfl, .nil, fun _ _ => .nil, F.kp⟩)
theorem y_words_of (G : Gs K mg) (c : SaysF fa fn exK K) {k : Nat} (Q : Gc P w K mg base k (run pr k)) : Cal P w K mg base (k + 1) (run pr (k + 1)) "words_of" (Dn.adr K (.g "words_of")) [] := (let ⟨_, F⟩ := c.def_ 8 (d := df_words_of) rfl; ⟨_, ["value"], [], [], fnF_of F fs_words_of pr_words_of rfl rfl fun X W e1 e2 e3 e4 e5 cx => (by subst e1 e2 e3 e4 e5; exact ok_words_of G Q cx.cy cx.po cx.fn cx.st cx.fr cx.ex), F.bindsN fun _ _ _ _ _ _ us hl => match us, hl with | [_], _ => rfl, .nil, fun _ _ => .nil, F.kp⟩)
theorem z_read_lamp (c : SaysF fa fn exK K) : Cal P w K mg base 0 (run pr 0) "read_lamp" (Dn.adr K (.g "read_lamp")) [] := (let ⟨_, F⟩ := c.def_ 9 (d := df_read_lamp) rfl; ⟨_, ["word"], [], [], fnF_zero, F.bindsN fun _ _ _ _ _ _ us hl => match us, hl with | [_], _ => rfl, .nil, fun _ _ => .nil, F.kp⟩)
theorem y_read_lamp (G : Gs K mg) (c : SaysF fa fn exK K) {k : Nat} (Q : Gc P w K mg base k (run pr k)) : Cal P w K mg base (k + 1) (run pr (k + 1)) "read_lamp" (Dn.adr K (.g "read_lamp")) [] := (let ⟨_, F⟩ := c.def_ 9 (d := df_read_lamp) rfl; ⟨_, ["word"], [], [], fnF_of F fs_read_lamp pr_read_lamp rfl rfl fun X W e1 e2 e3 e4 e5 cx => (by subst e1 e2 e3 e4 e5; exact ok_read_lamp G Q cx.cy cx.po cx.fn cx.st cx.fr cx.ex), F.bindsN fun _ _ _ _ _ _ us hl => match us, hl with | [_], _ => rfl, .nil, fun _ _ => .nil, F.kp⟩)
theorem z_parse_lamps (c : SaysF fa fn exK K) : Cal P w K mg base 0 (run pr 0) "parse_lamps" (Dn.adr K (.g "parse_lamps")) [] := (let ⟨_, F⟩ := c.def_ 10 (d := df_parse_lamps) rfl; ⟨_, ["value"], [], [], fnF_zero, F.bindsN fun _ _ _ _ _ _ us hl => match us, hl with | [_], _ => rfl, .nil, fun _ _ => .nil, F.kp⟩)
theorem y_parse_lamps (G : Gs K mg) (c : SaysF fa fn exK K) {k : Nat} (Q : Gc P w K mg base k (run pr k)) : Cal P w K mg base (k + 1) (run pr (k + 1)) "parse_lamps" (Dn.adr K (.g "parse_lamps")) [] := (let ⟨_, F⟩ := c.def_ 10 (d := df_parse_lamps) rfl; ⟨_, ["value"], [], [], fnF_of F fs_parse_lamps pr_parse_lamps rfl rfl fun X W e1 e2 e3 e4 e5 cx => (by subst e1 e2 e3 e4 e5; exact ok_parse_lamps G Q cx.cy cx.po cx.fn cx.st cx.fr cx.ex), F.bindsN fun _ _ _ _ _ _ us hl => match us, hl with | [_], _ => rfl, .nil, fun _ _ => .nil, F.kp⟩)
theorem z_parse_log (c : SaysF fa fn exK K) : Cal P w K mg base 0 (run pr 0) "parse_log" (Dn.adr K (.g "parse_log")) [] := (let ⟨_, F⟩ := c.def_ 11 (d := df_parse_log) rfl; ⟨_, ["value"], [], [], fnF_zero, F.bindsN fun _ _ _ _ _ _ us hl => match us, hl with | [_], _ => rfl, .nil, fun _ _ => .nil, F.kp⟩)
theorem y_parse_log (G : Gs K mg) (c : SaysF fa fn exK K) {k : Nat} (Q : Gc P w K mg base k (run pr k)) : Cal P w K mg base (k + 1) (run pr (k + 1)) "parse_log" (Dn.adr K (.g "parse_log")) [] := (let ⟨_, F⟩ := c.def_ 11 (d := df_parse_log) rfl; ⟨_, ["value"], [], [], fnF_of F fs_parse_log pr_parse_log rfl rfl fun X W e1 e2 e3 e4 e5 cx => (by subst e1 e2 e3 e4 e5; exact ok_parse_log G Q cx.cy cx.po cx.fn cx.st cx.fr cx.ex), F.bindsN fun _ _ _ _ _ _ us hl => match us, hl with | [_], _ => rfl, .nil, fun _ _ => .nil, F.kp⟩)
theorem z_read_run (c : SaysF fa fn exK K) : Cal P w K mg base 0 (run pr 0) "read_run" (Dn.adr K (.g "read_run")) [] := (let ⟨_, F⟩ := c.def_ 12 (d := df_read_run) rfl; ⟨_, ["word"], [], [], fnF_zero, F.bindsN fun _ _ _ _ _ _ us hl => match us, hl with | [_], _ => rfl, .nil, fun _ _ => .nil, F.kp⟩)
theorem y_read_run (G : Gs K mg) (c : SaysF fa fn exK K) {k : Nat} (Q : Gc P w K mg base k (run pr k)) : Cal P w K mg base (k + 1) (run pr (k + 1)) "read_run" (Dn.adr K (.g "read_run")) [] := (let ⟨_, F⟩ := c.def_ 12 (d := df_read_run) rfl; ⟨_, ["word"], [], [], fnF_of F fs_read_run pr_read_run rfl rfl fun X W e1 e2 e3 e4 e5 cx => (by subst e1 e2 e3 e4 e5; exact ok_read_run G Q cx.cy cx.po cx.fn cx.st cx.fr cx.ex), F.bindsN fun _ _ _ _ _ _ us hl => match us, hl with | [_], _ => rfl, .nil, fun _ _ => .nil, F.kp⟩)
theorem z_parse_motions (c : SaysF fa fn exK K) : Cal P w K mg base 0 (run pr 0) "parse_motions" (Dn.adr K (.g "parse_motions")) [] := (let ⟨_, F⟩ := c.def_ 13 (d := df_parse_motions) rfl; ⟨_, ["value"], [], [], fnF_zero, F.bindsN fun _ _ _ _ _ _ us hl => match us, hl with | [_], _ => rfl, .nil, fun _ _ => .nil, F.kp⟩)
theorem y_parse_motions (G : Gs K mg) (c : SaysF fa fn exK K) {k : Nat} (Q : Gc P w K mg base k (run pr k)) : Cal P w K mg base (k + 1) (run pr (k + 1)) "parse_motions" (Dn.adr K (.g "parse_motions")) [] := (let ⟨_, F⟩ := c.def_ 13 (d := df_parse_motions) rfl; ⟨_, ["value"], [], [], fnF_of F fs_parse_motions pr_parse_motions rfl rfl fun X W e1 e2 e3 e4 e5 cx => (by subst e1 e2 e3 e4 e5; exact ok_parse_motions G Q cx.cy cx.po cx.fn cx.st cx.fr cx.ex), F.bindsN fun _ _ _ _ _ _ us hl => match us, hl with | [_], _ => rfl, .nil, fun _ _ => .nil, F.kp⟩)
theorem z__law_opened (c : SaysF fa fn exK K) : Cal P w K mg base 0 (run pr 0) "_law_opened" (Dn.adr K (.g "_law_opened")) [] := (let ⟨_, F⟩ := c.def_ 14 (d := df__law_opened) rfl; ⟨_, ["script"], [], [], fnF_zero, F.bindsN fun _ _ _ _ _ _ us hl => match us, hl with | [_], _ => rfl, .nil, fun _ _ => .nil, F.kp⟩)
theorem y__law_opened (G : Gs K mg) (c : SaysF fa fn exK K) {k : Nat} (Q : Gc P w K mg base k (run pr k)) : Cal P w K mg base (k + 1) (run pr (k + 1)) "_law_opened" (Dn.adr K (.g "_law_opened")) [] := (let ⟨_, F⟩ := c.def_ 14 (d := df__law_opened) rfl; ⟨_, ["script"], [], [], fnF_of F fs__law_opened pr__law_opened rfl rfl fun X W e1 e2 e3 e4 e5 cx => (by subst e1 e2 e3 e4 e5; exact ok__law_opened G Q cx.cy cx.po cx.fn cx.st cx.fr cx.ex), F.bindsN fun _ _ _ _ _ _ us hl => match us, hl with | [_], _ => rfl, .nil, fun _ _ => .nil, F.kp⟩)
theorem z__law_draw (c : SaysF fa fn exK K) : Cal P w K mg base 0 (run pr 0) "_law_draw" (Dn.adr K (.g "_law_draw")) [] := (let ⟨_, F⟩ := c.def_ 15 (d := df__law_draw) rfl; ⟨_, ["pot", "many"], [], [], fnF_zero, F.bindsN fun _ _ _ _ _ _ us hl => match us, hl with | [_, _], _ => rfl, .nil, fun _ _ => .nil, F.kp⟩)
theorem y__law_draw (G : Gs K mg) (c : SaysF fa fn exK K) {k : Nat} (Q : Gc P w K mg base k (run pr k)) : Cal P w K mg base (k + 1) (run pr (k + 1)) "_law_draw" (Dn.adr K (.g "_law_draw")) [] := (let ⟨_, F⟩ := c.def_ 15 (d := df__law_draw) rfl; ⟨_, ["pot", "many"], [], [], fnF_of F fs__law_draw pr__law_draw rfl rfl fun X W e1 e2 e3 e4 e5 cx => (by subst e1 e2 e3 e4 e5; exact ok__law_draw G Q cx.cy cx.po cx.fn cx.st cx.fr cx.ex), F.bindsN fun _ _ _ _ _ _ us hl => match us, hl with | [_, _], _ => rfl, .nil, fun _ _ => .nil, F.kp⟩)
theorem z__law_one (c : SaysF fa fn exK K) : Cal P w K mg base 0 (run pr 0) "_law_one" (Dn.adr K (.g "_law_one")) [] := (let ⟨_, F⟩ := c.def_ 16 (d := df__law_one) rfl; ⟨_, ["pot", "items"], [], [], fnF_zero, F.bindsN fun _ _ _ _ _ _ us hl => match us, hl with | [_, _], _ => rfl, .nil, fun _ _ => .nil, F.kp⟩)
theorem y__law_one (G : Gs K mg) (c : SaysF fa fn exK K) {k : Nat} (Q : Gc P w K mg base k (run pr k)) : Cal P w K mg base (k + 1) (run pr (k + 1)) "_law_one" (Dn.adr K (.g "_law_one")) [] := (let ⟨_, F⟩ := c.def_ 16 (d := df__law_one) rfl; ⟨_, ["pot", "items"], [], [], fnF_of F fs__law_one pr__law_one rfl rfl fun X W e1 e2 e3 e4 e5 cx => (by subst e1 e2 e3 e4 e5; exact ok__law_one G Q cx.cy cx.po cx.fn cx.st cx.fr cx.ex), F.bindsN fun _ _ _ _ _ _ us hl => match us, hl with | [_, _], _ => rfl, .nil, fun _ _ => .nil, F.kp⟩)
theorem z__law_lamp (c : SaysF fa fn exK K) : Cal P w K mg base 0 (run pr 0) "_law_lamp" (Dn.adr K (.g "_law_lamp")) [] := (let ⟨_, F⟩ := c.def_ 17 (d := df__law_lamp) rfl; ⟨_, ["pot", "great"], [], [], fnF_zero, F.bindsN fun _ _ _ _ _ _ us hl => match us, hl with | [_, _], _ => rfl, .nil, fun _ _ => .nil, F.kp⟩)
theorem y__law_lamp (G : Gs K mg) (c : SaysF fa fn exK K) {k : Nat} (Q : Gc P w K mg base k (run pr k)) : Cal P w K mg base (k + 1) (run pr (k + 1)) "_law_lamp" (Dn.adr K (.g "_law_lamp")) [] := (let ⟨_, F⟩ := c.def_ 17 (d := df__law_lamp) rfl; ⟨_, ["pot", "great"], [], [], fnF_of F fs__law_lamp pr__law_lamp rfl rfl fun X W e1 e2 e3 e4 e5 cx => (by subst e1 e2 e3 e4 e5; exact ok__law_lamp G Q cx.cy cx.po cx.fn cx.st cx.fr cx.ex), F.bindsN fun _ _ _ _ _ _ us hl => match us, hl with | [_, _], _ => rfl, .nil, fun _ _ => .nil, F.kp⟩)
theorem z__law_far_runs (c : SaysF fa fn exK K) : Cal P w K mg base 0 (run pr 0) "_law_far_runs" (Dn.adr K (.g "_law_far_runs")) [] := (let ⟨_, F⟩ := c.def_ 18 (d := df__law_far_runs) rfl; ⟨_, ["pot", "upto"], [], [], fnF_zero, F.bindsN fun _ _ _ _ _ _ us hl => match us, hl with | [_, _], _ => rfl, .nil, fun _ _ => .nil, F.kp⟩)
theorem y__law_far_runs (G : Gs K mg) (c : SaysF fa fn exK K) {k : Nat} (Q : Gc P w K mg base k (run pr k)) : Cal P w K mg base (k + 1) (run pr (k + 1)) "_law_far_runs" (Dn.adr K (.g "_law_far_runs")) [] := (let ⟨_, F⟩ := c.def_ 18 (d := df__law_far_runs) rfl; ⟨_, ["pot", "upto"], [], [], fnF_of F fs__law_far_runs pr__law_far_runs rfl rfl fun X W e1 e2 e3 e4 e5 cx => (by subst e1 e2 e3 e4 e5; exact ok__law_far_runs G Q cx.cy cx.po cx.fn cx.st cx.fr cx.ex), F.bindsN fun _ _ _ _ _ _ us hl => match us, hl with | [_, _], _ => rfl, .nil, fun _ _ => .nil, F.kp⟩)
theorem z__law_log (c : SaysF fa fn exK K) : Cal P w K mg base 0 (run pr 0) "_law_log" (Dn.adr K (.g "_law_log")) [] := (let ⟨_, F⟩ := c.def_ 19 (d := df__law_log) rfl; ⟨_, ["pot", "upto", "great"], [], [], fnF_zero, F.bindsN fun _ _ _ _ _ _ us hl => match us, hl with | [_, _, _], _ => rfl, .nil, fun _ _ => .nil, F.kp⟩)
theorem y__law_log (G : Gs K mg) (c : SaysF fa fn exK K) {k : Nat} (Q : Gc P w K mg base k (run pr k)) : Cal P w K mg base (k + 1) (run pr (k + 1)) "_law_log" (Dn.adr K (.g "_law_log")) [] := (let ⟨_, F⟩ := c.def_ 19 (d := df__law_log) rfl; ⟨_, ["pot", "upto", "great"], [], [], fnF_of F fs__law_log pr__law_log rfl rfl fun X W e1 e2 e3 e4 e5 cx => (by subst e1 e2 e3 e4 e5; exact ok__law_log G Q cx.cy cx.po cx.fn cx.st cx.fr cx.ex), F.bindsN fun _ _ _ _ _ _ us hl => match us, hl with | [_, _, _], _ => rfl, .nil, fun _ _ => .nil, F.kp⟩)
theorem z__law_odd (c : SaysF fa fn exK K) : Cal P w K mg base 0 (run pr 0) "_law_odd" (Dn.adr K (.g "_law_odd")) [] := (let ⟨_, F⟩ := c.def_ 20 (d := df__law_odd) rfl; ⟨_, ["pot"], [], [], fnF_zero, F.bindsN fun _ _ _ _ _ _ us hl => match us, hl with | [_], _ => rfl, .nil, fun _ _ => .nil, F.kp⟩)
theorem y__law_odd (G : Gs K mg) (c : SaysF fa fn exK K) {k : Nat} (Q : Gc P w K mg base k (run pr k)) : Cal P w K mg base (k + 1) (run pr (k + 1)) "_law_odd" (Dn.adr K (.g "_law_odd")) [] := (let ⟨_, F⟩ := c.def_ 20 (d := df__law_odd) rfl; ⟨_, ["pot"], [], [], fnF_of F fs__law_odd pr__law_odd rfl rfl fun X W e1 e2 e3 e4 e5 cx => (by subst e1 e2 e3 e4 e5; exact ok__law_odd G Q cx.cy cx.po cx.fn cx.st cx.fr cx.ex), F.bindsN fun _ _ _ _ _ _ us hl => match us, hl with | [_], _ => rfl, .nil, fun _ _ => .nil, F.kp⟩)
theorem z__law_number (c : SaysF fa fn exK K) : Cal P w K mg base 0 (run pr 0) "_law_number" (Dn.adr K (.g "_law_number")) [] := (let ⟨_, F⟩ := c.def_ 21 (d := df__law_number) rfl; ⟨_, ["part"], [], [], fnF_zero, F.bindsN fun _ _ _ _ _ _ us hl => match us, hl with | [_], _ => rfl, .nil, fun _ _ => .nil, F.kp⟩)
theorem y__law_number (G : Gs K mg) (c : SaysF fa fn exK K) {k : Nat} (Q : Gc P w K mg base k (run pr k)) : Cal P w K mg base (k + 1) (run pr (k + 1)) "_law_number" (Dn.adr K (.g "_law_number")) [] := (let ⟨_, F⟩ := c.def_ 21 (d := df__law_number) rfl; ⟨_, ["part"], [], [], fnF_of F fs__law_number pr__law_number rfl rfl fun X W e1 e2 e3 e4 e5 cx => (by subst e1 e2 e3 e4 e5; exact ok__law_number G Q cx.cy cx.po cx.fn cx.st cx.fr cx.ex), F.bindsN fun _ _ _ _ _ _ us hl => match us, hl with | [_], _ => rfl, .nil, fun _ _ => .nil, F.kp⟩)
theorem z__law_spaced (c : SaysF fa fn exK K) : Cal P w K mg base 0 (run pr 0) "_law_spaced" (Dn.adr K (.g "_law_spaced")) [] := (let ⟨_, F⟩ := c.def_ 22 (d := df__law_spaced) rfl; ⟨_, ["items"], [], [], fnF_zero, F.bindsN fun _ _ _ _ _ _ us hl => match us, hl with | [_], _ => rfl, .nil, fun _ _ => .nil, F.kp⟩)
theorem y__law_spaced (G : Gs K mg) (c : SaysF fa fn exK K) {k : Nat} (Q : Gc P w K mg base k (run pr k)) : Cal P w K mg base (k + 1) (run pr (k + 1)) "_law_spaced" (Dn.adr K (.g "_law_spaced")) [] := (let ⟨_, F⟩ := c.def_ 22 (d := df__law_spaced) rfl; ⟨_, ["items"], [], [], fnF_of F fs__law_spaced pr__law_spaced rfl rfl fun X W e1 e2 e3 e4 e5 cx => (by subst e1 e2 e3 e4 e5; exact ok__law_spaced G Q cx.cy cx.po cx.fn cx.st cx.fr cx.ex), F.bindsN fun _ _ _ _ _ _ us hl => match us, hl with | [_], _ => rfl, .nil, fun _ _ => .nil, F.kp⟩)
theorem z__law_is_run (c : SaysF fa fn exK K) : Cal P w K mg base 0 (run pr 0) "_law_is_run" (Dn.adr K (.g "_law_is_run")) [] := (let ⟨_, F⟩ := c.def_ 23 (d := df__law_is_run) rfl; ⟨_, ["value"], [], [], fnF_zero, F.bindsN fun _ _ _ _ _ _ us hl => match us, hl with | [_], _ => rfl, .nil, fun _ _ => .nil, F.kp⟩)
theorem y__law_is_run (G : Gs K mg) (c : SaysF fa fn exK K) {k : Nat} (Q : Gc P w K mg base k (run pr k)) : Cal P w K mg base (k + 1) (run pr (k + 1)) "_law_is_run" (Dn.adr K (.g "_law_is_run")) [] := (let ⟨_, F⟩ := c.def_ 23 (d := df__law_is_run) rfl; ⟨_, ["value"], [], [], fnF_of F fs__law_is_run pr__law_is_run rfl rfl fun X W e1 e2 e3 e4 e5 cx => (by subst e1 e2 e3 e4 e5; exact ok__law_is_run G Q cx.cy cx.po cx.fn cx.st cx.fr cx.ex), F.bindsN fun _ _ _ _ _ _ us hl => match us, hl with | [_], _ => rfl, .nil, fun _ _ => .nil, F.kp⟩)
theorem z__law_whole (c : SaysF fa fn exK K) : Cal P w K mg base 0 (run pr 0) "_law_whole" (Dn.adr K (.g "_law_whole")) [] := (let ⟨_, F⟩ := c.def_ 24 (d := df__law_whole) rfl; ⟨_, ["value", "low", "high"], [], [], fnF_zero, F.bindsN fun _ _ _ _ _ _ us hl => match us, hl with | [_, _, _], _ => rfl, .nil, fun _ _ => .nil, F.kp⟩)
theorem y__law_whole (G : Gs K mg) (c : SaysF fa fn exK K) {k : Nat} (Q : Gc P w K mg base k (run pr k)) : Cal P w K mg base (k + 1) (run pr (k + 1)) "_law_whole" (Dn.adr K (.g "_law_whole")) [] := (let ⟨_, F⟩ := c.def_ 24 (d := df__law_whole) rfl; ⟨_, ["value", "low", "high"], [], [], fnF_of F fs__law_whole pr__law_whole rfl rfl fun X W e1 e2 e3 e4 e5 cx => (by subst e1 e2 e3 e4 e5; exact ok__law_whole G Q cx.cy cx.po cx.fn cx.st cx.fr cx.ex), F.bindsN fun _ _ _ _ _ _ us hl => match us, hl with | [_, _, _], _ => rfl, .nil, fun _ _ => .nil, F.kp⟩)
theorem z__law_is_part (c : SaysF fa fn exK K) : Cal P w K mg base 0 (run pr 0) "_law_is_part" (Dn.adr K (.g "_law_is_part")) [] := (let ⟨_, F⟩ := c.def_ 25 (d := df__law_is_part) rfl; ⟨_, ["value"], [], [], fnF_zero, F.bindsN fun _ _ _ _ _ _ us hl => match us, hl with | [_], _ => rfl, .nil, fun _ _ => .nil, F.kp⟩)
theorem y__law_is_part (G : Gs K mg) (c : SaysF fa fn exK K) {k : Nat} (Q : Gc P w K mg base k (run pr k)) : Cal P w K mg base (k + 1) (run pr (k + 1)) "_law_is_part" (Dn.adr K (.g "_law_is_part")) [] := (let ⟨_, F⟩ := c.def_ 25 (d := df__law_is_part) rfl; ⟨_, ["value"], [], [], fnF_of F fs__law_is_part pr__law_is_part rfl rfl fun X W e1 e2 e3 e4 e5 cx => (by subst e1 e2 e3 e4 e5; exact ok__law_is_part G Q cx.cy cx.po cx.fn cx.st cx.fr cx.ex), F.bindsN fun _ _ _ _ _ _ us hl => match us, hl with | [_], _ => rfl, .nil, fun _ _ => .nil, F.kp⟩)
theorem z__law_lamps_text (c : SaysF fa fn exK K) : Cal P w K mg base 0 (run pr 0) "_law_lamps_text" (Dn.adr K (.g "_law_lamps_text")) [] := (let ⟨_, F⟩ := c.def_ 26 (d := df__law_lamps_text) rfl; ⟨_, ["lamps"], [], [], fnF_zero, F.bindsN fun _ _ _ _ _ _ us hl => match us, hl with | [_], _ => rfl, .nil, fun _ _ => .nil, F.kp⟩)
theorem y__law_lamps_text (G : Gs K mg) (c : SaysF fa fn exK K) {k : Nat} (Q : Gc P w K mg base k (run pr k)) : Cal P w K mg base (k + 1) (run pr (k + 1)) "_law_lamps_text" (Dn.adr K (.g "_law_lamps_text")) [] := (let ⟨_, F⟩ := c.def_ 26 (d := df__law_lamps_text) rfl; ⟨_, ["lamps"], [], [], fnF_of F fs__law_lamps_text pr__law_lamps_text rfl rfl fun X W e1 e2 e3 e4 e5 cx => (by subst e1 e2 e3 e4 e5; exact ok__law_lamps_text G Q cx.cy cx.po cx.fn cx.st cx.fr cx.ex), F.bindsN fun _ _ _ _ _ _ us hl => match us, hl with | [_], _ => rfl, .nil, fun _ _ => .nil, F.kp⟩)
theorem z__law_log_text (c : SaysF fa fn exK K) : Cal P w K mg base 0 (run pr 0) "_law_log_text" (Dn.adr K (.g "_law_log_text")) [] := (let ⟨_, F⟩ := c.def_ 27 (d := df__law_log_text) rfl; ⟨_, ["log"], [], [], fnF_zero, F.bindsN fun _ _ _ _ _ _ us hl => match us, hl with | [_], _ => rfl, .nil, fun _ _ => .nil, F.kp⟩)
theorem y__law_log_text (G : Gs K mg) (c : SaysF fa fn exK K) {k : Nat} (Q : Gc P w K mg base k (run pr k)) : Cal P w K mg base (k + 1) (run pr (k + 1)) "_law_log_text" (Dn.adr K (.g "_law_log_text")) [] := (let ⟨_, F⟩ := c.def_ 27 (d := df__law_log_text) rfl; ⟨_, ["log"], [], [], fnF_of F fs__law_log_text pr__law_log_text rfl rfl fun X W e1 e2 e3 e4 e5 cx => (by subst e1 e2 e3 e4 e5; exact ok__law_log_text G Q cx.cy cx.po cx.fn cx.st cx.fr cx.ex), F.bindsN fun _ _ _ _ _ _ us hl => match us, hl with | [_], _ => rfl, .nil, fun _ _ => .nil, F.kp⟩)
theorem z__law_runs_text (c : SaysF fa fn exK K) : Cal P w K mg base 0 (run pr 0) "_law_runs_text" (Dn.adr K (.g "_law_runs_text")) [] := (let ⟨_, F⟩ := c.def_ 28 (d := df__law_runs_text) rfl; ⟨_, ["runs"], [], [], fnF_zero, F.bindsN fun _ _ _ _ _ _ us hl => match us, hl with | [_], _ => rfl, .nil, fun _ _ => .nil, F.kp⟩)
theorem y__law_runs_text (G : Gs K mg) (c : SaysF fa fn exK K) {k : Nat} (Q : Gc P w K mg base k (run pr k)) : Cal P w K mg base (k + 1) (run pr (k + 1)) "_law_runs_text" (Dn.adr K (.g "_law_runs_text")) [] := (let ⟨_, F⟩ := c.def_ 28 (d := df__law_runs_text) rfl; ⟨_, ["runs"], [], [], fnF_of F fs__law_runs_text pr__law_runs_text rfl rfl fun X W e1 e2 e3 e4 e5 cx => (by subst e1 e2 e3 e4 e5; exact ok__law_runs_text G Q cx.cy cx.po cx.fn cx.st cx.fr cx.ex), F.bindsN fun _ _ _ _ _ _ us hl => match us, hl with | [_], _ => rfl, .nil, fun _ _ => .nil, F.kp⟩)
theorem z__law_item (c : SaysF fa fn exK K) : Cal P w K mg base 0 (run pr 0) "_law_item" (Dn.adr K (.g "_law_item")) [] := (let ⟨_, F⟩ := c.def_ 29 (d := df__law_item) rfl; ⟨_, ["way", "part"], [], [], fnF_zero, F.bindsN fun _ _ _ _ _ _ us hl => match us, hl with | [_, _], _ => rfl, .nil, fun _ _ => .nil, F.kp⟩)
theorem y__law_item (G : Gs K mg) (c : SaysF fa fn exK K) {k : Nat} (Q : Gc P w K mg base k (run pr k)) : Cal P w K mg base (k + 1) (run pr (k + 1)) "_law_item" (Dn.adr K (.g "_law_item")) [] := (let ⟨_, F⟩ := c.def_ 29 (d := df__law_item) rfl; ⟨_, ["way", "part"], [], [], fnF_of F fs__law_item pr__law_item rfl rfl fun X W e1 e2 e3 e4 e5 cx => (by subst e1 e2 e3 e4 e5; exact ok__law_item G Q cx.cy cx.po cx.fn cx.st cx.fr cx.ex), F.bindsN fun _ _ _ _ _ _ us hl => match us, hl with | [_, _], _ => rfl, .nil, fun _ _ => .nil, F.kp⟩)
theorem z__law_read (c : SaysF fa fn exK K) : Cal P w K mg base 0 (run pr 0) "_law_read" (Dn.adr K (.g "_law_read")) [] := (let ⟨_, F⟩ := c.def_ 30 (d := df__law_read) rfl; ⟨_, ["way", "text"], [], [], fnF_zero, F.bindsN fun _ _ _ _ _ _ us hl => match us, hl with | [_, _], _ => rfl, .nil, fun _ _ => .nil, F.kp⟩)
theorem y__law_read (G : Gs K mg) (c : SaysF fa fn exK K) {k : Nat} (Q : Gc P w K mg base k (run pr k)) : Cal P w K mg base (k + 1) (run pr (k + 1)) "_law_read" (Dn.adr K (.g "_law_read")) [] := (let ⟨_, F⟩ := c.def_ 30 (d := df__law_read) rfl; ⟨_, ["way", "text"], [], [], fnF_of F fs__law_read pr__law_read rfl rfl fun X W e1 e2 e3 e4 e5 cx => (by subst e1 e2 e3 e4 e5; exact ok__law_read G Q cx.cy cx.po cx.fn cx.st cx.fr cx.ex), F.bindsN fun _ _ _ _ _ _ us hl => match us, hl with | [_, _], _ => rfl, .nil, fun _ _ => .nil, F.kp⟩)
theorem z__law_told (c : SaysF fa fn exK K) : Cal P w K mg base 0 (run pr 0) "_law_told" (Dn.adr K (.g "_law_told")) [] := (let ⟨_, F⟩ := c.def_ 31 (d := df__law_told) rfl; ⟨_, ["way", "value"], [], [], fnF_zero, F.bindsN fun _ _ _ _ _ _ us hl => match us, hl with | [_, _], _ => rfl, .nil, fun _ _ => .nil, F.kp⟩)
theorem y__law_told (G : Gs K mg) (c : SaysF fa fn exK K) {k : Nat} (Q : Gc P w K mg base k (run pr k)) : Cal P w K mg base (k + 1) (run pr (k + 1)) "_law_told" (Dn.adr K (.g "_law_told")) [] := (let ⟨_, F⟩ := c.def_ 31 (d := df__law_told) rfl; ⟨_, ["way", "value"], [], [], fnF_of F fs__law_told pr__law_told rfl rfl fun X W e1 e2 e3 e4 e5 cx => (by subst e1 e2 e3 e4 e5; exact ok__law_told G Q cx.cy cx.po cx.fn cx.st cx.fr cx.ex), F.bindsN fun _ _ _ _ _ _ us hl => match us, hl with | [_, _], _ => rfl, .nil, fun _ _ => .nil, F.kp⟩)
theorem z__law_changed (c : SaysF fa fn exK K) : Cal P w K mg base 0 (run pr 0) "_law_changed" (Dn.adr K (.g "_law_changed")) [] := (let ⟨_, F⟩ := c.def_ 32 (d := df__law_changed) rfl; ⟨_, ["pot", "text"], [], [], fnF_zero, F.bindsN fun _ _ _ _ _ _ us hl => match us, hl with | [_, _], _ => rfl, .nil, fun _ _ => .nil, F.kp⟩)
theorem y__law_changed (G : Gs K mg) (c : SaysF fa fn exK K) {k : Nat} (Q : Gc P w K mg base k (run pr k)) : Cal P w K mg base (k + 1) (run pr (k + 1)) "_law_changed" (Dn.adr K (.g "_law_changed")) [] := (let ⟨_, F⟩ := c.def_ 32 (d := df__law_changed) rfl; ⟨_, ["pot", "text"], [], [], fnF_of F fs__law_changed pr__law_changed rfl rfl fun X W e1 e2 e3 e4 e5 cx => (by subst e1 e2 e3 e4 e5; exact ok__law_changed G Q cx.cy cx.po cx.fn cx.st cx.fr cx.ex), F.bindsN fun _ _ _ _ _ _ us hl => match us, hl with | [_, _], _ => rfl, .nil, fun _ _ => .nil, F.kp⟩)
theorem z_law (c : SaysF fa fn exK K) : Cal P w K mg base 0 (run pr 0) "law" (Dn.adr K (.g "law")) [] := (let ⟨_, F⟩ := c.def_ 33 (d := df_law) rfl; ⟨_, ["script"], [], [], fnF_zero, F.bindsN fun _ _ _ _ _ _ us hl => match us, hl with | [_], _ => rfl, .nil, fun _ _ => .nil, F.kp⟩)
theorem y_law (G : Gs K mg) (c : SaysF fa fn exK K) {k : Nat} (Q : Gc P w K mg base k (run pr k)) : Cal P w K mg base (k + 1) (run pr (k + 1)) "law" (Dn.adr K (.g "law")) [] := (let ⟨_, F⟩ := c.def_ 33 (d := df_law) rfl; ⟨_, ["script"], [], [], fnF_of F fs_law pr_law rfl rfl fun X W e1 e2 e3 e4 e5 cx => (by subst e1 e2 e3 e4 e5; exact ok_law G Q cx.cy cx.po cx.fn cx.st cx.fr cx.ex), F.bindsN fun _ _ _ _ _ _ us hl => match us, hl with | [_], _ => rfl, .nil, fun _ _ => .nil, F.kp⟩)
theorem gc_of {P : Program} {w : World} {K : PySem.W.Frag} {mg : Str → Option Value} {base : Heap} (G : Gs K mg) (c : SaysF fa fn exK K) : ∀ k, Gc P w K mg base k (run pr k)
  | 0 => ⟨
    z_is_integer c,
    z_is_minute c,
    z_is_lamp c,
    z_end_of c,
    z_is_run c,
    z_is_stretch c,
    z_read_integer c,
    z_read_pair c,
    z_words_of c,
    z_read_lamp c,
    z_parse_lamps c,
    z_parse_log c,
    z_read_run c,
    z_parse_motions c,
    z__law_opened c,
    z__law_draw c,
    z__law_one c,
    z__law_lamp c,
    z__law_far_runs c,
    z__law_log c,
    z__law_odd c,
    z__law_number c,
    z__law_spaced c,
    z__law_is_run c,
    z__law_whole c,
    z__law_is_part c,
    z__law_lamps_text c,
    z__law_log_text c,
    z__law_runs_text c,
    z__law_item c,
    z__law_read c,
    z__law_told c,
    z__law_changed c,
    z_law c,
    (let ⟨_, F⟩ := c.def_ 34 (d := dx_BadText) rfl; xcl_of (n := "BadText") (f := "index") G.x G.xn (by simp [xl]) (sf := "self") (pa := "index") F fx_BadText rfl (fun _ _ _ _ _ _ us hl => match us, hl with | [_, _], _ => rfl))⟩
  | k + 1 =>
    have Q := gc_of (P := P) (w := w) (base := base) G c k
    ⟨
    y_is_integer G c Q,
    y_is_minute G c Q,
    y_is_lamp G c Q,
    y_end_of G c Q,
    y_is_run G c Q,
    y_is_stretch G c Q,
    y_read_integer G c Q,
    y_read_pair G c Q,
    y_words_of G c Q,
    y_read_lamp G c Q,
    y_parse_lamps G c Q,
    y_parse_log G c Q,
    y_read_run G c Q,
    y_parse_motions G c Q,
    y__law_opened G c Q,
    y__law_draw G c Q,
    y__law_one G c Q,
    y__law_lamp G c Q,
    y__law_far_runs G c Q,
    y__law_log G c Q,
    y__law_odd G c Q,
    y__law_number G c Q,
    y__law_spaced G c Q,
    y__law_is_run G c Q,
    y__law_whole G c Q,
    y__law_is_part G c Q,
    y__law_lamps_text G c Q,
    y__law_log_text G c Q,
    y__law_runs_text G c Q,
    y__law_item G c Q,
    y__law_read G c Q,
    y__law_told G c Q,
    y__law_changed G c Q,
    y_law G c Q,
    (let ⟨_, F⟩ := c.def_ 34 (d := dx_BadText) rfl; xcl_of (n := "BadText") (f := "index") G.x G.xn (by simp [xl]) (sf := "self") (pa := "index") F fx_BadText rfl (fun _ _ _ _ _ _ us hl => match us, hl with | [_, _], _ => rfl))⟩
end K72

set_option maxRecDepth 100000
set_option maxHeartbeats 0
namespace K72
open PySem PySem.Spec PyProof.Rows L2 Fx
abbrev R : PySem.W.OpenRow := PySem.W.OpenLaw.row PySem.Challenge.rw_lampstays_k72_other_texts_refused
abbrev hk : PySem.W.Hook := Fx.hookF 4 fa fn exK
def ob (s : PySem.W.SharedT) : Fx.AlF := Fx.obsFG 4 fa fn exK (HandSHeadRun.getT s)
theorem ob_eq (s : PySem.W.SharedT) : ob s = hk.obs s.abs := Fx.obsFG_eq (HandSHeadRun.getT_eq s)
abbrev loose : List Str := (["MAX_MINUTE", "LIMIT", "MAX_LAMPS", "MAX_STRETCHES", "MAX_RUNS", "__name__", "LampError", "BadLamp", "BadLog", "BadMotions", "NoIndex", "BadText", "HOLD", "PULSE", "is_integer", "is_minute", "is_lamp", "end_of", "is_run", "is_stretch", "DIGITS", "LONGEST", "NONE", "read_integer", "read_pair", "words_of", "read_lamp", "parse_lamps", "parse_log", "read_run"] : List Str) ++ (["parse_motions", "_law_opened", "_law_draw", "_law_one", "_law_lamp", "_law_far_runs", "_law_log", "_law_odd", "_law_number", "_law_spaced", "_law_is_run", "_law_whole", "_law_is_part", "_law_lamps_text", "_law_log_text", "_law_runs_text", "_law_item", "_law_read", "_law_told", "_law_changed"] : List Str)
theorem head_run (w : World) : HandSHeadRun.RunEq R (PySem.W.view R.prog [53]) hk ob 4000 loose w := by
  intro os
  kernel_rfl
end K72


set_option maxRecDepth 100000
set_option maxHeartbeats 2000000
/-! Fx: evaluation step by step (printed by mkeval.py). -/
namespace Fx
open PySem L2 PyProof.Rows
noncomputable section

variable {f g h : Ev} {l : Lv} {a b c : Ev} {r : Env} {s : Sto} {x y : T} {ts us : List T} {C : CallT} {fn : String} {k : Bool}
variable {op oq : T → T → Sto → OV} {u : T → Sto → OV} {hf : List T → Sto → OV} {ba bb : Bv} {sa sb : Sv} {gg : Gv} {gs : List T → Env → Sto → Fl} {it : Iv} {chk : Sto → Bool} {mg : T → List T → Sto → OV} {p q : Pv} {i j m n : Nat} {o : Option Int} {z : Str} {ex : Exn}
def eVar1 (s : Sto) : Option (Option T) → Out
  | some (some t) => .ok t s
  | _ => .bad
theorem ev_var  : eVar i r s = eVar1 s r[i]? := by unfold eVar eVar1; rfl
theorem ev_var1  : eVar1 s (some (some x)) = .ok x s := rfl
theorem ev_c  : eC x r s = .ok x s := rfl
def vO  : OV → Out
  | some (t, s) => .ok t s
  | none => .bad
theorem ev_vout  : vOut (some (x, s)) = .ok x s := rfl
def eBin1 (op : T → T → Sto → OV) (b : Ev) (r : Env) : Out → Out
  | .ok x s => (b r s).bnd fun y s => vOut (op x y s)
  | .exc x s => .exc x s
  | .bad => .bad
def eBin2 (op : T → T → Sto → OV) (x : T) : Out → Out
  | .ok y s => vOut (op x y s)
  | .exc x s => .exc x s
  | .bad => .bad
theorem ev_bin  : eBin op a b r s = eBin1 op b r (a r s) := by unfold eBin eBin1 Out.bnd; cases a r s <;> rfl
theorem ev_bin1  : eBin1 op b r (.ok x s) = eBin2 op x (b r s) := by show (b r s).bnd (fun y s => vOut (op x y s)) = _; cases b r s <;> rfl
theorem ev_bin2  : eBin2 op x (.ok y s) = vOut (op x y s) := rfl
def eUn1 (u : T → Sto → OV) : Out → Out
  | .ok x s => vOut (u x s)
  | .exc x s => .exc x s
  | .bad => .bad
theorem ev_un  : eUn u a r s = eUn1 u (a r s) := by unfold eUn eUn1 Out.bnd; cases a r s <;> rfl
theorem ev_un1  : eUn1 u (.ok x s) = vOut (u x s) := rfl
theorem ev_lnil  : lNil r s = .ok [] s := rfl
def lCons2 (x : T) : OutL → OutL
  | .ok xs s => .ok (x :: xs) s
  | .exc x s => .exc x s
  | .bad => .bad
def lCons1 (l : Lv) (r : Env) : Out → OutL
  | .ok x s => lCons2 x (l r s)
  | .exc x s => .exc x s
  | .bad => .bad
theorem ev_lcons  : lCons a l r s = lCons1 l r (a r s) := by unfold lCons lCons1 Out.bndL; cases a r s with | ok x s => (unfold lCons2 OutL.bndL; cases l r s <;> rfl) | exc => rfl | bad => rfl
theorem ev_lcons1  : lCons1 l r (.ok x s) = lCons2 x (l r s) := rfl
theorem ev_lcons2  : lCons2 x (.ok ts s) = .ok (x :: ts) s := rfl
def lDef1 (ds : List T) : OutL → OutL
  | .ok xs s => .ok (xs ++ ds) s
  | .exc x s => .exc x s
  | .bad => .bad
theorem ev_ldef  : lDef l us r s = lDef1 us (l r s) := by unfold lDef lDef1 OutL.bndL; cases l r s <;> rfl
theorem ev_ldef1  : lDef1 us (.ok ts s) = .ok (ts ++ us) s := rfl
def lStar2 (xs : List T) : OutL → OutL
  | .ok ys s => .ok (xs ++ ys) s
  | .exc x s => .exc x s
  | .bad => .bad
def lStar1b (l : Lv) (r : Env) (s : Sto) : Option (List T) → OutL
  | some xs => lStar2 xs (l r s)
  | none => .bad
def lStar1 (l : Lv) (r : Env) : Out → OutL
  | .ok x s => lStar1b l r s (itemsT s x)
  | .exc x s => .exc x s
  | .bad => .bad
theorem ev_lstar  : lStar a l r s = lStar1 l r (a r s) := by unfold lStar lStar1 Out.bndL; cases a r s with | ok x s => (simp only; cases itemsT s x with | some xs => (simp only [lStar1b]; unfold lStar2 OutL.bndL; cases l r s <;> rfl) | none => rfl) | exc => rfl | bad => rfl
theorem ev_lstar1  : lStar1 l r (.ok x s) = lStar1b l r s (itemsT s x) := rfl
theorem ev_lstar1b  : lStar1b l r s (some ts) = lStar2 ts (l r s) := rfl
theorem ev_lstar2  : lStar2 ts (.ok us s) = .ok (ts ++ us) s := rfl
def eTup1  : OutL → Out
  | .ok ts s => if ts.length ≤ sizeLine then .ok (.tup ts) s else .bad
  | .exc x s => .exc x s
  | .bad => .bad
theorem ev_tup  : eTup l r s = eTup1 (l r s) := by unfold eTup eTup1 OutL.bnd; cases l r s <;> rfl
theorem ev_tup1 (hz : ts.length ≤ sizeLine) : eTup1 (.ok ts s) = .ok (.tup ts) s := if_pos hz
def eLst1  : OutL → Out
  | .ok ts s => if ts.length ≤ sizeLine then .ok (.loc s.len) (s.add (.lst ts)) else .bad
  | .exc x s => .exc x s
  | .bad => .bad
theorem ev_lst  : eLst l r s = eLst1 (l r s) := by unfold eLst eLst1 OutL.bnd; cases l r s <;> rfl
theorem ev_lst1 (hz : ts.length ≤ sizeLine) : eLst1 (.ok ts s) = .ok (.loc s.len) (s.add (.lst ts)) := if_pos hz
def lChk1  : OutL → OutL
  | .ok ts s => if ts.length ≤ sizeLine then .ok ts s else .bad
  | .exc x s => .exc x s
  | .bad => .bad
theorem ev_lchk  : lChk l r s = lChk1 (l r s) := by unfold lChk lChk1 OutL.bndL; cases l r s <;> rfl
theorem ev_lchk1 (hz : ts.length ≤ sizeLine) : lChk1 (.ok ts s) = .ok ts s := if_pos hz
def eCall1 (C : CallT) (fn : String) : OutL → Out
  | .ok ts s => C fn ts s
  | .exc x s => .exc x s
  | .bad => .bad
theorem ev_call  : eCall C fn l r s = eCall1 C fn (l r s) := by unfold eCall eCall1 OutL.bnd; cases l r s <;> rfl
theorem ev_call1  : eCall1 C fn (.ok ts s) = C fn ts s := rfl
theorem ev_g  : eG f r s = gcR s.len s.kp (f r s) := rfl
def eB1 (hf : List T → Sto → OV) : OutL → Out
  | .ok ts s => vOut (hf ts s)
  | .exc x s => .exc x s
  | .bad => .bad
theorem ev_b  : eB hf l r s = eB1 hf (l r s) := by unfold eB eB1 OutL.bnd; cases l r s <;> rfl
theorem ev_b1  : eB1 hf (.ok ts s) = vOut (hf ts s) := rfl
def eTmp1 (hf : List T → Sto → OV) : OutL → Out
  | .ok ts s => vOut (hf ts s)
  | .exc x s => .exc x s
  | .bad => .bad
theorem ev_tmp  : eTmp hf l r s = eTmp1 hf (l r s) := by unfold eTmp eTmp1 OutL.bnd; cases l r s <;> rfl
theorem ev_tmp1  : eTmp1 hf (.ok ts s) = vOut (hf ts s) := rfl
def eComp1  : OutL → Out
  | .ok ts s => .ok (.loc s.len) (s.add (.lst ts))
  | .exc x s => .exc x s
  | .bad => .bad
theorem ev_comp  : eComp l r s = eComp1 (l r s) := by unfold eComp eComp1 OutL.bnd; cases l r s <;> rfl
theorem ev_comp1  : eComp1 (.ok ts s) = .ok (.loc s.len) (s.add (.lst ts)) := rfl
def eIf1 (a b : Ev) (r : Env) : OutB → Out
  | .ok k s => if k = true then a r s else b r s
  | .exc x s => .exc x s
  | .bad => .bad
theorem ev_if  : eIf ba a b r s = eIf1 a b r (ba r s) := by unfold eIf eIf1 OutB.bnd; cases ba r s <;> rfl
theorem ev_if1t  : eIf1 a b r (.ok true s) = a r s := rfl
theorem ev_if1f  : eIf1 a b r (.ok false s) = b r s := rfl
def bT2 (s : Sto) : Option Bool → OutB
  | some k => .ok k s
  | none => .bad
def bT1  : Out → OutB
  | .ok x s => bT2 s (tru x s)
  | .exc x s => .exc x s
  | .bad => .bad
theorem ev_bt  : bT a r s = bT1 (a r s) := by unfold bT bT1 Out.bndB; cases a r s with | ok x s => (simp only; cases tru x s <;> rfl) | exc => rfl | bad => rfl
theorem ev_bt1  : bT1 (.ok x s) = bT2 s (tru x s) := rfl
theorem ev_bt2  : bT2 s (some k) = .ok k s := rfl
def bV1  : Out → OutB
  | .ok (.bl k) s => .ok k s
  | .exc x s => .exc x s
  | _ => .bad
theorem ev_bv  : bV a r s = bV1 (a r s) := by unfold bV bV1 Out.bndB; cases a r s with | ok x s => cases x <;> rfl | exc => rfl | bad => rfl
theorem ev_bv1  : bV1 (.ok (.bl k) s) = .ok k s := rfl
def bNot1  : OutB → OutB
  | .ok k s => .ok (!k) s
  | .exc x s => .exc x s
  | .bad => .bad
theorem ev_bnot  : bNot ba r s = bNot1 (ba r s) := by unfold bNot bNot1 OutB.bndB; cases ba r s <;> rfl
theorem ev_bnot1  : bNot1 (.ok k s) = .ok (!k) s := rfl
def bAnd1 (bb : Bv) (r : Env) : OutB → OutB
  | .ok k s => if k = true then bb r s else .ok false s
  | .exc x s => .exc x s
  | .bad => .bad
theorem ev_band  : bAnd ba bb r s = bAnd1 bb r (ba r s) := by unfold bAnd bAnd1 OutB.bndB; cases ba r s <;> rfl
theorem ev_band1t  : bAnd1 bb r (.ok true s) = bb r s := rfl
theorem ev_band1f  : bAnd1 bb r (.ok false s) = .ok false s := rfl
def bOr1 (bb : Bv) (r : Env) : OutB → OutB
  | .ok k s => if k = true then .ok true s else bb r s
  | .exc x s => .exc x s
  | .bad => .bad
theorem ev_bor  : bOr ba bb r s = bOr1 bb r (ba r s) := by unfold bOr bOr1 OutB.bndB; cases ba r s <;> rfl
theorem ev_bor1t  : bOr1 bb r (.ok true s) = .ok true s := rfl
theorem ev_bor1f  : bOr1 bb r (.ok false s) = bb r s := rfl
theorem ev_byes  : bYes r s = .ok true s := rfl
def eAnd2 (b : Ev) (r : Env) (x : T) (s : Sto) : Option Bool → Out
  | some k => if k = true then b r s else .ok x s
  | none => .bad
def eAnd1 (b : Ev) (r : Env) : Out → Out
  | .ok x s => eAnd2 b r x s (tru x s)
  | .exc x s => .exc x s
  | .bad => .bad
theorem ev_eand  : eAnd a b r s = eAnd1 b r (a r s) := by unfold eAnd eAnd1 Out.bnd; cases a r s with | ok x s => (simp only; cases tru x s <;> rfl) | exc => rfl | bad => rfl
theorem ev_eand1  : eAnd1 b r (.ok x s) = eAnd2 b r x s (tru x s) := rfl
theorem ev_eand2t  : eAnd2 b r x s (some true) = b r s := rfl
theorem ev_eand2f  : eAnd2 b r x s (some false) = .ok x s := rfl
def eOr2 (b : Ev) (r : Env) (x : T) (s : Sto) : Option Bool → Out
  | some k => if k = true then .ok x s else b r s
  | none => .bad
def eOr1 (b : Ev) (r : Env) : Out → Out
  | .ok x s => eOr2 b r x s (tru x s)
  | .exc x s => .exc x s
  | .bad => .bad
theorem ev_eor  : eOr a b r s = eOr1 b r (a r s) := by unfold eOr eOr1 Out.bnd; cases a r s with | ok x s => (simp only; cases tru x s <;> rfl) | exc => rfl | bad => rfl
theorem ev_eor1  : eOr1 b r (.ok x s) = eOr2 b r x s (tru x s) := rfl
theorem ev_eor2t  : eOr2 b r x s (some true) = .ok x s := rfl
theorem ev_eor2f  : eOr2 b r x s (some false) = b r s := rfl
def eNot2 (s : Sto) : Option Bool → Out
  | some k => .ok (.bl (!k)) s
  | none => .bad
def eNot1  : Out → Out
  | .ok x s => eNot2 s (tru x s)
  | .exc x s => .exc x s
  | .bad => .bad
theorem ev_enot  : eNot a r s = eNot1 (a r s) := by unfold eNot eNot1 Out.bnd; cases a r s with | ok x s => (simp only; cases tru x s <;> rfl) | exc => rfl | bad => rfl
theorem ev_enot1  : eNot1 (.ok x s) = eNot2 s (tru x s) := rfl
theorem ev_enot2  : eNot2 s (some k) = .ok (.bl (!k)) s := rfl
def eCh4 (oq : T → T → Sto → OV) (y : T) : Out → Out
  | .ok z s => vOut (oq y z s)
  | .exc x s => .exc x s
  | .bad => .bad
def eCh3 (oq : T → T → Sto → OV) (c : Ev) (r : Env) (y : T) : OV → Out
  | some (.bl k, s) => if k = true then eCh4 oq y (c r s) else .ok (.bl false) s
  | _ => .bad
def eCh2 (op oq : T → T → Sto → OV) (c : Ev) (r : Env) (x : T) : Out → Out
  | .ok y s => eCh3 oq c r y (op x y s)
  | .exc x s => .exc x s
  | .bad => .bad
def eCh1 (op oq : T → T → Sto → OV) (b c : Ev) (r : Env) : Out → Out
  | .ok x s => eCh2 op oq c r x (b r s)
  | .exc x s => .exc x s
  | .bad => .bad
theorem ev_ch  : eChain op oq a b c r s = eCh1 op oq b c r (a r s) := by
  unfold eChain eCh1 Out.bnd
  cases a r s with
  | ok x s =>
    simp only
    unfold eCh2
    cases b r s with
    | ok y s =>
      simp only
      unfold eCh3 eCh4
      cases op x y s with
      | none => rfl
      | some q =>
        obtain ⟨t, s⟩ := q
        cases t with
        | bl k => cases k <;> (simp only [if_true] <;> first | rfl | (cases c r s <;> rfl))
        | _ => rfl
    | exc => rfl
    | bad => rfl
  | exc => rfl
  | bad => rfl
theorem ev_ch1  : eCh1 op oq b c r (.ok x s) = eCh2 op oq c r x (b r s) := rfl
theorem ev_ch2  : eCh2 op oq c r x (.ok y s) = eCh3 oq c r y (op x y s) := rfl
theorem ev_ch3t  : eCh3 oq c r y (some (.bl true, s)) = eCh4 oq y (c r s) := rfl
theorem ev_ch3f  : eCh3 oq c r y (some (.bl false, s)) = .ok (.bl false) s := rfl
theorem ev_ch4  : eCh4 oq y (.ok x s) = vOut (oq y x s) := rfl
def eM3 (mg : T → List T → Sto → OV) (x : T) : OutL → Out
  | .ok ts s => vOut (mg x ts s)
  | .exc x s => .exc x s
  | .bad => .bad
def eM2 (mg : T → List T → Sto → OV) (l : Lv) (r : Env) (x : T) (s : Sto) : Bool → Out
  | true => eM3 mg x (l r s)
  | false => .bad
def eM1 (T0 : String) (mg : T → List T → Sto → OV) (l : Lv) (r : Env) : Out → Out
  | .ok x s => eM2 mg l r x s (isTy T0 x s)
  | .exc x s => .exc x s
  | .bad => .bad
theorem ev_m {T0 : String} : eM T0 mg a l r s = eM1 T0 mg l r (a r s) := by
  unfold eM eM1 Out.bnd
  cases a r s with
  | ok x s =>
    simp only
    cases isTy T0 x s with
    | true => (simp only [if_true, eM2]; unfold eM3 OutL.bnd; cases l r s <;> rfl)
    | false => rfl
  | exc => rfl
  | bad => rfl
theorem ev_m1 {T0 : String} : eM1 T0 mg l r (.ok x s) = eM2 mg l r x s (isTy T0 x s) := rfl
theorem ev_m2  : eM2 mg l r x s true = eM3 mg x (l r s) := rfl
theorem ev_m3  : eM3 mg x (.ok ts s) = vOut (mg x ts s) := rfl
def eJo2 (z : Str) : OutL → Out
  | .ok ts s => vOut (joinT z ts s)
  | .exc x s => .exc x s
  | .bad => .bad
def eJo1 (l : Lv) (r : Env) : Out → Out
  | .ok (.str z) s => eJo2 z (l r s)
  | .exc x s => .exc x s
  | _ => .bad
theorem ev_jo  : eJoin a l r s = eJo1 l r (a r s) := by
  unfold eJoin eJo1 Out.bnd
  cases a r s with
  | ok x s => cases x with
    | str z => (simp only; unfold eJo2 OutL.bnd; cases l r s <;> rfl)
    | _ => rfl
  | exc => rfl
  | bad => rfl
theorem ev_jo1  : eJo1 l r (.ok (.str z) s) = eJo2 z (l r s) := rfl
theorem ev_jo2  : eJo2 z (.ok ts s) = vOut (joinT z ts s) := rfl
def jF1 (q : List Ev) (acc : Str) (r : Env) : Out → Out
  | .ok (.str y) s => if (acc ++ y).length ≤ sizeLine then joinF q (acc ++ y) r s else .bad
  | .exc x s => .exc x s
  | _ => .bad
theorem ev_fs {l : List Ev} : eFs l r s = joinF l Str.empty r s := rfl
theorem ev_jfn  : joinF [] z r s = .ok (.str z) s := rfl
theorem ev_jfc {l : List Ev} : joinF (f :: l) z r s = jF1 l z r (f r s) := by
  unfold joinF jF1 Out.bnd
  cases f r s with
  | ok x s => cases x <;> rfl
  | exc => rfl
  | bad => rfl
theorem ev_jf1 {l : List Ev} {w : Str} (hz : (z ++ w).length ≤ sizeLine) : jF1 l z r (.ok (.str w) s) = joinF l (z ++ w) r s := if_pos hz
abbrev KvO := Option (List (Key × T) × Sto)
def lKv3 (tk tv : T) : KvO → KvO
  | some (kvs, s) => (match keyT tk with | some key => some ((key, tv) :: kvs, s) | none => none)
  | none => none
def lKv2 (tk : T) (q : List (Ev × Ev)) (r : Env) : Out → KvO
  | .ok tv s => lKv3 tk tv (lKv q r s)
  | _ => none
def lKv1 (v : Ev) (q : List (Ev × Ev)) (r : Env) : Out → KvO
  | .ok tk s => lKv2 tk q r (v r s)
  | _ => none
def eDct1 : KvO → Out
  | some (kvs, s) => if kvs.length ≤ 15 then .ok (.loc s.len) (s.add (.dct (dMerge [] kvs))) else .bad
  | none => .bad
theorem ev_dct {d : List (Ev × Ev)} : eDct d r s = eDct1 (lKv d r s) := by unfold eDct eDct1; cases lKv d r s <;> rfl
theorem ev_kvn  : lKv [] r s = some ([], s) := rfl
theorem ev_kvc {d : List (Ev × Ev)} : lKv ((a, b) :: d) r s = lKv1 b d r (a r s) := by
  unfold lKv lKv1
  cases a r s with
  | ok x s =>
    simp only
    unfold lKv2
    cases b r s with
    | ok y s => (simp only; unfold lKv3; cases lKv d r s <;> rfl)
    | _ => rfl
  | _ => rfl
theorem ev_kv1 {d : List (Ev × Ev)} : lKv1 b d r (.ok x s) = lKv2 x d r (b r s) := rfl
theorem ev_kv2 {d : List (Ev × Ev)} : lKv2 x d r (.ok y s) = lKv3 x y (lKv d r s) := rfl
theorem ev_kv3 {kvs : List (Key × T)} : lKv3 (.str z) y (some (kvs, s)) = some ((.inr z, y) :: kvs, s) := rfl
theorem ev_dct1 {kvs : List (Key × T)} (hz : kvs.length ≤ 15) : eDct1 (some (kvs, s)) = .ok (.loc s.len) (s.add (.dct (dMerge [] kvs))) := if_pos hz
def pS1  : Out → Option (Option Int × Sto)
  | .ok (.int i) s => some (some i, s)
  | _ => none
theorem ev_pn  : pNone r s = some (none, s) := rfl
theorem ev_ps  : pSome a r s = pS1 (a r s) := by unfold pSome pS1; rfl
theorem ev_ps1 {i : Int} : pS1 (.ok (.int i) s) = some (some i, s) := rfl
def eSl3 (x : T) (l : Option Int) : Option (Option Int × Sto) → Out
  | some (h, s) => vOut (slT x l h s)
  | none => .bad
def eSl2 (x : T) (q : Pv) (r : Env) : Option (Option Int × Sto) → Out
  | some (l, s) => eSl3 x l (q r s)
  | none => .bad
def eSl1 (p q : Pv) (r : Env) : Out → Out
  | .ok x s => eSl2 x q r (p r s)
  | .exc x s => .exc x s
  | .bad => .bad
theorem ev_sl  : eSl a p q r s = eSl1 p q r (a r s) := by
  unfold eSl eSl1 Out.bnd
  cases a r s with
  | ok x s =>
    simp only
    unfold eSl2
    cases p r s with
    | some w => (obtain ⟨l, s⟩ := w; simp only; unfold eSl3; cases q r s <;> rfl)
    | none => rfl
  | exc => rfl
  | bad => rfl
theorem ev_sl1  : eSl1 p q r (.ok x s) = eSl2 x q r (p r s) := rfl
theorem ev_sl2  : eSl2 x q r (some (o, s)) = eSl3 x o (q r s) := rfl
theorem ev_sl3 {o2 : Option Int} : eSl3 x o (some (o2, s)) = vOut (slT x o o2 s) := rfl
theorem ev_snil  : sNil r s = .nx r s := rfl
def sSeq1 (b : Sv) : Fl → Fl
  | .nx r s => b r s
  | .rt t s => .rt t s
  | .bk r s => .bk r s
  | .ct r s => .ct r s
  | .ex x r s => .ex x r s
  | .bad => .bad
theorem ev_seq  : sSeq sa sb r s = sSeq1 sb (sa r s) := by unfold sSeq sSeq1; cases sa r s <;> rfl
theorem ev_seqn  : sSeq1 sb (.nx r s) = sb r s := rfl
theorem ev_seqr  : sSeq1 sb (.rt x s) = .rt x s := rfl
theorem ev_seqb  : sSeq1 sb (.bk r s) = .bk r s := rfl
theorem ev_seqc  : sSeq1 sb (.ct r s) = .ct r s := rfl
theorem ev_seqx  : sSeq1 sb (.ex ex r s) = .ex ex r s := rfl
def sEx1 (r : Env) : Out → Fl
  | .ok t s => .nx r s
  | .exc x s => .ex x r s
  | .bad => .bad
theorem ev_sex  : sEx a r s = sEx1 r (a r s) := by unfold sEx sEx1 Out.bndS; cases a r s <;> rfl
theorem ev_sex1  : sEx1 r (.ok x s) = .nx r s := rfl
def sRet1 (r : Env) : Out → Fl
  | .ok t s => .rt t s
  | .exc x s => .ex x r s
  | .bad => .bad
theorem ev_ret  : sRet a r s = sRet1 r (a r s) := by unfold sRet sRet1 Out.bndS; cases a r s <;> rfl
theorem ev_ret1  : sRet1 r (.ok x s) = .rt x s := rfl
theorem ev_retn  : sRetN r s = .rt .non s := rfl
def sIf1 (a b : Sv) (r : Env) : OutB → Fl
  | .ok k s => if k = true then a r s else b r s
  | .exc x s => .ex x r s
  | .bad => .bad
theorem ev_sif  : sIf ba sa sb r s = sIf1 sa sb r (ba r s) := by unfold sIf sIf1 OutB.bndS; cases ba r s <;> rfl
theorem ev_sif1t  : sIf1 sa sb r (.ok true s) = sa r s := rfl
theorem ev_sif1f  : sIf1 sa sb r (.ok false s) = sb r s := rfl
theorem ev_brk  : sBrk r s = .bk r s := rfl
theorem ev_cnt  : sCnt r s = .ct r s := rfl
def sAsg1 (g : Gv) (r : Env) : Out → Fl
  | .ok t s => g t r s
  | .exc x s => .ex x r s
  | .bad => .bad
theorem ev_asg  : sAsg a gg r s = sAsg1 gg r (a r s) := by unfold sAsg sAsg1 Out.bndS; cases a r s <;> rfl
theorem ev_asg1  : sAsg1 gg r (.ok x s) = gg x r s := rfl
theorem ev_gnm  : gNm i x r s = .nx (r.set i (some x)) s := rfl
theorem ev_gnil  : gsNil [] r s = .nx r s := rfl
def gsCons1 (gs : List T → Env → Sto → Fl) (q : List T) : Fl → Fl
  | .nx r s => gs q r s
  | .ex x r s => .ex x r s
  | _ => .bad
theorem ev_gcons  : gsCons gg gs (x :: ts) r s = gsCons1 gs ts (gg x r s) := by unfold gsCons gsCons1; simp only <;> cases gg x r s <;> rfl
theorem ev_gcons1  : gsCons1 gs ts (.nx r s) = gs ts r s := rfl
theorem ev_gtp (hl : ts.length = n) : gTp n gs (.tup ts) r s = gs ts r s := if_pos hl
def gTpL (n : Nat) (gs : List T → Env → Sto → Fl) (r : Env) (s : Sto) : Option O → Fl
  | some (.lst ts) => if ts.length = n then gs ts r s else .bad
  | _ => .bad
theorem ev_gtpl  : gTp n gs (.loc m) r s = gTpL n gs r s (s.get m) := by unfold gTp gTpL; simp only <;> cases s.get m with | none => rfl | some o => cases o <;> rfl
theorem ev_gtpl1 (hl : ts.length = n) : gTpL n gs r s (some (.lst ts)) = gs ts r s := if_pos hl
def gSt1 (gs : List T → Env → Sto → Fl) (r : Env) (s : Sto) : Option O → Fl
  | some (.lst (x :: xs)) => gs [x, .loc s.len] r (s.add (.lst xs))
  | _ => .bad
theorem ev_gst  : gStF gs (.loc n) r s = gSt1 gs r s (s.get n) := by unfold gStF gSt1; rfl
theorem ev_gst1  : gSt1 gs r s (some (.lst (x :: ts))) = gs [x, .loc s.len] r (s.add (.lst ts)) := rfl
def gSub3 (r : Env) : Option Sto → Fl
  | some s => .nx r s
  | none => .bad
def gSub2 (x t : T) (r : Env) : Out → Fl
  | .ok y s => gSub3 r (setT x y t s)
  | _ => .bad
def gSub1 (b : Ev) (t : T) (r : Env) : Out → Fl
  | .ok x s => gSub2 x t r (b r s)
  | _ => .bad
theorem ev_gsub  : gSubF a b x r s = gSub1 b x r (a r s) := by
  unfold gSubF gSub1
  cases a r s with
  | ok w s =>
    simp only
    unfold gSub2
    cases b r s with
    | ok y s => (simp only; unfold gSub3; cases setT w y x s <;> rfl)
    | _ => rfl
  | _ => rfl
theorem ev_gsub1  : gSub1 b x r (.ok y s) = gSub2 y x r (b r s) := rfl
theorem ev_gsub2 {w : T} : gSub2 x y r (.ok w s) = gSub3 r (setT x w y s) := rfl
theorem ev_gsub3  : gSub3 r (some s) = .nx r s := rfl
def sPar1 (i j : Nat) (r : Env) : OutL → Fl
  | .ok [t, u] s => .nx ((r.set i (some t)).set j (some u)) s
  | .exc x s => .ex x r s
  | _ => .bad
theorem ev_par  : sPar i j l r s = sPar1 i j r (l r s) := by unfold sPar sPar1; cases l r s with | ok ts s => (match ts with | [] => rfl | [_] => rfl | [_, _] => rfl | _ :: _ :: _ :: _ => rfl) | exc => rfl | bad => rfl
theorem ev_par1  : sPar1 i j r (.ok [x, y] s) = .nx ((r.set i (some x)).set j (some y)) s := rfl
def sParT1 (i j l : Nat) (r : Env) : OutL → Fl
  | .ok [t, u, v] s => .nx (((r.set i (some t)).set j (some u)).set l (some v)) s
  | .exc x s => .ex x r s
  | _ => .bad
theorem ev_par3  : sPar3 i j n l r s = sParT1 i j n r (l r s) := by unfold sPar3 sParT1; cases l r s with | ok ts s => (match ts with | [] => rfl | [_] => rfl | [_, _] => rfl | [_, _, _] => rfl | _ :: _ :: _ :: _ :: _ => rfl) | exc => rfl | bad => rfl
theorem ev_par31 {w : T} : sParT1 i j n r (.ok [x, y, w] s) = .nx (((r.set i (some x)).set j (some y)).set n (some w)) s := rfl
def sAug3 (i : Nat) (r : Env) : OV → Fl
  | some (z, s) => .nx (r.set i (some z)) s
  | none => .bad
def sAug2 (i : Nat) (op : T → T → Sto → OV) (x : T) (r : Env) : Out → Fl
  | .ok y s => sAug3 i r (op x y s)
  | .exc x s => .ex x r s
  | .bad => .bad
def sAug1 (i : Nat) (op : T → T → Sto → OV) (a : Ev) (r : Env) (s : Sto) : Option (Option T) → Fl
  | some (some x) => sAug2 i op x r (a r s)
  | _ => .bad
theorem ev_aug  : sAug i op a r s = sAug1 i op a r s r[i]? := by
  unfold sAug
  generalize r[i]? = og
  match og with
  | some (some x) =>
    show ((a r s).bndS r fun y s => _) = sAug2 i op x r (a r s)
    cases a r s with
    | ok y s =>
      show _ = sAug3 i r (op x y s)
      simp only [Out.bndS]
      cases op x y s <;> rfl
    | exc => rfl
    | bad => rfl
  | some none => rfl
  | none => rfl
theorem ev_aug1  : sAug1 i op a r s (some (some x)) = sAug2 i op x r (a r s) := rfl
theorem ev_aug2  : sAug2 i op x r (.ok y s) = sAug3 i r (op x y s) := rfl
theorem ev_aug3  : sAug3 i r (some (x, s)) = .nx (r.set i (some x)) s := rfl
def sFor1 (g : Gv) (b : Sv) (r : Env) : OutI → Fl
  | .ok ts chk s => forL chk g b ts r s
  | .exc x s => .ex x r s
  | .bad => .bad
theorem ev_for  : sFor it gg sb r s = sFor1 gg sb r (it r s) := by unfold sFor sFor1; cases it r s <;> rfl
theorem ev_for1  : sFor1 gg sb r (.ok ts chk s) = forL chk gg sb ts r s := rfl
def lComp1 (g : Gv) (c : Bv) (e : Ev) (vs : List Nat) (r : Env) : OutI → OutL
  | .ok ts chk s => compL chk g c e (wip r vs) ts [] s
  | .exc x s => .exc x s
  | .bad => .bad
theorem ev_lcomp {vs : List Nat} : lComp it gg ba a vs r s = lComp1 gg ba a vs r (it r s) := by unfold lComp lComp1; cases it r s <;> rfl
theorem ev_lcomp1 {vs : List Nat} : lComp1 gg ba a vs r (.ok ts chk s) = compL chk gg ba a (wip r vs) ts [] s := rfl
theorem ev_wipn  : wip r [] = r := rfl
theorem ev_wipc {vs : List Nat} : wip r (i :: vs) = (wip r vs).set i none := rfl
def iSeq1  : Out → OutI
  | .ok x s => seqI x s
  | .exc x s => .exc x s
  | .bad => .bad
theorem ev_iseq  : iSeq a r s = iSeq1 (a r s) := by unfold iSeq iSeq1 Out.bndI; cases a r s <;> rfl
theorem ev_iseq1  : iSeq1 (.ok x s) = seqI x s := rfl
theorem ev_seqt  : seqI (.tup ts) s = .ok ts chkT s := rfl
theorem ev_seqf  : seqI (.frz ts) s = .ok ts chkT s := rfl
theorem ev_seqs  : seqI (.str z) s = .ok (signs z) chkT s := rfl
def seqI1 (n : Nat) (s : Sto) : Option O → OutI
  | some (.lst ts) => .ok ts (chkL n ts) s
  | _ => .bad
theorem ev_seql  : seqI (.loc n) s = seqI1 n s (s.get n) := by unfold seqI seqI1; rfl
theorem ev_seql1  : seqI1 n s (some (.lst ts)) = .ok ts (chkL n ts) s := rfl
def iRg11  : OutL → OutI
  | .ok [.int j] s => if okR j = true then .ok (rgT 0 j) chkT s else .bad
  | .exc x s => .exc x s
  | _ => .bad
theorem ev_rg1  : iRg1 l r s = iRg11 (l r s) := by unfold iRg1 iRg11 OutL.bndI; cases l r s with | ok ts s => (match ts with | [] => rfl | [t] => cases t <;> rfl | t :: _ :: _ => cases t <;> rfl) | exc => rfl | bad => rfl
theorem ev_rg11 {j : Int} (hz : okR j = true) : iRg11 (.ok [.int j] s) = .ok (rgT 0 j) chkT s := if_pos hz
def iRg21  : OutL → OutI
  | .ok [.int i, .int j] s => if okR i = true ∧ okR j = true then .ok (rgT i j) chkT s else .bad
  | .exc x s => .exc x s
  | _ => .bad
theorem ev_rg2  : iRg2 l r s = iRg21 (l r s) := by unfold iRg2 iRg21 OutL.bndI; cases l r s with | ok ts s => (match ts with | [] => rfl | [t] => cases t <;> rfl | [t, u] => (cases t <;> (first | rfl | (cases u <;> rfl))) | t :: u :: _ :: _ => (cases t <;> (first | rfl | (cases u <;> rfl)))) | exc => rfl | bad => rfl
theorem ev_rg21 {i j : Int} (hz : okR i = true ∧ okR j = true) : iRg21 (.ok [.int i, .int j] s) = .ok (rgT i j) chkT s := if_pos hz
def iEn2 (s : Sto) : Option (List T × (Sto → Bool)) → OutI
  | some (us, chk) => .ok ((enumP us).map fun p => T.tup [p.1, p.2]) chk s
  | none => .bad
def iEn1  : OutL → OutI
  | .ok [x] s => iEn2 s (lstI x s)
  | .exc x s => .exc x s
  | _ => .bad
theorem ev_en  : iEn l r s = iEn1 (l r s) := by unfold iEn iEn1 OutL.bndI; cases l r s with | ok ts s => (match ts with | [] => rfl | [t] => (simp only; cases lstI t s with | none => rfl | some w => (obtain ⟨a, b⟩ := w; rfl)) | _ :: _ :: _ => rfl) | exc => rfl | bad => rfl
theorem ev_en1  : iEn1 (.ok [x] s) = iEn2 s (lstI x s) := rfl
theorem ev_en2  : iEn2 s (some (us, chk)) = .ok ((enumP us).map fun p => T.tup [p.1, p.2]) chk s := rfl
theorem ev_outr  : Fl.out (.rt x s) = .ok x s := rfl
theorem ev_outn  : Fl.out (.nx r s) = .ok .non s := rfl
theorem ev_outx  : Fl.out (.ex ex r s) = .exc ex s := rfl
theorem ev_ixi  : keyT (.str z) = some (.inr z) := rfl
theorem ev_ixk {i : Int} : keyT (.int i) = some (.inl i) := rfl
def oIx1 (s : Sto) : Option T → OV
  | some t => some (t, s)
  | none => none
def oIxK (kvs : List (Key × T)) (s : Sto) : Option Key → OV
  | some k => oIx1 s (dGet kvs k)
  | none => none
def oIxL (y : T) (s : Sto) : Option O → OV
  | some (.lst ts) => (match y with | .int i => oIx1 s (atT ts i) | _ => none)
  | some (.dct kvs) => oIxK kvs s (keyT y)
  | _ => none
theorem ev_ixl  : oIx (.loc n) y s = oIxL y s (s.get n) := by
  unfold oIx
  simp only
  generalize s.get n = og
  match og with
  | none => rfl
  | some (.lst ts) =>
    cases y with
    | int i => (show (atT ts i).map _ = oIx1 s (atT ts i); cases atT ts i <;> rfl)
    | _ => rfl
  | some (.dct kvs) =>
    show _ = oIxK kvs s (keyT y)
    simp only
    generalize keyT y = ky
    cases ky with
    | none => rfl
    | some k => (show (dGet kvs k).map _ = oIx1 s (dGet kvs k); cases dGet kvs k <;> rfl)
  | some (.ins _ _) => rfl
theorem ev_ixll {i : Int} : oIxL (.int i) s (some (.lst ts)) = oIx1 s (atT ts i) := rfl
theorem ev_ixld {kvs : List (Key × T)} : oIxL y s (some (.dct kvs)) = oIxK kvs s (keyT y) := rfl
theorem ev_ixkk {kvs : List (Key × T)} {k : Key} : oIxK kvs s (some k) = oIx1 s (dGet kvs k) := rfl
theorem ev_ix1  : oIx1 s (some x) = some (x, s) := rfl
theorem ev_ixt {i : Int} : oIx (.tup ts) (.int i) s = oIx1 s (atT ts i) := by unfold oIx; simp only; cases atT ts i <;> rfl
theorem ev_ixf {i : Int} : oIx (.frz ts) (.int i) s = oIx1 s (atT ts i) := by unfold oIx; simp only; cases atT ts i <;> rfl
def eAttr1 (tb : List (String × AK)) (f : String) (C : CallT) : Out → Out
  | .ok x s => attr tb f C x s
  | .exc x s => .exc x s
  | .bad => .bad
theorem ev_attr {C : CallT} {f : String} {tb : List (String × AK)} {a : Ev} : eAttr tb f C a r s = eAttr1 tb f C (a r s) := by unfold eAttr eAttr1 Out.bnd; cases a r s <;> rfl
theorem ev_attr1 {C : CallT} {f : String} {tb : List (String × AK)} : eAttr1 tb f C (.ok x s) = attr tb f C x s := rfl
def attrF (s : Sto) : Option T → Out
  | some u => .ok u s
  | none => .bad
def attrK (f : String) (C : CallT) (n : Nat) (fs : List (String × T)) (s : Sto) : Option AK → Out
  | some .fld => attrF s (fs.lookup f)
  | some (.prop g) => (C g [.loc n] s).nox
  | some (.con i) => if (fs.lookup f).isNone = true then .ok (.int i) s else .bad
  | none => .bad
def attrL (tb : List (String × AK)) (f : String) (C : CallT) (n : Nat) (s : Sto) : Option O → Out
  | some (.ins c fs) => attrK f C n fs s (tb.lookup c)
  | _ => .bad
theorem ev_attrl {n : Nat} {C : CallT} {f : String} {tb : List (String × AK)} : attr tb f C (.loc n) s = attrL tb f C n s (s.get n) := by
  unfold attr insOf attrL
  simp only
  cases s.get n with
  | none => rfl
  | some o => cases o with
    | ins c fs =>
      simp only
      unfold attrK
      cases tb.lookup c with
      | none => rfl
      | some k => cases k with
        | fld => (unfold attrF; simp only <;> cases fs.lookup f <;> rfl)
        | prop => rfl
        | con => rfl
    | _ => rfl
theorem ev_attrl1 {n : Nat} {C : CallT} {f : String} {c : String} {fs : List (String × T)} {tb : List (String × AK)} : attrL tb f C n s (some (.ins c fs)) = attrK f C n fs s (tb.lookup c) := rfl
theorem ev_attrk1 {n : Nat} {C : CallT} {f : String} {fs : List (String × T)} : attrK f C n fs s (some .fld) = attrF s (fs.lookup f) := rfl
theorem ev_attrk2 {n : Nat} {C : CallT} {f : String} {fs : List (String × T)} {g : String} : attrK f C n fs s (some (.prop g)) = (C g [.loc n] s).nox := rfl
theorem ev_attrf  : attrF s (some x) = .ok x s := rfl
theorem ev_attrk3 {C : CallT} {f : String} {fs : List (String × T)} {n : Nat} {i : Int} (h : fs.lookup f = none) : attrK f C n fs s (some (.con i)) = .ok (.int i) s := by unfold attrK; simp only [h]; rfl
theorem ev_nox  : (Out.ok x s).nox = .ok x s := rfl
def methK (m : String) (C : CallT) (n : Nat) (fs : List (String × T)) (l : Lv) (r : Env) (s : Sto) : Option (String × Pk) → Out
  | some (f, pk) => if (fs.lookup m).isNone = true then (l r s).bnd fun ts s2 => pC C f pk (.loc n :: ts) s2 else .bad
  | none => .bad
def methL (mt : List (String × String × Pk)) (m : String) (C : CallT) (n : Nat) (l : Lv) (r : Env) (s : Sto) : Option O → Out
  | some (.ins c fs) => methK m C n fs l r s (mt.lookup c)
  | _ => .bad
def methT (mt : List (String × String × Pk)) (m : String) (C : CallT) (t : T) (l : Lv) (r : Env) (s : Sto) : Out := match t with
  | .loc n => methL mt m C n l r s (s.get n)
  | _ => .bad
def pCL (C : CallT) (f : String) (pk : Pk) (t : T) : OutL → Out
  | .ok ts s => pC C f pk (t :: ts) s
  | .exc x s => .exc x s
  | .bad => .bad
def eMeth1 (mt : List (String × String × Pk)) (m : String) (C : CallT) (l : Lv) (r : Env) : Out → Out
  | .ok x s => methT mt m C x l r s
  | .exc x s => .exc x s
  | .bad => .bad
theorem ev_meth {C : CallT} {m : String} {mt : List (String × String × Pk)} {a : Ev} {l : Lv} : eMeth mt m C a l r s = eMeth1 mt m C l r (a r s) := by
  unfold eMeth eMeth1 Out.bnd
  cases a r s with
  | ok t s =>
    simp only
    unfold methT insOf methL
    cases t with
    | loc n =>
      simp only
      cases s.get n with
      | none => rfl
      | some o => cases o with
        | ins c fs => (simp only; unfold methK; cases mt.lookup c <;> rfl)
        | _ => rfl
    | _ => rfl
  | exc => rfl
  | bad => rfl
theorem ev_meth1 {C : CallT} {m : String} {mt : List (String × String × Pk)} {l : Lv} : eMeth1 mt m C l r (.ok x s) = methT mt m C x l r s := rfl
theorem ev_metht {n : Nat} {C : CallT} {m : String} {mt : List (String × String × Pk)} {l : Lv} : methT mt m C (.loc n) l r s = methL mt m C n l r s (s.get n) := rfl
theorem ev_methl {n : Nat} {C : CallT} {m : String} {c : String} {fs : List (String × T)} {mt : List (String × String × Pk)} {l : Lv} : methL mt m C n l r s (some (.ins c fs)) = methK m C n fs l r s (mt.lookup c) := rfl
def methN (C : CallT) (f : String) (pk : Pk) (n : Nat) (l : Lv) (r : Env) (s : Sto) : Option T → Out
  | none => pCL C f pk (.loc n) (l r s)
  | some _ => .bad
theorem ev_methk {n : Nat} {C : CallT} {f : String} {m : String} {fs : List (String × T)} {pk : Pk} {l : Lv} : methK m C n fs l r s (some (f, pk)) = methN C f pk n l r s (fs.lookup m) := by unfold methK methN; simp only; cases fs.lookup m with | none => (simp only [Option.isNone_none, if_true]; unfold pCL OutL.bnd; cases l r s <;> rfl) | some => rfl
theorem ev_methn {n : Nat} {C : CallT} {f : String} {pk : Pk} {l : Lv} : methN C f pk n l r s none = pCL C f pk (.loc n) (l r s) := rfl
theorem ev_pcl {C : CallT} {f : String} {pk : Pk} : pCL C f pk x (.ok ts s) = pC C f pk (x :: ts) s := rfl
theorem ev_pca {C : CallT} {f : String} {ds : List T} : pC C f (.all ds) ts s = C f (ts ++ ds) s := rfl
theorem ev_pcs1 {C : CallT} {f : String} {ds : List T} (h : ts.length ≤ sizeLine) : pC C f (.star 1 ds) (x :: ts) s = C f (x :: .tup ts :: ds) s := by unfold pC Pk.go; simp only [List.length_cons, List.drop_succ_cons, List.drop_zero, List.take_succ_cons, List.take_zero]; rw [if_pos ⟨by omega, h⟩]; rfl
theorem ev_pcs2 {C : CallT} {f : String} {ds : List T} (h : ts.length ≤ sizeLine) : pC C f (.star 2 ds) (x :: y :: ts) s = C f (x :: y :: .tup ts :: ds) s := by unfold pC Pk.go; simp only [List.length_cons, List.drop_succ_cons, List.drop_zero, List.take_succ_cons, List.take_zero]; rw [if_pos ⟨by omega, h⟩]; rfl
def eMake1 (C : CallT) (c f : String) (pk : Pk) : OutL → Out
  | .ok ts s => mkOut s.len (pC C f pk (.loc s.len :: ts) (s.add (.ins c [])))
  | .exc x s => .exc x s
  | .bad => .bad
theorem ev_make {C : CallT} {f : String} {c : String} {pk : Pk} {l : Lv} : eMake C c f pk l r s = eMake1 C c f pk (l r s) := by unfold eMake eMake1 OutL.bnd; cases l r s <;> rfl
theorem ev_make1 {C : CallT} {f : String} {c : String} {pk : Pk} : eMake1 C c f pk (.ok ts s) = mkOut s.len (pC C f pk (.loc s.len :: ts) (s.add (.ins c []))) := rfl
theorem ev_mkout {n : Nat} : mkOut n (.ok .non s) = .ok (.loc n) s := rfl
def eMkS3 (C : CallT) (q : String × String × Pk) (s : Sto) : Option (List T) → Out
  | some ts => mkOut s.len (pC C q.2.1 q.2.2 (.loc s.len :: ts) (s.add (.ins q.1 [])))
  | none => .bad
def eMkS2 (C : CallT) (q : String × String × Pk) : Out → Out
  | .ok x s => eMkS3 C q s (itemsT s x)
  | .exc x s => .exc x s
  | .bad => .bad
def eMkS1b (C : CallT) (l : Ev) (r : Env) (s : Sto) : Option (String × String × Pk) → Out
  | some q => eMkS2 C q (l r s)
  | none => .bad
def eMkS1 (mt : List (String × String × Pk)) (C : CallT) (l : Ev) (r : Env) : Out → Out
  | .ok x s => eMkS1b C l r s (clsOf mt x)
  | .exc x s => .exc x s
  | .bad => .bad
theorem ev_mks {C : CallT} {mt : List (String × String × Pk)} {a b : Ev} : eMakeS mt C a b r s = eMkS1 mt C b r (a r s) := by
  unfold eMakeS eMkS1 Out.bnd
  cases a r s with
  | ok x s =>
    simp only
    unfold eMkS1b
    cases clsOf mt x with
    | none => rfl
    | some q =>
      obtain ⟨c, f, pk⟩ := q
      simp only
      unfold eMkS2
      cases b r s with
      | ok y s => (simp only; unfold eMkS3; cases itemsT s y <;> rfl)
      | exc => rfl
      | bad => rfl
  | exc => rfl
  | bad => rfl
theorem ev_mks1 {C : CallT} {mt : List (String × String × Pk)} {b : Ev} : eMkS1 mt C b r (.ok x s) = eMkS1b C b r s (clsOf mt x) := rfl
theorem ev_mks1b {C : CallT} {b : Ev} {q : String × String × Pk} : eMkS1b C b r s (some q) = eMkS2 C q (b r s) := rfl
theorem ev_mks2 {C : CallT} {q : String × String × Pk} : eMkS2 C q (.ok x s) = eMkS3 C q s (itemsT s x) := rfl
theorem ev_mks3 {C : CallT} {f : String} {c : String} {pk : Pk} : eMkS3 C (c, f, pk) s (some ts) = mkOut s.len (pC C f pk (.loc s.len :: ts) (s.add (.ins c []))) := rfl
def clsQ (c : String) : Option (String × Pk) → Option (String × String × Pk)
  | some q => some (c, q)
  | none => none
theorem ev_clsof {c : String} {mt : List (String × String × Pk)} : clsOf mt (.glo c) = clsQ c (mt.lookup c) := by unfold clsOf clsQ; simp only; cases mt.lookup c <;> rfl
theorem ev_clsq {c : String} {q : String × Pk} : clsQ c (some q) = some (c, q) := rfl
def eCm1b (C : CallT) (x : T) (l : Lv) (r : Env) (s : Sto) : Option (String × String × Pk) → Out
  | some q => pCL C q.2.1 q.2.2 x (l r s)
  | none => .bad
def eCm1 (mt : List (String × String × Pk)) (C : CallT) (l : Lv) (r : Env) : Out → Out
  | .ok x s => eCm1b C x l r s (clsOf mt x)
  | .exc x s => .exc x s
  | .bad => .bad
theorem ev_cm {C : CallT} {mt : List (String × String × Pk)} {a : Ev} {l : Lv} : eCm mt C a l r s = eCm1 mt C l r (a r s) := by
  unfold eCm eCm1 Out.bnd
  cases a r s with
  | ok x s =>
    simp only
    unfold eCm1b
    cases clsOf mt x with
    | none => rfl
    | some q => (obtain ⟨c, f, pk⟩ := q; simp only; unfold pCL OutL.bnd; cases l r s <;> rfl)
  | exc => rfl
  | bad => rfl
theorem ev_cm1 {C : CallT} {mt : List (String × String × Pk)} {l : Lv} : eCm1 mt C l r (.ok x s) = eCm1b C x l r s (clsOf mt x) := rfl
theorem ev_cm1b {C : CallT} {f : String} {c : String} {pk : Pk} {l : Lv} : eCm1b C x l r s (some (c, f, pk)) = pCL C f pk x (l r s) := rfl
def setL (cs : List String) (f : String) (y : T) (n : Nat) (s : Sto) : Option O → Option Sto
  | some (.ins c fs) => if cs.contains c = true ∧ fs.length < 1000 then some (s.put n (.ins c (putT f y fs))) else none
  | _ => none
def sFl3 (r : Env) : Option Sto → Fl
  | some s => .nx r s
  | none => .bad
def sFl2 (cs : List String) (f : String) (y : T) (r : Env) : Out → Fl
  | .ok x s => sFl3 r (setFld cs f x y s)
  | .exc x s => .ex x r s
  | .bad => .bad
def sFl1 (cs : List String) (f : String) (b : Ev) (r : Env) : Out → Fl
  | .ok y s => sFl2 cs f y r (b r s)
  | .exc x s => .ex x r s
  | .bad => .bad
theorem ev_sfld {f : String} {cs : List String} {a b : Ev} : sFldF cs f a b r s = sFl1 cs f b r (a r s) := by
  unfold sFldF sFl1 Out.bndS
  cases a r s with
  | ok y s =>
    simp only
    unfold sFl2
    cases b r s with
    | ok t s => (simp only; unfold sFl3; cases setFld cs f t y s <;> rfl)
    | exc => rfl
    | bad => rfl
  | exc => rfl
  | bad => rfl
theorem ev_sfld1 {f : String} {cs : List String} {b : Ev} : sFl1 cs f b r (.ok y s) = sFl2 cs f y r (b r s) := rfl
theorem ev_sfld2 {f : String} {cs : List String} : sFl2 cs f y r (.ok x s) = sFl3 r (setFld cs f x y s) := rfl
theorem ev_sfld3  : sFl3 r (some s) = .nx r s := rfl
theorem ev_setf {n : Nat} {f : String} {cs : List String} : setFld cs f (.loc n) y s = setL cs f y n s (s.get n) := by unfold setFld insOf setL; simp only; cases s.get n with | none => rfl | some o => cases o <;> rfl
theorem ev_setl {f c : String} {fs : List (String × T)} {cs : List String} (h : cs.contains c = true ∧ fs.length < 1000) : setL cs f y n s (some (.ins c fs)) = some (s.put n (.ins c (putT f y fs))) := if_pos h
def sFin2 : Fl → Fl
  | .ex _ _ _ => .bad
  | o => o
def sFinX (x : Exn) : Fl → Fl
  | .nx r s => .ex x r s
  | _ => .bad
def sFin1 (f : Sv) : Fl → Fl
  | .nx r s => sFin2 (f r s)
  | .ex x r s => sFinX x (f r s)
  | _ => .bad
theorem ev_fin  : sFin sa sb r s = sFin1 sb (sa r s) := by
  unfold sFin sFin1
  cases sa r s with
  | nx r s => (simp only; unfold sFin2; cases sb r s <;> rfl)
  | ex x r s => (simp only; unfold sFinX; cases sb r s <;> rfl)
  | _ => rfl
theorem ev_fin1  : sFin1 sb (.nx r s) = sFin2 (sb r s) := rfl
theorem ev_fin1x  : sFin1 sb (.ex ex r s) = sFinX ex (sb r s) := rfl
theorem ev_fin2  : sFin2 (.nx r s) = .nx r s := rfl
theorem ev_finx  : sFinX ex (.nx r s) = .ex ex r s := rfl
def sRaise1 (C f : String) (r : Env) : Out → Fl
  | .ok t s => .ex ⟨C, [(f, t)]⟩ r s
  | .exc x s => .ex x r s
  | .bad => .bad
theorem ev_raise {c f : String} {a : Ev} : sRaise c f a r s = sRaise1 c f r (a r s) := by unfold sRaise sRaise1 Out.bndS; cases a r s <;> rfl
theorem ev_raise1 {c f : String} : sRaise1 c f r (.ok x s) = .ex ⟨c, [(f, x)]⟩ r s := rfl
def spL (mt : List (String × String × Pk)) (C : CallT) (n : Nat) (s : Sto) : Option O → Out
  | some (.ins c _) => (match mt.lookup c with
    | some (f, pk) => pC C f pk [.loc n] s
    | none => .bad)
  | _ => .bad
def spK (C : CallT) (n : Nat) (s : Sto) : Option (String × Pk) → Out
  | some (f, pk) => pC C f pk [.loc n] s
  | none => .bad
theorem ev_spc {n : Nat} {C : CallT} {mt : List (String × String × Pk)} : spcO mt C (.loc n) s = spL mt C n s (s.get n) := by unfold spcO insOf spL; simp only; cases s.get n with | none => rfl | some o => cases o <;> rfl
theorem ev_spl1 {n : Nat} {C : CallT} {c : String} {fs : List (String × T)} {mt : List (String × String × Pk)} : spL mt C n s (some (.ins c fs)) = spK C n s (mt.lookup c) := by unfold spL spK; rfl
theorem ev_spk {n : Nat} {C : CallT} {f : String} {pk : Pk} : spK C n s (some (f, pk)) = pC C f pk [.loc n] s := rfl
def lenO  : Out → OV
  | .ok (.int n) s => if 0 ≤ n ∧ n < 9223372036854775808 then some (.int n, s) else none
  | _ => none
def boolO  : Out → OV
  | .ok (.bl b) s => some (.bl b, s)
  | _ => none
def strO  : Out → OV
  | .ok (.str z) s => some (.str z, s)
  | _ => none
theorem ev_flx {C : CallT} {mt : List (String × String × Pk)} : fLenX mt C [x] s = lenO (spcO mt C x s) := rfl
theorem ev_fbx {C : CallT} {mt : List (String × String × Pk)} : fBoolX mt C [x] s = boolO (spcO mt C x s) := rfl
theorem ev_fsx {C : CallT} {mt : List (String × String × Pk)} : fStrX mt C [x] s = strO (spcO mt C x s) := rfl
theorem ev_leno {j : Int} (h : 0 ≤ j ∧ j < 9223372036854775808) : lenO (.ok (.int j) s) = some (.int j, s) := if_pos h
theorem ev_boolo {b : Bool} : boolO (.ok (.bl b) s) = some (.bl b, s) := rfl
theorem ev_stro  : strO (.ok (.str z) s) = some (.str z, s) := rfl
theorem ev_ena {t : Sto} (h : l r s = .ok [.tup ts] t) : iEnA l r s = .ok ((enumP ts).map fun p => T.tup [p.1, p.2]) chkT t := by unfold iEnA OutL.bndI; rw [h]
theorem ev_zp {t : Sto} (h : l r s = .ok [.tup ts, .tup us] t) : iZp l r s = .ok ((zipP ts us).map fun p => T.tup [p.1, p.2]) chkT t := by unfold iZp OutL.bndI; rw [h]
theorem ev_rg3 {t : Sto} {i j c : Int} (h : l r s = .ok [.int i, .int j, .int c] t) (hz : c ≠ 0 ∧ c.natAbs < 1073741824 ∧ Builtin.Range.small i j c = true) : iRg3 l r s = .ok (rgC i j c) chkT t := by unfold iRg3 OutL.bndI; rw [h]; exact if_pos hz
end
end Fx

set_option maxRecDepth 100000
set_option maxHeartbeats 2000000
/-! Fx: values, the store's plain laws (printed by mkval.py). -/
namespace Fx
open PySem L2 PyProof.Rows
variable {s : Sto} {i j k v : Int} {x y t u : T} {ts us : List T} {z w : Str} {b c : Bool} {n m : Nat}

theorem vv_oAdd  : oAdd (.int i) (.int j) s = some (.int (i + j), s) := rfl
theorem vv_oAddI  : oAddI (.int i) (.int j) s = some (.int (i + j), s) := rfl
theorem vv_oSub  : oSub (.int i) (.int j) s = some (.int (i - j), s) := rfl
theorem vv_oLt  : oLt (.int i) (.int j) s = some (.bl (decide (i < j)), s) := rfl
theorem vv_oLe  : oLe (.int i) (.int j) s = some (.bl (decide (i ≤ j)), s) := rfl
theorem vv_oGt  : oGt (.int i) (.int j) s = some (.bl (decide (j < i)), s) := rfl
theorem vv_oGe  : oGe (.int i) (.int j) s = some (.bl (decide (j ≤ i)), s) := rfl
theorem vv_oEq  : oEq (.int i) (.int j) s = some (.bl (decide (i = j)), s) := rfl
theorem vv_oNe  : oNe (.int i) (.int j) s = some (.bl (!decide (i = j)), s) := rfl
theorem vv_eqs  : oEq (.str z) (.str w) s = some (.bl (decide (z = w)), s) := rfl
theorem vv_nes  : oNe (.str z) (.str w) s = some (.bl (!decide (z = w)), s) := rfl
theorem vv_eqns  : oEq .non (.str w) s = some (.bl false, s) := rfl
theorem vv_isn  : oIsN x .non s = some (.bl (isNon x), s) := rfl
theorem vv_notn  : oNotN x .non s = some (.bl (!isNon x), s) := rfl
theorem vv_in_non  : isNon .non = true := rfl
theorem vv_in_bl  : isNon (.bl b) = false := rfl
theorem vv_in_int  : isNon (.int i) = false := rfl
theorem vv_in_str  : isNon (.str z) = false := rfl
theorem vv_in_tup  : isNon (.tup ts) = false := rfl
theorem vv_in_frz  : isNon (.frz ts) = false := rfl
theorem vv_in_loc  : isNon (.loc n) = false := rfl
theorem vv_neg  : uNeg (.int i) s = some (.int (-i), s) := rfl
theorem vv_tb  : tru (.bl b) s = some b := rfl
theorem vv_ti  : tru (.int i) s = some (decide (i ≠ 0)) := rfl
theorem vv_tn  : tru .non s = some false := rfl
theorem vv_tt  : tru (.tup ts) s = some (!ts.isEmpty) := rfl
theorem vv_tf  : tru (.frz ts) s = some (!ts.isEmpty) := rfl
theorem vv_mul (h : okN i = true) (h2 : okN j = true) : oMul (.int i) (.int j) s = some (.int (i * j), s) := by simp [oMul, h, h2]
theorem vv_div (h : 0 < j) (h2 : okN j = true) : oDiv (.int i) (.int j) s = some (.int (i / j), s) := by simp [oDiv, h, h2]
theorem vv_mod (h : 0 < j) : oMod (.int i) (.int j) s = some (.int (i % j), s) := by simp [oMod, h]
theorem vv_pow7  : oPow (.int 10) (.int 7) s = some (.int 10000000, s) := by simp [oPow]
theorem vv_pow8  : oPow (.int 10) (.int 8) s = some (.int 100000000, s) := by simp [oPow]
theorem vv_pow9  : oPow (.int 10) (.int 9) s = some (.int 1000000000, s) := by simp [oPow]
theorem vv_pow18  : oPow (.int 10) (.int 18) s = some (.int 1000000000000000000, s) := by simp [oPow]
theorem vv_pow12  : oPow (.int 10) (.int 12) s = some (.int 1000000000000, s) := by simp [oPow]
theorem vv_pow6  : oPow (.int 10) (.int 6) s = some (.int 1000000, s) := by simp [oPow]
theorem vv_pow5  : oPow (.int 10) (.int 5) s = some (.int 100000, s) := by simp [oPow]
theorem vv_pow4  : oPow (.int 10) (.int 4) s = some (.int 10000, s) := by simp [oPow]
theorem vv_pow10  : oPow (.int 10) (.int 10) s = some (.int 10000000000, s) := by simp [oPow]
theorem vv_pow16  : oPow (.int 10) (.int 16) s = some (.int 10000000000000000, s) := by simp [oPow]
theorem vv_pow40  : oPow (.int 10) (.int 40) s = some (.int 10000000000000000000000000000000000000000, s) := by simp [oPow]
theorem vv_pow39  : oPow (.int 10) (.int 39) s = some (.int 1000000000000000000000000000000000000000, s) := by simp [oPow]
theorem vv_abs  : fAbs [.int i] s = some (.int (if i < 0 then -i else i), s) := rfl
theorem vv_min  : fMin2 [.int i, .int j] s = some (.int (if j < i then j else i), s) := rfl
theorem vv_max  : fMax2 [.int i, .int j] s = some (.int (if j > i then j else i), s) := rfl
theorem vv_inti  : fInt [.int i] s = some (.int i, s) := rfl
theorem vv_intb  : fInt [.bl b] s = some (.int (if b then 1 else 0), s) := rfl
theorem vv_stri (h : okN i = true) : fStr [.int i] s = some (.str (toString i), s) := if_pos h
theorem vv_strs  : fStr [.str z] s = some (.str z, s) := rfl
theorem vv_lent  : fLen [.tup ts] s = some (.int ts.length, s) := rfl
theorem vv_lenf  : fLen [.frz ts] s = some (.int ts.length, s) := rfl
theorem vv_lens (h : z.length ≤ sizeLine) : fLen [.str z] s = some (.int z.length, s) := by show (if z.length ≤ sizeLine then some ((z.length : Nat) : Int) else none).map _ = _; rw [if_pos h]; rfl
theorem vv_htup  : hTup ts s = some (.tup ts, s) := rfl
theorem vv_hlen  : hLen ts s = some (.int ts.length, s) := rfl
theorem vv_is_non_bool  : fIsI [.non, .ty "bool"] s = some (.bl false, s) := rfl
theorem vv_is_non_int  : fIsI [.non, .ty "int"] s = some (.bl false, s) := rfl
theorem vv_is_non_str  : fIsI [.non, .ty "str"] s = some (.bl false, s) := rfl
theorem vv_is_non_tuple  : fIsI [.non, .ty "tuple"] s = some (.bl false, s) := rfl
theorem vv_is_bl_bool  : fIsI [(.bl b), .ty "bool"] s = some (.bl true, s) := rfl
theorem vv_is_bl_int  : fIsI [(.bl b), .ty "int"] s = some (.bl true, s) := rfl
theorem vv_is_bl_str  : fIsI [(.bl b), .ty "str"] s = some (.bl false, s) := rfl
theorem vv_is_bl_tuple  : fIsI [(.bl b), .ty "tuple"] s = some (.bl false, s) := rfl
theorem vv_is_int_bool  : fIsI [(.int i), .ty "bool"] s = some (.bl false, s) := rfl
theorem vv_is_int_int  : fIsI [(.int i), .ty "int"] s = some (.bl true, s) := rfl
theorem vv_is_int_str  : fIsI [(.int i), .ty "str"] s = some (.bl false, s) := rfl
theorem vv_is_int_tuple  : fIsI [(.int i), .ty "tuple"] s = some (.bl false, s) := rfl
theorem vv_is_str_bool  : fIsI [(.str z), .ty "bool"] s = some (.bl false, s) := rfl
theorem vv_is_str_int  : fIsI [(.str z), .ty "int"] s = some (.bl false, s) := rfl
theorem vv_is_str_str  : fIsI [(.str z), .ty "str"] s = some (.bl true, s) := rfl
theorem vv_is_str_tuple  : fIsI [(.str z), .ty "tuple"] s = some (.bl false, s) := rfl
theorem vv_is_tup_bool  : fIsI [(.tup ts), .ty "bool"] s = some (.bl false, s) := rfl
theorem vv_is_tup_int  : fIsI [(.tup ts), .ty "int"] s = some (.bl false, s) := rfl
theorem vv_is_tup_str  : fIsI [(.tup ts), .ty "str"] s = some (.bl false, s) := rfl
theorem vv_is_tup_tuple  : fIsI [(.tup ts), .ty "tuple"] s = some (.bl true, s) := rfl
theorem vv_is_frz_bool  : fIsI [(.frz ts), .ty "bool"] s = some (.bl false, s) := rfl
theorem vv_is_frz_int  : fIsI [(.frz ts), .ty "int"] s = some (.bl false, s) := rfl
theorem vv_is_frz_str  : fIsI [(.frz ts), .ty "str"] s = some (.bl false, s) := rfl
theorem vv_is_frz_tuple  : fIsI [(.frz ts), .ty "tuple"] s = some (.bl false, s) := rfl
theorem vv_is_int_list  : fIsI [(.int i), .ty "list"] s = some (.bl false, s) := rfl
theorem vv_is_str_list  : fIsI [(.str z), .ty "list"] s = some (.bl false, s) := rfl
theorem vv_is_tup_list  : fIsI [(.tup ts), .ty "list"] s = some (.bl false, s) := rfl
theorem vv_is_non_list  : fIsI [.non, .ty "list"] s = some (.bl false, s) := rfl
theorem vv_mulTi (h : okN i = true) (h2 : okN j = true) : oMulT (.int i) (.int j) s = some (.int (i * j), s) := by simp [oMulT, oMul, h, h2]
theorem vv_mulT0 {q : Int} (h : 0 ≤ q ∧ q ≤ 1000) : oMulT (.tup [.int 0]) (.int q) s = some (.tup (List.replicate q.toNat (.int 0)), s) := by unfold oMulT; simp only; rw [if_pos ⟨by simp, by simp, by omega, h.2⟩]; congr 3; generalize q.toNat = n; induction n with | zero => rfl | succ n ih => rw [List.replicate_succ, List.flatten_cons, ih]; rfl
theorem vv_fboolt  : fBool [.tup ts] s = some (.bl (!ts.isEmpty), s) := rfl
theorem vv_fmtc (h : 0 ≤ i ∧ i < 1000000000000000000000000000000) : fmtC (.int i) s = some (.str (commaT i), s) := if_pos h
theorem vv_catt (h : ts.length + us.length ≤ sizeLine) : oAdd (.tup ts) (.tup us) s = some (.tup (ts ++ us), s) := if_pos h
theorem vv_repi (h : okN i = true) : fRepr [.int i] s = some (.str (toString i), s) := if_pos h
theorem vv_lk0 {a : String} {β : Type} : ([] : List (String × β)).lookup a = none := rfl
theorem vv_lk1 {a : String} {β : Type} {q : β} {l : List (String × β)} : ((a, q) :: l).lookup a = some q := by simp [List.lookup]
theorem vv_lk2 {a e : String} {β : Type} {q : β} {l : List (String × β)} (h : (a == e) = false) : ((e, q) :: l).lookup a = l.lookup a := by simp [List.lookup, h]
theorem vv_put0 {f : String} : putT f x [] = [(f, x)] := rfl
theorem vv_put1 {f : String} {l : List (String × T)} : putT f x ((f, y) :: l) = (f, x) :: l := if_pos rfl
theorem vv_put2 {f e : String} {l : List (String × T)} (h : (e == f) = false) : putT f x ((e, y) :: l) = (e, y) :: putT f x l := if_neg (by simpa using h)
theorem vv_set0 {f e : String}  : setL [e] f y n s (some (.ins e [])) = some (s.put n (.ins e (putT f y []))) := by unfold setL; simp only; rw [if_pos ⟨by simp, by simp⟩]
theorem vv_set1 {f e : String} {q0 : String × T} : setL [e] f y n s (some (.ins e [q0])) = some (s.put n (.ins e (putT f y [q0]))) := by unfold setL; simp only; rw [if_pos ⟨by simp, by simp⟩]
theorem vv_set2 {f e : String} {q0 q1 : String × T} : setL [e] f y n s (some (.ins e [q0, q1])) = some (s.put n (.ins e (putT f y [q0, q1]))) := by unfold setL; simp only; rw [if_pos ⟨by simp, by simp⟩]
theorem vv_set3 {f e : String} {q0 q1 q2 : String × T} : setL [e] f y n s (some (.ins e [q0, q1, q2])) = some (s.put n (.ins e (putT f y [q0, q1, q2]))) := by unfold setL; simp only; rw [if_pos ⟨by simp, by simp⟩]
theorem vv_set4 {f e : String} {q0 q1 q2 q3 : String × T} : setL [e] f y n s (some (.ins e [q0, q1, q2, q3])) = some (s.put n (.ins e (putT f y [q0, q1, q2, q3]))) := by unfold setL; simp only; rw [if_pos ⟨by simp, by simp⟩]
theorem vv_iss  : isTy "str" (.str z) s = true := rfl
theorem vv_items_t  : itemsT s (.tup ts) = some ts := rfl
theorem vv_items_f  : itemsT s (.frz ts) = some ts := rfl
theorem vv_spl (h : (w.length == 0) = false ∧ z.length + 2 ≤ sizeLine) : mSplit (.str z) [.str w] s = some (.loc s.len, s.add (.lst (strTs (Txt.split z w)))) := if_pos h
theorem vv_fmts (h : z.length ≤ sizeLine) : fmtT (.str z) s = some (.str z, s) := if_pos h
theorem vv_fmti (h : okN i = true) : fmtT (.int i) s = some (.str (toString i), s) := if_pos h
theorem vv_cats (h : z.length + w.length ≤ sizeLine) : oAdd (.str z) (.str w) s = some (.str (z ++ w), s) := if_pos h
theorem vv_cast0  : ((0 : Nat) : Int) = (0 : Int) := rfl
theorem vv_cast1  : ((1 : Nat) : Int) = (1 : Int) := rfl
theorem vv_cast2  : ((2 : Nat) : Int) = (2 : Int) := rfl
theorem vv_cast3  : ((3 : Nat) : Int) = (3 : Int) := rfl
theorem vv_cast4  : ((4 : Nat) : Int) = (4 : Int) := rfl
theorem vv_cast5  : ((5 : Nat) : Int) = (5 : Int) := rfl
theorem vv_cast6  : ((6 : Nat) : Int) = (6 : Int) := rfl
theorem vv_cast7  : ((7 : Nat) : Int) = (7 : Int) := rfl
theorem vv_cast8  : ((8 : Nat) : Int) = (8 : Int) := rfl
theorem vv_cast9  : ((9 : Nat) : Int) = (9 : Int) := rfl
theorem vv_cast10  : ((10 : Nat) : Int) = (10 : Int) := rfl
theorem vv_cast11  : ((11 : Nat) : Int) = (11 : Int) := rfl
theorem vv_line0  : (0 ≤ sizeLine) = True := eq_true (by decide)
theorem vv_line1  : (1 ≤ sizeLine) = True := eq_true (by decide)
theorem vv_line2  : (2 ≤ sizeLine) = True := eq_true (by decide)
theorem vv_line3  : (3 ≤ sizeLine) = True := eq_true (by decide)
theorem vv_line4  : (4 ≤ sizeLine) = True := eq_true (by decide)
theorem vv_line5  : (5 ≤ sizeLine) = True := eq_true (by decide)
theorem vv_line6  : (6 ≤ sizeLine) = True := eq_true (by decide)
theorem vv_line7  : (7 ≤ sizeLine) = True := eq_true (by decide)
theorem vv_line8  : (8 ≤ sizeLine) = True := eq_true (by decide)

def isL : Option O → Bool
  | some (.lst _) => true
  | _ => false
def lenL (s : Sto) : Option O → OV
  | some (.lst ts) => some (.int ts.length, s)
  | _ => none
def tupL (s : Sto) : Option O → OV
  | some (.lst ts) => some (.tup ts, s)
  | _ => none
def itmL : Option O → Option (List T)
  | some (.lst ts) => some ts
  | _ => none
noncomputable def lstIL (n : Nat) : Option O → Option (List T × (Sto → Bool))
  | some (.lst ts) => some (ts, chkL n ts)
  | _ => none
def appL (n : Nat) (x : T) (s : Sto) : Option O → OV
  | some (.lst a) => if a.length < sizeLine then some (.non, s.put n (.lst (a ++ [x]))) else none
  | _ => none
def popL (n : Nat) (s : Sto) : Option O → OV
  | some (.lst (t :: ts)) => some (t, s.put n (.lst ts))
  | _ => none
def insL (n : Nat) (x : T) (s : Sto) : Option O → OV
  | some (.lst a) => if a.length < sizeLine then some (.non, s.put n (.lst (x :: a))) else none
  | _ => none

theorem vv_isl  : isTy "list" (.loc n) s = isL (s.get n) := by unfold isTy; simp only <;> cases s.get n with | none => rfl | some o => cases o <;> first | rfl | simp [isL]
theorem vv_isl1  : isL (some (.lst ts)) = true := rfl
theorem vv_lenl  : fLen [.loc n] s = lenL s (s.get n) := by unfold fLen lenT itemsT lenL; simp only <;> cases s.get n with | none => rfl | some o => cases o <;> rfl
theorem vv_lenl1  : lenL s (some (.lst ts)) = some (.int ts.length, s) := rfl
theorem vv_tupl  : fTup [.loc n] s = tupL s (s.get n) := by unfold fTup itemsT tupL; simp only <;> cases s.get n with | none => rfl | some o => cases o <;> rfl
theorem vv_tupl1  : tupL s (some (.lst ts)) = some (.tup ts, s) := rfl
theorem vv_items_l  : itemsT s (.loc n) = itmL (s.get n) := by unfold itemsT itmL; simp only <;> cases s.get n with | none => rfl | some o => cases o <;> rfl
theorem vv_items_l1  : itmL (some (.lst ts)) = some ts := rfl
theorem vv_lst_f  : lstI (.frz ts) s = some (ts, chkT) := rfl
theorem vv_lst_l  : lstI (.loc n) s = lstIL n (s.get n) := by unfold lstI lstIL; simp only <;> cases s.get n with | none => rfl | some o => cases o <;> rfl
theorem vv_lst_l1  : lstIL n (some (.lst ts)) = some (ts, chkL n ts) := rfl
theorem vv_app  : mAppend (.loc n) [x] s = appL n x s (s.get n) := by unfold mAppend appL; simp only <;> cases s.get n with | none => rfl | some o => cases o <;> rfl
theorem vv_app1 (hz : ts.length < sizeLine) : appL n x s (some (.lst ts)) = some (.non, s.put n (.lst (ts ++ [x]))) := if_pos hz
theorem vv_pop0  : mPop (.loc n) [.int 0] s = popL n s (s.get n) := by unfold mPop popL; simp only <;> cases s.get n with | none => rfl | some o => cases o with | lst ts => (cases ts <;> simp) | _ => rfl
theorem vv_pop01  : popL n s (some (.lst (t :: ts))) = some (t, s.put n (.lst ts)) := rfl
theorem vv_ins0  : mInsert (.loc n) [.int 0, x] s = insL n x s (s.get n) := by unfold mInsert insL; simp only <;> cases s.get n with | none => rfl | some o => cases o with | lst ts => simp | _ => rfl
theorem vv_ins01 (hz : ts.length < sizeLine) : insL n x s (some (.lst ts)) = some (.non, s.put n (.lst (x :: ts))) := if_pos hz

def mulL (k : Int) (s : Sto) : Option O → OV
  | some (.lst a) => if a.length * k.toNat ≤ sizeLine && okN k && decide (-(2 ^ 63) ≤ k ∧ k < 2 ^ 63) then some (.loc s.len, s.add (.lst (List.replicate k.toNat a).flatten)) else none
  | _ => none
def addL (s : Sto) : Option O → Option O → OV
  | some (.lst a), some (.lst b) => if a.length + b.length ≤ sizeLine then some (.loc s.len, s.add (.lst (a ++ b))) else none
  | _, _ => none

theorem vv_mull  : oMul (.loc n) (.int k) s = mulL k s (s.get n) := by unfold oMul mulL; simp only <;> cases s.get n with | none => rfl | some o => cases o <;> rfl
theorem vv_mullT  : oMulT (.loc n) (.int k) s = mulL k s (s.get n) := by unfold oMulT oMul mulL; simp only <;> cases s.get n with | none => rfl | some o => cases o <;> rfl
theorem vv_mull0  : mulL 0 s (some (.lst [x])) = some (.loc s.len, s.add (.lst [])) := rfl
theorem vv_mull1  : mulL 1 s (some (.lst [x])) = some (.loc s.len, s.add (.lst [x])) := rfl
theorem vv_addl  : oAdd (.loc n) (.loc m) s = addL s (s.get n) (s.get m) := by unfold oAdd addL; simp only <;> cases s.get n with | none => rfl | some o => (cases o with | lst a => (cases s.get m with | none => rfl | some o2 => cases o2 <;> rfl) | _ => rfl)
theorem vv_addl1 (hz : ts.length + us.length ≤ sizeLine) : addL s (some (.lst ts)) (some (.lst us)) = some (.loc s.len, s.add (.lst (ts ++ us))) := if_pos hz
theorem vv_slf {lo hi : Option Int} : slT (.frz ts) lo hi s = some (.loc s.len, s.add (.lst (cutT ts lo hi))) := rfl
theorem vv_slt {lo hi : Option Int} : slT (.tup ts) lo hi s = some (.tup (cutT ts lo hi), s) := rfl

/-! ### the store -/
theorem cut_self {s : Sto} {m : Nat} (h : s.len ≤ m) : s.cut m = s := by
  obtain ⟨os, kp⟩ := s
  simp only [Sto.cut, Sto.len] at *
  rw [List.take_of_length_le h]
theorem gc_same {s : Sto} {t : T} : gcR s.len s.kp (.ok t s) = .ok t s := by
  simp only [gcR, if_true]
  rw [cut_self (Nat.le_max_left _ _)]
theorem runD_eq {d : FnD} {C : CallT} {ts : List T} {s : Sto} (h : ts.length = d.np) : runD d C ts s = gcR s.len s.kp (d.body C (ts.map some ++ List.replicate (d.nl - d.np) none) s).out := if_pos h
theorem run_eq {p : String → Option FnD} {k : Nat} {f : String} {d : FnD} {ts : List T} {s : Sto} (hp : p f = some d) (h : ts.length = d.np) : run p (k + 1) f ts s = gcR s.len s.kp (d.body (run p k) (ts.map some ++ List.replicate (d.nl - d.np) none) s).out := by
  show (match p f with | some d => runD d (run p k) ts s | none => .bad) = _
  rw [hp]
  exact runD_eq h
/-- a def that leaves the store as it is -/
theorem run_pure {p : String → Option FnD} {k : Nat} {f : String} {d : FnD} {ts : List T} {s : Sto} {t : T} (hp : p f = some d) (h : ts.length = d.np) (e : (d.body (run p k) (ts.map some ++ List.replicate (d.nl - d.np) none) s).out = .ok t s) : run p (k + 1) f ts s = .ok t s :=
  (run_eq hp h).trans ((congrArg _ e).trans gc_same)
/-- more objects behind, nothing else -/
def Gro (s s' : Sto) : Prop := ∃ ex, s' = ⟨s.os ++ ex, s.kp⟩
theorem Gro.refl : Gro s s := ⟨[], by simp⟩
theorem Gro.trans {s1 s2 s3 : Sto} (a : Gro s1 s2) (b : Gro s2 s3) : Gro s1 s3 := by
  obtain ⟨e1, rfl⟩ := a
  obtain ⟨e2, rfl⟩ := b
  exact ⟨e1 ++ e2, by simp⟩
theorem Gro.add {o : O} : Gro s (s.add o) := ⟨[o], rfl⟩
theorem Gro.get {s' : Sto} (a : Gro s s') {o : O} (h : s.get n = some o) : s'.get n = some o := by
  obtain ⟨ex, rfl⟩ := a
  have hl : n < s.os.length := (List.getElem?_eq_some_iff.mp h).1
  show (s.os ++ ex)[n]? = _
  rw [List.getElem?_append_left hl]; exact h
theorem Gro.len {s' : Sto} (a : Gro s s') : s.len ≤ s'.len := by
  obtain ⟨ex, rfl⟩ := a
  simp [Sto.len]
theorem gc_gro {s' : Sto} {t : T} (a : Gro s s') (h : t.hi ≤ s.len) : gcR s.len s.kp (.ok t s') = .ok t s := by
  obtain ⟨ex, rfl⟩ := a
  simp only [gcR, if_true]
  rw [Nat.max_eq_left h]
  obtain ⟨os, kp⟩ := s
  simp [Sto.cut, Sto.len]
theorem run_gro {p : String → Option FnD} {k : Nat} {f : String} {d : FnD} {ts : List T} {s : Sto} {t : T} (hp : p f = some d) (h : ts.length = d.np) (e : ∃ s', (d.body (run p k) (ts.map some ++ List.replicate (d.nl - d.np) none) s).out = .ok t s' ∧ Gro s s') (hh : t.hi ≤ s.len) : run p (k + 1) f ts s = .ok t s := by
  obtain ⟨s', e1, e2⟩ := e
  exact (run_eq hp h).trans ((congrArg _ e1).trans (gc_gro e2 hh))
theorem get_add {o : O} : (s.add o).get s.len = some o := by simp [Sto.get, Sto.add, Sto.len]
theorem get_add_old {o q : O} (h : s.get n = some q) : (s.add o).get n = some q := Gro.add.get h
theorem len_add {o : O} : (s.add o).len = s.len + 1 := by simp [Sto.len, Sto.add]
theorem lt_of_get {o : O} (h : s.get n = some o) : n < s.len := (List.getElem?_eq_some_iff.mp h).1
theorem get_put {o : O} (h : n < s.len) : (s.put n o).get n = some o := by
  simp only [Sto.put, Sto.get, Sto.len] at *
  rw [List.getElem?_set_self h]
theorem get_put_ne {o : O} (h : n ≠ m) : (s.put n o).get m = s.get m := by
  simp only [Sto.put, Sto.get]
  rw [List.getElem?_set_ne h]
theorem len_put {o : O} : (s.put n o).len = s.len := by simp [Sto.put, Sto.len]
theorem kp_put {o : O} (h : o.hi ≤ n) : (s.put n o).kp = s.kp := by simp [Sto.put, h]
/-- a list behind s changed -/
theorem Gro.put {s' : Sto} {o : O} (a : Gro s s') (h : s.len ≤ n) (hh : o.hi ≤ n) : Gro s (s'.put n o) := by
  obtain ⟨ex, rfl⟩ := a
  refine ⟨ex.set (n - s.os.length) o, ?_⟩
  simp only [Sto.put, hh, if_true]
  rw [List.set_append_right _ _ h]
/-! ### tests by if -/
theorem bool_if {P : Prop} [Decidable P] {α : Type} {a b : α} : (if decide P = true then a else b) = if P then a else b := by simp only [decide_eq_true_eq]
theorem int_hi : T.hi (.int i) = 0 := rfl

end Fx

local macro_rules | `(tactic| simp_arith [$ls,*]) => `(tactic| simp -implicitDefEqProofs only [$ls,*, Fx.ev_var, Fx.ev_var1, Fx.ev_c, Fx.ev_vout, Fx.ev_bin, Fx.ev_bin1, Fx.ev_bin2, Fx.ev_un, Fx.ev_un1, Fx.ev_lnil, Fx.ev_lcons, Fx.ev_lcons1, Fx.ev_lcons2, Fx.ev_ldef, Fx.ev_ldef1, Fx.ev_lstar, Fx.ev_lstar1, Fx.ev_lstar1b, Fx.ev_lstar2, Fx.ev_tup, Fx.ev_tup1, Fx.ev_lst, Fx.ev_lst1, Fx.ev_lchk, Fx.ev_lchk1, Fx.ev_call, Fx.ev_call1, Fx.ev_g, Fx.ev_b, Fx.ev_b1, Fx.ev_tmp, Fx.ev_tmp1, Fx.ev_comp, Fx.ev_comp1, Fx.ev_if, Fx.ev_if1t, Fx.ev_if1f, Fx.ev_bt, Fx.ev_bt1, Fx.ev_bt2, Fx.ev_bv, Fx.ev_bv1, Fx.ev_bnot, Fx.ev_bnot1, Fx.ev_band, Fx.ev_band1t, Fx.ev_band1f, Fx.ev_bor, Fx.ev_bor1t, Fx.ev_bor1f, Fx.ev_byes, Fx.ev_eand, Fx.ev_eand1, Fx.ev_eand2t, Fx.ev_eand2f, Fx.ev_eor, Fx.ev_eor1, Fx.ev_eor2t, Fx.ev_eor2f, Fx.ev_enot, Fx.ev_enot1, Fx.ev_enot2, Fx.ev_ch, Fx.ev_ch1, Fx.ev_ch2, Fx.ev_ch3t, Fx.ev_ch3f, Fx.ev_ch4, Fx.ev_m, Fx.ev_m1, Fx.ev_m2, Fx.ev_m3, Fx.ev_jo, Fx.ev_jo1, Fx.ev_jo2, Fx.ev_fs, Fx.ev_jfn, Fx.ev_jfc, Fx.ev_jf1, Fx.ev_dct, Fx.ev_kvn, Fx.ev_kvc, Fx.ev_kv1, Fx.ev_kv2, Fx.ev_kv3, Fx.ev_dct1, Fx.ev_pn, Fx.ev_ps, Fx.ev_ps1, Fx.ev_sl, Fx.ev_sl1, Fx.ev_sl2, Fx.ev_sl3, Fx.ev_snil, Fx.ev_seq, Fx.ev_seqn, Fx.ev_seqr, Fx.ev_seqb, Fx.ev_seqc, Fx.ev_seqx, Fx.ev_sex, Fx.ev_sex1, Fx.ev_ret, Fx.ev_ret1, Fx.ev_retn, Fx.ev_sif, Fx.ev_sif1t, Fx.ev_sif1f, Fx.ev_brk, Fx.ev_cnt, Fx.ev_asg, Fx.ev_asg1, Fx.ev_gnm, Fx.ev_gnil, Fx.ev_gcons, Fx.ev_gcons1, Fx.ev_gtp, Fx.ev_gtpl, Fx.ev_gtpl1, Fx.ev_gst, Fx.ev_gst1, Fx.ev_gsub, Fx.ev_gsub1, Fx.ev_gsub2, Fx.ev_gsub3, Fx.ev_par, Fx.ev_par1, Fx.ev_par3, Fx.ev_par31, Fx.ev_aug, Fx.ev_aug1, Fx.ev_aug2, Fx.ev_aug3, Fx.ev_for, Fx.ev_for1, Fx.ev_lcomp, Fx.ev_lcomp1, Fx.ev_wipn, Fx.ev_wipc, Fx.ev_iseq, Fx.ev_iseq1, Fx.ev_seqt, Fx.ev_seqf, Fx.ev_seqs, Fx.ev_seql, Fx.ev_seql1, Fx.ev_rg1, Fx.ev_rg11, Fx.ev_rg2, Fx.ev_rg21, Fx.ev_en, Fx.ev_en1, Fx.ev_en2, Fx.ev_outr, Fx.ev_outn, Fx.ev_outx, Fx.ev_ixi, Fx.ev_ixk, Fx.ev_ixl, Fx.ev_ixll, Fx.ev_ixld, Fx.ev_ixkk, Fx.ev_ix1, Fx.ev_ixt, Fx.ev_ixf, Fx.ev_attr, Fx.ev_attr1, Fx.ev_attrl, Fx.ev_attrl1, Fx.ev_attrk1, Fx.ev_attrk2, Fx.ev_attrf, Fx.ev_nox, Fx.ev_meth, Fx.ev_meth1, Fx.ev_metht, Fx.ev_methl, Fx.ev_methk, Fx.ev_methn, Fx.ev_pcl, Fx.ev_pca, Fx.ev_make, Fx.ev_make1, Fx.ev_mkout, Fx.ev_mks, Fx.ev_mks1, Fx.ev_mks1b, Fx.ev_mks2, Fx.ev_mks3, Fx.ev_clsof, Fx.ev_clsq, Fx.ev_cm, Fx.ev_cm1, Fx.ev_cm1b, Fx.ev_sfld, Fx.ev_sfld1, Fx.ev_sfld2, Fx.ev_sfld3, Fx.ev_setf, Fx.ev_fin, Fx.ev_fin1, Fx.ev_fin1x, Fx.ev_fin2, Fx.ev_finx, Fx.ev_raise, Fx.ev_raise1, Fx.ev_spc, Fx.ev_spl1, Fx.ev_spk, Fx.ev_flx, Fx.ev_fbx, Fx.ev_fsx, Fx.ev_boolo, Fx.ev_stro, Fx.vv_oAdd, Fx.vv_oAddI, Fx.vv_oSub, Fx.vv_oLt, Fx.vv_oLe, Fx.vv_oGt, Fx.vv_oGe, Fx.vv_oEq, Fx.vv_oNe, Fx.vv_eqs, Fx.vv_nes, Fx.vv_eqns, Fx.vv_isn, Fx.vv_notn, Fx.vv_in_non, Fx.vv_in_bl, Fx.vv_in_int, Fx.vv_in_str, Fx.vv_in_tup, Fx.vv_in_frz, Fx.vv_in_loc, Fx.vv_neg, Fx.vv_tb, Fx.vv_ti, Fx.vv_tn, Fx.vv_tt, Fx.vv_tf, Fx.vv_mul, Fx.vv_div, Fx.vv_mod, Fx.vv_pow7, Fx.vv_pow8, Fx.vv_pow9, Fx.vv_pow18, Fx.vv_pow12, Fx.vv_pow6, Fx.vv_pow5, Fx.vv_pow4, Fx.vv_pow10, Fx.vv_pow16, Fx.vv_pow40, Fx.vv_pow39, Fx.vv_abs, Fx.vv_min, Fx.vv_max, Fx.vv_inti, Fx.vv_intb, Fx.vv_stri, Fx.vv_strs, Fx.vv_lent, Fx.vv_lenf, Fx.vv_lens, Fx.vv_htup, Fx.vv_hlen, Fx.vv_is_non_bool, Fx.vv_is_non_int, Fx.vv_is_non_str, Fx.vv_is_non_tuple, Fx.vv_is_bl_bool, Fx.vv_is_bl_int, Fx.vv_is_bl_str, Fx.vv_is_bl_tuple, Fx.vv_is_int_bool, Fx.vv_is_int_int, Fx.vv_is_int_str, Fx.vv_is_int_tuple, Fx.vv_is_str_bool, Fx.vv_is_str_int, Fx.vv_is_str_str, Fx.vv_is_str_tuple, Fx.vv_is_tup_bool, Fx.vv_is_tup_int, Fx.vv_is_tup_str, Fx.vv_is_tup_tuple, Fx.vv_is_frz_bool, Fx.vv_is_frz_int, Fx.vv_is_frz_str, Fx.vv_is_frz_tuple, Fx.vv_is_int_list, Fx.vv_is_str_list, Fx.vv_is_tup_list, Fx.vv_is_non_list, Fx.vv_mulTi, Fx.vv_mulT0, Fx.vv_fboolt, Fx.vv_fmtc, Fx.vv_catt, Fx.vv_repi, Fx.vv_lk0, Fx.vv_lk1, Fx.vv_lk2, Fx.vv_put0, Fx.vv_put1, Fx.vv_put2, Fx.vv_set0, Fx.vv_set1, Fx.vv_set2, Fx.vv_set3, Fx.vv_set4, Fx.vv_iss, Fx.vv_items_t, Fx.vv_items_f, Fx.vv_spl, Fx.vv_fmts, Fx.vv_fmti, Fx.vv_cats, Fx.vv_cast0, Fx.vv_cast1, Fx.vv_cast2, Fx.vv_cast3, Fx.vv_cast4, Fx.vv_cast5, Fx.vv_cast6, Fx.vv_cast7, Fx.vv_cast8, Fx.vv_cast9, Fx.vv_cast10, Fx.vv_cast11, Fx.vv_line0, Fx.vv_line1, Fx.vv_line2, Fx.vv_line3, Fx.vv_line4, Fx.vv_line5, Fx.vv_line6, Fx.vv_line7, Fx.vv_line8, Fx.vv_isl, Fx.vv_isl1, Fx.vv_lenl, Fx.vv_lenl1, Fx.vv_tupl, Fx.vv_tupl1, Fx.vv_items_l, Fx.vv_items_l1, Fx.vv_lst_f, Fx.vv_lst_l, Fx.vv_lst_l1, Fx.vv_app, Fx.vv_app1, Fx.vv_pop0, Fx.vv_pop01, Fx.vv_ins0, Fx.vv_ins01, Fx.vv_mull, Fx.vv_mullT, Fx.vv_mull0, Fx.vv_mull1, Fx.vv_addl, Fx.vv_addl1, Fx.vv_slf, Fx.vv_slt, List.getElem?_cons_zero, List.getElem?_cons_succ, List.set_cons_zero, List.set_cons_succ, List.map_cons, List.map_nil, List.length_cons, List.length_nil, List.replicate_succ, List.replicate_zero, List.cons_append, List.nil_append, List.append_nil, Option.map_some, Option.map_none, Option.bind_some, String.reduceBEq, Nat.reduceSub, Nat.reduceAdd, Nat.reduceMul, Nat.reduceLeDiff, Nat.zero_le, Int.reduceLT, Int.reduceLE, Int.reduceNeg, Int.reduceAdd, Int.reduceEq, Int.reduceMul, Int.reduceSub, eq_self, Bool.not_true, Bool.not_false, Bool.and_true, Bool.true_and, Bool.and_false, Bool.false_and, Bool.or_true, Bool.true_or, Bool.or_false, Bool.false_or, decide_true, decide_false, if_true, if_false, ite_true, ite_false, Bool.false_eq_true, and_true, true_and, and_false, false_and, not_true_eq_false, not_false_eq_true])
local macro_rules | `(tactic| simp_arith! [$ls,*]) => `(tactic| simp only [$ls,*, Fx.ev_var, Fx.ev_var1, Fx.ev_c, Fx.ev_vout, Fx.ev_bin, Fx.ev_bin1, Fx.ev_bin2, Fx.ev_un, Fx.ev_un1, Fx.ev_lnil, Fx.ev_lcons, Fx.ev_lcons1, Fx.ev_lcons2, Fx.ev_ldef, Fx.ev_ldef1, Fx.ev_lstar, Fx.ev_lstar1, Fx.ev_lstar1b, Fx.ev_lstar2, Fx.ev_tup, Fx.ev_tup1, Fx.ev_lst, Fx.ev_lst1, Fx.ev_lchk, Fx.ev_lchk1, Fx.ev_call, Fx.ev_call1, Fx.ev_g, Fx.ev_b, Fx.ev_b1, Fx.ev_tmp, Fx.ev_tmp1, Fx.ev_comp, Fx.ev_comp1, Fx.ev_if, Fx.ev_if1t, Fx.ev_if1f, Fx.ev_bt, Fx.ev_bt1, Fx.ev_bt2, Fx.ev_bv, Fx.ev_bv1, Fx.ev_bnot, Fx.ev_bnot1, Fx.ev_band, Fx.ev_band1t, Fx.ev_band1f, Fx.ev_bor, Fx.ev_bor1t, Fx.ev_bor1f, Fx.ev_byes, Fx.ev_eand, Fx.ev_eand1, Fx.ev_eand2t, Fx.ev_eand2f, Fx.ev_eor, Fx.ev_eor1, Fx.ev_eor2t, Fx.ev_eor2f, Fx.ev_enot, Fx.ev_enot1, Fx.ev_enot2, Fx.ev_ch, Fx.ev_ch1, Fx.ev_ch2, Fx.ev_ch3t, Fx.ev_ch3f, Fx.ev_ch4, Fx.ev_m, Fx.ev_m1, Fx.ev_m2, Fx.ev_m3, Fx.ev_jo, Fx.ev_jo1, Fx.ev_jo2, Fx.ev_fs, Fx.ev_jfn, Fx.ev_jfc, Fx.ev_jf1, Fx.ev_dct, Fx.ev_kvn, Fx.ev_kvc, Fx.ev_kv1, Fx.ev_kv2, Fx.ev_kv3, Fx.ev_dct1, Fx.ev_pn, Fx.ev_ps, Fx.ev_ps1, Fx.ev_sl, Fx.ev_sl1, Fx.ev_sl2, Fx.ev_sl3, Fx.ev_snil, Fx.ev_seq, Fx.ev_seqn, Fx.ev_seqr, Fx.ev_seqb, Fx.ev_seqc, Fx.ev_seqx, Fx.ev_sex, Fx.ev_sex1, Fx.ev_ret, Fx.ev_ret1, Fx.ev_retn, Fx.ev_sif, Fx.ev_sif1t, Fx.ev_sif1f, Fx.ev_brk, Fx.ev_cnt, Fx.ev_asg, Fx.ev_asg1, Fx.ev_gnm, Fx.ev_gnil, Fx.ev_gcons, Fx.ev_gcons1, Fx.ev_gtp, Fx.ev_gtpl, Fx.ev_gtpl1, Fx.ev_gst, Fx.ev_gst1, Fx.ev_gsub, Fx.ev_gsub1, Fx.ev_gsub2, Fx.ev_gsub3, Fx.ev_par, Fx.ev_par1, Fx.ev_par3, Fx.ev_par31, Fx.ev_aug, Fx.ev_aug1, Fx.ev_aug2, Fx.ev_aug3, Fx.ev_for, Fx.ev_for1, Fx.ev_lcomp, Fx.ev_lcomp1, Fx.ev_wipn, Fx.ev_wipc, Fx.ev_iseq, Fx.ev_iseq1, Fx.ev_seqt, Fx.ev_seqf, Fx.ev_seqs, Fx.ev_seql, Fx.ev_seql1, Fx.ev_rg1, Fx.ev_rg11, Fx.ev_rg2, Fx.ev_rg21, Fx.ev_en, Fx.ev_en1, Fx.ev_en2, Fx.ev_outr, Fx.ev_outn, Fx.ev_outx, Fx.ev_ixi, Fx.ev_ixk, Fx.ev_ixl, Fx.ev_ixll, Fx.ev_ixld, Fx.ev_ixkk, Fx.ev_ix1, Fx.ev_ixt, Fx.ev_ixf, Fx.ev_attr, Fx.ev_attr1, Fx.ev_attrl, Fx.ev_attrl1, Fx.ev_attrk1, Fx.ev_attrk2, Fx.ev_attrf, Fx.ev_nox, Fx.ev_meth, Fx.ev_meth1, Fx.ev_metht, Fx.ev_methl, Fx.ev_methk, Fx.ev_methn, Fx.ev_pcl, Fx.ev_pca, Fx.ev_make, Fx.ev_make1, Fx.ev_mkout, Fx.ev_mks, Fx.ev_mks1, Fx.ev_mks1b, Fx.ev_mks2, Fx.ev_mks3, Fx.ev_clsof, Fx.ev_clsq, Fx.ev_cm, Fx.ev_cm1, Fx.ev_cm1b, Fx.ev_sfld, Fx.ev_sfld1, Fx.ev_sfld2, Fx.ev_sfld3, Fx.ev_setf, Fx.ev_fin, Fx.ev_fin1, Fx.ev_fin1x, Fx.ev_fin2, Fx.ev_finx, Fx.ev_raise, Fx.ev_raise1, Fx.ev_spc, Fx.ev_spl1, Fx.ev_spk, Fx.ev_flx, Fx.ev_fbx, Fx.ev_fsx, Fx.ev_boolo, Fx.ev_stro, Fx.vv_oAdd, Fx.vv_oAddI, Fx.vv_oSub, Fx.vv_oLt, Fx.vv_oLe, Fx.vv_oGt, Fx.vv_oGe, Fx.vv_oEq, Fx.vv_oNe, Fx.vv_eqs, Fx.vv_nes, Fx.vv_eqns, Fx.vv_isn, Fx.vv_notn, Fx.vv_in_non, Fx.vv_in_bl, Fx.vv_in_int, Fx.vv_in_str, Fx.vv_in_tup, Fx.vv_in_frz, Fx.vv_in_loc, Fx.vv_neg, Fx.vv_tb, Fx.vv_ti, Fx.vv_tn, Fx.vv_tt, Fx.vv_tf, Fx.vv_mul, Fx.vv_div, Fx.vv_mod, Fx.vv_pow7, Fx.vv_pow8, Fx.vv_pow9, Fx.vv_pow18, Fx.vv_pow12, Fx.vv_pow6, Fx.vv_pow5, Fx.vv_pow4, Fx.vv_pow10, Fx.vv_pow16, Fx.vv_pow40, Fx.vv_pow39, Fx.vv_abs, Fx.vv_min, Fx.vv_max, Fx.vv_inti, Fx.vv_intb, Fx.vv_stri, Fx.vv_strs, Fx.vv_lent, Fx.vv_lenf, Fx.vv_lens, Fx.vv_htup, Fx.vv_hlen, Fx.vv_is_non_bool, Fx.vv_is_non_int, Fx.vv_is_non_str, Fx.vv_is_non_tuple, Fx.vv_is_bl_bool, Fx.vv_is_bl_int, Fx.vv_is_bl_str, Fx.vv_is_bl_tuple, Fx.vv_is_int_bool, Fx.vv_is_int_int, Fx.vv_is_int_str, Fx.vv_is_int_tuple, Fx.vv_is_str_bool, Fx.vv_is_str_int, Fx.vv_is_str_str, Fx.vv_is_str_tuple, Fx.vv_is_tup_bool, Fx.vv_is_tup_int, Fx.vv_is_tup_str, Fx.vv_is_tup_tuple, Fx.vv_is_frz_bool, Fx.vv_is_frz_int, Fx.vv_is_frz_str, Fx.vv_is_frz_tuple, Fx.vv_is_int_list, Fx.vv_is_str_list, Fx.vv_is_tup_list, Fx.vv_is_non_list, Fx.vv_mulTi, Fx.vv_mulT0, Fx.vv_fboolt, Fx.vv_fmtc, Fx.vv_catt, Fx.vv_repi, Fx.vv_lk0, Fx.vv_lk1, Fx.vv_lk2, Fx.vv_put0, Fx.vv_put1, Fx.vv_put2, Fx.vv_set0, Fx.vv_set1, Fx.vv_set2, Fx.vv_set3, Fx.vv_set4, Fx.vv_iss, Fx.vv_items_t, Fx.vv_items_f, Fx.vv_spl, Fx.vv_fmts, Fx.vv_fmti, Fx.vv_cats, Fx.vv_cast0, Fx.vv_cast1, Fx.vv_cast2, Fx.vv_cast3, Fx.vv_cast4, Fx.vv_cast5, Fx.vv_cast6, Fx.vv_cast7, Fx.vv_cast8, Fx.vv_cast9, Fx.vv_cast10, Fx.vv_cast11, Fx.vv_line0, Fx.vv_line1, Fx.vv_line2, Fx.vv_line3, Fx.vv_line4, Fx.vv_line5, Fx.vv_line6, Fx.vv_line7, Fx.vv_line8, Fx.vv_isl, Fx.vv_isl1, Fx.vv_lenl, Fx.vv_lenl1, Fx.vv_tupl, Fx.vv_tupl1, Fx.vv_items_l, Fx.vv_items_l1, Fx.vv_lst_f, Fx.vv_lst_l, Fx.vv_lst_l1, Fx.vv_app, Fx.vv_app1, Fx.vv_pop0, Fx.vv_pop01, Fx.vv_ins0, Fx.vv_ins01, Fx.vv_mull, Fx.vv_mullT, Fx.vv_mull0, Fx.vv_mull1, Fx.vv_addl, Fx.vv_addl1, Fx.vv_slf, Fx.vv_slt, List.getElem?_cons_zero, List.getElem?_cons_succ, List.set_cons_zero, List.set_cons_succ, List.map_cons, List.map_nil, List.length_cons, List.length_nil, List.replicate_succ, List.replicate_zero, List.cons_append, List.nil_append, List.append_nil, Option.map_some, Option.map_none, Option.bind_some, String.reduceBEq, Nat.reduceSub, Nat.reduceAdd, Nat.reduceMul, Nat.reduceLeDiff, Nat.zero_le, Int.reduceLT, Int.reduceLE, Int.reduceNeg, Int.reduceAdd, Int.reduceEq, Int.reduceMul, Int.reduceSub, eq_self, Bool.not_true, Bool.not_false, Bool.and_true, Bool.true_and, Bool.and_false, Bool.false_and, Bool.or_true, Bool.true_or, Bool.or_false, Bool.false_or, decide_true, decide_false, if_true, if_false, ite_true, ite_false, Bool.false_eq_true, and_true, true_and, and_false, false_and, not_true_eq_false, not_false_eq_true])

set_option maxRecDepth 100000
set_option maxHeartbeats 2000000
/-! Fx: loops. -/
namespace Fx
open PySem L2 PyProof.Rows
section
variable {chk : Sto → Bool} {g : Gv} {c : Bv} {e : Ev} {b : Sv} {r0 r : Env} {s : Sto} {α : Type}
/-- a comprehension that changes nothing -/
theorem compL_map {enc f : α → T} (hc : chk s = true) : ∀ (xs : List α) (acc : List T), (∀ x ∈ xs, ∃ r', g (enc x) r0 s = .nx r' s ∧ e r' s = .ok (f x) s) → acc.length + xs.length ≤ sizeLine → compL chk g bYes e r0 (xs.map enc) acc s = .ok (acc ++ xs.map f) s
  | [], acc, _, _ => by simp [compL, hc]
  | x :: xs, acc, h, hz => by
    obtain ⟨r', h1, h2⟩ := h x List.mem_cons_self
    simp only [List.length_cons] at hz
    have hl : acc.length < sizeLine := by omega
    simp only [List.map_cons, compL, hc, if_true, h1, bYes, h2, hl]
    rw [compL_map hc xs (acc ++ [f x]) (fun y hy => h y (List.mem_cons_of_mem _ hy)) (by simp; omega)]
    simp
/-- .. with a test -/
theorem compL_filter {enc f : α → T} {q : α → Bool} (hc : chk s = true) : ∀ (xs : List α) (acc : List T), (∀ x ∈ xs, ∃ r', g (enc x) r0 s = .nx r' s ∧ c r' s = .ok (q x) s ∧ (q x = true → e r' s = .ok (f x) s)) → acc.length + xs.length ≤ sizeLine →
    compL chk g c e r0 (xs.map enc) acc s = .ok (acc ++ (xs.filter q).map f) s
  | [], acc, _, _ => by simp [compL, hc]
  | x :: xs, acc, h, hz => by
    obtain ⟨r', h1, h2, h3⟩ := h x List.mem_cons_self
    simp only [List.length_cons] at hz
    have hl : acc.length < sizeLine := by omega
    have ih := fun a ha => compL_filter hc xs a (fun y hy => h y (List.mem_cons_of_mem _ hy)) ha
    cases hq : q x with
    | true =>
      simp only [List.map_cons, compL, hc, if_true, h1, h2, hq, h3 hq, hl, List.filter_cons_of_pos hq]
      rw [ih (acc ++ [f x]) (by simp; omega)]
      simp
    | false =>
      have hq' : ¬ q x = true := by simp [hq]
      simp only [List.map_cons, compL, hc, if_true, h1, h2, hq, Bool.false_eq_true, if_false, List.filter_cons_of_neg hq']
      exact ih acc (by omega)
/-- a comprehension whose items are made by calls -/
theorem compL_inv {I : Nat → Sto → Prop} {P : T → Prop} (hc : ∀ i s, I i s → chk s = true) : ∀ (ts : List T) (acc : List T) (i : Nat) (s : Sto), (∀ t ∈ ts, ∀ i s, I i s → ∃ r' y s', g t r0 s = .nx r' s ∧ e r' s = .ok y s' ∧ I (i + 1) s' ∧ P y) → I i s → acc.length + ts.length ≤ sizeLine →
    ∃ ys s', compL chk g bYes e r0 ts acc s = .ok (acc ++ ys) s' ∧ I (i + ts.length) s' ∧ (∀ y ∈ ys, P y) ∧ ys.length = ts.length
  | [], acc, i, s, _, hI, _ => ⟨[], s, by simp [compL, hc i s hI], hI, by simp, rfl⟩
  | t :: ts, acc, i, s, h, hI, hz => by
    obtain ⟨r', y, s', h1, h2, h3, h4⟩ := h t List.mem_cons_self i s hI
    simp only [List.length_cons] at hz
    have hl : acc.length < sizeLine := by omega
    obtain ⟨ys, s2, e1, e2, e3, e4⟩ := compL_inv hc ts (acc ++ [y]) (i + 1) s' (fun u hu => h u (List.mem_cons_of_mem _ hu)) h3 (by simp; omega)
    refine ⟨y :: ys, s2, ?_, by rw [List.length_cons]; rw [show i + (ts.length + 1) = i + 1 + ts.length by omega]; exact e2, fun z hz => ?_, by simp [e4]⟩
    · simp only [compL, hc i s hI, if_true, h1, bYes, h2, hl, e1]
      simp
    · rcases List.mem_cons.mp hz with rfl | hz
      · exact h4
      · exact e3 z hz
/-- .. by the turn -/
theorem compL_at {I : Nat → Sto → Prop} {P : T → Prop} {ts : List T} (hc : ∀ i s, I i s → chk s = true) (h : ∀ i t s, ts[i]? = some t → I i s → ∃ r' y s', g t r0 s = .nx r' s ∧ e r' s = .ok y s' ∧ I (i + 1) s' ∧ P y) : ∀ (us acc : List T) (i : Nat) (s : Sto), ts.drop i = us → i ≤ ts.length → I i s → acc.length + us.length ≤ sizeLine →
    ∃ ys s', compL chk g bYes e r0 us acc s = .ok (acc ++ ys) s' ∧ I ts.length s' ∧ (∀ y ∈ ys, P y) ∧ ys.length = us.length
  | [], acc, i, s, hd, hi, hI, _ => by
    have : i = ts.length := by
      have := congrArg List.length hd
      simp at this; omega
    subst this
    exact ⟨[], s, by simp [compL, hc _ s hI], hI, by simp, rfl⟩
  | t :: us, acc, i, s, hd, hi, hI, hz => by
    have hlt : i < ts.length := by
      have := congrArg List.length hd
      simp at this; omega
    have e0 := List.drop_eq_getElem_cons hlt
    rw [hd] at e0
    obtain ⟨rfl, e1⟩ := List.cons.inj e0
    obtain ⟨r', y, s', h1, h2, h3, h4⟩ := h i ts[i] s (by simp [hlt]) hI
    simp only [List.length_cons] at hz
    have hl : acc.length < sizeLine := by omega
    obtain ⟨ys, s2, q1, q2, q3, q4⟩ := compL_at hc h us (acc ++ [y]) (i + 1) s' e1.symm hlt h3 (by simp; omega)
    refine ⟨y :: ys, s2, ?_, q2, fun z hz => ?_, by simp [q4]⟩
    · simp only [compL, hc i s hI, if_true, h1, bYes, h2, hl, q1]
      simp
    · rcases List.mem_cons.mp hz with rfl | hz
      · exact h4
      · exact q3 z hz
theorem list_dec {P : α → Prop} {f : α → T} : ∀ {ys : List T}, (∀ y ∈ ys, ∃ a, y = f a ∧ P a) → ∃ as : List α, ys = as.map f ∧ (∀ a ∈ as, P a)
  | [], _ => ⟨[], rfl, by simp⟩
  | y :: ys, h => by
    obtain ⟨a, rfl, pa⟩ := h y List.mem_cons_self
    obtain ⟨as, rfl, pas⟩ := list_dec fun z hz => h z (List.mem_cons_of_mem _ hz)
    exact ⟨a :: as, rfl, by simpa using ⟨pa, pas⟩⟩
/-- what a turn may do -/
def Turn (I : Env → Sto → Prop) (B : Env → Sto → Prop) (R : T → Sto → Prop) : Fl → Prop
  | .nx r s => I r s
  | .ct r s => I r s
  | .bk r s => B r s
  | .rt t s => R t s
  | _ => False
def TurnE (I : Env → Sto → Prop) (R : T → Sto → Prop) : Fl → Prop
  | .nx r s => I r s
  | .rt t s => R t s
  | _ => False
theorem forL_gen {I : Nat → Env → Sto → Prop} {B : Env → Sto → Prop} {R : T → Sto → Prop} {ts : List T} (hc : ∀ i r s, I i r s → chk s = true)
    (h : ∀ i t r s, ts[i]? = some t → I i r s → ∃ r1 s1, g t r s = .nx r1 s1 ∧ Turn (I (i + 1)) B R (b r1 s1)) : ∀ (us : List T) (i : Nat) (r : Env) (s : Sto), ts.drop i = us → i ≤ ts.length → I i r s → TurnE (fun r s => I ts.length r s ∨ B r s) R (forL chk g b us r s)
  | [], i, r, s, hd, hi, hI => by
    have : i = ts.length := by
      have := congrArg List.length hd
      simp at this; omega
    subst this
    simp only [forL, hc _ r s hI, if_true]
    exact .inl hI
  | t :: us, i, r, s, hd, hi, hI => by
    have hlt : i < ts.length := by
      have := congrArg List.length hd
      simp at this; omega
    have e0 := List.drop_eq_getElem_cons hlt
    rw [hd] at e0
    obtain ⟨rfl, e1⟩ := List.cons.inj e0
    obtain ⟨r1, s1, h1, h2⟩ := h i ts[i] r s (by simp [hlt]) hI
    simp only [forL, hc _ r s hI, if_true, h1]
    revert h2
    cases b r1 s1 with
    | nx r2 s2 => exact fun h2 => forL_gen hc h us (i + 1) r2 s2 e1.symm hlt h2
    | ct r2 s2 => exact fun h2 => forL_gen hc h us (i + 1) r2 s2 e1.symm hlt h2
    | bk r2 s2 => exact fun h2 => .inr h2
    | rt t s2 => exact fun h2 => h2
    | ex x r2 s2 => exact fun h2 => h2
    | bad => exact fun h2 => h2
/-- a for that neither breaks nor returns -/
theorem forL_inv {I : Nat → Env → Sto → Prop} {ts : List T} (hc : ∀ i r s, I i r s → chk s = true) (h : ∀ i t r s, ts[i]? = some t → I i r s → ∃ r1 s1 r2 s2, g t r s = .nx r1 s1 ∧ b r1 s1 = .nx r2 s2 ∧ I (i + 1) r2 s2) {r : Env} {s : Sto} (h0 : I 0 r s) :
    ∃ r' s', forL chk g b ts r s = .nx r' s' ∧ I ts.length r' s' := by
  have z := forL_gen (b := b) (B := fun _ _ => False) (R := fun _ _ => False) hc (fun i t r s e hI => by
    obtain ⟨r1, s1, r2, s2, e1, e2, e3⟩ := h i t r s e hI
    exact ⟨r1, s1, e1, by rw [e2]; exact e3⟩) ts 0 r s rfl (Nat.zero_le _) h0
  revert z
  cases forL chk g b ts r s with
  | nx r' s' => exact fun z => ⟨r', s', rfl, z.elim id False.elim⟩
  | rt t s' => exact fun z => z.elim
  | bk r' s' => exact fun z => z.elim
  | ct r' s' => exact fun z => z.elim
  | ex x r' s' => exact fun z => z.elim
  | bad => exact fun z => z.elim
end

/-! ### numbers -/
theorem okN_small {i : Int} (h1 : -1000000000000000000000000000000000000000000000 ≤ i) (h2 : i ≤ 1000000000000000000000000000000000000000000000) : okN i = true := decide_eq_true (by unfold BIG; omega)
theorem okR_small {i : Int} (h1 : -1000000000000000000 ≤ i) (h2 : i ≤ 1000000000000000000) : okR i = true := decide_eq_true (by omega)
theorem atT_of {ts : List T} {i : Int} (h1 : 0 ≤ i) (h2 : i < ts.length) : ∃ t, atT ts i = some t ∧ ts[i.toNat]? = some t := by
  have hlt : i.toNat < ts.length := by omega
  refine ⟨ts[i.toNat], ?_, by simp [hlt]⟩
  unfold atT ixN
  rw [if_pos h1, if_pos h2]
  simp [hlt]
end Fx

set_option maxRecDepth 100000
set_option maxHeartbeats 2000000
/-! Fx: stores that grow, and change at some places alone. -/
namespace Fx
open PySem L2 PyProof.Rows
/-- nothing but ch is changed, what is new comes behind -/
structure Ext (ch : Nat → Prop) (s s' : Sto) : Prop where
  len : s.len ≤ s'.len
  wf : s'.kp ≤ s'.len
  kp : s.kp ≤ s'.kp
  get : ∀ i, i < s.len → ¬ ch i → s'.get i = s.get i
section
variable {ch ch' : Nat → Prop} {s s0 s1 s2 s' : Sto} {o : O} {i m n : Nat} {t : T}
def Wf (s : Sto) : Prop := s.kp ≤ s.len
def No : Nat → Prop := fun _ => False
theorem Ext.refl (h : Wf s) : Ext ch s s := ⟨Nat.le_refl _, h, Nat.le_refl _, fun _ _ _ => rfl⟩
theorem Ext.trans (a : Ext ch s s1) (b : Ext ch s1 s2) : Ext ch s s2 :=
  ⟨Nat.le_trans a.len b.len, b.wf, Nat.le_trans a.kp b.kp, fun i h hc => (b.get i (Nat.lt_of_lt_of_le h a.len) hc).trans (a.get i h hc)⟩
theorem Ext.mono (a : Ext ch s s1) (h : ∀ i, ch i → ch' i) : Ext ch' s s1 := ⟨a.len, a.wf, a.kp, fun i hi hc => a.get i hi fun c => hc (h i c)⟩
theorem Ext.no (a : Ext No s s1) : Ext ch s s1 := a.mono fun _ h => h.elim
theorem Ext.old (a : Ext ch s s') (h : s.get i = some o) (hc : ¬ ch i) : s'.get i = some o := (a.get i (lt_of_get h) hc).trans h
theorem Ext.oldNo (a : Ext No s s') (h : s.get i = some o) : s'.get i = some o := a.old h fun h => h
theorem get_add_lt (h : i < s.len) : (s.add o).get i = s.get i := by
  show (s.os ++ [o])[i]? = s.os[i]?
  rw [List.getElem?_append_left h]
theorem Ext.add (a : Ext ch s0 s) : Ext ch s0 (s.add o) :=
  ⟨by rw [len_add]; exact Nat.le_succ_of_le a.len, by rw [len_add]; exact Nat.le_succ_of_le a.wf, a.kp, fun i hi hc => by
    rw [get_add_lt (Nat.lt_of_lt_of_le hi a.len)]
    exact a.get i hi hc⟩
theorem kp_put_le : (s.put m o).kp ≤ max s.kp o.hi := by
  show (if o.hi ≤ m then s.kp else max s.kp o.hi) ≤ _
  split <;> omega
theorem kp_put_ge : s.kp ≤ (s.put m o).kp := by
  show _ ≤ (if o.hi ≤ m then s.kp else max s.kp o.hi)
  split <;> omega
theorem Ext.put (a : Ext ch s0 s) (hm : ch m ∨ s0.len ≤ m) (ho : o.hi ≤ s.len) : Ext ch s0 (s.put m o) :=
  ⟨by rw [len_put]; exact a.len, by
    rw [len_put]
    have := kp_put_le (s := s) (m := m) (o := o)
    have := a.wf
    omega, Nat.le_trans a.kp kp_put_ge, fun i hi hc => by
    rw [get_put_ne (fun e => by
      subst e
      rcases hm with h | h
      · exact hc h
      · omega)]
    exact a.get i hi hc⟩
/-- something that lies behind m is laid at m -/
theorem kp_put_new (h : m < o.hi) (hk : s.kp < o.hi) : s.kp < (s.put m o).kp := by
  show _ < (if o.hi ≤ m then s.kp else max s.kp o.hi)
  rw [if_neg (by omega)]; omega
theorem get_cut (h : i < n) : (s.cut n).get i = s.get i := by
  show (s.os.take n)[i]? = s.os[i]?
  rw [List.getElem?_take_of_lt h]
theorem gc_ext (w : Wf s) (a : Ext ch s s') (ht : t.hi ≤ s'.len) : ∃ s2, gcR s.len s.kp (.ok t s') = .ok t s2 ∧ Ext ch s s2 ∧ (∀ i, i < max s.len t.hi → s2.get i = s'.get i) ∧ (s.kp < s'.kp → s2 = s') ∧ t.hi ≤ s2.len := by
  unfold gcR
  simp only
  split
  · next h =>
    have hl : (s'.cut (max s.len t.hi)).len = max s.len t.hi := by
      show (s'.os.take (max s.len t.hi)).length = _
      have := a.len
      have e : s'.len = s'.os.length := rfl
      rw [List.length_take]; omega
    refine ⟨_, rfl, ⟨?_, ?_, ?_, fun i hi hc => ?_⟩, fun i hi => get_cut hi, fun h2 => ?_, ?_⟩
    · rw [hl]; omega
    · rw [hl]
      show s'.kp ≤ _
      have w : s.kp ≤ s.len := w
      omega
    · exact a.kp
    · rw [get_cut (by omega)]; exact a.get i hi hc
    · omega
    · rw [hl]; omega
  · exact ⟨_, rfl, a, fun _ _ => rfl, fun _ => rfl, ht⟩
theorem Ext.w (a : Ext ch s s') : Wf s' := a.wf
/-- a def's call, its store grown -/
theorem run_ext {p : String → Option FnD} {k : Nat} {f : String} {d : FnD} {ts : List T} (hp : p f = some d) (h : ts.length = d.np) (w : Wf s) (e : (d.body (run p k) (ts.map some ++ List.replicate (d.nl - d.np) none) s).out = .ok t s') (e2 : Ext ch s s') (ht : t.hi ≤ s'.len) :
    ∃ s2, run p (k + 1) f ts s = .ok t s2 ∧ Ext ch s s2 ∧ (∀ i, i < max s.len t.hi → s2.get i = s'.get i) ∧ (s.kp < s'.kp → s2 = s') ∧ t.hi ≤ s2.len := by
  obtain ⟨s2, g1, g2, g3, g4, g5⟩ := gc_ext w e2 ht
  exact ⟨s2, by rw [run_eq hp h, e, g1], g2, g3, g4, g5⟩
/-- .. changing nothing, its value without places -/
theorem run_extN {p : String → Option FnD} {k : Nat} {f : String} {d : FnD} {ts : List T} (hp : p f = some d) (h : ts.length = d.np) (w : Wf s) (e : ∃ s', (d.body (run p k) (ts.map some ++ List.replicate (d.nl - d.np) none) s).out = .ok t s' ∧ Ext ch s s') (ht : t.hi = 0) :
    ∃ s2, run p (k + 1) f ts s = .ok t s2 ∧ Ext ch s s2 := by
  obtain ⟨s', e1, e2⟩ := e
  obtain ⟨s2, g1, g2, _⟩ := run_ext hp h w e1 e2 (by omega)
  exact ⟨s2, g1, g2⟩
end
end Fx
namespace Fx
open PySem L2 PyProof.Rows
section
variable {α β : Type}
/-- a for that folds -/
theorem forL_acc {enc : α → T} {I : β → Env → Sto → Prop} {stp : β → α → β} {chk : Sto → Bool} {g : Gv} {b : Sv} {b0 : β} {xs : List α} (hc : ∀ b r s, I b r s → chk s = true)
    (h : ∀ pre x post, xs = pre ++ x :: post → ∀ r s, I (pre.foldl stp b0) r s → ∃ r1 s1 r2 s2, g (enc x) r s = .nx r1 s1 ∧ b r1 s1 = .nx r2 s2 ∧ I (stp (pre.foldl stp b0) x) r2 s2) {r : Env} {s : Sto} (h0 : I b0 r s) :
    ∃ r' s', forL chk g b (xs.map enc) r s = .nx r' s' ∧ I (xs.foldl stp b0) r' s' := by
  have go : ∀ (post pre : List α), xs = pre ++ post → ∀ r s, I (pre.foldl stp b0) r s → ∃ r' s', forL chk g b (post.map enc) r s = .nx r' s' ∧ I (xs.foldl stp b0) r' s' := by
    intro post
    induction post with
    | nil =>
      intro pre e r s hI
      rw [List.append_nil] at e
      subst e
      refine ⟨r, s, ?_, hI⟩
      simp only [List.map_nil, forL, hc _ _ _ hI, if_true]
    | cons x q ih =>
      intro pre e r s hI
      obtain ⟨r1, s1, r2, s2, e1, e2, e3⟩ := h pre x q e r s hI
      obtain ⟨r', s', e4, e5⟩ := ih (pre ++ [x]) (by rw [e]; simp) r2 s2 (by rw [List.foldl_append]; exact e3)
      refine ⟨r', s', ?_, e5⟩
      simp only [List.map_cons, forL, hc _ _ _ hI, if_true, e1, e2, e4]
  exact go xs [] rfl r s h0
theorem his_locs {n : Nat} : ∀ {as : List Nat}, (∀ a ∈ as, a < n) → T.his (as.map T.loc) ≤ n
  | [], _ => Nat.zero_le _
  | a :: r, h => by
    have h1 := h a List.mem_cons_self
    have h2 := his_locs (as := r) fun b hb => h b (List.mem_cons_of_mem _ hb)
    rw [List.map_cons, T.his]
    simp only [T.hi]
    omega
theorem his_app : ∀ {ts us : List T}, T.his (ts ++ us) = max (T.his ts) (T.his us)
  | [], us => by simp [T.his]
  | t :: r, us => by
    rw [List.cons_append, T.his, T.his, his_app (ts := r)]; omega
theorem his_zero {enc : α → T} (h : ∀ x, (enc x).hi = 0) : ∀ l : List α, T.his (l.map enc) = 0
  | [] => rfl
  | a :: r => by rw [List.map_cons, T.his, h, his_zero h r]; rfl
end
end Fx
namespace Fx
open PySem L2 PyProof.Rows
/-- a comprehension whose store grows -/
theorem compL_acc {α : Type} {enc f : α → T} {I : Sto → Prop} {chk : Sto → Bool} {g : Gv} {c : Bv} {e : Ev} {r0 : Env} (hc : ∀ s, I s → chk s = true) :
    ∀ (xs : List α) (acc : List T) (s : Sto), (∀ x ∈ xs, ∀ s, I s → ∃ r' s1 s2, g (enc x) r0 s = .nx r' s1 ∧ c r' s1 = .ok true s1 ∧ e r' s1 = .ok (f x) s2 ∧ I s2) → I s → acc.length + xs.length ≤ sizeLine →
      ∃ s', compL chk g c e r0 (xs.map enc) acc s = .ok (acc ++ xs.map f) s' ∧ I s'
  | [], acc, s, _, hI, _ => ⟨s, by simp [compL, hc s hI], hI⟩
  | x :: xs, acc, s, h, hI, hz => by
    obtain ⟨r', s1, s2, h1, h2, h3, h4⟩ := h x List.mem_cons_self s hI
    simp only [List.length_cons] at hz
    have hl : acc.length < sizeLine := by omega
    obtain ⟨s', e1, e2⟩ := compL_acc hc xs (acc ++ [f x]) s2 (fun y hy => h y (List.mem_cons_of_mem _ hy)) h4 (by simp; omega)
    refine ⟨s', ?_, e2⟩
    simp only [List.map_cons, compL, hc s hI, if_true, h1, h2, h3, hl, e1]
    simp
theorem atT_nat {ts : List T} {k : Nat} {t : T} (h : ts[k]? = some t) : atT ts (k : Int) = some t := by
  have hl := (List.getElem?_eq_some_iff.mp h).1
  obtain ⟨u, h1, h2⟩ := atT_of (ts := ts) (i := (k : Int)) (by omega) (by omega)
  rw [h1]
  rw [Int.toNat_natCast, h] at h2
  exact h2.symm
theorem cut_from {ts : List T} {n : Nat} : cutT ts (some (n : Int)) none = ts.drop n := by
  unfold cutT
  have e : sIx ts.length 0 (some (n : Int)) = min n ts.length := HT.sIx_nat _ _ _
  have e2 : sIx ts.length ts.length none = ts.length := rfl
  rw [e, e2]
  by_cases h : n ≤ ts.length
  · rw [Nat.min_eq_left h, List.take_of_length_le (by rw [List.length_drop]; omega)]
  · rw [Nat.min_eq_right (by omega)]
    rw [List.drop_of_length_le (Nat.le_refl _), List.drop_of_length_le (by omega)]
    simp
theorem cut_upto {ts : List T} {n : Nat} : cutT ts none (some (n : Int)) = ts.take n := by
  unfold cutT
  have e : sIx ts.length ts.length (some (n : Int)) = min n ts.length := HT.sIx_nat _ _ _
  have e2 : sIx ts.length 0 none = 0 := rfl
  rw [e, e2]
  simp only [List.drop_zero, Nat.sub_zero]
  by_cases h : n ≤ ts.length
  · rw [Nat.min_eq_left h]
  · rw [Nat.min_eq_right (by omega), List.take_of_length_le (Nat.le_refl _), List.take_of_length_le (by omega)]
end Fx

set_option maxRecDepth 100000
set_option maxHeartbeats 4000000
/-! Fx: numbers as texts, joined and split. -/
namespace Fx
open PySem L2 PyProof.Rows
abbrev num (i : Int) : Str := Str.ofString (toString i)
theorem tl_numN (n : Nat) : TL.tl (num (n : Int)) = TL.numL n := TL.tl_num n
theorem num_digits {i : Int} (h : 0 ≤ i) : ∀ c ∈ TL.tl (num i), 48 ≤ c ∧ c ≤ 57 := by
  obtain ⟨n, rfl⟩ := Int.eq_ofNat_of_zero_le h
  rw [tl_numN]
  exact TL.numL_digits n
theorem num_ne {i : Int} (h : 0 ≤ i) : TL.tl (num i) ≠ [] := by
  obtain ⟨n, rfl⟩ := Int.eq_ofNat_of_zero_le h
  rw [tl_numN]
  exact TL.numL_ne n
theorem num_len {i : Int} (h : 0 ≤ i) (h2 : i < 10000000000) : 1 ≤ (num i).length ∧ (num i).length ≤ 10 := by
  have h3 := num_ne h
  obtain ⟨n, rfl⟩ := Int.eq_ofNat_of_zero_le h
  rw [TL.len_tl]
  refine ⟨List.length_pos_iff.mpr h3, ?_⟩
  rw [tl_numN]
  exact TL.numL_len (by decide) (by
    have : (10 : Nat) ^ 10 = 10000000000 := by decide
    omega)
theorem num_int {i : Int} (h : 0 ≤ i) (h2 : i < 10000000000) : PySem.intText? (num i) = some i := by
  have h3 := (num_len h h2).2
  obtain ⟨n, rfl⟩ := Int.eq_ofNat_of_zero_le h
  rw [TL.len_tl, tl_numN] at h3
  exact TL.int_num (by omega)
theorem numL_head {n : Nat} (h : 0 < n) : ∃ c r, TL.numL n = c :: r ∧ c ≠ 48 := by
  induction n using Nat.strongRecOn with
  | _ n ih =>
    by_cases h10 : n < 10
    · rw [TL.numL_lt h10]
      exact ⟨_, _, rfl, by omega⟩
    · rw [TL.numL_step (by omega)]
      obtain ⟨c, r, e, hc⟩ := ih (n / 10) (by omega) (by omega)
      rw [e]
      exact ⟨c, _, rfl, hc⟩
/-- a number begins with 0 only when it is 0 -/
theorem num_head {i : Int} (h : 0 ≤ i) : (∃ r, TL.tl (num i) = 48 :: r ∧ i = 0) ∨ ∃ c r, TL.tl (num i) = c :: r ∧ c ≠ 48 := by
  obtain ⟨n, rfl⟩ := Int.eq_ofNat_of_zero_le h
  by_cases h0 : n = 0
  · subst h0
    refine .inl ⟨[], ?_, rfl⟩
    rw [tl_numN, TL.numL_lt (by decide)]
  · rw [tl_numN]
    exact .inr (numL_head (by omega))
theorem strOk_of {x : Str} (h : ∀ c ∈ TL.tl x, c < 1114112) : PyData.strOk x = true := by
  unfold PyData.strOk
  rw [← Array.all_toList, List.all_eq_true]
  intro c hc
  exact decide_eq_true (h c hc)
theorem num_ok {i : Int} (h : 0 ≤ i) : PyData.strOk (num i) = true := strOk_of fun c hc => by have := num_digits h c hc; omega
theorem join2 {y x z : Str} : Txt.join y [x, z] = x ++ y ++ z := by rw [TL.join_eq]; rfl
theorem split2 {y x z : Str} {c : Nat} (ey : TL.tl y = [c]) (hc : c < 256) (h1 : c ∉ TL.tl x) (h2 : c ∉ TL.tl z) : Txt.split (x ++ y ++ z) y = [x, z] := by
  rw [← join2]
  refine TL.split_join ey ?_ (by simp) (by intro p hp; simp at hp; rcases hp with rfl | rfl <;> assumption)
  rw [← Array.all_toList]
  show (TL.tl y).all _ = true
  rw [ey]
  simp [hc]
theorem split1 {y x : Str} {c : Nat} (ey : TL.tl y = [c]) (hc : c < 256) (h1 : c ∉ TL.tl x) : Txt.split x y = [x] := by
  have e : Txt.join y [x] = x := by rw [TL.join_eq]; rfl
  have z := TL.split_join (parts := [x]) ey (by
    rw [← Array.all_toList]
    show (TL.tl y).all _ = true
    rw [ey]
    simp [hc]) (by simp) (by intro p hp; simp at hp; subst hp; exact h1)
  rw [e] at z
  exact z
theorem splitN {y : Str} {c : Nat} (ey : TL.tl y = [c]) (hc : c < 256) {ps : List Str} (hne : ps ≠ []) (h : ∀ p ∈ ps, c ∉ TL.tl p) : Txt.split (Txt.join y ps) y = ps := by
  refine TL.split_join ey ?_ hne h
  rw [← Array.all_toList]
  show (TL.tl y).all _ = true
  rw [ey]
  simp [hc]
theorem tl_app (x y : Str) : TL.tl (x ++ y) = TL.tl x ++ TL.tl y := TL.tl_append x y
theorem len_app (x y : Str) : (x ++ y).length = x.length + y.length := by rw [TL.len_tl, TL.len_tl, TL.len_tl, tl_app, List.length_append]
theorem bls_map {α : Type} {f : α → Bool} : ∀ l : List α, bls? (l.map fun a => T.bl (f a)) = some (l.map f)
  | [] => rfl
  | a :: r => by simp [bls?, bls_map r]
theorem strs_map {α : Type} {f : α → Str} : ∀ l : List α, strs? (l.map fun a => T.str (f a)) = some (l.map f)
  | [] => rfl
  | a :: r => by simp [strs?, strs_map r]
theorem join_len (y : Str) (ps : List Str) : (Txt.join y ps).length ≤ (ps.map (·.length)).sum + ps.length * y.length := by
  rw [TL.join_eq]
  exact StrLaws.join_length_le y ps
theorem sum_le {α : Type} {f : α → Nat} {B : Nat} : ∀ {l : List α}, (∀ a ∈ l, f a ≤ B) → (l.map f).sum ≤ l.length * B
  | [], _ => by simp
  | a :: r, h => by
    have h1 := h a List.mem_cons_self
    have h2 := sum_le fun b hb => h b (List.mem_cons_of_mem _ hb)
    simp only [List.map_cons, List.sum_cons, List.length_cons, Nat.succ_mul]
    omega
end Fx

set_option maxRecDepth 100000
set_option maxHeartbeats 4000000
/-! Fx: the laws' draws out of a dict of cells. -/
namespace Fx
open PySem L2 PyProof.Rows

/-! ### lists of ints compared with [] -/
theorem mapO_ints {s : Sto} {n : Nat} : ∀ l : List Int, mapO (toD (n + 1) s) (l.map T.int) = some (l.map PyData.int)
  | [] => rfl
  | a :: r => by
    have e : toD (n + 1) s (.int a) = some (.int a) := rfl
    rw [List.map_cons, mapO, e, mapO_ints r]
    rfl
theorem toD_intsN {s : Sto} {a n : Nat} {l : List Int} (h : s.get a = some (.lst (l.map .int))) : toD (n + 2) s (.loc a) = some (.list (l.map PyData.int)) := by
  rw [toD]
  simp only [h]
  rw [mapO_ints]
  rfl
theorem toD_ints {s : Sto} {a : Nat} {l : List Int} (h : s.get a = some (.lst (l.map .int))) : toD DEEP s (.loc a) = some (.list (l.map PyData.int)) := toD_intsN (n := 28) h
theorem eqv_nil : ∀ l : List PyData, PyData.eqv (.list l) (.list []) = l.isEmpty
  | [] => by simp [PyData.eqv, PyData.eqvAll]
  | _ :: _ => by simp [PyData.eqv, PyData.eqvAll]
theorem ne_nil {s : Sto} {a m : Nat} {l : List Int} (h : s.get a = some (.lst (l.map .int))) (h2 : s.get m = some (.lst [])) : oNe (.loc a) (.loc m) s = some (.bl (!l.isEmpty), s) := by
  have e : eqT s (.loc a) (.loc m) = some l.isEmpty := by
    unfold eqT
    have e2 := toD_ints (s := s) (a := m) (l := []) (by simpa using h2)
    simp only [eqS, toD_ints h, e2, List.map_nil, eqv_nil]
    cases l <;> rfl
  show (eqT s (.loc a) (.loc m)).map _ = _
  rw [e]; rfl
theorem eq_nil {s : Sto} {a m : Nat} {l : List Int} (h : s.get a = some (.lst (l.map .int))) (h2 : s.get m = some (.lst [])) : oEq (.loc a) (.loc m) s = some (.bl l.isEmpty, s) := by
  have e : eqT s (.loc a) (.loc m) = some l.isEmpty := by
    unfold eqT
    have e2 := toD_ints (s := s) (a := m) (l := []) (by simpa using h2)
    simp only [eqS, toD_ints h, e2, List.map_nil, eqv_nil]
    cases l <;> rfl
  show (eqT s (.loc a) (.loc m)).map _ = _
  rw [e]; rfl

/-! ### the pot -/
/-- d's dict, its two lists below it, fewer than n draws so far -/
structure Pot (d n : Nat) (s : Sto) : Prop where
  ex : ∃ (a c : Nat) (deep all : List Int) (times : Int), s.get d = some (.dct [(.inr "deep", .loc a), (.inr "all", .loc c), (.inr "times", .int times)]) ∧ s.get a = some (.lst (deep.map .int)) ∧ s.get c = some (.lst (all.map .int)) ∧
    a < c ∧ c < d ∧ 0 < all.length ∧ all.length ≤ 1000 ∧ deep.length ≤ 1000 ∧ 0 ≤ times ∧ times ≤ n
theorem Pot.mono {d n m : Nat} {s : Sto} (p : Pot d n s) (h : n ≤ m) : Pot d m s := by
  obtain ⟨a, c, deep, all, times, h1, h2, h3, h4, h5, h6, h7, h8, h9, h10⟩ := p.ex
  exact ⟨a, c, deep, all, times, h1, h2, h3, h4, h5, h6, h7, h8, h9, by omega⟩
/-- nothing behind d is changed -/
structure Frm (d : Nat) (s s' : Sto) : Prop where
  len : s'.len = s.len
  kp : s'.kp = s.kp
  get : ∀ i, d < i → s'.get i = s.get i
theorem Frm.refl {d : Nat} {s : Sto} : Frm d s s := ⟨rfl, rfl, fun _ _ => rfl⟩
theorem Frm.trans {d : Nat} {s1 s2 s3 : Sto} (a : Frm d s1 s2) (b : Frm d s2 s3) : Frm d s1 s3 := ⟨b.len.trans a.len, b.kp.trans a.kp, fun i h => (b.get i h).trans (a.get i h)⟩
/-- .. apart from what is new -/
structure Frn (d : Nat) (s s' : Sto) : Prop where
  len : s.len ≤ s'.len
  kp : s'.kp = s.kp
  get : ∀ i, d < i → i < s.len → s'.get i = s.get i
theorem Frn.refl {d : Nat} {s : Sto} : Frn d s s := ⟨Nat.le_refl _, rfl, fun _ _ _ => rfl⟩
theorem Frn.trans {d : Nat} {s1 s2 s3 : Sto} (a : Frn d s1 s2) (b : Frn d s2 s3) : Frn d s1 s3 := ⟨Nat.le_trans a.len b.len, b.kp.trans a.kp, fun i h h2 => (b.get i h (Nat.lt_of_lt_of_le h2 a.len)).trans (a.get i h h2)⟩
theorem Frm.frn {d : Nat} {s s' : Sto} (a : Frm d s s') : Frn d s s' := ⟨Nat.le_of_eq a.len.symm, a.kp, fun i h _ => a.get i h⟩
theorem Frn.add {d : Nat} {s : Sto} {o : O} : Frn d s (s.add o) := ⟨by rw [len_add]; omega, rfl, fun i _ h => by
  show (s.os ++ [o])[i]? = s.os[i]?
  rw [List.getElem?_append_left h]⟩
theorem Frn.put {d m : Nat} {s : Sto} {o : O} (h : m ≤ d) (hh : o.hi ≤ m) : Frn d s (s.put m o) := ⟨Nat.le_of_eq len_put.symm, kp_put hh, fun i hi _ => get_put_ne (by omega)⟩
theorem Frn.putNew {d m : Nat} {s s' : Sto} {o : O} (a : Frn d s s') (h : s.len ≤ m) (hh : o.hi ≤ m) : Frn d s (s'.put m o) := ⟨by rw [len_put]; exact a.len, by rw [kp_put hh]; exact a.kp, fun i hi h2 => by rw [get_put_ne (by omega)]; exact a.get i hi h2⟩
theorem Pot.lt {d n : Nat} {s : Sto} (p : Pot d n s) : d < s.len := by
  obtain ⟨a, c, deep, all, times, h1, _⟩ := p.ex
  exact lt_of_get h1
/-- what lies below is as it was -/
theorem Pot.of_low {d n : Nat} {s s' : Sto} (p : Pot d n s) (h : ∀ i, i ≤ d → s'.get i = s.get i) : Pot d n s' := by
  obtain ⟨a, c, deep, all, times, h1, h2, h3, h4, h5, h6⟩ := p.ex
  exact ⟨a, c, deep, all, times, by rw [h d (Nat.le_refl _)]; exact h1, by rw [h a (by omega)]; exact h2, by rw [h c (by omega)]; exact h3, h4, h5, h6⟩
theorem Pot.add {d n : Nat} {s : Sto} {o : O} (p : Pot d n s) : Pot d n (s.add o) := p.of_low fun i hi => by
  have := p.lt
  show (s.os ++ [o])[i]? = s.os[i]?
  rw [List.getElem?_append_left (by show i < s.len; omega)]
theorem Pot.put {d n m : Nat} {s : Sto} {o : O} (p : Pot d n s) (h : d < m) : Pot d n (s.put m o) := p.of_low fun i hi => get_put_ne (by omega)
/-- garbage behind goes -/
theorem gc_frn {d n : Nat} {s s' : Sto} {t : T} (f : Frn d s s') (p : Pot d n s') (h : t.hi ≤ s.len) (hd : d < s.len) : ∃ s2, gcR s.len s.kp (.ok t s') = .ok t s2 ∧ Frm d s s2 ∧ Pot d n s2 := by
  refine ⟨s'.cut s.len, ?_, ?_, ?_⟩
  · simp only [gcR, f.kp, if_true]
    rw [Nat.max_eq_left h]
  · refine ⟨?_, f.kp, fun i hi => ?_⟩
    · have := f.len
      simp only [Sto.len, Sto.cut, List.length_take] at *
      omega
    · by_cases hl : i < s.len
      · rw [← f.get i hi hl]
        show (s'.os.take s.len)[i]? = s'.os[i]?
        rw [List.getElem?_take_of_lt hl]
      · have e1 : s.get i = none := List.getElem?_eq_none (by simpa [Sto.len] using hl)
        rw [e1]
        exact List.getElem?_eq_none (by simp only [Sto.cut, List.length_take]; omega)
  · refine p.of_low fun i hi => ?_
    show (s'.os.take s.len)[i]? = s'.os[i]?
    rw [List.getElem?_take_of_lt (by omega)]
end Fx

set_option maxRecDepth 100000
set_option maxHeartbeats 4000000
/-! Fx: the laws' draws: the three defs. -/
namespace Fx
open PySem L2 PyProof.Rows
noncomputable def PB_opened (C : CallT) : Sv := (sSeq (sAsg (eComp (lComp (iSeq (eSl (eVar 0) pNone (pSome (eC (.int 64))))) (gNm 2) bYes (eB fAbs (lCons (eVar 2) lNil)) [2])) (gNm 1))
  (sRet (eDct [((eC (.str "deep")), (eComp (lComp (iSeq (eVar 1)) (gNm 2) (bV (eBin oGe (eVar 2) (eBin oPow (eC (.int 10)) (eC (.int 18))))) (eVar 2) [2]))), ((eC (.str "all")), (eBin oAdd (eVar 1) (eBin oMulT (eLst (lCons (eC (.int 53)) lNil)) (eB fInt (lCons (eBin oEq (eVar 1) (eLst lNil)) lNil))))), ((eC (.str "times")), (eC (.int 0)))])))
noncomputable def PB_draw (C : CallT) : Sv := (sSeq (sWhile (bV (eBin oNe (eBin oIx (eVar 0) (eC (.str "deep"))) (eLst lNil))) (sSeq (sAsg (eM "list" mPop (eBin oIx (eVar 0) (eC (.str "deep"))) (lCons (eC (.int 0)) lNil)) (gNm 2))
  (sIf (bV (eBin oGt (eVar 2) (eC (.int 0)))) (sSeq (sEx (eM "list" mInsert (eBin oIx (eVar 0) (eC (.str "deep"))) (lCons (eC (.int 0)) (lCons (eBin oDiv (eVar 2) (eVar 1)) lNil))))
  (sRet (eBin oMod (eVar 2) (eVar 1)))) sNil)))
  (sSeq (sPar 3 4 (lCons (eBin oIx (eVar 0) (eC (.str "times"))) (lCons (eBin oIx (eVar 0) (eC (.str "all"))) lNil)))
  (sSeq (sAsg (eBin oAdd (eVar 3) (eC (.int 1))) (gSubF (eVar 0) (eC (.str "times"))))
  (sSeq (sAsg (eBin oAdd (eBin oMod (eBin oIx (eVar 4) (eBin oMod (eVar 3) (eB fLen (lCons (eVar 4) lNil)))) (eC (.int 4294967291))) (eBin oMulT (eC (.int 2246822519)) (eBin oAdd (eVar 3) (eC (.int 1))))) (gNm 5))
  (sSeq (sAsg (eBin oMod (eBin oMulT (eBin oMod (eVar 5) (eC (.int 4294967291))) (eBin oAdd (eBin oMod (eVar 5) (eC (.int 50021))) (eC (.int 13)))) (eC (.int 4294967291))) (gNm 5))
  (sSeq (sAsg (eBin oMod (eBin oMulT (eBin oMod (eBin oAdd (eBin oMulT (eVar 5) (eVar 5)) (eBin oMulT (eC (.int 668265263)) (eVar 3))) (eC (.int 4294967291))) (eC (.int 374761393))) (eC (.int 4294967291))) (gNm 5))
  (sRet (eBin oMod (eBin oDiv (eVar 5) (eC (.int 16))) (eVar 1)))))))))
noncomputable def PB_one (C : CallT) : Sv := (sRet (eBin oIx (eVar 1) (eCall C "_law_draw" (lDef (lCons (eVar 0) (lCons (eB fLen (lCons (eVar 1) lNil)) lNil)) []))))
noncomputable def dC : Bv := (bV (eBin oNe (eBin oIx (eVar 0) (eC (.str "deep"))) (eLst lNil)))
noncomputable def dB : Sv := (sSeq (sAsg (eM "list" mPop (eBin oIx (eVar 0) (eC (.str "deep"))) (lCons (eC (.int 0)) lNil)) (gNm 2))
  (sIf (bV (eBin oGt (eVar 2) (eC (.int 0)))) (sSeq (sEx (eM "list" mInsert (eBin oIx (eVar 0) (eC (.str "deep"))) (lCons (eC (.int 0)) (lCons (eBin oDiv (eVar 2) (eVar 1)) lNil))))
  (sRet (eBin oMod (eVar 2) (eVar 1)))) sNil))
noncomputable def restB (C : CallT) : Sv := (sSeq (sPar 3 4 (lCons (eBin oIx (eVar 0) (eC (.str "times"))) (lCons (eBin oIx (eVar 0) (eC (.str "all"))) lNil)))
  (sSeq (sAsg (eBin oAdd (eVar 3) (eC (.int 1))) (gSubF (eVar 0) (eC (.str "times"))))
  (sSeq (sAsg (eBin oAdd (eBin oMod (eBin oIx (eVar 4) (eBin oMod (eVar 3) (eB fLen (lCons (eVar 4) lNil)))) (eC (.int 4294967291))) (eBin oMulT (eC (.int 2246822519)) (eBin oAdd (eVar 3) (eC (.int 1))))) (gNm 5))
  (sSeq (sAsg (eBin oMod (eBin oMulT (eBin oMod (eVar 5) (eC (.int 4294967291))) (eBin oAdd (eBin oMod (eVar 5) (eC (.int 50021))) (eC (.int 13)))) (eC (.int 4294967291))) (gNm 5))
  (sSeq (sAsg (eBin oMod (eBin oMulT (eBin oMod (eBin oAdd (eBin oMulT (eVar 5) (eVar 5)) (eBin oMulT (eC (.int 668265263)) (eVar 3))) (eC (.int 4294967291))) (eC (.int 374761393))) (eC (.int 4294967291))) (gNm 5))
  (sRet (eBin oMod (eBin oDiv (eVar 5) (eC (.int 16))) (eVar 1))))))))
theorem lst_ints_hi {l : List Int} : O.hi (.lst (l.map T.int)) = 0 := by
  show T.his _ = 0
  induction l with
  | nil => rfl
  | cons a r ih => rw [List.map_cons, T.his, ih]; rfl
section
variable {d a c m : Nat} {s s0 : Sto} {deep all : List Int} {times many : Int} {k : Nat} {p : String → Option FnD}
theorem dget_deep {x y z : T} : dGet [(.inr "deep", x), (.inr "all", y), (.inr "times", z)] (.inr "deep") = some x := rfl
theorem dget_all {x y z : T} : dGet [(.inr "deep", x), (.inr "all", y), (.inr "times", z)] (.inr "all") = some y := rfl
theorem dget_times {x y z : T} : dGet [(.inr "deep", x), (.inr "all", y), (.inr "times", z)] (.inr "times") = some z := rfl
theorem dput_times {x y z w : T} : dPut [(.inr "deep", x), (.inr "all", y), (.inr "times", z)] (.inr "times") w = [(.inr "deep", x), (.inr "all", y), (.inr "times", w)] := by
  have e : dHas [(.inr "deep", x), (.inr "all", y), (.inr "times", z)] (.inr "times") = true := by simp [dHas, dget_times]
  unfold dPut
  rw [e]
  have h1 : ¬ ((.inr "deep" : Key) = .inr "times") := by decide
  have h2 : ¬ ((.inr "all" : Key) = .inr "times") := by decide
  simp [h1, h2]
/-- the pot's parts in the midst of a draw -/
structure Mid (d a c : Nat) (all : List Int) (times : Int) (s0 : Sto) (L : Nat) (s : Sto) : Prop where
  dct : s.get d = some (.dct [(.inr "deep", .loc a), (.inr "all", .loc c), (.inr "times", .int times)])
  dp : ∃ deep : List Int, s.get a = some (.lst (deep.map .int)) ∧ deep.length ≤ L
  al : s.get c = some (.lst (all.map .int))
  fr : Frn d s0 s
abbrev dE (d : Nat) (many : Int) (x : Option T) : Env := [some (.loc d), some (.int many), x, none, none, none]
theorem draw_loop (hac : a < c) (hcd : c < d) (hm : 0 < many) (hm2 : okN many = true) : ∀ (deep : List Int) (N : Nat) (x : Option T) (s : Sto), deep.length < N → deep.length ≤ 1000 → s.get d = some (.dct [(.inr "deep", .loc a), (.inr "all", .loc c), (.inr "times", .int times)]) →
    s.get a = some (.lst (deep.map .int)) → s.get c = some (.lst (all.map .int)) → Frn d s0 s → d < s.len →
    TurnE (fun r' s' => (∃ x', r' = dE d many x') ∧ Mid d a c all times s0 1000 s') (fun t s' => ∃ v, t = .int v ∧ 0 ≤ v ∧ v < many ∧ Mid d a c all times s0 1000 s') (whileN dC dB N (dE d many x) s)
  | deep, 0, x, s, h, _, _, _, _, _, _ => by omega
  | [], N + 1, x, s, h, hL, h1, h2, h3, hf, hd => by
    have e := ne_nil (get_add_old (o := .lst []) h2) get_add
    have e1 := get_add_old (o := .lst []) h1
    have hc : dC (dE d many x) s = .ok false (s.add (.lst [])) := by
      unfold dC
      simp_arith! [h1, dget_deep, e, List.isEmpty_nil]
    rw [whileN, hc]
    exact ⟨⟨x, rfl⟩, e1, ⟨[], get_add_old h2, by simp⟩, get_add_old h3, hf.trans Frn.add⟩
  | y :: deep, N + 1, x, s, h, hL, h1, h2, h3, hf, hd => by
    have e := ne_nil (get_add_old (o := .lst []) h2) get_add
    have e1 := get_add_old (o := .lst []) h1
    have e2 := get_add_old (o := .lst []) h2
    have e3 := get_add_old (o := .lst []) h3
    have hf1 := hf.trans (Frn.add (d := d) (s := s) (o := .lst []))
    have hd1 : d < (s.add (.lst [])).len := by rw [len_add]; omega
    have hc : dC (dE d many x) s = .ok true (s.add (.lst [])) := by
      unfold dC
      simp_arith! [h1, dget_deep, e, List.isEmpty_cons]
    rw [whileN, hc]
    simp only [OutB.bndS, if_true]
    generalize s.add (.lst []) = s1 at *
    simp only [List.map_cons] at e2
    have hi : O.hi (.lst (deep.map T.int)) ≤ a := by rw [lst_ints_hi]; exact Nat.zero_le _
    have ha : a < s1.len := by omega
    have g1 : (s1.put a (.lst (deep.map .int))).get d = _ := (get_put_ne (by omega)).trans e1
    have g2 := get_put (o := .lst (deep.map T.int)) ha
    have g3 : (s1.put a (.lst (deep.map .int))).get c = _ := (get_put_ne (by omega)).trans e3
    have hf2 := hf1.trans (Frn.put (d := d) (s := s1) (m := a) (by omega) hi)
    have hd2 : d < (s1.put a (.lst (deep.map .int))).len := by rw [len_put]; exact hd1
    have hb : dB (dE d many x) s1 = (if 0 < y then .rt (.int (y % many)) ((s1.put a (.lst (deep.map .int))).put a (.lst ((y / many :: deep).map .int))) else .nx (dE d many (some (.int y))) (s1.put a (.lst (deep.map .int)))) := by
      unfold dB
      have z : (List.map T.int deep).length < sizeLine := by
        rw [List.length_map, sizeLine_eq]
        simp only [List.length_cons] at hL
        omega
      by_cases hy : 0 < y
      · simp_arith! [e1, e2, dget_deep, g1, g2, hy, hm, hm2, z]
      · simp_arith! [e1, e2, dget_deep, g1, g2, hy, hm, hm2, z]
    rw [hb]
    by_cases hy : 0 < y
    · rw [if_pos hy]
      have hi2 : O.hi (.lst ((y / many :: deep).map T.int)) ≤ a := by rw [lst_ints_hi]; exact Nat.zero_le _
      refine ⟨y % many, rfl, Int.emod_nonneg _ (by omega), Int.emod_lt_of_pos _ hm, (get_put_ne (by omega)).trans g1, ⟨y / many :: deep, get_put (by rw [len_put]; exact ha), hL⟩, (get_put_ne (by omega)).trans g3, hf2.trans (Frn.put (by omega) hi2)⟩
    · rw [if_neg hy]
      simp only [List.length_cons] at h hL
      exact draw_loop hac hcd hm hm2 deep N _ _ (by omega) (by omega) g1 g2 g3 hf2 hd2
theorem draw_spec {n : Nat} (hp : p "_law_draw" = some ⟨2, 6, PB_draw⟩) (P : Pot d n s) (hn : n ≤ 1000000000000000000000000000000) (hm : 0 < many) (hm2 : many ≤ 1000000000000000000000000000000) :
    ∃ v s', run p (k + 1) "_law_draw" [.loc d, .int many] s = .ok (.int v) s' ∧ 0 ≤ v ∧ v < many ∧ Pot d (n + 1) s' ∧ Frm d s s' := by
  obtain ⟨a, c, deep, all, times, h1, h2, h3, h4, h5, h6, h7, h8, h9, h10⟩ := P.ex
  have hm3 : okN many = true := okN_small (by omega) (by omega)
  have hd := lt_of_get h1
  have body : ∃ v s', (PB_draw (run p k) (dE d many none) s).out = .ok (.int v) s' ∧ 0 ≤ v ∧ v < many ∧ Pot d (n + 1) s' ∧ Frn d s s' := by
    have z := draw_loop (s0 := s) h4 h5 hm hm3 deep wTurns none s (by unfold wTurns; omega) h8 h1 h2 h3 Frn.refl hd
    have e0 : PB_draw (run p k) = sSeq (sWhile dC dB) (restB (run p k)) := rfl
    rw [e0]
    unfold sSeq sWhile
    revert z
    cases whileN dC dB wTurns (dE d many none) s with
    | nx r' s1 =>
      rintro ⟨⟨x, rfl⟩, m1, ⟨dp, m2, m2'⟩, m3, m4⟩
      simp only
      have hl : (all.map T.int).length = all.length := List.length_map _
      have hq : 0 < ((all.map T.int).length : Int) := by rw [hl]; omega
      obtain ⟨t, t1, t2⟩ := atT_of (ts := all.map T.int) (i := times % ((all.map T.int).length : Int)) (Int.emod_nonneg _ (by omega)) (Int.emod_lt_of_pos _ hq)
      obtain ⟨y, rfl⟩ : ∃ y, t = .int y := by
        simp only [List.getElem?_map] at t2
        cases e : all[(times % ((all.map T.int).length : Int)).toNat]? with
        | none => rw [e] at t2; cases t2
        | some y => rw [e] at t2; cases t2; exact ⟨y, rfl⟩
      have ha : a < s1.len := lt_of_get m2
      have hd1 : d < s1.len := lt_of_get m1
      have hdc : O.hi (.dct [(.inr "deep", .loc a), (.inr "all", .loc c), (.inr "times", .int (times + 1))]) ≤ d := by
        simp only [O.hi, List.map_cons, List.map_nil, T.his, T.hi]; omega
      have g1 := get_put (o := .dct [(.inr "deep", .loc a), (.inr "all", .loc c), (.inr "times", .int (times + 1))]) hd1
      have g3 : (s1.put d (.dct [(.inr "deep", .loc a), (.inr "all", .loc c), (.inr "times", .int (times + 1))])).get c = _ := (get_put_ne (by omega)).trans m3
      have g2 : (s1.put d (.dct [(.inr "deep", .loc a), (.inr "all", .loc c), (.inr "times", .int (times + 1))])).get a = _ := (get_put_ne (by omega)).trans m2
      have st : setT (.loc d) (.str "times") (.int (times + 1)) s1 = some (s1.put d (.dct [(.inr "deep", .loc a), (.inr "all", .loc c), (.inr "times", .int (times + 1))])) := by
        simp only [setT, m1, keyT, dput_times]
        exact if_pos (show 3 < sizeLine by decide)
      have k1 : okN (times + 1) = true := okN_small (by omega) (by omega)
      have k2 : okN (2246822519 : Int) = true := by decide
      have k3 : okN (374761393 : Int) = true := by decide
      have k4 : okN (668265263 : Int) = true := by decide
      have k5 : okN times = true := okN_small (by omega) (by omega)
      have k6 : okN (16 : Int) = true := by decide
      have b1 : (0 : Int) < 4294967291 := by decide
      have b2 : (0 : Int) < 50021 := by decide
      have b3 : (0 : Int) < 16 := by decide
      obtain ⟨q1, hq1⟩ : ∃ q1, q1 = y % 4294967291 + 2246822519 * (times + 1) := ⟨_, rfl⟩
      have k7 : okN (q1 % 4294967291) = true := okN_small (by omega) (by omega)
      have k8 : okN (q1 % 50021 + 13) = true := okN_small (by omega) (by omega)
      obtain ⟨q2, hq2⟩ : ∃ q2, q2 = q1 % 4294967291 * (q1 % 50021 + 13) % 4294967291 := ⟨_, rfl⟩
      have k9 : okN q2 = true := okN_small (by omega) (by omega)
      have k10 : okN ((q2 * q2 + 668265263 * times) % 4294967291) = true := okN_small (by omega) (by omega)
      obtain ⟨q3, hq3⟩ : ∃ q3, q3 = (q2 * q2 + 668265263 * times) % 4294967291 * 374761393 % 4294967291 := ⟨_, rfl⟩
      have fin : (restB (run p k) (dE d many x) s1).out = .ok (.int (q3 / 16 % many)) (s1.put d (.dct [(.inr "deep", .loc a), (.inr "all", .loc c), (.inr "times", .int (times + 1))])) := by
        unfold restB
        simp_arith! [m1, dget_all, dget_times, st, hq, t1, g3, k1, k2, k3, k4, k5, k6, b1, b2, b3, ← hq1, k7, k8, ← hq2, k9, k10, ← hq3, hm]
      refine ⟨q3 / 16 % many, _, fin, Int.emod_nonneg _ (by omega), Int.emod_lt_of_pos _ hm, ⟨a, c, dp, all, times + 1, g1, g2, g3, h4, h5, h6, h7, m2', by omega, by omega⟩, m4.trans (Frn.put (Nat.le_refl _) hdc)⟩
    | rt t s1 =>
      rintro ⟨v, rfl, v1, v2, m1, ⟨dp, m2, m2'⟩, m3, m4⟩
      exact ⟨v, s1, rfl, v1, v2, ⟨a, c, dp, all, times, m1, m2, m3, h4, h5, h6, h7, m2', h9, by omega⟩, m4⟩
    | bk r' s1 => exact fun z => z.elim
    | ct r' s1 => exact fun z => z.elim
    | ex y r' s1 => exact fun z => z.elim
    | bad => exact fun z => z.elim
  obtain ⟨v, s', e, v1, v2, P', f⟩ := body
  obtain ⟨s2, e2, f2, P2⟩ := gc_frn (t := .int v) f P' (Nat.zero_le _) hd
  exact ⟨v, s2, (run_eq hp rfl).trans ((congrArg _ e).trans e2), v1, v2, P2, f2⟩
/-- items[_law_draw(pot, len(items))] -/
theorem one_spec {n : Nat} {us : List T} {l : Nat} (hp : p "_law_draw" = some ⟨2, 6, PB_draw⟩) (hp1 : p "_law_one" = some ⟨2, 2, PB_one⟩) (P : Pot d n s) (hn : n ≤ 1000000000000000000000000000000) (hl : s.get l = some (.lst us)) (hdl : d < l) (h1 : 0 < us.length) (h2 : us.length ≤ 1000) (hh : ∀ t ∈ us, t.hi ≤ s.len) :
    ∃ t s', run p (k + 2) "_law_one" [.loc d, .loc l] s = .ok t s' ∧ t ∈ us ∧ Pot d (n + 1) s' ∧ Frm d s s' := by
  obtain ⟨v, s1, e1, v1, v2, P1, f1⟩ := draw_spec (k := k) (many := us.length) hp P hn (by omega) (by omega)
  have g : s1.get l = some (.lst us) := (f1.get l hdl).trans hl
  obtain ⟨t, t1, t2⟩ := atT_of v1 v2
  have ht : t ∈ us := List.mem_of_getElem? t2
  have fin : (PB_one (run p (k + 1)) [some (.loc d), some (.loc l)] s).out = .ok t s1 := by
    unfold PB_one
    simp_arith! [hl, e1, g, t1]
  obtain ⟨s2, e2, f2, P2⟩ := gc_frn (t := t) f1.frn P1 (hh t ht) P.lt
  exact ⟨t, s2, (run_eq hp1 rfl).trans ((congrArg _ fin).trans e2), ht, P2, f2⟩
end
end Fx

set_option maxRecDepth 100000
set_option maxHeartbeats 4000000
/-! Fx: the pot opened. -/
namespace Fx
open PySem L2 PyProof.Rows
section
variable {s : Sto} {k : Nat} {p : String → Option FnD}
theorem cut_to {ts : List T} {n : Nat} : cutT ts none (some (n : Int)) = ts.take n := by
  unfold cutT
  have e : sIx ts.length ts.length (some (n : Int)) = min n ts.length := HT.sIx_nat _ _ _
  have e2 : sIx ts.length 0 none = 0 := rfl
  rw [e, e2]
  simp only [List.drop_zero, Nat.sub_zero]
  by_cases h : n ≤ ts.length
  · rw [Nat.min_eq_left h]
  · rw [Nat.min_eq_right (by omega), List.take_of_length_le (Nat.le_refl _), List.take_of_length_le (by omega)]
theorem get_lt_add {o : O} {i : Nat} (h : i < s.len) : (s.add o).get i = s.get i := by
  show (s.os ++ [o])[i]? = s.os[i]?
  rw [List.getElem?_append_left h]
theorem opened_spec {ns : List Int} (hp : p "_law_opened" = some ⟨1, 3, PB_opened⟩) (hl : ns.length ≤ 63) :
    ∃ d s', run p (k + 1) "_law_opened" [.frz (ns.map .int)] s = .ok (.loc d) s' ∧ Pot d 0 s' ∧ s.len ≤ d ∧ s'.kp = s.kp ∧ d < s'.len := by
  have e64 : (64 : Int) = ((64 : Nat) : Int) := rfl
  have tk : (ns.map T.int).take 64 = ns.map T.int := List.take_of_length_le (by rw [List.length_map]; omega)
  -- the cells
  let ab : Int → Int := fun i => if i < 0 then -i else i
  let s1 := s.add (.lst (ns.map T.int))
  have h1 : s1.get s.len = some (.lst (ns.map T.int)) := get_add
  have c1 : compL (chkL s.len (ns.map T.int)) (gNm 2) bYes (eB fAbs (lCons (eVar 2) lNil)) [some (.frz (ns.map T.int)), none, none] (ns.map T.int) [] s1 = .ok ([] ++ ns.map fun i => T.int (ab i)) s1 :=
    compL_map (chkL_iff.mpr h1) ns [] (fun x _ => ⟨[some (.frz (ns.map T.int)), none, some (.int x)], rfl, by simp_arith! [eq_self]; rfl⟩) (by simp [sizeLine_eq]; omega)
  simp only [List.nil_append] at c1
  let cells : List Int := ns.map ab
  have ec : (ns.map fun i => T.int (ab i)) = cells.map T.int := by simp [cells]
  rw [ec] at c1
  let s2 := s1.add (.lst (cells.map T.int))
  have h2 : s2.get s1.len = some (.lst (cells.map T.int)) := get_add
  have c2 : compL (chkL s1.len (cells.map T.int)) (gNm 2) (bV (eBin oGe (eVar 2) (eBin oPow (eC (.int 10)) (eC (.int 18))))) (eVar 2) [some (.frz (ns.map T.int)), some (.loc s1.len), none] (cells.map T.int) [] s2 = .ok ([] ++ (cells.filter fun x => decide (1000000000000000000 ≤ x)).map T.int) s2 :=
    compL_filter (chkL_iff.mpr h2) cells [] (fun x _ => ⟨[some (.frz (ns.map T.int)), some (.loc s1.len), some (.int x)], rfl, by simp_arith! [eq_self], fun _ => by simp_arith! [eq_self]⟩) (by simp [cells, sizeLine_eq]; omega)
  simp only [List.nil_append] at c2
  let deep : List Int := cells.filter fun x => decide (1000000000000000000 ≤ x)
  let s3 := s2.add (.lst (deep.map T.int))
  have h3 : s3.get s1.len = some (.lst (cells.map T.int)) := get_add_old h2
  have h3' : s3.get s2.len = some (.lst (deep.map T.int)) := get_add
  let s4 := s3.add (.lst [.int 53])
  have h4 : s4.get s1.len = some (.lst (cells.map T.int)) := get_add_old h3
  have h4' : s4.get s3.len = some (.lst [.int 53]) := get_add
  let s5 := s4.add (.lst [])
  have h5 : s5.get s1.len = some (.lst (cells.map T.int)) := get_add_old h4
  have h5' : s5.get s3.len = some (.lst [.int 53]) := get_add_old h4'
  have e5 : oEq (.loc s1.len) (.loc s4.len) s5 = some (.bl cells.isEmpty, s5) := eq_nil h5 get_add
  let more : List Int := if cells.isEmpty = true then [53] else []
  let s6 := s5.add (.lst (more.map T.int))
  have e6 : mulL (if cells.isEmpty = true then 1 else 0) s5 (some (.lst [.int 53])) = some (.loc s5.len, s6) := by
    cases e : cells.isEmpty <;> simp only [s6, more, e] <;> rfl
  have h6 : s6.get s1.len = some (.lst (cells.map T.int)) := get_add_old h5
  have h6' : s6.get s5.len = some (.lst (more.map T.int)) := get_add
  have hz : (cells.map T.int).length + (more.map T.int).length ≤ sizeLine := by
    have : more.length ≤ 1 := by simp only [more]; split <;> simp
    simp only [List.length_map, cells, sizeLine_eq] at *; omega
  let all : List Int := cells ++ more
  let s7 := s6.add (.lst (all.map T.int))
  have e7 : addL s6 (some (.lst (cells.map T.int))) (some (.lst (more.map T.int))) = some (.loc s6.len, s7) := by
    rw [vv_addl1 hz]
    simp [s7, all]
  let D : List (Key × T) := [(.inr "deep", .loc s2.len), (.inr "all", .loc s6.len), (.inr "times", .int 0)]
  let s8 := s7.add (.dct D)
  have eD : dMerge [] D = D := rfl
  have fin : (PB_opened (run p k) [some (.frz (ns.map T.int)), none, none] s).out = .ok (.loc s7.len) s8 := by
    unfold PB_opened
    have q1 : s.add (.lst ((ns.map T.int))) = s1 := rfl
    have q2 : s1.add (.lst (cells.map T.int)) = s2 := rfl
    have q3 : s2.add (.lst ((cells.filter fun x => decide (1000000000000000000 ≤ x)).map T.int)) = s3 := rfl
    have q4 : s3.add (.lst [.int 53]) = s4 := rfl
    have q5 : s4.add (.lst []) = s5 := rfl
    have q8 : s7.add (.dct (dMerge [] [(.inr "deep", .loc s2.len), (.inr "all", .loc s6.len), (.inr "times", .int 0)])) = s8 := rfl
    simp_arith! [e64, cut_to, tk, q1, h1, c1, q2, h2, c2, q3, q4, q5, e5, h5', e6, h6, h6', e7, q8]
  have hl8 : s8.len = s7.len + 1 := len_add
  have l1 : s1.len = s.len + 1 := len_add
  have l2 : s2.len = s1.len + 1 := len_add
  have l3 : s3.len = s2.len + 1 := len_add
  have l4 : s4.len = s3.len + 1 := len_add
  have l5 : s5.len = s4.len + 1 := len_add
  have l6 : s6.len = s5.len + 1 := len_add
  have l7 : s7.len = s6.len + 1 := len_add
  have lt26 : s2.len < s6.len := by omega
  have P8 : Pot s7.len 0 s8 := by
    refine ⟨s2.len, s6.len, deep, all, 0, get_add, ?_, ?_, lt26, by omega, ?_, ?_, ?_, by omega, by omega⟩
    · exact get_add_old (get_add_old (get_add_old (get_add_old (get_add_old h3'))))
    · exact get_add_old get_add
    · cases e : cells.isEmpty with
      | true => simp [all, more, e]
      | false =>
        have : cells ≠ [] := by intro h; rw [h] at e; cases e
        have : 0 < cells.length := List.length_pos_iff.mpr this
        simp only [all, List.length_append]; omega
    · have : more.length ≤ 1 := by simp only [more]; split <;> simp
      simp only [all, List.length_append, cells, List.length_map]; omega
    · exact Nat.le_trans (List.length_filter_le _ _) (by simp only [cells, List.length_map]; omega)
  refine ⟨s7.len, s8, (run_eq hp rfl).trans ((congrArg _ fin).trans ?_), P8, by omega, rfl, by omega⟩
  have kp : s8.kp = s.kp := rfl
  simp only [gcR, kp, if_true]
  rw [cut_self]
  show s8.len ≤ max s.len (s7.len + 1)
  omega
end
end Fx

set_option maxRecDepth 100000
set_option maxHeartbeats 4000000
namespace Fx
open PySem L2 PyProof.Rows
section
variable {d n k : Nat} {s s1 : Sto} {p : String → Option FnD}
theorem Frm.kp' (f : Frm d s s1) : s1.kp = s.kp := f.kp
/-- _law_one(pot, [..]), the list gone behind it -/
theorem one_lit {us : List T} (hp : p "_law_draw" = some ⟨2, 6, PB_draw⟩) (hp1 : p "_law_one" = some ⟨2, 2, PB_one⟩) (P : Pot d n s1) (f : Frm d s s1) (hn : n ≤ 1000000000000000000000000000000) (h1 : 0 < us.length) (h2 : us.length ≤ 1000) (hh : ∀ t ∈ us, t.hi = 0) :
    ∃ t s', gcR s.len s.kp (run p (k + 2) "_law_one" [.loc d, .loc s1.len] (s1.add (.lst us))) = .ok t s' ∧ t ∈ us ∧ Pot d (n + 1) s' ∧ Frm d s s' := by
  obtain ⟨t, s2, e, ht, P2, f2⟩ := one_spec (k := k) hp hp1 (P.add (o := .lst us)) hn (get_add (o := .lst us)) P.lt h1 h2 (fun t ht => by rw [hh t ht]; exact Nat.zero_le _)
  have fr : Frn d s s2 := (f.frn.trans Frn.add).trans f2.frn
  obtain ⟨s3, e3, f3, P3⟩ := gc_frn (t := t) fr P2 (by rw [hh t ht]; exact Nat.zero_le _) (by rw [← f.len]; exact P.lt)
  exact ⟨t, s3, by rw [e]; exact e3, ht, P3, f3⟩
/-- .. of ints -/
theorem one_ints {us : List Int} (hp : p "_law_draw" = some ⟨2, 6, PB_draw⟩) (hp1 : p "_law_one" = some ⟨2, 2, PB_one⟩) (P : Pot d n s1) (f : Frm d s s1) (hn : n ≤ 1000000000000000000000000000000) (h1 : 0 < us.length) (h2 : us.length ≤ 1000) :
    ∃ (v : Int) (s' : Sto), gcR s.len s.kp (run p (k + 2) "_law_one" [.loc d, .loc s1.len] (s1.add (.lst (us.map T.int)))) = .ok (.int v) s' ∧ v ∈ us ∧ Pot d (n + 1) s' ∧ Frm d s s' := by
  obtain ⟨t, s', e, ht, q⟩ := one_lit (k := k) (us := us.map T.int) hp hp1 P f hn (by simpa using h1) (by simpa using h2) (fun t ht => by obtain ⟨i, _, rfl⟩ := List.mem_map.mp ht; rfl)
  obtain ⟨v, hv, rfl⟩ := List.mem_map.mp ht
  exact ⟨v, s', e, hv, q⟩
end
end Fx

set_option maxRecDepth 100000
set_option maxHeartbeats 2000000
namespace K72m
open PySem PySem.Spec PyProof.Rows L2 Fx K72
variable {k : Nat} {s : Sto}
theorem is_integer_int {v lo hi : Int} : run pr (k + 1) "is_integer" [.int v, .int lo, .int hi] s = .ok (.bl (decide (lo ≤ v ∧ v ≤ hi))) s := by
  refine run_pure pr_is_integer rfl ?_
  unfold b_is_integer
  by_cases h1 : lo ≤ v <;> by_cases h2 : v ≤ hi <;> simp_arith! [h1, h2]
theorem is_minute_int {v : Int} : run pr (k + 2) "is_minute" [.int v] s = .ok (.bl (decide (0 ≤ v ∧ v ≤ 1000000000))) s := by
  refine run_pure pr_is_minute rfl ?_
  unfold b_is_minute
  simp_arith! [is_integer_int]
end K72m

set_option maxRecDepth 100000
set_option maxHeartbeats 4000000
namespace K72m
open PySem PySem.Spec PyProof.Rows L2 Fx K72
section
variable {d n k : Nat} {s : Sto}
def encL (q : Str × Int) : T := .tup [.str q.1, .int q.2]
def okL (q : Str × Int) : Prop := (q.1 = "hold" ∨ q.1 = "pulse") ∧ 1 ≤ q.2 ∧ q.2 ≤ 1000000000
abbrev NB : Nat := 1000000000000000000000
theorem lamp_spec (P : Pot d n s) (hn : n ≤ NB) : ∃ q s', run pr (k + 3) "_law_lamp" [.loc d, .int 1000000000] s = .ok (encL q) s' ∧ Pot d (n + 5) s' ∧ Frm d s s' ∧ okL q := by
  unfold NB at hn
  obtain ⟨v1, s1, e1, a1, b1, P1, F1⟩ := draw_spec (k := k + 1) (many := 12) pr__law_draw P (by omega) (by decide) (by decide)
  obtain ⟨v2, s2, e2, a2, b2, P2, F2⟩ := draw_spec (k := k + 1) (many := 40) pr__law_draw P1 (by omega) (by decide) (by decide)
  obtain ⟨v3, s3, e3, a3, b3, P3, F3⟩ := draw_spec (k := k + 1) (many := 1000000000) pr__law_draw P2 (by omega) (by decide) (by decide)
  obtain ⟨st, s4, e4, m4, P4, F4⟩ := one_ints (k := k) (us := [1, 2, 1 + v1, 1 + v2, 1 + v3, 1000000000]) pr__law_draw pr__law_one P3 ((F1.trans F2).trans F3) (by omega) (by simp) (by simp)
  obtain ⟨kd, s5, e5, m5, P5, F5⟩ := one_lit (k := k) (us := [.str "hold", .str "pulse"]) pr__law_draw pr__law_one P4 Frm.refl (by omega) (by simp) (by simp) (by intro t ht; simp at ht; rcases ht with rfl | rfl <;> rfl)
  obtain ⟨z, rfl, hz⟩ : ∃ z, kd = .str z ∧ (z = "hold" ∨ z = "pulse") := by
    simp only [List.mem_cons, List.not_mem_nil, or_false] at m5
    rcases m5 with rfl | rfl
    · exact ⟨_, rfl, .inl rfl⟩
    · exact ⟨_, rfl, .inr rfl⟩
  simp only [List.map_cons, List.map_nil] at e4
  have fin : (b__law_lamp (run pr (k + 2)) [some (.loc d), some (.int 1000000000), none] s).out = .ok (encL (z, st)) s5 := by
    unfold b__law_lamp
    simp_arith! [e1, e2, e3, e4, e5, encL]
  have hst : 1 ≤ st ∧ st ≤ 1000000000 := by
    simp only [List.mem_cons, List.not_mem_nil, or_false] at m4
    omega
  obtain ⟨s6, e6, F6, P6⟩ := gc_frn (t := encL (z, st)) (F4.trans F5).frn P5 (Nat.zero_le _) P.lt
  exact ⟨(z, st), s6, (run_eq pr__law_lamp rfl).trans ((congrArg _ fin).trans e6), P6.mono (by omega), F6, hz, hst.1, hst.2⟩
end
end K72m

set_option maxRecDepth 100000
set_option maxHeartbeats 4000000
namespace K72m
open PySem PySem.Spec PyProof.Rows L2 Fx K72
section
variable {d n k : Nat} {s : Sto}
theorem in_sign {c : Nat} {z : Str} : oIn (.str ⟨#[c]⟩) (.str z) s = some (.bl (decide (c ∈ z.cps.toList)), s) := by
  show (inT s _ _).map _ = _
  simp [inT]
theorem ix_str0 {z : Str} {c : Nat} {r : List Nat} (h : TL.tl z = c :: r) (hz : z.length ≤ sizeLine) : oIx (.str z) (.int 0) s = some (.str ⟨#[c]⟩, s) := by
  unfold oIx
  simp only [hz, if_true]
  have e : atI z.cps.toList 0 = some c := by
    rw [show z.cps.toList = c :: r from h]
    simp [atI, ixN]
  rw [e]; rfl
theorem all_true {α : Type} {f : α → Bool} : ∀ {l : List α}, (∀ a ∈ l, f a = true) → hAll (l.map fun a => T.bl (f a)) s = some (.bl true, s) := by
  intro l h
  unfold hAll
  rw [bls_map]
  have : (l.map f).all id = true := by simpa using h
  simp [this]
theorem read_int {i : Int} (h : 0 ≤ i) (h2 : i < 10000000000) : run pr (k + 1) "read_integer" [.str (num i)] s = .ok (.int i) s := by
  obtain ⟨l1, l2⟩ := num_len h h2
  have hz : (num i).length ≤ sizeLine := by rw [sizeLine_eq]; omega
  have c1 : compL chkT (gNm 1) bYes (eBin oIn (eVar 1) (eC (.str "0123456789"))) [some (.str (num i)), none] (signs (num i)) [] s = .ok ([] ++ (TL.tl (num i)).map fun c => T.bl (decide (c ∈ TL.tl "0123456789"))) s :=
    compL_map rfl (TL.tl (num i)) [] (fun c _ => ⟨[some (.str (num i)), some (.str ⟨#[c]⟩)], rfl, by simp_arith! [in_sign]⟩) (by rw [← TL.len_tl, sizeLine_eq]; simp; omega)
  simp only [List.nil_append] at c1
  have al : hAll ((TL.tl (num i)).map fun c => T.bl (decide (c ∈ TL.tl "0123456789"))) s = some (.bl true, s) := all_true fun c hc => by
    have hd := num_digits h c hc
    have e : TL.tl "0123456789" = [48, 49, 50, 51, 52, 53, 54, 55, 56, 57] := by decide
    rw [e]
    have : c = 48 ∨ c = 49 ∨ c = 50 ∨ c = 51 ∨ c = 52 ∨ c = 53 ∨ c = 54 ∨ c = 55 ∨ c = 56 ∨ c = 57 := by omega
    simp [this]
  have b1 : (1 : Int) ≤ ((num i).length : Nat) := by omega
  have b2 : ((num i).length : Int) ≤ 20 := by omega
  have fi : fInt [.str (num i)] s = some (.int i, s) := by
    unfold fInt
    simp only [num_int h h2]
    exact if_pos (by omega)
  have z0 : TL.tl "0" = [48] := by decide
  refine run_pure pr_read_integer rfl ?_
  unfold b_read_integer
  rcases num_head h with ⟨r, e, rfl⟩ | ⟨c, r, e, hc⟩
  · have ix := ix_str0 (s := s) e hz
    have n0 : (num 0 = "0") = True := eq_true (by decide)
    have q1 : (⟨#[48]⟩ : Str) = "0" := by decide
    simp_arith! [hz, b1, b2, c1, al, fi, ix, n0, q1]
  · have ix := ix_str0 (s := s) e hz
    have q1 : ¬ (⟨#[c]⟩ : Str) = "0" := fun q => hc (by
      have := congrArg TL.tl q
      rw [z0] at this
      simpa [TL.tl] using this)
    simp_arith! [hz, b1, b2, c1, al, fi, ix, q1]
theorem wordsplit {a b sg : Str} {c : Nat} (ey : TL.tl sg = [c]) (hc : c < 256) (h1 : c ∉ TL.tl a) (h2 : c ∉ TL.tl b) (hl : (a ++ sg ++ b).length ≤ 1000) : mSplit (.str (a ++ sg ++ b)) [.str sg] s = some (.loc s.len, s.add (.lst [.str a, .str b])) := by
  have e : (sg.length == 0) = false := by rw [TL.len_tl, ey]; rfl
  rw [vv_spl ⟨e, by rw [sizeLine_eq]; omega⟩, split2 ey hc h1 h2]
  rfl
theorem num_free {i : Int} {c : Nat} (h : 0 ≤ i) (hc : c < 48 ∨ 57 < c) : c ∉ TL.tl (num i) := fun m => by have := num_digits h c m; omega
theorem read_two {a b : Int} {sg : Str} {c : Nat} (ey : TL.tl sg = [c]) (hc : c < 48 ∨ 57 < c) (hc2 : c < 256) (ha : 0 ≤ a) (ha2 : a < 10000000000) (hb : 0 ≤ b) (hb2 : b < 10000000000) : run pr (k + 2) "read_pair" [.str (num a ++ sg ++ num b), .str sg] s = .ok (.tup [.int a, .int b]) s := by
  have la := num_len ha ha2
  have lb := num_len hb hb2
  have ls : sg.length = 1 := by rw [TL.len_tl, ey]; rfl
  have sp := wordsplit (s := s) ey hc2 (num_free ha hc) (num_free hb hc) (by rw [len_app, len_app]; omega)
  let s1 := s.add (.lst [.str (num a), .str (num b)])
  have g1 : s1.get s.len = some (.lst [.str (num a), .str (num b)]) := get_add
  have c1 : compL (chkL s.len [.str (num a), .str (num b)]) (gNm 3) bYes (eCall (run pr (k + 1)) "read_integer" (lDef (lCons (eVar 3) lNil) [])) [some (.str (num a ++ sg ++ num b)), some (.str sg), none, none] ([(num a, a), (num b, b)].map fun q : Str × Int => T.str q.1) [] s1 = .ok ([] ++ [(num a, a), (num b, b)].map fun q : Str × Int => T.int q.2) s1 :=
    compL_map (chkL_iff.mpr g1) _ [] (fun q hq => ⟨[some (.str (num a ++ sg ++ num b)), some (.str sg), none, some (.str q.1)], rfl, by
      simp only [List.mem_cons, List.not_mem_nil, or_false] at hq
      rcases hq with rfl | rfl
      · simp_arith! [read_int ha ha2]
      · simp_arith! [read_int hb hb2]⟩) (by simp [sizeLine_eq])
  simp only [List.nil_append, List.map_cons, List.map_nil] at c1
  let s2 := s1.add (.lst [.int a, .int b])
  have g2 : s2.get s1.len = some (.lst [.int a, .int b]) := get_add
  have ni : oNotIn .non (.loc s1.len) s2 = some (.bl true, s2) := by
    show (inT s2 _ _).map _ = _
    have : inT s2 .non (.loc s1.len) = some false := by
      unfold inT itemsT
      simp only [g2]
      rfl
    rw [this]; rfl
  refine run_gro pr_read_pair rfl ⟨s2, ?_, Gro.add.trans Gro.add⟩ (Nat.zero_le _)
  unfold b_read_pair
  have q1 : s.add (.lst [.str (num a), .str (num b)]) = s1 := rfl
  have q2 : s1.add (.lst [.int a, .int b]) = s2 := rfl
  simp_arith! [sp, q1, g1, c1, q2, g2, ni]
end
end K72m

set_option maxRecDepth 100000
set_option maxHeartbeats 4000000
namespace K72m
open PySem PySem.Spec PyProof.Rows L2 Fx K72
section
variable {d n k : Nat} {s : Sto}
theorem at0 {t : T} {ts : List T} : atT (t :: ts) 0 = some t := by simp [Fx.atT, ixN]
theorem at1 {t u : T} {ts : List T} : atT (t :: u :: ts) 1 = some u := by
  obtain ⟨v, h1, h2⟩ := atT_of (ts := t :: u :: ts) (i := 1) (by decide) (by simp only [List.length_cons]; omega)
  rw [h1]; simpa using h2.symm
theorem in_kinds {z : Str} (h : z = "hold" ∨ z = "pulse") : oIn (.str z) (.tup [.str "hold", .str "pulse"]) s = some (.bl true, s) := by
  show (inT s _ _).map _ = _
  have e : inT s (.str z) (.tup [.str "hold", .str "pulse"]) = some true := by
    unfold inT
    simp only [vv_items_t]
    rcases h with rfl | rfl <;> rfl
  rw [e]; rfl
theorem is_lamp_ok {q : Str × Int} (h : okL q) : run pr (k + 2) "is_lamp" [encL q] s = .ok (.bl true) s := by
  obtain ⟨h1, h2, h3⟩ := h
  refine run_pure pr_is_lamp rfl ?_
  unfold b_is_lamp
  simp_arith! [encL, at0, at1, in_kinds h1, is_integer_int, h2, h3]
def encP (q : Int × Int) : T := .tup [.int q.1, .int q.2]
def okP (q : Int × Int) : Prop := 0 ≤ q.1 ∧ q.1 < q.2 ∧ q.2 ≤ 2000000000
theorem is_stretch_ok {q : Int × Int} (h : okP q) : run pr (k + 2) "is_stretch" [encP q] s = .ok (.bl true) s := by
  obtain ⟨h1, h2, h3⟩ := h
  have h4 : q.1 ≤ 2000000000 := by omega
  have h5 : q.1 + 1 ≤ q.2 := by omega
  refine run_pure pr_is_stretch rfl ?_
  unfold b_is_stretch
  simp_arith! [encP, at0, at1, is_integer_int, h1, h3, h4, h5]
def encR (q : Int × Int × Int) : T := .tup [.int q.1, .int q.2.1, .int q.2.2]
def endR (q : Int × Int × Int) : Int := q.1 + q.2.1 * (q.2.2 - 1)
def okR' (q : Int × Int × Int) : Prop := 0 ≤ q.1 ∧ 1 ≤ q.2.1 ∧ q.2.1 ≤ 1000000000 ∧ 1 ≤ q.2.2 ∧ endR q ≤ 1000000000 ∧ (q.2.2 = 1 → q.2.1 = 1)
theorem okR_cnt {q : Int × Int × Int} (h : okR' q) : q.1 ≤ 1000000000 ∧ q.2.2 ≤ 1000000001 := by
  obtain ⟨h1, h2, h3, h4, h5, h6⟩ := h
  unfold endR at h5
  have h7 : 0 ≤ (q.2.1 - 1) * (q.2.2 - 1) := Int.mul_nonneg (by omega) (by omega)
  have h8 : (q.2.1 - 1) * (q.2.2 - 1) = q.2.1 * (q.2.2 - 1) - (q.2.2 - 1) := by rw [Int.sub_mul, Int.one_mul]
  omega
theorem end_of_ok {q : Int × Int × Int} (h : okR' q) : run pr (k + 1) "end_of" [encR q] s = .ok (.int (endR q)) s := by
  have hc := okR_cnt h
  obtain ⟨h1, h2, h3, h4, h5, h6⟩ := h
  have k1 : okN q.2.1 = true := okN_small (by omega) (by omega)
  have k2 : okN (q.2.2 - 1) = true := okN_small (by omega) (by omega)
  refine run_pure pr_end_of rfl ?_
  unfold b_end_of
  simp_arith! [encR, k1, k2, endR]
theorem is_run_ok {q : Int × Int × Int} (h : okR' q) : run pr (k + 3) "is_run" [encR q] s = .ok (.bl true) s := by
  have hc := okR_cnt h
  have eo := end_of_ok (k := k + 1) (s := s) h
  obtain ⟨h1, h2, h3, h4, h5, h6⟩ := h
  obtain ⟨c1, c2⟩ := hc
  refine run_pure pr_is_run rfl ?_
  unfold b_is_run
  have e0 : encR q = .tup [.int q.1, .int q.2.1, .int q.2.2] := rfl
  rw [e0] at eo ⊢
  by_cases h7 : 1 < q.2.2
  · simp_arith! [at0, is_minute_int, is_integer_int, eo, h1, h2, h3, h4, h5, h7, c1, c2]
  · have h8 : (q.2.1 = 1) = True := eq_true (h6 (by omega))
    simp_arith! [at0, is_minute_int, is_integer_int, eo, h1, h2, h3, h4, h5, h7, h8, c1, c2]
/-! ### texts -/
def wL (q : Str × Int) : Str := q.1 ++ ":" ++ num q.2
def wP (q : Int × Int) : Str := num q.1 ++ "-" ++ num q.2
def wR (q : Int × Int × Int) : Str := if 1 < q.2.2 then num q.1 ++ "+" ++ (num q.2.1 ++ "x" ++ num q.2.2) else num q.1
def textOf {α : Type} (w : α → Str) (xs : List α) : Str := if xs.isEmpty = true then "none" else Txt.join " " (xs.map w)
theorem tl1 : TL.tl ":" = [58] ∧ TL.tl "-" = [45] ∧ TL.tl "+" = [43] ∧ TL.tl "x" = [120] ∧ TL.tl " " = [32] ∧ TL.tl "hold" = [104, 111, 108, 100] ∧ TL.tl "pulse" = [112, 117, 108, 115, 101] ∧ TL.tl "none" = [110, 111, 110, 101] := by decide
/-- what is asked of a word -/
structure Wd (w : Str) : Prop where
  sp : 32 ∉ TL.tl w
  ok : ∀ c ∈ TL.tl w, c < 1114112
  ln : w.length ≤ 40
  nn : ∃ c ∈ TL.tl w, c < 60
theorem kind_free {z : Str} (h : z = "hold" ∨ z = "pulse") : ∀ c ∈ TL.tl z, 100 ≤ c ∧ c ≤ 117 := by
  obtain ⟨_, _, _, _, _, e1, e2, _⟩ := tl1
  rcases h with rfl | rfl
  · rw [e1]; intro c hc; simp at hc; omega
  · rw [e2]; intro c hc; simp at hc; omega
theorem kind_len {z : Str} (h : z = "hold" ∨ z = "pulse") : z.length ≤ 5 := by
  rcases h with rfl | rfl <;> decide
theorem wd_L {q : Str × Int} (h : okL q) : Wd (wL q) := by
  obtain ⟨h1, h2, h3⟩ := h
  have hk := kind_free h1
  have hn := num_digits (i := q.2) (by omega)
  have e : TL.tl (wL q) = TL.tl q.1 ++ [58] ++ TL.tl (num q.2) := by unfold wL; rw [tl_app, tl_app, tl1.1]
  refine ⟨?_, ?_, ?_, ⟨58, by rw [e]; simp, by decide⟩⟩
  · rw [e]; simp only [List.mem_append, List.mem_singleton]
    rintro ((m | m) | m)
    · have := hk _ m; omega
    · omega
    · have := hn _ m; omega
  · rw [e]; simp only [List.mem_append, List.mem_singleton]
    rintro c ((m | m) | m)
    · have := hk _ m; omega
    · omega
    · have := hn _ m; omega
  · have := kind_len h1
    have := (num_len (i := q.2) (by omega) (by omega)).2
    have e1 : (":" : Str).length = 1 := by decide
    unfold wL
    rw [len_app, len_app]; omega
theorem wd_P {q : Int × Int} (h : okP q) : Wd (wP q) := by
  obtain ⟨h1, h2, h3⟩ := h
  have ha := num_digits (i := q.1) (by omega)
  have hn := num_digits (i := q.2) (by omega)
  have e : TL.tl (wP q) = TL.tl (num q.1) ++ [45] ++ TL.tl (num q.2) := by unfold wP; rw [tl_app, tl_app, tl1.2.1]
  refine ⟨?_, ?_, ?_, ⟨45, by rw [e]; simp, by decide⟩⟩
  · rw [e]; simp only [List.mem_append, List.mem_singleton]
    rintro ((m | m) | m)
    · have := ha _ m; omega
    · omega
    · have := hn _ m; omega
  · rw [e]; simp only [List.mem_append, List.mem_singleton]
    rintro c ((m | m) | m)
    · have := ha _ m; omega
    · omega
    · have := hn _ m; omega
  · have := (num_len (i := q.1) (by omega) (by omega)).2
    have := (num_len (i := q.2) (by omega) (by omega)).2
    have e1 : ("-" : Str).length = 1 := by decide
    unfold wP
    rw [len_app, len_app]; omega
theorem tl_R {q : Int × Int × Int} (h : 1 < q.2.2) : TL.tl (wR q) = TL.tl (num q.1) ++ [43] ++ (TL.tl (num q.2.1) ++ [120] ++ TL.tl (num q.2.2)) := by
  unfold wR
  rw [if_pos h, tl_app, tl_app, tl_app, tl_app, tl1.2.2.1, tl1.2.2.2.1]
theorem wd_R {q : Int × Int × Int} (h : okR' q) : Wd (wR q) := by
  have hcc := okR_cnt h
  obtain ⟨h1, h2, h3, h4, h5, h6⟩ := h
  have ha := num_digits (i := q.1) (by omega)
  have hn := num_digits (i := q.2.1) (by omega)
  have hm := num_digits (i := q.2.2) (by omega)
  have l1 := (num_len (i := q.1) (by omega) (by omega)).2
  have l2 := (num_len (i := q.2.1) (by omega) (by omega)).2
  have l3 := (num_len (i := q.2.2) (by omega) (by omega)).2
  obtain ⟨c0, r0, e0⟩ : ∃ c r, TL.tl (num q.1) = c :: r := by
    cases e : TL.tl (num q.1) with
    | nil => exact absurd e (num_ne h1)
    | cons c r => exact ⟨c, r, rfl⟩
  have hc0 := ha c0 (by rw [e0]; exact List.mem_cons_self)
  by_cases h7 : 1 < q.2.2
  · have e := tl_R h7
    refine ⟨?_, ?_, ?_, ⟨c0, by rw [e, e0]; simp, by omega⟩⟩
    · rw [e]; simp only [List.mem_append, List.mem_singleton]
      rintro ((m | m) | ((m | m) | m))
      · have := ha _ m; omega
      · omega
      · have := hn _ m; omega
      · omega
      · have := hm _ m; omega
    · rw [e]; simp only [List.mem_append, List.mem_singleton]
      rintro c ((m | m) | ((m | m) | m))
      · have := ha _ m; omega
      · omega
      · have := hn _ m; omega
      · omega
      · have := hm _ m; omega
    · have e1 : ("+" : Str).length = 1 := by decide
      have e2 : ("x" : Str).length = 1 := by decide
      unfold wR
      rw [if_pos h7, len_app, len_app, len_app, len_app]; omega
  · have e : wR q = num q.1 := if_neg h7
    rw [e]
    exact ⟨fun m => by have := ha _ m; omega, fun c m => by have := ha _ m; omega, by omega, ⟨c0, by rw [e0]; exact List.mem_cons_self, by omega⟩⟩
/-- joined words -/
structure Tx (t : Str) : Prop where
  ok : ∀ c ∈ TL.tl t, c < 1114112
  ln : t.length ≤ 41 * 400
theorem joinL_mem {c : Nat} {S : List Nat} : ∀ {ps : List (List Nat)}, c ∈ TL.joinL S ps → c ∈ S ∨ ∃ p ∈ ps, c ∈ p
  | [], h => by simp [TL.joinL] at h
  | [p], h => .inr ⟨p, by simp, h⟩
  | p :: q :: r, h => by
    simp only [TL.joinL, List.mem_append] at h
    rcases h with h | h | h
    · exact .inr ⟨p, by simp, h⟩
    · exact .inl h
    · rcases joinL_mem h with h | ⟨z, hz, h⟩
      · exact .inl h
      · exact .inr ⟨z, List.mem_cons_of_mem _ hz, h⟩
theorem mem_joinL {c : Nat} {S : List Nat} : ∀ {ps : List (List Nat)} {p : List Nat}, p ∈ ps → c ∈ p → c ∈ TL.joinL S ps
  | [p], _, h, hc => by simp at h; subst h; exact hc
  | p :: q :: r, z, h, hc => by
    simp only [TL.joinL, List.mem_append]
    rcases List.mem_cons.mp h with rfl | h
    · exact .inl hc
    · exact .inr (.inr (mem_joinL h hc))
theorem tx_of {α : Type} {w : α → Str} {xs : List α} (h : ∀ x ∈ xs, Wd (w x)) (hl : xs.length ≤ 400) : Tx (textOf w xs) := by
  unfold textOf
  split
  · exact ⟨by rw [tl1.2.2.2.2.2.2.2]; intro c hc; simp at hc; omega, by decide⟩
  · refine ⟨fun c hc => ?_, ?_⟩
    · rw [TL.join_eq, TL.tl_join] at hc
      rcases joinL_mem hc with hc | ⟨p, hp, hc⟩
      · rw [tl1.2.2.2.2.1] at hc; simp at hc; omega
      · simp only [List.map_map, List.mem_map, Function.comp] at hp
        obtain ⟨x, hx, rfl⟩ := hp
        exact (h x hx).ok c hc
    · have j := join_len " " (xs.map w)
      have e1 : (" " : Str).length = 1 := by decide
      have s1 : ((xs.map w).map (·.length)).sum ≤ (xs.map w).length * 40 := sum_le fun a ha => by
        obtain ⟨x, hx, rfl⟩ := List.mem_map.mp ha
        exact (h x hx).ln
      rw [List.length_map] at s1 j
      rw [e1] at j
      omega
theorem text_ne {α : Type} {w : α → Str} {xs : List α} (h : ∀ x ∈ xs, Wd (w x)) (hne : xs ≠ []) : Txt.join " " (xs.map w) ≠ "none" := by
  intro e
  obtain ⟨x, hx⟩ := List.exists_mem_of_ne_nil xs hne
  obtain ⟨c, hc, hlt⟩ := (h x hx).nn
  have m : c ∈ TL.tl (Txt.join " " (xs.map w)) := by
    rw [TL.join_eq, TL.tl_join]
    exact mem_joinL (List.mem_map_of_mem (List.mem_map_of_mem hx)) hc
  rw [e, tl1.2.2.2.2.2.2.2] at m
  simp at m; omega
end
end K72m

set_option maxRecDepth 100000
set_option maxHeartbeats 4000000
namespace K72m
open PySem PySem.Spec PyProof.Rows L2 Fx K72
section
variable {d n k : Nat} {s : Sto} {α : Type} {w : α → Str} {enc : α → T}
theorem one_lens : (":" : Str).length = 1 ∧ ("-" : Str).length = 1 ∧ ("+" : Str).length = 1 ∧ ("x" : Str).length = 1 ∧ (" " : Str).length = 1 := by decide
theorem enc_hi {enc : α → T} (h : ∀ x, (enc x).hi = 0) : ∀ l : List α, O.hi (.lst (l.map enc)) = 0
  | [] => rfl
  | a :: r => by
    have ih := enc_hi h r
    show max (enc a).hi (T.his (r.map enc)) = 0
    rw [h a]
    have : T.his (r.map enc) = 0 := ih
    rw [this]; rfl
theorem tup_hi {enc : α → T} (h : ∀ x, (enc x).hi = 0) (l : List α) : T.hi (.tup (l.map enc)) = 0 := enc_hi h l
/-- found so far behind s -/
def Inc (fst lst : α → Int) : Int → List α → Prop
  | _, [] => True
  | a, x :: r => a < fst x ∧ Inc fst lst (lst x) r
theorem join_small {ps : List Str} (h : ∀ p ∈ ps, p.length ≤ 40) (hl : ps.length ≤ 400) : (ps.map (·.length)).sum + ps.length * (" " : Str).length ≤ 16777216 := by
  have e1 : (" " : Str).length = 1 := by decide
  have s1 : (ps.map (·.length)).sum ≤ ps.length * 40 := sum_le h
  rw [e1]; omega
theorem joinT_at {ps : List Str} (h : ∀ p ∈ ps, p.length ≤ 40) (hl : ps.length ≤ 400) : joinT " " (strTs ps) s = some (.str (Txt.join " " ps), s) := by
  unfold joinT strTs
  have e := strs_map (f := fun z : Str => z) ps
  simp only [List.map_id'] at e
  rw [show (ps.map T.str) = ps.map fun z => T.str z from rfl, e]
  exact if_pos (join_small h hl)
theorem join_at {l : Nat} {ps : List Str} (g : s.get l = some (.lst (strTs ps))) (h : ∀ p ∈ ps, p.length ≤ 40) (hl : ps.length ≤ 400) : mJoin (.str " ") [.loc l] s = some (.str (Txt.join " " ps), s) := by
  unfold mJoin
  simp only [vv_items_l, g, vv_items_l1, joinT_at h hl]
theorem okNs {i : Int} (h : 0 ≤ i) (h2 : i < 10000000000) : okN i = true := okN_small (by omega) (by omega)
theorem str_assoc (a b c : Str) : a ++ b ++ c = a ++ (b ++ c) := by
  apply TL.ext_tl
  simp only [tl_app, List.append_assoc]
end
end K72m

set_option maxRecDepth 100000
set_option maxHeartbeats 4000000
namespace K72m
open PySem PySem.Spec PyProof.Rows L2 Fx K72
section
variable {d n k : Nat} {s : Sto} {α : Type} {w : α → Str} {enc : α → T} {encD : α → PyData}
theorem mapO_enc {f : T → Option PyData} : ∀ {xs : List α}, (∀ x ∈ xs, f (enc x) = some (encD x)) → mapO f (xs.map enc) = some (xs.map encD)
  | [], _ => rfl
  | a :: r, h => by
    rw [List.map_cons, mapO, h a List.mem_cons_self, mapO_enc fun x hx => h x (List.mem_cons_of_mem _ hx)]
    rfl
theorem toD_tup {xs : List α} (h : ∀ x ∈ xs, toD n s (enc x) = some (encD x)) : toD (n + 1) s (.tup (xs.map enc)) = some (.tuple (xs.map encD)) := by
  rw [toD]
  rw [mapO_enc h]; rfl
theorem eqv_tnil : ∀ l : List PyData, PyData.eqv (.tuple l) (.tuple []) = l.isEmpty
  | [] => by simp [PyData.eqv, PyData.eqvAll]
  | _ :: _ => by simp [PyData.eqv, PyData.eqvAll]
theorem tup_ne {xs : List α} (h : ∀ x ∈ xs, toD 29 s (enc x) = some (encD x)) : oNe (.tup (xs.map enc)) (.tup []) s = some (.bl (!xs.isEmpty), s) := by
  show (Fx.eqT s _ _).map _ = _
  have : Fx.eqT s (.tup (xs.map enc)) (.tup []) = some xs.isEmpty := by
    have t1 : toD DEEP s (.tup (xs.map enc)) = some (.tuple (xs.map encD)) := toD_tup (n := 29) h
    have t2 : toD DEEP s (.tup []) = some (.tuple []) := toD_tup (n := 29) (xs := ([] : List α)) (enc := enc) (encD := encD) (by simp)
    unfold Fx.eqT
    simp only [eqS, t1, t2, eqv_tnil]
    cases xs <;> rfl
  rw [this]; rfl
def dL (q : Str × Int) : PyData := .tuple [.str q.1, .int q.2]
def dP (q : Int × Int) : PyData := .tuple [.int q.1, .int q.2]
def dR (q : Int × Int × Int) : PyData := .tuple [.int q.1, .int q.2.1, .int q.2.2]
theorem toD_L {q : Str × Int} (h : okL q) : toD (n + 2) s (encL q) = some (dL q) := by
  have so : PyData.strOk q.1 = true := strOk_of fun c hc => by have := kind_free h.1 c hc; omega
  unfold encL dL
  rw [toD]
  rw [mapO, toD]
  simp only [so, if_true, mapO, toD, Option.map_some]
theorem toD_P {q : Int × Int} : toD (n + 2) s (encP q) = some (dP q) := by
  unfold encP dP
  rw [toD]
  rw [mapO, toD]
  simp only [mapO, toD, Option.map_some]
theorem toD_R {q : Int × Int × Int} : toD (n + 2) s (encR q) = some (dR q) := by
  unfold encR dR
  rw [toD]
  rw [mapO, toD]
  simp only [mapO, toD, Option.map_some]
theorem textE {xs : List α} (he : xs ≠ []) : textOf w xs = Txt.join " " (xs.map w) := by
  unfold textOf
  rw [if_neg]
  cases xs with
  | nil => exact absurd rfl he
  | cons a r => simp
theorem isE {xs : List α} (he : xs ≠ []) : xs.isEmpty = false := by
  cases xs with
  | nil => exact absurd rfl he
  | cons a r => rfl
theorem law_lamps_text_ok {xs : List (Str × Int)} (h : ∀ x ∈ xs, okL x) (hl : xs.length ≤ 400) : run pr (k + 1) "_law_lamps_text" [.tup (xs.map encL)] s = .ok (.str (textOf wL xs)) s := by
  have hw : ∀ x ∈ xs, Wd (wL x) := fun x hx => wd_L (h x hx)
  have ne := tup_ne (s := s) (enc := encL) (encD := dL) (xs := xs) fun x hx => toD_L (n := 27) (h x hx)
  refine run_pure pr__law_lamps_text rfl ?_
  unfold b__law_lamps_text
  by_cases he : xs = []
  · subst he
    simp only [List.map_nil, List.isEmpty_nil] at ne
    simp_arith! [ne, textOf, List.isEmpty_nil]
  · rw [isE he] at ne
    have c1 : compL chkT (gNm 1) bYes (eBin oAdd (eBin oAdd (eBin oIx (eVar 1) (eC (.int 0))) (eC (.str ":"))) (eB fStr (lCons (eBin oIx (eVar 1) (eC (.int 1))) lNil))) [some (.tup (xs.map encL)), none] (xs.map encL) [] s = .ok ([] ++ xs.map fun x => T.str (wL x)) s :=
      compL_map rfl xs [] (fun x hx => ⟨[some (.tup (xs.map encL)), some (encL x)], by simp_arith! [eq_self], by
        have ho := h x hx
        have hk := kind_len ho.1
        have hn := num_len (i := x.2) (by have := ho.2.1; omega) (by have := ho.2.2; omega)
        have hi := okNs (i := x.2) (by have := ho.2.1; omega) (by have := ho.2.2; omega)
        have z2 : x.1.length + (":" : Str).length ≤ sizeLine := by rw [sizeLine_eq, one_lens.1]; omega
        have z3 : (x.1 ++ ":").length + (num x.2).length ≤ sizeLine := by rw [sizeLine_eq, len_app, one_lens.1]; omega
        simp_arith! [encL, at0, at1, hi, z2, z3]
        rfl⟩) (by simp [sizeLine_eq]; omega)
    have e2 : (xs.map fun x => T.str (wL x)) = strTs (xs.map wL) := by simp [strTs]
    rw [e2] at c1
    simp only [List.nil_append] at c1
    have j := joinT_at (s := s) (ps := xs.map wL) (fun p hp => by obtain ⟨x, hx, rfl⟩ := List.mem_map.mp hp; exact (hw x hx).ln) (by rw [List.length_map]; exact hl)
    rw [textE he]
    simp_arith! [ne, c1, j]
theorem law_log_text_ok {xs : List (Int × Int)} (h : ∀ x ∈ xs, okP x) (hl : xs.length ≤ 400) : run pr (k + 1) "_law_log_text" [.tup (xs.map encP)] s = .ok (.str (textOf wP xs)) s := by
  have hw : ∀ x ∈ xs, Wd (wP x) := fun x hx => wd_P (h x hx)
  have ne := tup_ne (s := s) (enc := encP) (encD := dP) (xs := xs) fun x hx => toD_P (n := 27)
  refine run_pure pr__law_log_text rfl ?_
  unfold b__law_log_text
  by_cases he : xs = []
  · subst he
    simp only [List.map_nil, List.isEmpty_nil] at ne
    simp_arith! [ne, textOf, List.isEmpty_nil]
  · rw [isE he] at ne
    have c1 : compL chkT (gTp 2 (gsCons (gNm 1) (gsCons (gNm 2) gsNil))) bYes (eBin oAdd (eBin oAdd (eB fStr (lCons (eVar 1) lNil)) (eC (.str "-"))) (eB fStr (lCons (eVar 2) lNil))) [some (.tup (xs.map encP)), none, none] (xs.map encP) [] s = .ok ([] ++ xs.map fun x => T.str (wP x)) s :=
      compL_map rfl xs [] (fun x hx => ⟨[some (.tup (xs.map encP)), some (.int x.1), some (.int x.2)], by simp_arith! [encP], by
        obtain ⟨h1, h2, h3⟩ := h x hx
        have hk := num_len (i := x.1) (by omega) (by omega)
        have hn := num_len (i := x.2) (by omega) (by omega)
        have hi := okNs (i := x.1) (by omega) (by omega)
        have hj := okNs (i := x.2) (by omega) (by omega)
        have z2 : (num x.1).length + ("-" : Str).length ≤ sizeLine := by rw [sizeLine_eq, one_lens.2.1]; omega
        have z3 : (num x.1 ++ "-").length + (num x.2).length ≤ sizeLine := by rw [sizeLine_eq, len_app, one_lens.2.1]; omega
        simp_arith! [hi, hj, z2, z3]
        rfl⟩) (by simp [sizeLine_eq]; omega)
    have e2 : (xs.map fun x => T.str (wP x)) = strTs (xs.map wP) := by simp [strTs]
    rw [e2] at c1
    simp only [List.nil_append] at c1
    have j := joinT_at (s := s) (ps := xs.map wP) (fun p hp => by obtain ⟨x, hx, rfl⟩ := List.mem_map.mp hp; exact (hw x hx).ln) (by rw [List.length_map]; exact hl)
    rw [textE he]
    simp_arith! [ne, c1, j]
theorem app_empty (x : Str) : x ++ ("" : Str) = x := by
  apply TL.ext_tl
  rw [tl_app]
  simp [TL.tl]
  rfl
theorem law_runs_text_ok {xs : List (Int × Int × Int)} (h : ∀ x ∈ xs, okR' x) (hl : xs.length ≤ 400) : run pr (k + 1) "_law_runs_text" [.tup (xs.map encR)] s = .ok (.str (textOf wR xs)) s := by
  have hw : ∀ x ∈ xs, Wd (wR x) := fun x hx => wd_R (h x hx)
  let s1 := s.add (.lst [])
  have q1 : s.add (.lst []) = s1 := rfl
  have f0 : s1.get s.len = some (.lst []) := get_add
  let I : Nat → Fx.Env → Sto → Prop := fun i r s' => (∃ a b c, r = [some (.tup (xs.map encR)), some (.loc s.len), a, b, c]) ∧ s'.get s.len = some (.lst ((xs.take i).map fun x => T.str (wR x))) ∧ Gro s s'
  obtain ⟨r', s', e2, ⟨a, b, c, rfl⟩, f2, f3⟩ := forL_inv (I := I) (chk := chkT) (g := gTp 3 (gsCons (gNm 2) (gsCons (gNm 3) (gsCons (gNm 4) gsNil))))
    (b := sEx (eM "list" mAppend (eVar 1) (lCons (eBin oAdd (eB fStr (lCons (eVar 2) lNil)) (eIf (bV (eBin oGt (eVar 4) (eC (.int 1)))) (eBin oAdd (eBin oAdd (eBin oAdd (eC (.str "+")) (eB fStr (lCons (eVar 3) lNil))) (eC (.str "x"))) (eB fStr (lCons (eVar 4) lNil))) (eC (.str "")))) lNil)))
    (ts := xs.map encR) (r := [some (.tup (xs.map encR)), some (.loc s.len), none, none, none]) (s := s1)
    (fun _ _ _ _ => rfl)
    (fun i t r s' ht hIv => by
      obtain ⟨⟨a, b, c, rfl⟩, f, fg⟩ := hIv
      cases ex : xs[i]? with
      | none => simp [ex] at ht
      | some x =>
        simp [ex] at ht
        subst ht
        have hx : x ∈ xs := List.mem_of_getElem? ex
        have hi : i < xs.length := (List.getElem?_eq_some_iff.mp ex).1
        have hxx := h x hx
        have hc := okR_cnt hxx
        obtain ⟨h1, h2, h3, h4, h5, h6⟩ := hxx
        have n1 := num_len (i := x.1) (by omega) (by omega)
        have n2 := num_len (i := x.2.1) (by omega) (by omega)
        have n3 := num_len (i := x.2.2) (by omega) (by omega)
        have o1 := okNs (i := x.1) (by omega) (by omega)
        have o2 := okNs (i := x.2.1) (by omega) (by omega)
        have o3 := okNs (i := x.2.2) (by omega) (by omega)
        have p1 := one_lens.2.2.1
        have p2 := one_lens.2.2.2.1
        have hz : ((xs.take i).map fun x => T.str (wR x)).length < sizeLine := by rw [List.length_map, List.length_take, sizeLine_eq]; omega
        have exx : xs[i] = x := by
          have := List.getElem?_eq_getElem hi
          rw [ex] at this; exact (Option.some.inj this).symm
        have et : ((xs.take i).map fun x => T.str (wR x)) ++ [T.str (wR x)] = (xs.take (i + 1)).map fun x => T.str (wR x) := by
          rw [List.take_succ_eq_append_getElem hi, List.map_append, exx]; rfl
        have hh : O.hi (.lst (((xs.take i).map fun x => T.str (wR x)) ++ [T.str (wR x)])) ≤ s.len := by
          rw [et, enc_hi fun _ => rfl]; exact Nat.zero_le _
        refine ⟨[some (.tup (xs.map encR)), some (.loc s.len), some (.int x.1), some (.int x.2.1), some (.int x.2.2)], s', [some (.tup (xs.map encR)), some (.loc s.len), some (.int x.1), some (.int x.2.1), some (.int x.2.2)], s'.put s.len (.lst (((xs.take i).map fun x => T.str (wR x)) ++ [T.str (wR x)])), by simp_arith! [encR], ?_, ⟨_, _, _, rfl⟩, by rw [get_put (lt_of_get f), et], fg.put (Nat.le_refl _) hh⟩
        by_cases h7 : 1 < x.2.2
        · have z2 : ("+" : Str).length + (num x.2.1).length ≤ sizeLine := by rw [sizeLine_eq]; omega
          have z3 : ("+" ++ num x.2.1).length + ("x" : Str).length ≤ sizeLine := by rw [sizeLine_eq, len_app]; omega
          have z4 : ("+" ++ num x.2.1 ++ "x").length + (num x.2.2).length ≤ sizeLine := by rw [sizeLine_eq, len_app, len_app]; omega
          have z5 : (num x.1).length + ("+" ++ num x.2.1 ++ "x" ++ num x.2.2).length ≤ sizeLine := by rw [sizeLine_eq, len_app, len_app, len_app]; omega
          have ew : wR x = num x.1 ++ ("+" ++ num x.2.1 ++ "x" ++ num x.2.2) := by
            unfold wR
            rw [if_pos h7]
            simp only [str_assoc]
          rw [ew] at *
          simp_arith! [h7, o1, o2, o3, z2, z3, z4, z5, f, hz]
        · have ew : wR x = num x.1 := if_neg h7
          have z5 : (num x.1).length + ("" : Str).length ≤ sizeLine := by
            have : ("" : Str).length = 0 := by decide
            rw [sizeLine_eq]; omega
          rw [ew] at *
          simp_arith! [h7, o1, z5, app_empty, f, hz])
    ⟨⟨none, none, none, rfl⟩, f0, Gro.add⟩
  rw [List.length_map, List.take_length] at f2
  have e2' : (xs.map fun x => T.str (wR x)) = strTs (xs.map wR) := by simp [strTs]
  rw [e2'] at f2
  have ne := tup_ne (s := s') (enc := encR) (encD := dR) (xs := xs) fun x hx => toD_R (n := 27)
  have j := join_at f2 (fun p hp => by obtain ⟨x, hx, rfl⟩ := List.mem_map.mp hp; exact (hw x hx).ln) (by rw [List.length_map]; exact hl)
  refine run_gro pr__law_runs_text rfl ⟨s', ?_, f3⟩ (Nat.zero_le _)
  unfold b__law_runs_text
  by_cases he : xs = []
  · subst he
    simp only [List.map_nil, List.isEmpty_nil] at ne e2
    simp_arith! [q1, e2, ne, textOf, List.isEmpty_nil]
  · rw [isE he] at ne
    rw [textE he]
    simp_arith! [q1, e2, ne, j]
end
end K72m

set_option maxRecDepth 100000
set_option maxHeartbeats 4000000
namespace K72m
open PySem PySem.Spec PyProof.Rows L2 Fx K72
section
variable {d n k : Nat} {s : Sto} {α : Type} {fst lst : α → Int}
theorem inc_mono : ∀ {xs : List α} {a b : Int}, Inc fst lst b xs → a ≤ b → Inc fst lst a xs
  | [], _, _, _, _ => trivial
  | x :: r, a, b, h, hab => ⟨by have := h.1; omega, h.2⟩
theorem inc_snoc : ∀ {xs : List α} {a : Int} {x : α}, Inc fst lst a xs → (∀ q ∈ xs, lst q < fst x) → a < fst x → Inc fst lst a (xs ++ [x])
  | [], _, _, _, _, h => ⟨h, trivial⟩
  | y :: r, a, x, hI, h, ha => ⟨hI.1, inc_snoc hI.2 (fun q hq => h q (List.mem_cons_of_mem _ hq)) (h y List.mem_cons_self)⟩
theorem inc_filter {p : α → Bool} : ∀ {xs : List α} {a : Int}, Inc fst lst a xs → (∀ x ∈ xs, fst x ≤ lst x) → Inc fst lst a (xs.filter p)
  | [], _, _, _ => trivial
  | x :: r, a, hI, h => by
    have hx := h x List.mem_cons_self
    have ih := inc_filter (p := p) hI.2 fun y hy => h y (List.mem_cons_of_mem _ hy)
    cases e : p x with
    | true => rw [List.filter_cons_of_pos e]; exact ⟨hI.1, ih⟩
    | false => rw [List.filter_cons_of_neg (by simp [e])]; exact inc_mono ih (by have := hI.1; omega)
theorem map_snoc {β : Type} {f : α → β} {xs : List α} {x : α} : xs.map f ++ [f x] = (xs ++ [x]).map f := by simp
theorem Frn.of_frm {s1 s2 : Sto} (a : Frn d s s1) (b : Frm d s1 s2) : Frn d s s2 := a.trans b.frn
theorem log_spec {great : Int} (P : Pot d n s) (hn : n ≤ NB) (hg : 1 ≤ great) (hg2 : great ≤ 1000000000) : ∃ (xs : List (Int × Int)) (s' : Sto), run pr (k + 3) "_law_log" [.loc d, .int 9, .int great] s = .ok (.tup (xs.map encP)) s' ∧ Pot d (n + 2000) s' ∧ Frm d s s' ∧
    (∀ x ∈ xs, okP x) ∧ xs.length ≤ 9 ∧ Inc (fun q : Int × Int => q.1) (fun q => q.2) (-1) xs := by
  unfold NB at hn
  have hd := P.lt
  let s1 := s.add (.lst [])
  have q1 : s.add (.lst []) = s1 := rfl
  have F0 : Frn d s s1 := Frn.add
  obtain ⟨v1, s2, e1, a1, b1, P2, F2⟩ := draw_spec (k := k + 1) (many := great) pr__law_draw (P.add (o := .lst [])) (by omega) (by omega) (by omega)
  obtain ⟨h0, s3, e3, m3, P3, F3⟩ := one_ints (k := k) (us := [0, 1, v1]) pr__law_draw pr__law_one P2 F2 (by omega) (by simp) (by simp)
  simp only [List.map_cons, List.map_nil] at e3
  have hh0 : 0 ≤ h0 := by simp at m3; omega
  obtain ⟨c, s4, e4, a4, b4, P4, F4⟩ := draw_spec (k := k + 1) (many := 10) pr__law_draw P3 (by omega) (by decide) (by decide)
  have f1 : s1.get s.len = some (.lst []) := get_add
  have f4 : s4.get s.len = some (.lst (([] : List (Int × Int)).map encP)) := (F4.get _ hd).trans ((F3.get _ hd).trans f1)
  have G4 : Frn d s s4 := Frn.of_frm (Frn.of_frm F0 F3) F4
  let I : Nat → Fx.Env → Sto → Prop := fun i r s' => ∃ (here : Int) (ps : List (Int × Int)) (x y : Option T), r = [some (.loc d), some (.int 9), some (.int great), some (.loc s.len), some (.int here), x, y, none] ∧ s'.get s.len = some (.lst (ps.map encP)) ∧ Pot d (n + 20 + 20 * i) s' ∧ Frn d s s' ∧
    0 ≤ here ∧ (∀ q ∈ ps, 0 ≤ q.1 ∧ q.1 < q.2 ∧ q.2 < here) ∧ Inc (fun q : Int × Int => q.1) (fun q => q.2) (-1) ps ∧ ps.length = i ∧ i ≤ 9
  have hc60 : (rgT 0 c).length ≤ 9 := by simp [rgT]; omega
  obtain ⟨r', s5, e5, here, ps, x5, y5, rfl, f5, P5, G5, hh5, hps, hI5, hlen, _⟩ := forL_inv (I := I) (chk := chkT) (g := gNm 5)
    (b := (sSeq (sAsg (eG (eCall (run pr (k + 2)) "_law_one" (lDef (lCons (eVar 0) (lCons (eLst (lCons (eC (.int 1)) (lCons (eC (.int 2)) (lCons (eBin oAdd (eC (.int 1)) (eCall (run pr (k + 2)) "_law_draw" (lDef (lCons (eVar 0) (lCons (eC (.int 20)) lNil)) []))) (lCons (eBin oAdd (eC (.int 1)) (eCall (run pr (k + 2)) "_law_draw" (lDef (lCons (eVar 0) (lCons (eVar 2) lNil)) []))) lNil))))) lNil)) []))) (gNm 6))
  (sSeq (sEx (eM "list" mAppend (eVar 3) (lCons (eTup (lCons (eVar 4) (lCons (eBin oAdd (eVar 4) (eVar 6)) lNil))) lNil)))
  (sAsg (eBin oAdd (eBin oAdd (eVar 4) (eVar 6)) (eG (eCall (run pr (k + 2)) "_law_one" (lDef (lCons (eVar 0) (lCons (eLst (lCons (eC (.int 1)) (lCons (eC (.int 2)) (lCons (eBin oAdd (eC (.int 1)) (eCall (run pr (k + 2)) "_law_draw" (lDef (lCons (eVar 0) (lCons (eC (.int 20)) lNil)) []))) (lCons (eBin oAdd (eC (.int 1)) (eCall (run pr (k + 2)) "_law_draw" (lDef (lCons (eVar 0) (lCons (eVar 2) lNil)) []))) lNil))))) lNil)) [])))) (gNm 4)))))
    (ts := rgT 0 c) (r := [some (.loc d), some (.int 9), some (.int great), some (.loc s.len), some (.int h0), none, none, none]) (s := s4)
    (fun _ _ _ _ => rfl)
    (fun i t r s' ht hIv => by
      obtain ⟨here, ps, x, y, rfl, f, P, G, hh, hps, hI, hlen, hi⟩ := hIv
      have hi60 : i < (rgT 0 c).length := (List.getElem?_eq_some_iff.mp ht).1
      obtain ⟨u1, t1, g1, c1, d1, Q1, K1⟩ := draw_spec (k := k + 1) (many := 20) pr__law_draw P (by omega) (by decide) (by decide)
      obtain ⟨u2, t2, g2, c2, d2, Q2, K2⟩ := draw_spec (k := k + 1) (many := great) pr__law_draw Q1 (by omega) (by omega) (by omega)
      obtain ⟨sz, t3, g3, m3, Q3, K3⟩ := one_ints (k := k) (us := [1, 2, 1 + u1, 1 + u2]) pr__law_draw pr__law_one Q2 (K1.trans K2) (by omega) (by simp) (by simp)
      simp only [List.map_cons, List.map_nil] at g3
      have hsz : 1 ≤ sz := by simp at m3; omega
      have f3 : t3.get s.len = some (.lst (ps.map encP)) := (K3.get _ hd).trans f
      have hz : (ps.map encP).length < sizeLine := by rw [List.length_map, sizeLine_eq]; omega
      have et : ps.map encP ++ [T.tup [.int here, .int (here + sz)]] = (ps ++ [(here, here + sz)]).map encP := map_snoc (f := encP) (x := (here, here + sz))
      have hho : O.hi (.lst (ps.map encP ++ [T.tup [.int here, .int (here + sz)]])) ≤ s.len := by rw [et, enc_hi fun _ => rfl]; exact Nat.zero_le _
      let t4 := t3.put s.len (.lst (ps.map encP ++ [T.tup [.int here, .int (here + sz)]]))
      have f4' : t4.get s.len = some (.lst ((ps ++ [(here, here + sz)]).map encP)) := by rw [← et]; exact get_put (lt_of_get f3)
      have q4 : t3.put s.len (.lst (ps.map encP ++ [T.tup [.int here, .int (here + sz)]])) = t4 := rfl
      have Q4 : Pot d _ t4 := Q3.put hd
      have G4' : Frn d s t4 := (Frn.of_frm G K3).putNew (Nat.le_refl _) hho
      obtain ⟨u5, t5, g5, c5, d5, Q5, K5⟩ := draw_spec (k := k + 1) (many := 20) pr__law_draw Q4 (by omega) (by decide) (by decide)
      obtain ⟨u6, t6, g6, c6, d6, Q6, K6⟩ := draw_spec (k := k + 1) (many := great) pr__law_draw Q5 (by omega) (by omega) (by omega)
      obtain ⟨pz, t7, g7, m7, Q7, K7⟩ := one_ints (k := k) (us := [1, 2, 1 + u5, 1 + u6]) pr__law_draw pr__law_one Q6 (K5.trans K6) (by omega) (by simp) (by simp)
      simp only [List.map_cons, List.map_nil] at g7
      have hpz : 1 ≤ pz := by simp at m7; omega
      refine ⟨[some (.loc d), some (.int 9), some (.int great), some (.loc s.len), some (.int here), some t, y, none], s', [some (.loc d), some (.int 9), some (.int great), some (.loc s.len), some (.int (here + sz + pz)), some t, some (.int sz), none], t7, by simp_arith! [eq_self], ?_, ?_⟩
      · simp_arith! [g1, g2, g3, f3, hz, q4, g5, g6, g7]
      · refine ⟨here + sz + pz, ps ++ [(here, here + sz)], _, _, rfl, (K7.get _ hd).trans f4', Q7.mono (by omega), Frn.of_frm G4' K7, by omega, ?_, ?_, by simp [hlen], by omega⟩
        · intro q hq
          rcases List.mem_append.mp hq with hq | hq
          · have := hps q hq; omega
          · simp at hq; subst hq; simp only; omega
        · exact inc_snoc hI (fun q hq => (hps q hq).2.2) (by simp only; omega))
    ⟨h0, [], none, none, rfl, f4, P4.mono (by omega), G4, hh0, by simp, trivial, rfl, by omega⟩
  have c5 : compL (chkL s.len (ps.map encP)) (gNm 7) (bV (eBin oLe (eBin oIx (eVar 7) (eC (.int 1))) (eBin oMulT (eC (.int 2)) (eBin oPow (eC (.int 10)) (eC (.int 9)))))) (eVar 7) [some (.loc d), some (.int 9), some (.int great), some (.loc s.len), some (.int here), x5, y5, none] (ps.map encP) [] s5 = .ok ([] ++ (ps.filter fun x => decide (x.2 ≤ 2000000000)).map encP) s5 :=
    compL_filter (chkL_iff.mpr f5) ps [] (fun x _ => ⟨[some (.loc d), some (.int 9), some (.int great), some (.loc s.len), some (.int here), x5, y5, some (encP x)], by simp_arith! [eq_self], by
      have k1 : okN (2 : Int) = true := by decide
      have k2 : okN (1000000000 : Int) = true := by decide
      simp_arith! [encP, at1, k1, k2], fun _ => by simp_arith! [eq_self]⟩) (by simp [sizeLine_eq]; omega)
  simp only [List.nil_append] at c5
  obtain ⟨ys, hys⟩ : ∃ ys : List (Int × Int), ys = ps.filter fun x => decide (x.2 ≤ 2000000000) := ⟨_, rfl⟩
  rw [← hys] at c5
  have k3 : okR c = true := okR_small (by omega) (by omega)
  have fin : (b__law_log (run pr (k + 2)) [some (.loc d), some (.int 9), some (.int great), none, none, none, none, none] s).out = .ok (.tup (ys.map encP)) s5 := by
    unfold b__law_log
    simp_arith! [e1, e3, e4, k3, e5, f5, c5]
  obtain ⟨s6, e6, F6, P6⟩ := gc_frn (t := .tup (ys.map encP)) G5 P5 (by rw [tup_hi fun _ => rfl]; exact Nat.zero_le _) hd
  refine ⟨ys, s6, (run_eq pr__law_log rfl).trans ((congrArg _ fin).trans e6), P6.mono (by omega), F6, fun x hx => ?_, by rw [hys]; exact Nat.le_trans (List.length_filter_le _ _) (by omega), by rw [hys]; exact inc_filter hI5 fun x hx => by have := hps x hx; omega⟩
  rw [hys] at hx
  obtain ⟨h1, h2⟩ := List.mem_filter.mp hx
  have := hps x h1
  have h2 := of_decide_eq_true h2
  exact ⟨this.1, this.2.1, h2⟩
theorem runs_spec (P : Pot d n s) (hn : n ≤ NB) : ∃ (xs : List (Int × Int × Int)) (s' : Sto), run pr (k + 3) "_law_far_runs" [.loc d, .int 9] s = .ok (.tup (xs.map encR)) s' ∧ Pot d (n + 2000) s' ∧ Frm d s s' ∧
    (∀ x ∈ xs, okR' x) ∧ xs.length ≤ 9 ∧ Inc (fun q : Int × Int × Int => q.1) endR (-1) xs := by
  unfold NB at hn
  have hd := P.lt
  have F0 : Frn d s (s.add (.lst [])) := Frn.add
  obtain ⟨v1, s2, e1, a1, b1, P2, F2⟩ := draw_spec (k := k + 1) (many := 100) pr__law_draw (P.add (o := .lst [])) (by omega) (by decide) (by decide)
  obtain ⟨v2, s3, e2, a2, b2, P3, F3⟩ := draw_spec (k := k + 1) (many := 100000000) pr__law_draw P2 (by omega) (by decide) (by decide)
  obtain ⟨h0, s4, e3, m3, P4, F4⟩ := one_ints (k := k) (us := [0, v1, v2]) pr__law_draw pr__law_one P3 (F2.trans F3) (by omega) (by simp) (by simp)
  simp only [List.map_cons, List.map_nil] at e3
  have hh0 : 0 ≤ h0 := by simp at m3; omega
  obtain ⟨c, s5, e4, a4, b4, P5, F5⟩ := draw_spec (k := k + 1) (many := 10) pr__law_draw P4 (by omega) (by decide) (by decide)
  have f1 : (s.add (.lst [])).get s.len = some (.lst []) := get_add
  have f5 : s5.get s.len = some (.lst (([] : List (Int × Int × Int)).map encR)) := (F5.get _ hd).trans ((F4.get _ hd).trans f1)
  have G5 : Frn d s s5 := Frn.of_frm (Frn.of_frm F0 F4) F5
  let I : Nat → Fx.Env → Sto → Prop := fun i r s' => ∃ (here : Int) (ps : List (Int × Int × Int)) (x y z w : Option T), r = [some (.loc d), some (.int 9), some (.loc s.len), some (.int here), some (.int 1000000000), x, y, z, w] ∧ s'.get s.len = some (.lst (ps.map encR)) ∧ Pot d (n + 20 + 20 * i) s' ∧ Frn d s s' ∧
    0 ≤ here ∧ here ≤ 100000000000000000000 ∧ (∀ q ∈ ps, okR' q ∧ endR q < here) ∧ Inc (fun q : Int × Int × Int => q.1) endR (-1) ps ∧ ps.length ≤ i ∧ i ≤ 9
  have hc40 : (rgT 0 c).length ≤ 9 := by simp [rgT]; omega
  obtain ⟨r', s6, e5, here, ps, x5, y5, z5, w5, rfl, f6, P6, G6, hh5, _, hps, hI5, hlen, hi40⟩ := forL_inv (I := I) (chk := chkT) (g := gNm 5)
    (b := (sSeq (sAsg (eG (eCall (run pr (k + 2)) "_law_one" (lDef (lCons (eVar 0) (lCons (eLst (lCons (eC (.int 1)) (lCons (eC (.int 2)) (lCons (eBin oAdd (eC (.int 1)) (eCall (run pr (k + 2)) "_law_draw" (lDef (lCons (eVar 0) (lCons (eC (.int 30)) lNil)) []))) (lCons (eBin oAdd (eC (.int 1)) (eCall (run pr (k + 2)) "_law_draw" (lDef (lCons (eVar 0) (lCons (eBin oPow (eC (.int 10)) (eC (.int 6))) lNil)) []))) (lCons (eBin oPow (eC (.int 10)) (eC (.int 8))) lNil)))))) lNil)) []))) (gNm 6))
  (sSeq (sAsg (eBin oAdd (eC (.int 1)) (eB fMin2 (lCons (eBin oDiv (eBin oSub (eVar 4) (eVar 3)) (eVar 6)) (lCons (eG (eCall (run pr (k + 2)) "_law_one" (lDef (lCons (eVar 0) (lCons (eLst (lCons (eC (.int 0)) (lCons (eC (.int 1)) (lCons (eCall (run pr (k + 2)) "_law_draw" (lDef (lCons (eVar 0) (lCons (eC (.int 6)) lNil)) [])) (lCons (eCall (run pr (k + 2)) "_law_draw" (lDef (lCons (eVar 0) (lCons (eBin oPow (eC (.int 10)) (eC (.int 7))) lNil)) [])) (lCons (eVar 4) lNil)))))) lNil)) []))) lNil)))) (gNm 7))
  (sIf (bV (eBin oLe (eVar 3) (eVar 4))) (sSeq (sEx (eM "list" mAppend (eVar 2) (lCons (eTup (lCons (eVar 3) (lCons (eIf (bV (eBin oGt (eVar 7) (eC (.int 1)))) (eVar 6) (eC (.int 1))) (lCons (eVar 7) lNil)))) lNil)))
  (sSeq (sAsg (eG (eCall (run pr (k + 2)) "_law_one" (lDef (lCons (eVar 0) (lCons (eLst (lCons (eC (.int 1)) (lCons (eC (.int 2)) (lCons (eBin oAdd (eC (.int 1)) (eCall (run pr (k + 2)) "_law_draw" (lDef (lCons (eVar 0) (lCons (eC (.int 99)) lNil)) []))) (lCons (eBin oAdd (eC (.int 1)) (eCall (run pr (k + 2)) "_law_draw" (lDef (lCons (eVar 0) (lCons (eBin oPow (eC (.int 10)) (eC (.int 7))) lNil)) []))) lNil))))) lNil)) []))) (gNm 8))
  (sAsg (eBin oAdd (eBin oAdd (eVar 3) (eBin oMulT (eVar 6) (eBin oSub (eVar 7) (eC (.int 1))))) (eVar 8)) (gNm 3)))) sNil))))
    (ts := rgT 0 c) (r := [some (.loc d), some (.int 9), some (.loc s.len), some (.int h0), some (.int 1000000000), none, none, none, none]) (s := s5)
    (fun _ _ _ _ => rfl)
    (fun i t r s' ht hIv => by
      obtain ⟨here, ps, x, y, z, w, rfl, f, P, G, hh, hhm, hps, hI, hlen, hi⟩ := hIv
      have hi60 : i < (rgT 0 c).length := (List.getElem?_eq_some_iff.mp ht).1
      obtain ⟨u1, t1, g1, c1, d1, Q1, K1⟩ := draw_spec (k := k + 1) (many := 30) pr__law_draw P (by omega) (by decide) (by decide)
      obtain ⟨u2, t2, g2, c2, d2, Q2, K2⟩ := draw_spec (k := k + 1) (many := 1000000) pr__law_draw Q1 (by omega) (by decide) (by decide)
      obtain ⟨st, t3, g3, m3, Q3, K3⟩ := one_ints (k := k) (us := [1, 2, 1 + u1, 1 + u2, 100000000]) pr__law_draw pr__law_one Q2 (K1.trans K2) (by omega) (by simp) (by simp)
      simp only [List.map_cons, List.map_nil] at g3
      have hst : 1 ≤ st ∧ st ≤ 100000000 := by simp at m3; omega
      obtain ⟨u4, t4, g4, c4, d4, Q4, K4⟩ := draw_spec (k := k + 1) (many := 6) pr__law_draw Q3 (by omega) (by decide) (by decide)
      obtain ⟨u5, t5, g5, c5, d5, Q5, K5⟩ := draw_spec (k := k + 1) (many := 10000000) pr__law_draw Q4 (by omega) (by decide) (by decide)
      obtain ⟨mx, t6, g6, m6, Q6, K6⟩ := one_ints (k := k) (us := [0, 1, u4, u5, 1000000000]) pr__law_draw pr__law_one Q5 (K4.trans K5) (by omega) (by simp) (by simp)
      simp only [List.map_cons, List.map_nil] at g6
      have hmx : 0 ≤ mx ∧ mx ≤ 1000000000 := by simp at m6; omega
      have k1 : 0 < st := by omega
      have k2 : okN st = true := okN_small (by omega) (by omega)
      obtain ⟨cn, hcn⟩ : ∃ cn, cn = 1 + (if mx < (1000000000 - here) / st then mx else (1000000000 - here) / st) := ⟨_, rfl⟩
      have f6 : t6.get s.len = some (.lst (ps.map encR)) := (K6.get _ hd).trans ((K3.get _ hd).trans f)
      have G6' : Frn d s t6 := Frn.of_frm (Frn.of_frm G K3) K6
      by_cases hle : here ≤ 1000000000
      · have hq0 : 0 ≤ (1000000000 - here) / st := Int.ediv_nonneg (by omega) (by omega)
        have hq1 : (1000000000 - here) / st * st ≤ 1000000000 - here := Int.ediv_mul_le _ (by omega)
        have hcn1 : 1 ≤ cn ∧ cn ≤ 1000000001 := by rw [hcn]; split <;> omega
        have hcq : cn - 1 ≤ (1000000000 - here) / st := by rw [hcn]; split <;> omega
        have hend : st * (cn - 1) ≤ 1000000000 - here := by
          have : (cn - 1) * st ≤ (1000000000 - here) / st * st := Int.mul_le_mul_of_nonneg_right hcq (by omega)
          rw [Int.mul_comm]; omega
        have hend0 : 0 ≤ st * (cn - 1) := Int.mul_nonneg (by omega) (by omega)
        obtain ⟨pr', hpr⟩ : ∃ q : Int × Int × Int, q = (here, if 1 < cn then st else 1, cn) := ⟨_, rfl⟩
        have hok : okR' pr' ∧ endR pr' = here + st * (cn - 1) := by
          subst hpr
          unfold okR' endR
          by_cases h1 : 1 < cn
          · simp only [h1, if_true]; exact ⟨⟨hh, by omega, by omega, by omega, by omega, by omega⟩, trivial⟩
          · have : cn = 1 := by omega
            subst this
            simp; omega
        have k3 : okN (cn - 1) = true := okN_small (by omega) (by omega)
        have hz : (ps.map encR).length < sizeLine := by rw [List.length_map, sizeLine_eq]; omega
        have et : ps.map encR ++ [T.tup [.int here, .int (if 1 < cn then st else 1), .int cn]] = (ps ++ [pr']).map encR := by rw [hpr]; exact map_snoc (f := encR) (x := (here, if 1 < cn then st else 1, cn))
        have hho : O.hi (.lst (ps.map encR ++ [T.tup [.int here, .int (if 1 < cn then st else 1), .int cn]])) ≤ s.len := by rw [et, enc_hi fun _ => rfl]; exact Nat.zero_le _
        let t7 := t6.put s.len (.lst (ps.map encR ++ [T.tup [.int here, .int (if 1 < cn then st else 1), .int cn]]))
        have f7 : t7.get s.len = some (.lst ((ps ++ [pr']).map encR)) := by rw [← et]; exact get_put (lt_of_get f6)
        have q7 : t6.put s.len (.lst (ps.map encR ++ [T.tup [.int here, .int (if 1 < cn then st else 1), .int cn]])) = t7 := rfl
        have Q7 : Pot d _ t7 := Q6.put hd
        have G7 : Frn d s t7 := G6'.putNew (Nat.le_refl _) hho
        obtain ⟨u8, t8, g8, c8, d8, Q8, K8⟩ := draw_spec (k := k + 1) (many := 99) pr__law_draw Q7 (by omega) (by decide) (by decide)
        obtain ⟨u9, t9, g9, c9, d9, Q9, K9⟩ := draw_spec (k := k + 1) (many := 10000000) pr__law_draw Q8 (by omega) (by decide) (by decide)
        obtain ⟨pz, t10, g10, m10, Q10, K10⟩ := one_ints (k := k) (us := [1, 2, 1 + u8, 1 + u9]) pr__law_draw pr__law_one Q9 (K8.trans K9) (by omega) (by simp) (by simp)
        simp only [List.map_cons, List.map_nil] at g10
        have hpz : 1 ≤ pz ∧ pz ≤ 10000000 := by simp at m10; omega
        refine ⟨[some (.loc d), some (.int 9), some (.loc s.len), some (.int here), some (.int 1000000000), some t, y, z, w], s', [some (.loc d), some (.int 9), some (.loc s.len), some (.int (here + st * (cn - 1) + pz)), some (.int 1000000000), some t, some (.int st), some (.int cn), some (.int pz)], t10, by simp_arith! [eq_self], ?_, ?_⟩
        · by_cases h1 : 1 < cn
          · simp only [h1, if_true] at q7
            simp_arith! [g1, g2, g3, g4, g5, g6, k1, k2, k3, ← hcn, hle, h1, f6, hz, q7, g8, g9, g10]
          · simp only [h1, if_false] at q7
            simp_arith! [g1, g2, g3, g4, g5, g6, k1, k2, k3, ← hcn, hle, h1, f6, hz, q7, g8, g9, g10]
        · refine ⟨here + st * (cn - 1) + pz, ps ++ [pr'], _, _, _, _, rfl, (K10.get _ hd).trans f7, Q10.mono (by omega), Frn.of_frm G7 K10, by omega, by omega, ?_, ?_, by simp; omega, by omega⟩
          · intro q hq
            rcases List.mem_append.mp hq with hq | hq
            · have := hps q hq
              exact ⟨this.1, by have := this.2; omega⟩
            · simp at hq; subst hq
              exact ⟨hok.1, by rw [hok.2]; omega⟩
          · exact inc_snoc hI (fun q hq => by have := (hps q hq).2; rw [hpr]; exact this) (by rw [hpr]; show -1 < here; omega)
      · refine ⟨[some (.loc d), some (.int 9), some (.loc s.len), some (.int here), some (.int 1000000000), some t, y, z, w], s', [some (.loc d), some (.int 9), some (.loc s.len), some (.int here), some (.int 1000000000), some t, some (.int st), some (.int cn), w], t6, by simp_arith! [eq_self], ?_, ?_⟩
        · simp_arith! [g1, g2, g3, g4, g5, g6, k1, k2, ← hcn, hle]
        · exact ⟨here, ps, _, _, _, _, rfl, f6, Q6.mono (by omega), G6', hh, hhm, hps, hI, by omega, by omega⟩)
    ⟨h0, [], none, none, none, none, rfl, f5, P5.mono (by omega), G5, hh0, by simp at m3; omega, by simp, trivial, by simp, by omega⟩
  have k3 : okR c = true := okR_small (by omega) (by omega)
  have fin : (b__law_far_runs (run pr (k + 2)) [some (.loc d), some (.int 9), none, none, none, none, none, none, none] s).out = .ok (.tup (ps.map encR)) s6 := by
    unfold b__law_far_runs
    simp_arith! [e1, e2, e3, e4, k3, e5, f6]
  obtain ⟨s7, e7, F7, P7⟩ := gc_frn (t := .tup (ps.map encR)) G6 P6 (by rw [tup_hi fun _ => rfl]; exact Nat.zero_le _) hd
  exact ⟨ps, s7, (run_eq pr__law_far_runs rfl).trans ((congrArg _ fin).trans e7), P7.mono (by omega), F7, fun x hx => (hps x hx).1, by omega, hI5⟩
end
end K72m

set_option maxRecDepth 100000
set_option maxHeartbeats 4000000
namespace K72
open PySem PySem.Spec PyProof.Rows L2 Fx
section
variable {k : Nat} {s : Sto}
theorem in_sign {c : Nat} {z : Str} : oIn (.str ⟨#[c]⟩) (.str z) s = some (.bl (decide (c ∈ TL.tl z)), s) := by
  show (inT s _ _).map _ = _
  simp [inT, TL.tl]
theorem notin_sign {c : Nat} {z : Str} : oNotIn (.str ⟨#[c]⟩) (.str z) s = some (.bl (!decide (c ∈ TL.tl z)), s) := by
  show (inT s _ _).map _ = _
  simp [inT, TL.tl]
theorem ix_str0 {z : Str} {c : Nat} {r : List Nat} (h : TL.tl z = c :: r) (hz : z.length ≤ sizeLine) : oIx (.str z) (.int 0) s = some (.str ⟨#[c]⟩, s) := by
  unfold oIx
  simp only [hz, if_true]
  have e : atI z.cps.toList 0 = some c := by
    rw [show z.cps.toList = c :: r from h]
    simp [atI, ixN]
  rw [e]; rfl
theorem all_bl {α : Type} {f : α → Bool} {l : List α} : hAll (l.map fun a => T.bl (f a)) s = some (.bl (l.all f), s) := by
  unfold hAll
  rw [bls_map]
  simp [List.all_map, Function.comp_def]
theorem at0 {t : T} {ts : List T} : atT (t :: ts) 0 = some t := by simp [Fx.atT, ixN]
theorem at1 {t u : T} {ts : List T} : atT (t :: u :: ts) 1 = some u := atT_nat (k := 1) rfl
theorem at2 {t u v : T} {ts : List T} : atT (t :: u :: v :: ts) 2 = some v := atT_nat (k := 2) rfl
/-! ### numbers -/
def dgs : List Nat := TL.tl "0123456789"
theorem in_dg {c : Nat} : oIn (.str ⟨#[c]⟩) (.str "0123456789") s = some (.bl (decide (c ∈ dgs)), s) := in_sign
theorem notin_dg {c : Nat} : oNotIn (.str ⟨#[c]⟩) (.str "0123456789") s = some (.bl (!decide (c ∈ dgs)), s) := notin_sign
theorem mem_dgs {c : Nat} : c ∈ dgs ↔ 48 ≤ c ∧ c ≤ 57 := by
  have e : dgs = [48, 49, 50, 51, 52, 53, 54, 55, 56, 57] := by decide
  rw [e]
  simp only [List.mem_cons, List.not_mem_nil, or_false]
  omega
def isDg (z : Str) : Bool := (TL.tl z).all fun c => decide (c ∈ dgs)
def numV (z : Str) : Option Int := if (TL.tl z).length = 0 ∨ 20 < (TL.tl z).length ∨ isDg z = false then none else if (TL.tl z).head? = some 48 ∧ z ≠ "0" then none else some ((NumText.digitsVal (TL.tl z) : Nat) : Int)
def oT : Option Int → T
  | none => .non
  | some i => .int i
theorem digs_lt : ∀ {l : List Nat} {a : Nat}, (∀ c ∈ l, c ≤ 57) → l.foldl (fun acc c => acc * 10 + (c - 48)) a + 1 ≤ (a + 1) * 10 ^ l.length
  | [], a, _ => by simp
  | c :: r, a, h => by
    have h1 := h c List.mem_cons_self
    have ih := digs_lt (l := r) (a := a * 10 + (c - 48)) fun x hx => h x (List.mem_cons_of_mem _ hx)
    rw [List.foldl_cons, List.length_cons, Nat.pow_succ]
    have h2 : a * 10 + (c - 48) + 1 ≤ (a + 1) * 10 := by omega
    have h3 := Nat.mul_le_mul_right (10 ^ r.length) h2
    rw [Nat.mul_assoc, Nat.mul_comm 10] at h3
    omega
theorem numV_in {z : Str} {i : Int} (h : numV z = some i) : 0 ≤ i ∧ i < 100000000000000000000 := by
  unfold numV at h
  split at h
  · cases h
  · next h1 =>
    split at h
    · cases h
    · cases h
      have h2 : (TL.tl z).length ≤ 20 := by omega
      have h3 : isDg z = true := by
        cases e : isDg z with
        | true => rfl
        | false => exact absurd (.inr (.inr e)) h1
      unfold isDg at h3
      rw [List.all_eq_true] at h3
      have h4 := digs_lt (l := TL.tl z) (a := 0) fun c hc => (mem_dgs.mp (of_decide_eq_true (h3 c hc))).2
      have h5 : 10 ^ (TL.tl z).length ≤ 10 ^ 20 := Nat.pow_le_pow_right (by decide) h2
      have h6 : (10 : Nat) ^ 20 = 100000000000000000000 := by decide
      unfold NumText.digitsVal
      omega
theorem q48 {c : Nat} : (⟨#[c]⟩ : Str) = "0" ↔ c = 48 := by
  have z0 : TL.tl "0" = [48] := by decide
  constructor
  · intro q
    have := congrArg TL.tl q
    rw [z0] at this
    simpa [TL.tl] using this
  · rintro rfl; decide
theorem fint_ok {z : Str} (h : isDg z = true) (h1 : (TL.tl z).length ≠ 0) (h2 : (TL.tl z).length ≤ 20) : fInt [.str z] s = some (.int ((NumText.digitsVal (TL.tl z) : Nat) : Int), s) := by
  unfold isDg at h
  rw [List.all_eq_true] at h
  have hl : z.length = (TL.tl z).length := TL.len_tl z
  have e := PySem.intText_digits (x := z) (fun c hc => mem_dgs.mp (of_decide_eq_true (h c hc))) (fun e => h1 (by show z.cps.toList.length = 0; rw [e]; rfl)) (by omega)
  unfold fInt
  simp only [e]
  exact if_pos (by omega)
theorem numV_of {z : Str} (h : isDg z = true) (h1 : (TL.tl z).length ≠ 0) (h2 : (TL.tl z).length ≤ 20) : numV z = if (TL.tl z).head? = some 48 ∧ z ≠ "0" then none else some ((NumText.digitsVal (TL.tl z) : Nat) : Int) := by
  unfold numV
  rw [if_neg (by rw [h]; simp; exact ⟨by simpa using h1, by omega⟩)]
theorem read_integer_ok {z : Str} (hz : z.length ≤ 20000) : run pr (k + 1) "read_integer" [.str z] s = .ok (oT (numV z)) s := by
  have hl : z.length = (TL.tl z).length := TL.len_tl z
  have hz' : z.length ≤ sizeLine := by rw [sizeLine_eq]; omega
  have c1 : compL chkT (gNm 1) bYes (eBin oIn (eVar 1) (eC (.str "0123456789"))) [some (.str z), none] (Fx.signs z) [] s = .ok ([] ++ (TL.tl z).map fun c => T.bl (decide (c ∈ dgs))) s :=
    compL_map rfl (TL.tl z) [] (fun c _ => ⟨[some (.str z), some (.str ⟨#[c]⟩)], rfl, by simp_arith [in_dg]⟩) (by rw [← TL.len_tl, sizeLine_eq]; simp; omega)
  simp only [List.nil_append] at c1
  have al : hAll ((TL.tl z).map fun c => T.bl (decide (c ∈ dgs))) s = some (.bl (isDg z), s) := all_bl
  refine run_pure pr_read_integer rfl ?_
  unfold b_read_integer
  by_cases b1 : (1 : Int) ≤ (z.length : Nat)
  · by_cases b2 : ((z.length : Nat) : Int) ≤ 20
    · cases hd : isDg z with
      | false =>
        rw [hd] at al
        have e : numV z = none := by unfold numV; rw [if_pos (.inr (.inr hd))]
        simp_arith [hz', b1, b2, c1, al, e, oT]
      | true =>
        rw [hd] at al
        have fi := fint_ok (s := s) hd (by omega) (by omega)
        have nv := numV_of hd (by omega) (by omega)
        obtain ⟨c, r, e⟩ : ∃ c r, TL.tl z = c :: r := by
          cases h : TL.tl z with
          | nil => rw [h] at hl; simp only [List.length_nil] at hl; omega
          | cons c r => exact ⟨c, r, rfl⟩
        have ix := ix_str0 (s := s) e hz'
        by_cases q : c = 48
        · have q1 : ((⟨#[c]⟩ : Str) = "0") = True := eq_true (q48.mpr q)
          by_cases q2 : z = "0"
          · rw [if_neg (fun h => h.2 q2)] at nv
            have q2' : (z = "0") = True := eq_true q2
            simp_arith [hz', b1, b2, c1, al, ix, q1, q2', fi, nv, oT]
          · rw [if_pos ⟨by rw [e, q]; rfl, q2⟩] at nv
            simp_arith [hz', b1, b2, c1, al, ix, q1, q2, fi, nv, oT]
        · have q1 : ¬ (⟨#[c]⟩ : Str) = "0" := fun h => q (q48.mp h)
          rw [if_neg (fun h => q (by rw [e] at h; simpa using h.1))] at nv
          simp_arith [hz', b1, b2, c1, al, ix, q1, fi, nv, oT]
    · have e : numV z = none := by unfold numV; rw [if_pos (.inr (.inl (by omega)))]
      simp_arith [hz', b1, b2, e, oT]
  · have e : numV z = none := by unfold numV; rw [if_pos (.inl (by omega))]
    simp_arith [hz', b1, e, oT]
/-- signs that a text may have -/
def Okc (z : Str) : Prop := ∀ c ∈ TL.tl z, c < 1114112
theorem toD_sign {n c : Nat} (h : c < 1114112) : toD (n + 1) s (.str ⟨#[c]⟩) = some (.str ⟨#[c]⟩) := by
  rw [toD, strOk_of (fun d hd => by simp only [TL.tl, List.mem_singleton] at hd; omega)]
  rfl
theorem ne_signs {a m : Nat} {xs : List Nat} (h : ∀ c ∈ xs, c < 1114112) (g : s.get a = some (.lst (xs.map fun c => T.str ⟨#[c]⟩))) (g2 : s.get m = some (.lst [])) : oNe (.loc a) (.loc m) s = some (.bl (!xs.isEmpty), s) := by
  have mp : ∀ l : List Nat, (∀ c ∈ l, c < 1114112) → mapO (toD 29 s) (l.map fun c => T.str ⟨#[c]⟩) = some (l.map fun c => PyData.str ⟨#[c]⟩) := by
    intro l
    induction l with
    | nil => intro _; rfl
    | cons c r ih => intro h; rw [List.map_cons, mapO, toD_sign (h c List.mem_cons_self), ih fun x hx => h x (List.mem_cons_of_mem _ hx)]; rfl
  have e3 : toD DEEP s (.loc a) = some (.list (xs.map fun c => PyData.str ⟨#[c]⟩)) := by
    show toD 30 s _ = _
    rw [toD]
    simp only [g, mp xs h]
    rfl
  have e4 : toD DEEP s (.loc m) = some (.list []) := by
    show toD 30 s _ = _
    rw [toD]
    simp only [g2]
    rfl
  have e : Fx.eqT s (.loc a) (.loc m) = some xs.isEmpty := by
    unfold Fx.eqT
    simp only [eqS, e3, e4, eqv_nil]
    cases xs <;> rfl
  show (Fx.eqT s (.loc a) (.loc m)).map _ = _
  rw [e]; rfl
theorem law_number_ok {z : Str} (hz : z.length ≤ 20000) (ho : Okc z) : run pr (k + 1) "_law_number" [.str z] s = .ok (oT (numV z)) s := by
  have hl : z.length = (TL.tl z).length := TL.len_tl z
  have hz' : z.length ≤ sizeLine := by rw [sizeLine_eq]; omega
  have c1 := compL_filter (chk := chkT) (s := s) (enc := fun c : Nat => T.str ⟨#[c]⟩) (f := fun c : Nat => T.str ⟨#[c]⟩) (q := fun c => !decide (c ∈ dgs)) (g := gNm 1) (c := bV (eBin oNotIn (eVar 1) (eC (.str "0123456789")))) (e := eVar 1) (r0 := [some (.str z), none]) rfl (TL.tl z) []
    (fun c _ => ⟨[some (.str z), some (.str ⟨#[c]⟩)], rfl, by simp_arith [notin_dg], fun _ => by simp_arith [eq_self]⟩) (by rw [← TL.len_tl, sizeLine_eq]; simp; omega)
  rw [List.nil_append] at c1
  generalize hF : (TL.tl z).filter (fun c => !decide (c ∈ dgs)) = F at c1
  have sg : Fx.signs z = (TL.tl z).map fun c => T.str ⟨#[c]⟩ := rfl
  have hFd : F.isEmpty = isDg z := by
    rw [← hF]
    unfold isDg
    rw [Bool.eq_iff_iff, List.isEmpty_iff, List.filter_eq_nil_iff, List.all_eq_true]
    simp
  let s1 := s.add (.lst (F.map fun c => T.str ⟨#[c]⟩))
  have hs1 : s.add (.lst (F.map fun c => T.str ⟨#[c]⟩)) = s1 := rfl
  let s2 := s1.add (.lst [])
  have hs2 : s1.add (.lst []) = s2 := rfl
  have n1 := ne_signs (s := s2) (a := s.len) (m := s1.len) (xs := F) (fun c hc => ho c (by rw [← hF] at hc; exact (List.mem_filter.mp hc).1)) (get_add_old get_add) get_add
  rw [hFd] at n1
  have ze : z = "" ↔ (TL.tl z).length = 0 := by
    constructor
    · rintro rfl; rfl
    · intro h; exact TL.ext_tl (by rw [List.length_eq_zero_iff.mp h]; rfl)
  have gro2 : Gro s s2 := Gro.add.trans Gro.add
  by_cases b1 : z = ""
  · have e : numV z = none := by unfold numV; rw [if_pos (.inl (ze.mp b1))]
    have b1' : (z = "") = True := eq_true b1
    refine run_pure pr__law_number rfl ?_
    unfold b__law_number
    simp_arith [b1', e, oT]
  · have b0 : (TL.tl z).length ≠ 0 := fun h => b1 (ze.mpr h)
    by_cases b2 : (20 : Int) < ((z.length : Nat) : Int)
    · have e : numV z = none := by unfold numV; rw [if_pos (.inr (.inl (by omega)))]
      refine run_pure pr__law_number rfl ?_
      unfold b__law_number
      simp_arith [hz', b1, b2, e, oT]
    · refine run_gro pr__law_number rfl ⟨s2, ?_, gro2⟩ (by cases numV z <;> exact Nat.zero_le _)
      unfold b__law_number
      cases hd : isDg z with
      | false =>
        rw [hd] at n1
        have e : numV z = none := by unfold numV; rw [if_pos (.inr (.inr hd))]
        simp_arith [hz', b1, b2, sg, c1, hs1, hs2, n1, e, oT]
      | true =>
        rw [hd] at n1
        have fi := fint_ok (s := s2) hd b0 (by omega)
        have nv := numV_of hd b0 (by omega)
        obtain ⟨c, r, e⟩ : ∃ c r, TL.tl z = c :: r := by
          cases h : TL.tl z with
          | nil => rw [h] at b0; exact absurd rfl b0
          | cons c r => exact ⟨c, r, rfl⟩
        have ix := ix_str0 (s := s2) e hz'
        by_cases q : c = 48
        · have q1 : ((⟨#[c]⟩ : Str) = "0") = True := eq_true (q48.mpr q)
          by_cases q2 : z = "0"
          · rw [if_neg (fun h => h.2 q2)] at nv
            have q2' : (z = "0") = True := eq_true q2
            simp_arith [hz', b1, b2, sg, c1, hs1, hs2, n1, ix, q1, q2', fi, nv, oT]
          · rw [if_pos ⟨by rw [e, q]; rfl, q2⟩] at nv
            simp_arith [hz', b1, b2, sg, c1, hs1, hs2, n1, ix, q1, q2, fi, nv, oT]
        · have q1 : ¬ (⟨#[c]⟩ : Str) = "0" := fun h => q (q48.mp h)
          rw [if_neg (fun h => q (by rw [e] at h; simpa using h.1))] at nv
          simp_arith [hz', b1, b2, sg, c1, hs1, hs2, n1, ix, q1, fi, nv, oT]
end
end K72

set_option maxRecDepth 100000
set_option maxHeartbeats 4000000
namespace K72
open PySem PySem.Spec PyProof.Rows L2 Fx
section
variable {k : Nat} {s : Sto}
/-! ### a text cut at a sign -/
theorem cut_ex (c : Nat) : ∀ l : List Nat, ∃ ps : List (List Nat), ps ≠ [] ∧ (∀ p ∈ ps, c ∉ p) ∧ TL.joinL [c] ps = l
  | [] => ⟨[[]], by simp, by simp, rfl⟩
  | a :: r => by
    obtain ⟨ps, h1, h2, h3⟩ := cut_ex c r
    cases ps with
    | nil => exact absurd rfl h1
    | cons p q =>
      by_cases ha : a = c
      · refine ⟨[] :: p :: q, by simp, fun x hx => ?_, ?_⟩
        · rcases List.mem_cons.mp hx with rfl | hx
          · simp
          · exact h2 x hx
        · show [] ++ ([c] ++ TL.joinL [c] (p :: q)) = a :: r
          rw [h3, ha]; rfl
      · refine ⟨(a :: p) :: q, by simp, fun x hx => ?_, ?_⟩
        · rcases List.mem_cons.mp hx with rfl | hx
          · have := h2 p List.mem_cons_self
            simp only [List.mem_cons, not_or]
            exact ⟨fun e => ha e.symm, this⟩
          · exact h2 x (List.mem_cons_of_mem _ hx)
        · cases q with
          | nil =>
            show a :: p = a :: r
            rw [← h3]; rfl
          | cons q1 q2 =>
            show (a :: p) ++ ([c] ++ TL.joinL [c] (q1 :: q2)) = a :: r
            rw [← h3]; rfl
theorem joinL_sub {S : List Nat} : ∀ {ps : List (List Nat)} {p : List Nat}, p ∈ ps → p.length ≤ (TL.joinL S ps).length ∧ ∀ c ∈ p, c ∈ TL.joinL S ps
  | [q], p, h => by
    rw [List.mem_singleton.mp h]
    exact ⟨Nat.le_refl _, fun _ h => h⟩
  | q :: r :: t, p, h => by
    show p.length ≤ (q ++ (S ++ TL.joinL S (r :: t))).length ∧ ∀ c ∈ p, c ∈ q ++ (S ++ TL.joinL S (r :: t))
    rcases List.mem_cons.mp h with rfl | h
    · exact ⟨by simp, fun c hc => List.mem_append_left _ hc⟩
    · obtain ⟨h1, h2⟩ := joinL_sub (S := S) h
      exact ⟨by simp only [List.length_append]; omega, fun c hc => List.mem_append_right _ (List.mem_append_right _ (h2 c hc))⟩
theorem joinL_two {c : Nat} {p q : List Nat} {r : List (List Nat)} : c ∈ TL.joinL [c] (p :: q :: r) := by
  show c ∈ p ++ ([c] ++ TL.joinL [c] (q :: r))
  simp
/-- texts that are short enough and made of signs -/
structure Tz (z : Str) : Prop where
  len : z.length ≤ 10000
  okc : Okc z
theorem split_ex {z w : Str} {c : Nat} (ey : TL.tl w = [c]) (hc : c < 256) (h : Tz z) : Txt.split z w ≠ [] ∧ (∀ p ∈ Txt.split z w, Tz p) ∧ ((Txt.split z w).length = 1 ↔ c ∉ TL.tl z) ∧ (Txt.split z w).length ≤ z.length + 1 := by
  obtain ⟨ps, h1, h2, h3⟩ := cut_ex c (TL.tl z)
  have tls : ∀ l : List Nat, TL.tl (⟨l.toArray⟩ : Str) = l := fun l => by simp [TL.tl]
  have e : z = Txt.join w (ps.map fun l => (⟨l.toArray⟩ : Str)) := by
    apply TL.ext_tl
    rw [TL.join_eq, TL.tl_join, ey, List.map_map]
    have this : ps.map (TL.tl ∘ fun l => (⟨l.toArray⟩ : Str)) = ps := (List.map_congr_left (g := id) fun l _ => tls l).trans (List.map_id ps)
    rw [this, h3]
  have sp : Txt.split z w = ps.map fun l => (⟨l.toArray⟩ : Str) := by
    conv => lhs; rw [e]
    exact splitN ey hc (by simpa using h1) fun p hp => by
      obtain ⟨l, hl, rfl⟩ := List.mem_map.mp hp
      rw [tls]; exact h2 l hl
  rw [sp]
  have jl : ∀ qs : List (List Nat), qs.length ≤ (TL.joinL [c] qs).length + 1 := by
    intro qs
    induction qs with
    | nil => simp
    | cons a r ih => cases r with
      | nil => simp
      | cons b t =>
        show (a :: b :: t).length ≤ (a ++ ([c] ++ TL.joinL [c] (b :: t))).length + 1
        simp only [List.length_cons, List.length_append, List.length_nil] at ih ⊢
        omega
  refine ⟨by simpa using h1, fun p hp => ?_, ?_, ?_⟩
  · obtain ⟨l, hl, rfl⟩ := List.mem_map.mp hp
    obtain ⟨g1, g2⟩ := joinL_sub (S := [c]) hl
    rw [h3] at g1 g2
    refine ⟨?_, fun d hd => ?_⟩
    · rw [TL.len_tl, tls]
      have := h.len
      rw [TL.len_tl] at this
      omega
    · rw [tls] at hd
      exact h.okc d (g2 d hd)
  · rw [List.length_map, ← h3]
    cases ps with
    | nil => exact absurd rfl h1
    | cons p q => cases q with
      | nil => exact ⟨fun _ => h2 p List.mem_cons_self, fun _ => rfl⟩
      | cons q r => exact ⟨fun h => by simp at h, fun h => absurd joinL_two h⟩
  · rw [List.length_map, TL.len_tl, ← h3]
    exact jl ps
theorem msplit {z w : Str} (e1 : w.length = 1) (h : Tz z) : mSplit (.str z) [.str w] s = some (.loc s.len, s.add (.lst ((Txt.split z w).map T.str))) := by
  have := h.len
  rw [vv_spl ⟨by rw [e1]; rfl, by rw [sizeLine_eq]; omega⟩]; rfl
theorem one_lens : (":" : Str).length = 1 ∧ ("-" : Str).length = 1 ∧ ("+" : Str).length = 1 ∧ ("x" : Str).length = 1 ∧ (" " : Str).length = 1 := by decide
theorem one_tls : TL.tl ":" = [58] ∧ TL.tl "-" = [45] ∧ TL.tl "+" = [43] ∧ TL.tl "x" = [120] ∧ TL.tl " " = [32] := by decide
/-! ### two numbers -/
theorem oT_hi (o : Option Int) : (oT o).hi = 0 := by cases o <;> rfl
theorem inT_non {os : List (Option Int)} {c : T} (h : itemsT s c = some (os.map oT)) (hc : ∀ z, c ≠ .str z) : inT s .non c = some (!os.all Option.isSome) := by
  have fl : (os.map oT).all flatT = true := by
    rw [List.all_map, List.all_eq_true]
    intro o _
    cases o <;> rfl
  have an : ((os.map oT).any fun y => eqF y .non) = !os.all Option.isSome := by
    rw [List.any_map, List.not_all_eq_any_not]
    congr 1
    funext o
    cases o <;> rfl
  unfold inT
  split
  · exact absurd rfl (hc _)
  · rw [h]
    simp only [fl, an]
    rfl
theorem notin_L {os : List (Option Int)} {n : Nat} (g : s.get n = some (.lst (os.map oT))) : oNotIn .non (.loc n) s = some (.bl (os.all Option.isSome), s) := by
  show (inT s .non (.loc n)).map _ = _
  rw [inT_non (by rw [vv_items_l, g]; rfl) (fun z => by simp)]
  simp
theorem notin_T {os : List (Option Int)} : oNotIn .non (.tup (os.map oT)) s = some (.bl (os.all Option.isSome), s) := by
  show (inT s .non (.tup (os.map oT))).map _ = _
  rw [inT_non rfl (fun z => by simp)]
  simp
theorem in_T {os : List (Option Int)} : oIn .non (.tup (os.map oT)) s = some (.bl (!os.all Option.isSome), s) := by
  show (inT s .non (.tup (os.map oT))).map _ = _
  rw [inT_non rfl (fun z => by simp)]
  simp
def numsV (w sep : Str) : List (Option Int) := (Txt.split w sep).map numV
def two : List (Option Int) → Option (Int × Int)
  | [some i, some j] => some (i, j)
  | _ => none
theorem two_len {os : List (Option Int)} (h : os.length ≠ 2) : two os = none := by
  unfold two
  split
  · simp at h
  · rfl
theorem two_non {os : List (Option Int)} (h : os.all Option.isSome = false) : two os = none := by
  unfold two
  split
  · simp at h
  · rfl
theorem two_ex {os : List (Option Int)} (h : os.length = 2) (h2 : os.all Option.isSome = true) : ∃ i j, os = [some i, some j] := by
  match os, h, h2 with
  | [some i, some j], _, _ => exact ⟨i, j, rfl⟩
  | [some i, none], _, h => simp at h
  | [none, _], _, h => simp at h
def pairV (w sep : Str) : Option (Int × Int) := two (numsV w sep)
def encPo : Option (Int × Int) → T
  | none => .non
  | some q => .tup [.int q.1, .int q.2]
theorem read_pair_ok {w sep : Str} {c : Nat} (ey : TL.tl sep = [c]) (hc : c < 256) (h : Tz w) : run pr (k + 2) "read_pair" [.str w, .str sep] s = .ok (encPo (pairV w sep)) s := by
  have e1 : sep.length = 1 := by rw [TL.len_tl, ey]; rfl
  have sp := msplit (s := s) e1 h
  obtain ⟨p1, p2, p3, p4⟩ := split_ex ey hc h
  have hlen := h.len
  let s1 := s.add (.lst ((Txt.split w sep).map T.str))
  have hs1 : s.add (.lst ((Txt.split w sep).map T.str)) = s1 := rfl
  have g1 : s1.get s.len = some (.lst ((Txt.split w sep).map T.str)) := get_add
  have c1 := compL_map (chk := chkL s.len ((Txt.split w sep).map T.str)) (g := gNm 3) (e := eCall (run pr (k + 1)) "read_integer" (lDef (lCons (eVar 3) lNil) [])) (r0 := [some (.str w), some (.str sep), none, none]) (enc := T.str) (f := fun p => oT (numV p)) (s := s1) (chkL_iff.mpr g1) (Txt.split w sep) []
    (fun p hp => ⟨[some (.str w), some (.str sep), none, some (.str p)], rfl, by
      have ri := read_integer_ok (k := k) (s := s1) (z := p) (by have := (p2 p hp).len; omega)
      simp_arith [ri]⟩) (by rw [sizeLine_eq]; simp only [List.length_nil]; omega)
  have mm : (Txt.split w sep).map (fun p => oT (numV p)) = (numsV w sep).map oT := by unfold numsV; rw [List.map_map]; rfl
  rw [List.nil_append, mm] at c1
  have ln : (numsV w sep).length = (Txt.split w sep).length := by unfold numsV; rw [List.length_map]
  let s2 := s1.add (.lst ((numsV w sep).map oT))
  have hs2 : s1.add (.lst ((numsV w sep).map oT)) = s2 := rfl
  have g2 : s2.get s1.len = some (.lst ((numsV w sep).map oT)) := get_add
  have nn := notin_L g2
  refine run_gro pr_read_pair rfl ⟨s2, ?_, Gro.add.trans Gro.add⟩ (by cases pairV w sep <;> exact Nat.zero_le _)
  unfold b_read_pair
  have l1 : ((numsV w sep).map oT).length = (numsV w sep).length := List.length_map _
  generalize hn : numsV w sep = os at *
  have pe : pairV w sep = two os := by unfold pairV; rw [hn]
  rw [pe]
  by_cases b : ((os.length : Nat) : Int) = 2
  · cases ha : os.all Option.isSome with
    | false =>
      rw [ha] at nn
      rw [two_non ha]
      simp_arith [sp, hs1, g1, c1, hs2, g2, l1, b, nn, encPo]
    | true =>
      rw [ha] at nn
      obtain ⟨i, j, e⟩ := two_ex (by omega) ha
      clear pe ln mm
      subst e
      simp only [List.map_cons, List.map_nil, oT] at c1 hs2 g2 l1
      simp_arith [sp, hs1, g1, c1, hs2, g2, nn, two, encPo]
  · rw [two_len (by omega)]
    simp_arith [sp, hs1, g1, c1, hs2, g2, l1, b, encPo]
end
end K72

set_option maxRecDepth 100000
set_option maxHeartbeats 4000000
namespace K72
open PySem PySem.Spec PyProof.Rows L2 Fx
section
variable {k : Nat} {s : Sto}
theorem is_integer_int {v lo hi : Int} : run pr (k + 1) "is_integer" [.int v, .int lo, .int hi] s = .ok (.bl (decide (lo ≤ v ∧ v ≤ hi))) s := by
  refine run_pure pr_is_integer rfl ?_
  unfold b_is_integer
  by_cases h1 : lo ≤ v <;> by_cases h2 : v ≤ hi <;> simp_arith! [h1, h2]
theorem is_integer_non {lo hi : Int} : run pr (k + 1) "is_integer" [.non, .int lo, .int hi] s = .ok (.bl false) s := by
  refine run_pure pr_is_integer rfl ?_
  unfold b_is_integer
  simp_arith! [eq_self]
theorem law_whole_int {v lo hi : Int} : run pr (k + 1) "_law_whole" [.int v, .int lo, .int hi] s = .ok (.bl (decide (lo ≤ v ∧ v ≤ hi))) s := by
  refine run_pure pr__law_whole rfl ?_
  unfold b__law_whole
  by_cases h1 : lo ≤ v <;> by_cases h2 : v ≤ hi <;> simp_arith! [h1, h2]
theorem inT_kinds {c : T} {z : Str} (h : itemsT s c = some [.str "hold", .str "pulse"]) (hc : ∀ z, c ≠ .str z) : inT s (.str z) c = some (decide (z = "hold" ∨ z = "pulse")) := by
  unfold inT
  split
  · exact absurd rfl (hc _)
  · rw [h]
    have f1 : flatT (.str z) = true := rfl
    have f2 : ([T.str "hold", T.str "pulse"].all flatT) = true := rfl
    simp only [f1, f2, Bool.and_self, if_true]
    congr 1
    show (decide (("hold" : Str) = z) || (decide (("pulse" : Str) = z) || false)) = _
    rw [Bool.or_false, ← Bool.decide_or]
    exact decide_eq_decide.mpr ⟨fun h => h.imp Eq.symm Eq.symm, fun h => h.imp Eq.symm Eq.symm⟩
theorem in_kinds {z : Str} : oIn (.str z) (.tup [.str "hold", .str "pulse"]) s = some (.bl (decide (z = "hold" ∨ z = "pulse")), s) := by
  show (inT s _ _).map _ = _
  rw [inT_kinds rfl (fun z => by simp)]; rfl
theorem in_kindsL {z : Str} {n : Nat} (g : s.get n = some (.lst [.str "hold", .str "pulse"])) : oIn (.str z) (.loc n) s = some (.bl (decide (z = "hold" ∨ z = "pulse")), s) := by
  show (inT s _ _).map _ = _
  rw [inT_kinds (by rw [vv_items_l, g]; rfl) (fun z => by simp)]; rfl
theorem is_lamp_non : run pr (k + 2) "is_lamp" [.non] s = .ok (.bl false) s := by
  refine run_pure pr_is_lamp rfl ?_
  unfold b_is_lamp
  simp_arith! [eq_self]
def okL (a : Str) : Option Int → Bool
  | none => false
  | some i => decide ((a = "hold" ∨ a = "pulse") ∧ 1 ≤ i ∧ i ≤ 1000000000)
theorem is_lamp_tup {a : Str} {o : Option Int} : run pr (k + 2) "is_lamp" [.tup [.str a, oT o]] s = .ok (.bl (okL a o)) s := by
  refine run_pure pr_is_lamp rfl ?_
  unfold b_is_lamp
  by_cases h : a = "hold" ∨ a = "pulse"
  · cases o with
    | none => simp_arith [oT, okL, at0, at1, in_kinds, h, is_integer_non]
    | some i =>
      by_cases h1 : 1 ≤ i <;> by_cases h2 : i ≤ 1000000000 <;> simp_arith [oT, okL, at0, at1, in_kinds, h, is_integer_int, h1, h2]
  · have e : okL a o = false := by cases o <;> simp [okL, h]
    rw [e]
    simp_arith [at0, at1, in_kinds, h]
def lamp2 : List Str → Option (Str × Int)
  | [a, b] => match numV b with
    | some i => if okL a (some i) = true then some (a, i) else none
    | none => none
  | _ => none
def lampV (w : Str) : Option (Str × Int) := lamp2 (Txt.split w ":")
def encLo : Option (Str × Int) → T
  | none => .non
  | some q => .tup [.str q.1, .int q.2]
theorem encLo_hi (o : Option (Str × Int)) : (encLo o).hi = 0 := by cases o <;> rfl
theorem lamp2_len {ps : List Str} (h : ps.length ≠ 2) : lamp2 ps = none := by
  unfold lamp2
  split
  · simp at h
  · rfl
theorem lamp2_of {a b : Str} {i : Int} (h : numV b = some i) : lamp2 [a, b] = if okL a (some i) = true then some (a, i) else none := by simp only [lamp2, h]
theorem two_parts {ps : List Str} (h : ps.length = 2) : ∃ a b, ps = [a, b] := by
  match ps, h with
  | [a, b], _ => exact ⟨a, b, rfl⟩
theorem read_lamp_ok {w : Str} (h : Tz w) : run pr (k + 3) "read_lamp" [.str w] s = .ok (encLo (lampV w)) s := by
  have sp := msplit (s := s) one_lens.1 h
  obtain ⟨p1, p2, p3, p4⟩ := split_ex one_tls.1 (by decide) h
  unfold lampV
  generalize hps : Txt.split w ":" = ps at *
  obtain ⟨a, q, rfl⟩ : ∃ a q, ps = a :: q := by
    cases ps with
    | nil => exact absurd rfl p1
    | cons a q => exact ⟨a, q, rfl⟩
  let s1 := s.add (.lst ((a :: q).map T.str))
  have hs1 : s.add (.lst (T.str a :: q.map T.str)) = s1 := rfl
  have g1 : s1.get s.len = some (.lst (T.str a :: q.map T.str)) := get_add
  let s2 := s1.add (.lst (q.map T.str))
  have hs2 : s1.add (.lst (q.map T.str)) = s2 := rfl
  have g2 : s2.get s1.len = some (.lst (q.map T.str)) := get_add
  refine run_gro pr_read_lamp rfl ⟨s2, ?_, Gro.add.trans Gro.add⟩ (by rw [encLo_hi]; exact Nat.zero_le _)
  unfold b_read_lamp
  rw [List.map_cons] at sp
  have l1 : (q.map T.str).length = q.length := List.length_map _
  by_cases b : ((q.length : Nat) : Int) = 1
  · obtain ⟨x, b', e⟩ := two_parts (ps := a :: q) (by simp only [List.length_cons]; omega)
    cases e
    have ri := read_integer_ok (k := k + 1) (s := s2) (z := b') (by have := (p2 b' (by simp)).len; omega)
    have il := is_lamp_tup (k := k) (s := s2) (a := a) (o := numV b')
    simp only [List.map_cons, List.map_nil] at sp hs1 g1 hs2 g2
    cases hv : numV b' with
    | none =>
      rw [hv] at ri il
      simp_arith [sp, hs1, g1, hs2, g2, at0, ri, il, okL, lamp2, hv, encLo]
    | some i =>
      rw [hv] at ri il
      cases ho : okL a (some i) with
      | false =>
        rw [ho] at il
        simp_arith [sp, hs1, g1, hs2, g2, at0, ri, il, ho, lamp2, hv, encLo]
      | true =>
        rw [ho] at il
        simp only [oT] at ri il
        simp_arith [sp, hs1, g1, hs2, g2, at0, ri, il, ho, lamp2, hv, encLo]
  · rw [lamp2_len (by simp only [List.length_cons]; omega)]
    have il := is_lamp_non (k := k) (s := s2)
    simp_arith [sp, hs1, g1, hs2, g2, l1, b, il, encLo]
theorem pow9 : oPow (.int 10) (.int 9) s = some (.int 1000000000, s) := by simp [oPow]
theorem law_item0 {w : Str} (h : Tz w) : run pr (k + 2) "_law_item" [.int 0, .str w] s = .ok (encLo (lampV w)) s := by
  have sp := msplit (s := s) one_lens.1 h
  obtain ⟨p1, p2, p3, p4⟩ := split_ex one_tls.1 (by decide) h
  unfold lampV
  generalize hps : Txt.split w ":" = ps at *
  let s1 := s.add (.lst (ps.map T.str))
  have hs1 : s.add (.lst (ps.map T.str)) = s1 := rfl
  have g1 : s1.get s.len = some (.lst (ps.map T.str)) := get_add
  let s2 := s1.add (.lst [.str "hold", .str "pulse"])
  have hs2 : s1.add (.lst [.str "hold", .str "pulse"]) = s2 := rfl
  have g2 : s2.get s1.len = some (.lst [.str "hold", .str "pulse"]) := get_add
  have g12 : s2.get s.len = some (.lst (ps.map T.str)) := get_add_old g1
  have l1 : (ps.map T.str).length = ps.length := List.length_map _
  have fin : ∀ s', (b__law_item (run pr (k + 1)) [some (.int 0), some (.str w), none, none, none, none, none, none, none] s).out = .ok (encLo (lamp2 ps)) s' → Gro s s' → run pr (k + 2) "_law_item" [.int 0, .str w] s = .ok (encLo (lamp2 ps)) s := fun s' e g => run_gro pr__law_item rfl ⟨s', e, g⟩ (by rw [encLo_hi]; exact Nat.zero_le _)
  by_cases b : ((ps.length : Nat) : Int) = 2
  · obtain ⟨a, b', rfl⟩ := two_parts (ps := ps) (by omega)
    have ri := law_number_ok (k := k) (s := s1) (z := b') (by have := (p2 b' (by simp)).len; omega) (p2 b' (by simp)).okc
    have ik := in_kindsL (s := s2) (z := a) g2
    simp only [List.map_cons, List.map_nil] at sp hs1 g1 g12
    cases hv : numV b' with
    | none =>
      rw [hv] at ri
      refine fin s1 ?_ Gro.add
      unfold b__law_item
      simp_arith [sp, hs1, g1, at1, ri, oT, lamp2, hv, encLo]
    | some i =>
      rw [hv] at ri
      by_cases h1 : 1 ≤ i
      · by_cases h2 : i ≤ 1000000000
        · by_cases h3 : a = "hold" ∨ a = "pulse"
          · refine fin s2 ?_ (Gro.add.trans Gro.add)
            have e3 : decide (a = "hold" ∨ a = "pulse") = true := decide_eq_true h3
            rw [e3] at ik
            have e : lamp2 [a, b'] = some (a, i) := by rw [lamp2_of hv]; simp [okL, h1, h2, h3]
            rw [e]
            unfold b__law_item
            simp_arith [sp, hs1, g1, at0, at1, ri, oT, h1, h2, pow9, hs2, g12, ik, encLo]
          · refine fin s2 ?_ (Gro.add.trans Gro.add)
            have e3 : decide (a = "hold" ∨ a = "pulse") = false := decide_eq_false h3
            rw [e3] at ik
            have e : lamp2 [a, b'] = none := by rw [lamp2_of hv]; simp [okL, h3]
            rw [e]
            unfold b__law_item
            simp_arith [sp, hs1, g1, at0, at1, ri, oT, h1, h2, pow9, hs2, g12, ik, encLo]
        · refine fin s1 ?_ Gro.add
          have e : lamp2 [a, b'] = none := by rw [lamp2_of hv]; simp [okL, h2]
          rw [e]
          unfold b__law_item
          simp_arith [sp, hs1, g1, at0, at1, ri, oT, h1, h2, pow9, encLo]
      · refine fin s1 ?_ Gro.add
        have e : lamp2 [a, b'] = none := by rw [lamp2_of hv]; simp [okL, h1]
        rw [e]
        unfold b__law_item
        simp_arith [sp, hs1, g1, at0, at1, ri, oT, h1, pow9, encLo]
  · refine fin s1 ?_ Gro.add
    rw [lamp2_len (by omega)]
    unfold b__law_item
    simp_arith [sp, hs1, g1, l1, b, encLo]
end
end K72

set_option maxRecDepth 100000
set_option maxHeartbeats 4000000
namespace K72
open PySem PySem.Spec PyProof.Rows L2 Fx
section
variable {k : Nat} {s : Sto}
/-! ### stretches -/
def okP : Option (Int × Int) → Bool
  | none => false
  | some q => decide (0 ≤ q.1 ∧ q.1 ≤ 2000000000 ∧ q.1 + 1 ≤ q.2 ∧ q.2 ≤ 2000000000)
theorem is_stretch_ok {o : Option (Int × Int)} : run pr (k + 2) "is_stretch" [encPo o] s = .ok (.bl (okP o)) s := by
  refine run_pure pr_is_stretch rfl ?_
  unfold b_is_stretch
  cases o with
  | none => simp_arith [encPo, okP]
  | some q =>
    by_cases h0 : 0 ≤ q.1 ∧ q.1 ≤ 2000000000
    · by_cases h1 : q.1 + 1 ≤ q.2 ∧ q.2 ≤ 2000000000
      · have e : okP (some q) = true := decide_eq_true ⟨h0.1, h0.2, h1.1, h1.2⟩
        rw [e]
        simp_arith [encPo, at0, at1, is_integer_int, h0, h1]
      · have e : okP (some q) = false := decide_eq_false fun h => h1 ⟨h.2.2.1, h.2.2.2⟩
        rw [e]
        simp_arith [encPo, at0, at1, is_integer_int, h0, h1]
    · have e : okP (some q) = false := decide_eq_false fun h => h0 ⟨h.1, h.2.1⟩
      rw [e]
      simp_arith [encPo, at0, at1, is_integer_int, h0]
def stretchV (w : Str) : Option (Int × Int) := if okP (pairV w "-") = true then pairV w "-" else none
theorem nums_in {w sep : Str} {i : Int} (h : some i ∈ numsV w sep) : 0 ≤ i ∧ i < 100000000000000000000 := by
  unfold numsV at h
  obtain ⟨p, _, e⟩ := List.mem_map.mp h
  exact numV_in e
theorem all_some : ∀ {os : List (Option Int)}, os.all Option.isSome = true → ∃ is : List Int, os = is.map some
  | [], _ => ⟨[], rfl⟩
  | none :: r, h => by simp at h
  | some i :: r, h => by
    obtain ⟨is, e⟩ := all_some (os := r) (by simpa using h)
    exact ⟨i :: is, by rw [e]; rfl⟩
theorem oT_some (is : List Int) : (is.map some).map oT = is.map T.int := by rw [List.map_map]; rfl
theorem ne_ints {a m : Nat} {l : List Int} (h : s.get a = some (.lst (l.map .int))) (h2 : s.get m = some (.lst [])) : oNe (.loc a) (.loc m) s = some (.bl (!l.isEmpty), s) := ne_nil h h2
theorem pow9b : oMulT (.int 2) (.int 1000000000) s = some (.int 2000000000, s) := by
  rw [vv_mulTi (okN_small (by decide) (by decide)) (okN_small (by decide) (by decide))]; rfl
def isPart : List Int → Bool
  | [i, j] => decide (0 ≤ i ∧ i ≤ 2000000000 ∧ 0 ≤ j ∧ j ≤ 2000000000 ∧ i < j)
  | _ => false
theorem isPart_len {is : List Int} (h : is.length ≠ 2) : isPart is = false := by
  unfold isPart
  split
  · simp at h
  · rfl
theorem two_ints {is : List Int} (h : is.length = 2) : ∃ i j, is = [i, j] := by
  match is, h with
  | [i, j], _ => exact ⟨i, j, rfl⟩
theorem law_is_part_ok {is : List Int} (hz : is.length ≤ 20000) : run pr (k + 2) "_law_is_part" [.tup (is.map T.int)] s = .ok (.bl (isPart is)) s := by
  have c1 := compL_filter (chk := chkT) (s := s) (enc := T.int) (f := T.int) (q := fun i => !decide (0 ≤ i ∧ i ≤ 2000000000)) (g := gNm 1) (c := bNot (bT (eCall (run pr (k + 1)) "_law_whole" (lDef (lCons (eVar 1) (lCons (eC (.int 0)) (lCons (eBin oMulT (eC (.int 2)) (eBin oPow (eC (.int 10)) (eC (.int 9)))) lNil))) [])))) (e := eVar 1) (r0 := [some (.tup (is.map T.int)), none]) rfl is []
    (fun i _ => ⟨[some (.tup (is.map T.int)), some (.int i)], rfl, by simp_arith [pow9, pow9b, law_whole_int], fun _ => by simp_arith [eq_self]⟩) (by rw [sizeLine_eq]; simp only [List.length_nil]; omega)
  rw [List.nil_append] at c1
  generalize hF : is.filter (fun i => !decide (0 ≤ i ∧ i ≤ 2000000000)) = F at c1
  let s1 := s.add (.lst (F.map T.int))
  have hs1 : s.add (.lst (F.map T.int)) = s1 := rfl
  let s2 := s1.add (.lst [])
  have hs2 : s1.add (.lst []) = s2 := rfl
  have n1 := ne_ints (s := s2) (a := s.len) (m := s1.len) (l := F) (get_add_old get_add) get_add
  have l1 : (is.map T.int).length = is.length := List.length_map _
  by_cases b : ((is.length : Nat) : Int) = 2
  · refine run_gro pr__law_is_part rfl ⟨s2, ?_, Gro.add.trans Gro.add⟩ (Nat.zero_le _)
    unfold b__law_is_part
    obtain ⟨i, j, e⟩ := two_ints (is := is) (by omega)
    subst e
    simp only [List.map_cons, List.map_nil] at c1 l1
    by_cases h1 : (0 ≤ i ∧ i ≤ 2000000000) ∧ 0 ≤ j ∧ j ≤ 2000000000
    · have he : F.isEmpty = true := by rw [← hF]; simp [h1]
      rw [he] at n1
      by_cases h3 : i < j
      · have e : isPart [i, j] = true := decide_eq_true ⟨h1.1.1, h1.1.2, h1.2.1, h1.2.2, h3⟩
        rw [e]
        simp_arith [b, c1, hs1, hs2, n1, at0, at1, h3]
      · have e : isPart [i, j] = false := decide_eq_false fun h => h3 h.2.2.2.2
        rw [e]
        simp_arith [b, c1, hs1, hs2, n1, at0, at1, h3]
    · have he : F.isEmpty = false := by
        rw [← hF]
        simp only [List.isEmpty_eq_false_iff, ne_eq, List.filter_eq_nil_iff]
        intro h
        exact h1 ⟨by simpa using h i (by simp), by simpa using h j (by simp)⟩
      rw [he] at n1
      have e : isPart [i, j] = false := decide_eq_false fun h => h1 ⟨⟨h.1, h.2.1⟩, h.2.2.1, h.2.2.2.1⟩
      rw [e]
      simp_arith [b, c1, hs1, hs2, n1]
  · rw [isPart_len (by omega)]
    refine run_pure pr__law_is_part rfl ?_
    unfold b__law_is_part
    simp_arith [l1, b]
theorem encPo_hi (o : Option (Int × Int)) : (encPo o).hi = 0 := by cases o <;> rfl
/-- the numbers between some signs -/
theorem law_nums {v : Nat} {r0 : Fx.Env} {m : Nat} {w sep : Str} (hg : s.get m = some (.lst ((Txt.split w sep).map T.str))) (hp : ∀ p ∈ Txt.split w sep, Tz p) (hl : (Txt.split w sep).length ≤ 20000) (hv : v < r0.length) :
    compL (chkL m ((Txt.split w sep).map T.str)) (gNm v) bYes (eCall (run pr (k + 1)) "_law_number" (lDef (lCons (eVar v) lNil) [])) r0 ((Txt.split w sep).map T.str) [] s = .ok ((numsV w sep).map oT) s := by
  have c1 := compL_map (chk := chkL m ((Txt.split w sep).map T.str)) (g := gNm v) (e := eCall (run pr (k + 1)) "_law_number" (lDef (lCons (eVar v) lNil) [])) (r0 := r0) (enc := T.str) (f := fun p => oT (numV p)) (s := s) (chkL_iff.mpr hg) (Txt.split w sep) []
    (fun p hq => ⟨r0.set v (some (.str p)), rfl, by
      have ri := law_number_ok (k := k) (s := s) (z := p) (by have := (hp p hq).len; omega) (hp p hq).okc
      have e : (r0.set v (some (.str p)))[v]? = some (some (.str p)) := by rw [List.getElem?_set_self hv]
      simp -implicitDefEqProofs only [ev_call, ev_ldef, ev_lcons, ev_var, e, ev_var1, ev_lcons1, ev_lnil, ev_lcons2, ev_ldef1, List.append_nil, ev_call1, ri]⟩) (by rw [sizeLine_eq]; simp only [List.length_nil]; omega)
  have mm : (Txt.split w sep).map (fun p => oT (numV p)) = (numsV w sep).map oT := by unfold numsV; rw [List.map_map]; rfl
  rw [List.nil_append, mm] at c1
  exact c1
theorem law_item1 {w : Str} (h : Tz w) : run pr (k + 3) "_law_item" [.int 1, .str w] s = .ok (encPo (stretchV w)) s := by
  have sp := msplit (s := s) one_lens.2.1 h
  obtain ⟨p1, p2, p3, p4⟩ := split_ex one_tls.2.1 (by decide) h
  have hlen := h.len
  let s1 := s.add (.lst ((Txt.split w "-").map T.str))
  have hs1 : s.add (.lst ((Txt.split w "-").map T.str)) = s1 := rfl
  have g1 : s1.get s.len = some (.lst ((Txt.split w "-").map T.str)) := get_add
  have c1 := law_nums (k := k + 1) (v := 8) (r0 := [some (.int 1), some (.str w), none, none, none, none, none, none, none]) g1 p2 (by omega) (by simp)
  have ln : (numsV w "-").length ≤ 20000 := by unfold numsV; rw [List.length_map]; omega
  have ni : ∀ i, some i ∈ numsV w "-" → 0 ≤ i := fun i hi => (nums_in hi).1
  have nn := notin_T (s := s1) (os := numsV w "-")
  have sv : stretchV w = if okP (two (numsV w "-")) = true then two (numsV w "-") else none := rfl
  rw [sv]
  generalize numsV w "-" = os at *
  refine run_gro pr__law_item rfl ⟨s1, ?_, Gro.add⟩ (by rw [encPo_hi]; exact Nat.zero_le _)
  unfold b__law_item
  cases ha : os.all Option.isSome with
  | false =>
    rw [ha] at nn
    rw [two_non ha]
    simp_arith [sp, hs1, g1, c1, nn, encPo, okP]
  | true =>
    rw [ha] at nn
    obtain ⟨is, e⟩ := all_some ha
    subst e
    rw [List.length_map] at ln
    rw [oT_some] at c1 nn
    have ip := law_is_part_ok (k := k) (s := s1) (is := is) ln
    have e : (if okP (two (is.map some)) = true then two (is.map some) else none) = if isPart is = true then two (is.map some) else none := by
      by_cases hl : is.length = 2
      · obtain ⟨i, j, e⟩ := two_ints hl
        subst e
        have h1 := ni i (by simp)
        have h2 := ni j (by simp)
        have q : okP (two ([i, j].map some)) = isPart [i, j] := decide_eq_decide.mpr ⟨fun h => by simp only at h; omega, fun h => by simp only; omega⟩
        rw [q]
      · rw [two_len (by simpa using hl), isPart_len hl]; rfl
    rw [e]
    cases hd : isPart is with
    | true =>
      rw [hd] at ip
      obtain ⟨i, j, e⟩ : ∃ i j, is = [i, j] := by
        by_cases hl : is.length = 2
        · exact two_ints hl
        · rw [isPart_len hl] at hd; cases hd
      subst e
      simp only [List.map_cons, List.map_nil] at c1 nn ip
      have e2 : two (List.map some [i, j]) = some (i, j) := rfl
      rw [e2]
      simp_arith [sp, hs1, g1, c1, nn, ip, encPo]
    | false =>
      rw [hd] at ip
      simp_arith [sp, hs1, g1, c1, nn, ip, encPo]
end
end K72

set_option maxRecDepth 100000
set_option maxHeartbeats 4000000
namespace K72
open PySem PySem.Spec PyProof.Rows L2 Fx
section
variable {k : Nat} {s : Sto}
/-! ### runs -/
abbrev Run := Int × Int × Int
def encRo : Option Run → T
  | none => .non
  | some q => .tup [.int q.1, .int q.2.1, .int q.2.2]
theorem encRo_hi (o : Option Run) : (encRo o).hi = 0 := by cases o <;> rfl
def okR : Option Run → Bool
  | none => false
  | some q => decide ((0 ≤ q.1 ∧ q.1 ≤ 1000000000) ∧ (1 ≤ q.2.1 ∧ q.2.1 ≤ 1000000000) ∧ (1 ≤ q.2.2 ∧ q.2.2 ≤ 1000000001) ∧ q.1 + q.2.1 * (q.2.2 - 1) ≤ 1000000000 ∧ (1 < q.2.2 ∨ q.2.1 = 1))
theorem is_minute_int {v : Int} : run pr (k + 2) "is_minute" [.int v] s = .ok (.bl (decide (0 ≤ v ∧ v ≤ 1000000000))) s := by
  refine run_pure pr_is_minute rfl ?_
  unfold b_is_minute
  simp_arith! [is_integer_int]
theorem end_of_ok {f d c : Int} (h1 : 0 ≤ d ∧ d ≤ 1000000000) (h2 : 0 ≤ c ∧ c ≤ 1000000001) : run pr (k + 1) "end_of" [.tup [.int f, .int d, .int c]] s = .ok (.int (f + d * (c - 1))) s := by
  have k1 : okN d = true := okN_small (by omega) (by omega)
  have k2 : okN (c - 1) = true := okN_small (by omega) (by omega)
  refine run_pure pr_end_of rfl ?_
  unfold b_end_of
  simp_arith! [k1, k2]
theorem is_run_ok {o : Option Run} : run pr (k + 3) "is_run" [encRo o] s = .ok (.bl (okR o)) s := by
  refine run_pure pr_is_run rfl ?_
  unfold b_is_run
  cases o with
  | none => simp_arith [encRo, okR]
  | some q =>
    obtain ⟨f, d, c⟩ := q
    by_cases a1 : 0 ≤ f ∧ f ≤ 1000000000
    · by_cases a2 : 1 ≤ d ∧ d ≤ 1000000000
      · by_cases a3 : 1 ≤ c ∧ c ≤ 1000000001
        · have eo := end_of_ok (k := k + 1) (s := s) (f := f) (d := d) (c := c) (by omega) (by omega)
          by_cases a4 : f + d * (c - 1) ≤ 1000000000
          · by_cases a5 : 1 < c
            · have e : okR (some (f, d, c)) = true := decide_eq_true ⟨a1, a2, a3, a4, .inl a5⟩
              rw [e]
              simp_arith [encRo, at0, is_minute_int, is_integer_int, eo, a1, a2, a3, a4, a5]
            · by_cases a6 : d = 1
              · have e : okR (some (f, d, c)) = true := decide_eq_true ⟨a1, a2, a3, a4, .inr a6⟩
                rw [e]
                have a6' : (d = 1) = True := eq_true a6
                simp_arith [encRo, at0, is_minute_int, is_integer_int, eo, a1, a2, a3, a4, a5, a6']
              · have e : okR (some (f, d, c)) = false := decide_eq_false fun h => h.2.2.2.2.elim a5 a6
                rw [e]
                simp_arith [encRo, at0, is_minute_int, is_integer_int, eo, a1, a2, a3, a4, a5, a6]
          · have e : okR (some (f, d, c)) = false := decide_eq_false fun h => a4 h.2.2.2.1
            rw [e]
            simp_arith [encRo, at0, is_minute_int, is_integer_int, eo, a1, a2, a3, a4]
        · have e : okR (some (f, d, c)) = false := decide_eq_false fun h => a3 h.2.2.1
          rw [e]
          simp_arith [encRo, at0, is_minute_int, is_integer_int, a1, a2, a3]
      · have e : okR (some (f, d, c)) = false := decide_eq_false fun h => a2 h.2.1
        rw [e]
        simp_arith [encRo, at0, is_minute_int, is_integer_int, a1, a2]
    · have e : okR (some (f, d, c)) = false := decide_eq_false fun h => a1 h.1
      rw [e]
      simp_arith [encRo, at0, is_minute_int, is_integer_int, a1]
/-- the run that a word's parts tell -/
def readR2 : List Str → Option Run
  | [a] => match numV a with
    | some f => some (f, 1, 1)
    | none => none
  | [a, b] => match numV a, pairV b "x" with
    | some f, some q => if 2 ≤ q.2 then some (f, q.1, q.2) else none
    | _, _ => none
  | _ => none
def readR (w : Str) : Option Run := readR2 (Txt.split w "+")
def runV (w : Str) : Option Run := if okR (readR w) = true then readR w else none
theorem toD_str {n : Nat} {z : Str} (h : Okc z) : toD (n + 1) s (.str z) = some (.str z) := by
  rw [toD, strOk_of h]
  rfl
theorem mapO_strs : ∀ l : List Str, (∀ z ∈ l, Okc z) → mapO (toD 29 s) (l.map T.str) = some (l.map PyData.str)
  | [], _ => rfl
  | z :: r, h => by rw [List.map_cons, mapO, toD_str (h z List.mem_cons_self), mapO_strs r fun x hx => h x (List.mem_cons_of_mem _ hx)]; rfl
theorem eq_strs {a m : Nat} {xs : List Str} (h : ∀ z ∈ xs, Okc z) (g : s.get a = some (.lst (xs.map T.str))) (g2 : s.get m = some (.lst [])) : oEq (.loc a) (.loc m) s = some (.bl xs.isEmpty, s) := by
  have e3 : toD DEEP s (.loc a) = some (.list (xs.map PyData.str)) := by
    show toD 30 s _ = _
    rw [toD]
    simp only [g, mapO_strs xs h]
    rfl
  have e4 : toD DEEP s (.loc m) = some (.list []) := by
    show toD 30 s _ = _
    rw [toD]
    simp only [g2]
    rfl
  have e : Fx.eqT s (.loc a) (.loc m) = some xs.isEmpty := by
    unfold Fx.eqT
    simp only [eqS, e3, e4, eqv_nil]
    cases xs <;> rfl
  show (Fx.eqT s (.loc a) (.loc m)).map _ = _
  rw [e]; rfl
theorem read_run_ok {w : Str} (h : Tz w) : run pr (k + 3) "read_run" [.str w] s = .ok (encRo (readR w)) s := by
  have sp := msplit (s := s) one_lens.2.2.1 h
  obtain ⟨p1, p2, p3, p4⟩ := split_ex one_tls.2.2.1 (by decide) h
  unfold readR
  generalize hps : Txt.split w "+" = ps at *
  obtain ⟨a, q, e⟩ : ∃ a q, ps = a :: q := by
    cases ps with
    | nil => exact absurd rfl p1
    | cons a q => exact ⟨a, q, rfl⟩
  subst e
  let s1 := s.add (.lst ((a :: q).map T.str))
  have hs1 : s.add (.lst (T.str a :: q.map T.str)) = s1 := rfl
  have g1 : s1.get s.len = some (.lst (T.str a :: q.map T.str)) := get_add
  let s2 := s1.add (.lst (q.map T.str))
  have hs2 : s1.add (.lst (q.map T.str)) = s2 := rfl
  have g2 : s2.get s1.len = some (.lst (q.map T.str)) := get_add
  let s3 := s2.add (.lst [])
  have hs3 : s2.add (.lst []) = s3 := rfl
  have g3 : s3.get s1.len = some (.lst (q.map T.str)) := get_add_old g2
  have ri := read_integer_ok (k := k + 1) (s := s2) (z := a) (by have := (p2 a (by simp)).len; omega)
  have eq3 := eq_strs (s := s3) (xs := q) (fun z hz => (p2 z (List.mem_cons_of_mem _ hz)).okc) g3 get_add
  refine run_gro pr_read_run rfl ⟨s3, ?_, (Gro.add.trans Gro.add).trans Gro.add⟩ (by rw [encRo_hi]; exact Nat.zero_le _)
  unfold b_read_run
  rw [List.map_cons] at sp
  have l1 : (q.map T.str).length = q.length := List.length_map _
  cases q with
  | nil =>
    simp only [List.map_nil, List.isEmpty_nil] at sp hs1 g1 hs2 g2 g3 eq3
    cases hv : numV a with
    | none =>
      rw [hv] at ri
      simp_arith [sp, hs1, g1, hs2, ri, hs3, eq3, oT, readR2, hv, encRo]
    | some f =>
      rw [hv] at ri
      simp_arith [sp, hs1, g1, hs2, ri, hs3, eq3, oT, readR2, hv, encRo]
  | cons b r =>
    have rp := read_pair_ok (k := k) (s := s3) (w := b) (sep := "x") one_tls.2.2.2.1 (by decide) (p2 b (by simp))
    simp only [List.map_cons, List.isEmpty_cons] at sp hs1 g1 hs2 g2 g3 eq3 l1
    by_cases hr : (1 : Int) < ((r.length : Nat) : Int) + 1
    · have e : readR2 (a :: b :: r) = none := by
        unfold readR2
        cases r with
        | nil => simp at hr
        | cons x y => rfl
      rw [e]
      have l2 : (1 : Int) < (((r.map T.str).length + 1 : Nat) : Int) := by rw [List.length_map]; omega
      simp_arith [sp, hs1, g1, hs2, ri, hs3, eq3, g3, at0, rp, l2, encRo]
    · have er : r = [] := by
        cases r with
        | nil => rfl
        | cons x y => simp only [List.length_cons] at hr; omega
      subst er
      simp only [List.map_nil] at sp hs1 g1 hs2 g2 g3 l1
      cases hv : numV a with
      | none =>
        rw [hv] at ri
        cases hp : pairV b "x" with
        | none =>
          rw [hp] at rp
          simp_arith [sp, hs1, g1, hs2, ri, hs3, eq3, g3, at0, rp, oT, readR2, hv, hp, encRo]
        | some q =>
          rw [hp] at rp
          simp_arith [sp, hs1, g1, hs2, ri, hs3, eq3, g3, at0, rp, oT, readR2, hv, hp, encRo]
      | some f =>
        rw [hv] at ri
        cases hp : pairV b "x" with
        | none =>
          rw [hp] at rp
          simp only [encPo, oT] at rp ri
          simp_arith [sp, hs1, g1, hs2, ri, hs3, eq3, g3, at0, rp, readR2, hv, hp, encRo]
        | some q =>
          rw [hp] at rp
          simp only [encPo, oT] at rp ri
          by_cases h2 : q.2 < 2
          · have h2' : ¬ 2 ≤ q.2 := by omega
            simp_arith [sp, hs1, g1, hs2, ri, hs3, eq3, g3, at0, at1, rp, h2, h2', readR2, hv, hp, encRo]
          · have h2' : 2 ≤ q.2 := by omega
            simp_arith [sp, hs1, g1, hs2, ri, hs3, eq3, g3, at0, at1, rp, h2, h2', readR2, hv, hp, encRo]
end
end K72

set_option maxRecDepth 100000
set_option maxHeartbeats 4000000
namespace K72
open PySem PySem.Spec PyProof.Rows L2 Fx
section
variable {k : Nat} {s : Sto}
def isRunL : List Int → Bool
  | [f, d, c] => decide (((0 ≤ f ∧ f ≤ 1000000001) ∧ (0 ≤ d ∧ d ≤ 1000000001) ∧ (0 ≤ c ∧ c ≤ 1000000001)) ∧ d ≠ 0 ∧ c ≠ 0 ∧ ¬ (c = 1 ∧ 1 < d) ∧ f + d * (c - 1) ≤ 1000000000)
  | _ => false
theorem isRunL_len {is : List Int} (h : is.length ≠ 3) : isRunL is = false := by
  unfold isRunL
  split
  · simp at h
  · rfl
theorem three_ints {is : List Int} (h : is.length = 3) : ∃ f d c, is = [f, d, c] := by
  match is, h with
  | [f, d, c], _ => exact ⟨f, d, c, rfl⟩
theorem law_is_run_ok {is : List Int} (hz : is.length ≤ 20000) : run pr (k + 2) "_law_is_run" [.tup (is.map T.int)] s = .ok (.bl (isRunL is)) s := by
  have c1 := compL_filter (chk := chkT) (s := s) (enc := T.int) (f := T.int) (q := fun i => !decide (0 ≤ i ∧ i ≤ 1000000001)) (g := gNm 4) (c := bNot (bT (eCall (run pr (k + 1)) "_law_whole" (lDef (lCons (eVar 4) (lCons (eC (.int 0)) (lCons (eBin oAdd (eBin oPow (eC (.int 10)) (eC (.int 9))) (eC (.int 1))) lNil))) [])))) (e := eVar 4) (r0 := [some (.tup (is.map T.int)), none, none, none, none]) rfl is []
    (fun i _ => ⟨[some (.tup (is.map T.int)), none, none, none, some (.int i)], rfl, by simp_arith [pow9, law_whole_int], fun _ => by simp_arith [eq_self]⟩) (by rw [sizeLine_eq]; simp only [List.length_nil]; omega)
  rw [List.nil_append] at c1
  generalize hF : is.filter (fun i => !decide (0 ≤ i ∧ i ≤ 1000000001)) = F at c1
  let s1 := s.add (.lst (F.map T.int))
  have hs1 : s.add (.lst (F.map T.int)) = s1 := rfl
  let s2 := s1.add (.lst [])
  have hs2 : s1.add (.lst []) = s2 := rfl
  have n1 := ne_ints (s := s2) (a := s.len) (m := s1.len) (l := F) (get_add_old get_add) get_add
  have l1 : (is.map T.int).length = is.length := List.length_map _
  by_cases b : ((is.length : Nat) : Int) = 3
  · refine run_gro pr__law_is_run rfl ⟨s2, ?_, Gro.add.trans Gro.add⟩ (Nat.zero_le _)
    unfold b__law_is_run
    obtain ⟨f, d, c, e⟩ := three_ints (is := is) (by omega)
    subst e
    simp only [List.map_cons, List.map_nil] at c1 l1
    by_cases h1 : (0 ≤ f ∧ f ≤ 1000000001) ∧ (0 ≤ d ∧ d ≤ 1000000001) ∧ (0 ≤ c ∧ c ≤ 1000000001)
    · have he : F.isEmpty = true := by rw [← hF]; simp [h1]
      rw [he] at n1
      have k1 : okN d = true := okN_small (by omega) (by omega)
      have k2 : okN (c - 1) = true := okN_small (by omega) (by omega)
      by_cases h2 : d = 0
      · have e : isRunL [f, d, c] = false := decide_eq_false fun h => h.2.1 h2
        rw [e]
        have h2' : (d = 0) = True := eq_true h2
        simp_arith [b, c1, hs1, hs2, n1, h2']
      · by_cases h3 : c = 0
        · have e : isRunL [f, d, c] = false := decide_eq_false fun h => h.2.2.1 h3
          rw [e]
          have h3' : (c = 0) = True := eq_true h3
          simp_arith [b, c1, hs1, hs2, n1, h2, h3']
        · by_cases h4 : c = 1
          · have h4' : (c = 1) = True := eq_true h4
            by_cases h5 : 1 < d
            · have e : isRunL [f, d, c] = false := decide_eq_false fun h => h.2.2.2.1 ⟨h4, h5⟩
              rw [e]
              simp_arith [b, c1, hs1, hs2, n1, h2, h3, h4', h5]
            · by_cases h6 : f + d * (c - 1) ≤ 1000000000
              · have e : isRunL [f, d, c] = true := decide_eq_true ⟨h1, h2, h3, fun h => h5 h.2, h6⟩
                rw [e]
                simp_arith [b, c1, hs1, hs2, n1, h2, h3, h4', h5, h6, k1, k2, pow9]
              · have e : isRunL [f, d, c] = false := decide_eq_false fun h => h6 h.2.2.2.2
                rw [e]
                simp_arith [b, c1, hs1, hs2, n1, h2, h3, h4', h5, h6, k1, k2, pow9]
          · by_cases h6 : f + d * (c - 1) ≤ 1000000000
            · have e : isRunL [f, d, c] = true := decide_eq_true ⟨h1, h2, h3, fun h => h4 h.1, h6⟩
              rw [e]
              simp_arith [b, c1, hs1, hs2, n1, h2, h3, h4, h6, k1, k2, pow9]
            · have e : isRunL [f, d, c] = false := decide_eq_false fun h => h6 h.2.2.2.2
              rw [e]
              simp_arith [b, c1, hs1, hs2, n1, h2, h3, h4, h6, k1, k2, pow9]
    · have he : F.isEmpty = false := by
        rw [← hF]
        simp only [List.isEmpty_eq_false_iff, ne_eq, List.filter_eq_nil_iff]
        intro h
        exact h1 ⟨by simpa using h f (by simp), by simpa using h d (by simp), by simpa using h c (by simp)⟩
      rw [he] at n1
      have e : isRunL [f, d, c] = false := decide_eq_false fun h => h1 h.1
      rw [e]
      simp_arith [b, c1, hs1, hs2, n1]
  · rw [isRunL_len (by omega)]
    refine run_pure pr__law_is_run rfl ?_
    unfold b__law_is_run
    simp_arith [l1, b]
/-- the law's run of a word's parts -/
def three (os : List (Option Int)) (plus : Bool) : Option Run := match os with
  | [some f, some d, some c] => if isRunL [f, d, c] = true ∧ ¬ (plus = true ∧ c < 2) then some (f, d, c) else none
  | _ => none
theorem three_no {is : List Int} {plus : Bool} (h : isRunL is = false) : three (is.map some) plus = none := by
  unfold three
  split
  · next f d c e =>
    have : is = [f, d, c] := by
      have := congrArg (List.map (Option.getD · 0)) e
      simpa [List.map_map, Function.comp_def] using this
    rw [this] at h
    rw [h]; simp
  · rfl
theorem three_non {os : List (Option Int)} {plus : Bool} (h : os.all Option.isSome = false) : three os plus = none := by
  unfold three
  split
  · simp at h
  · rfl
noncomputable def itemT (C : CallT) : Sv := (sSeq (sAsg (eComp (lComp (iSeq (eM "str" mSplit (eBin oIx (eVar 2) (eC (.int 1))) (lCons (eC (.str "x")) lNil))) (gNm 8) bYes (eCall C "_law_number" (lDef (lCons (eVar 8) lNil) [])) [8])) (gNm 6))
  (sSeq (sAsg (eB fTup (lCons (eBin oAdd (eLst (lCons (eCall C "_law_number" (lDef (lCons (eBin oIx (eVar 2) (eC (.int 0))) lNil) [])) lNil)) (eVar 6)) lNil)) (gNm 7))
  (sSeq (sIf (bOr (bV (eBin oGt (eB fLen (lCons (eVar 2) lNil)) (eC (.int 2)))) (bOr (bV (eBin oIn (eC .non) (eVar 7))) (bOr (bNot (bT (eCall C "_law_is_run" (lDef (lCons (eVar 7) lNil) [])))) (bAnd (bV (eBin oIn (eC (.str "+")) (eVar 1))) (bV (eBin oLt (eBin oIx (eVar 7) (eC (.int 2))) (eC (.int 2)))))))) (sRet (eC .non)) sNil)
  (sRet (eVar 7)))))
theorem in_plus {w : Str} : oIn (.str "+") (.str w) s = some (.bl (decide (43 ∈ TL.tl w)), s) := in_sign
theorem item_tail {w a b : Str} {q : List Str} {n : Nat} (g : s.get n = some (.lst (T.str a :: T.str b :: q.map T.str))) (ha : Tz a) (hb : Tz b) :
    ∃ s', itemT (run pr (k + 2)) [some (.int 2), some (.str w), some (.loc n), none, none, none, none, none, none] s = .rt (encRo (if q.isEmpty = true then three (numV a :: numsV b "x") (decide (43 ∈ TL.tl w)) else none)) s' ∧ Gro s s' := by
  have sp := msplit (s := s) one_lens.2.2.2.1 hb
  obtain ⟨p1, p2, p3, p4⟩ := split_ex one_tls.2.2.2.1 (by decide) hb
  have hlen := hb.len
  let s1 := s.add (.lst ((Txt.split b "x").map T.str))
  have hs1 : s.add (.lst ((Txt.split b "x").map T.str)) = s1 := rfl
  have g1 : s1.get s.len = some (.lst ((Txt.split b "x").map T.str)) := get_add
  have c1 := law_nums (k := k + 1) (v := 8) (r0 := [some (.int 2), some (.str w), some (.loc n), none, none, none, none, none, none]) g1 p2 (by omega) (by simp)
  have ln : (numsV b "x").length ≤ 10001 := by unfold numsV; rw [List.length_map]; omega
  generalize numsV b "x" = os at *
  let s2 := s1.add (.lst (os.map oT))
  have hs2 : s1.add (.lst (os.map oT)) = s2 := rfl
  have g2 : s2.get s1.len = some (.lst (os.map oT)) := get_add
  have gn2 : s2.get n = some (.lst (T.str a :: T.str b :: q.map T.str)) := get_add_old (get_add_old g)
  have ri := law_number_ok (k := k + 1) (s := s2) (z := a) (by have := ha.len; omega) ha.okc
  let s3 := s2.add (.lst [oT (numV a)])
  have hs3 : s2.add (.lst [oT (numV a)]) = s3 := rfl
  have g3 : s3.get s2.len = some (.lst [oT (numV a)]) := get_add
  have g32 : s3.get s1.len = some (.lst (os.map oT)) := get_add_old g2
  have e4 : oT (numV a) :: os.map oT = (numV a :: os).map oT := rfl
  let s4 := s3.add (.lst ((numV a :: os).map oT))
  have hs4 : oAdd (.loc s2.len) (.loc s1.len) s3 = some (.loc s3.len, s4) := by
    rw [vv_addl, g3, g32, vv_addl1 (by rw [sizeLine_eq, List.length_map]; simp only [List.length_cons, List.length_nil]; omega)]; rfl
  have g4 : s4.get s3.len = some (.lst ((numV a :: os).map oT)) := get_add
  have gn4 : s4.get n = some (.lst (T.str a :: T.str b :: q.map T.str)) := get_add_old (get_add_old gn2)
  have hOl : (numV a :: os).length ≤ 20000 := by simp only [List.length_cons]; omega
  have nn := in_T (s := s4) (os := numV a :: os)
  have ip := in_plus (s := s4) (w := w)
  refine ⟨s4, ?_, ((Gro.add.trans Gro.add).trans Gro.add).trans Gro.add⟩
  clear_value s4
  generalize numV a :: os = OS at g4 nn hOl ⊢
  unfold itemT
  have l0 : (q.map T.str).length = q.length := List.length_map _
  have gn1 : s1.get n = some (.lst (T.str a :: T.str b :: q.map T.str)) := get_add_old g
  cases q with
  | cons x y =>
    have e : (if ((x :: y).isEmpty) = true then three OS (decide (43 ∈ TL.tl w)) else none) = none := rfl
    rw [e]
    have lQ : 1 ≤ ((x :: y).map T.str).length := by rw [List.length_map]; simp
    generalize (x :: y).map T.str = Q at *
    have l2 : (2 : Int) < ((Q.length + 1 + 1 : Nat) : Int) := by omega
    simp_arith [g, at1, sp, hs1, g1, c1, hs2, gn2, at0, ri, hs3, hs4, g4, gn4, l2, encRo]
  | nil =>
    simp only [List.map_nil] at g gn1 gn2 gn4
    have e : (if (([] : List Str).isEmpty) = true then three OS (decide (43 ∈ TL.tl w)) else none) = three OS (decide (43 ∈ TL.tl w)) := rfl
    rw [e]
    cases hall : OS.all Option.isSome with
    | false =>
      rw [hall] at nn
      rw [three_non hall]
      simp_arith [g, at1, sp, hs1, g1, c1, hs2, gn2, at0, ri, hs3, hs4, g4, gn4, nn, encRo]
    | true =>
      rw [hall] at nn
      obtain ⟨is, ei⟩ := all_some hall
      subst ei
      have ln2 : is.length ≤ 20000 := by rw [List.length_map] at hOl; exact hOl
      rw [oT_some] at nn g4
      have ir := law_is_run_ok (k := k) (s := s4) ln2
      cases hr : isRunL is with
      | false =>
        rw [hr] at ir
        rw [three_no hr]
        simp_arith [g, at1, sp, hs1, g1, c1, hs2, gn2, at0, ri, hs3, hs4, g4, gn4, nn, ir, encRo]
      | true =>
        rw [hr] at ir
        obtain ⟨f, d, c, e3⟩ : ∃ f d c, is = [f, d, c] := by
          by_cases hl : is.length = 3
          · exact three_ints hl
          · rw [isRunL_len hl] at hr; cases hr
        subst e3
        simp only [List.map_cons, List.map_nil] at nn g4 ir
        cases hpl : decide (43 ∈ TL.tl w) with
        | false =>
          rw [hpl] at ip
          have e5 : three (List.map some [f, d, c]) false = some (f, d, c) := by simp [three, hr]
          rw [e5]
          simp_arith [g, at1, sp, hs1, g1, c1, hs2, gn2, at0, ri, hs3, hs4, g4, gn4, nn, ir, ip, encRo]
        | true =>
          rw [hpl] at ip
          by_cases h2 : c < 2
          · have e5 : three (List.map some [f, d, c]) true = none := by simp [three, h2]
            rw [e5]
            simp_arith [g, at1, sp, hs1, g1, c1, hs2, gn2, at0, at2, ri, hs3, hs4, g4, gn4, nn, ir, ip, h2, encRo]
          · have e5 : three (List.map some [f, d, c]) true = some (f, d, c) := by simp [three, h2, hr]
            rw [e5]
            simp_arith [g, at1, sp, hs1, g1, c1, hs2, gn2, at0, at2, ri, hs3, hs4, g4, gn4, nn, ir, ip, h2, encRo]
end
end K72

set_option maxRecDepth 100000
set_option maxHeartbeats 4000000
namespace K72
open PySem PySem.Spec PyProof.Rows L2 Fx
section
variable {k : Nat} {s : Sto}
theorem three_len {os : List (Option Int)} {plus : Bool} (h : os.length ≠ 3) : three os plus = none := by
  unfold three
  split
  · simp at h
  · rfl
def readO (oa : Option Int) (o : Option (Int × Int)) : Option Run := match oa, o with
  | some f, some q => if 2 ≤ q.2 then some (f, q.1, q.2) else none
  | _, _ => none
theorem three_two {oa : Option Int} {os : List (Option Int)} (h0 : ∀ i, oa = some i → 0 ≤ i) (h1 : ∀ i, some i ∈ os → 0 ≤ i) : three (oa :: os) true = if okR (readO oa (two os)) = true then readO oa (two os) else none := by
  cases oa with
  | none => rw [three_non (by simp)]; rfl
  | some f =>
    have hf := h0 f rfl
    by_cases hl : os.length = 2
    · cases ha : os.all Option.isSome with
      | false => rw [three_non (by simpa using ha), two_non ha]; rfl
      | true =>
        obtain ⟨d, c, e⟩ := two_ex hl ha
        subst e
        have hd := h1 d (by simp)
        have hc := h1 c (by simp)
        have e2 : readO (some f) (two [some d, some c]) = if 2 ≤ c then some (f, d, c) else none := rfl
        have e3 : three [some f, some d, some c] true = if isRunL [f, d, c] = true ∧ ¬ (true = true ∧ c < 2) then some (f, d, c) else none := rfl
        rw [e2, e3]
        by_cases h2 : 2 ≤ c
        · rw [if_pos h2]
          have key : (isRunL [f, d, c] = true ∧ ¬ (true = true ∧ c < 2)) ↔ okR (some (f, d, c)) = true := by
            unfold isRunL okR
            rw [decide_eq_true_eq, decide_eq_true_eq]
            constructor
            · rintro ⟨⟨⟨g1, g2, g3⟩, g4, g5, g6, g7⟩, g8⟩
              have m1 : 0 ≤ (d - 1) * (c - 1) := Int.mul_nonneg (by omega) (by omega)
              have m2 : (d - 1) * (c - 1) = d * (c - 1) - (c - 1) := by rw [Int.sub_mul, Int.one_mul]
              have m3 : 0 ≤ d * (c - 2) := Int.mul_nonneg (by omega) (by omega)
              have m4 : d * (c - 2) = d * (c - 1) - d := by
                rw [show c - 2 = (c - 1) - 1 by omega, Int.mul_sub, Int.mul_one]
              simp only
              omega
            · rintro ⟨g1, g2, g3, g4, g5⟩
              simp only at g1 g2 g3 g4 g5
              omega
          by_cases h3 : okR (some (f, d, c)) = true
          · rw [if_pos (key.mpr h3), if_pos h3]
          · rw [if_neg (fun h => h3 (key.mp h)), if_neg h3]
        · rw [if_neg h2, if_neg (fun h => h.2 ⟨rfl, by omega⟩)]
          split <;> rfl
    · rw [three_len (by simpa using hl), two_len hl]; rfl
theorem readR2_two {a b : Str} : readR2 [a, b] = readO (numV a) (pairV b "x") := by
  cases h1 : numV a <;> cases h2 : pairV b "x" <;> simp only [readR2, readO, h1, h2]
theorem nums_one : numsV "1x1" "x" = [some 1, some 1] := by
  have e : ("1x1" : Str) = ("1" : Str) ++ ("x" : Str) ++ ("1" : Str) := by decide +kernel
  have sp : Txt.split "1x1" "x" = (["1", "1"] : List Str) := by
    rw [e]
    exact split2 one_tls.2.2.2.1 (by decide) (by decide +kernel) (by decide +kernel)
  unfold numsV
  rw [sp]
  decide +kernel
theorem three_one {oa : Option Int} (h0 : ∀ i, oa = some i → 0 ≤ i) : three [oa, some 1, some 1] false = if okR (oa.map fun f => (f, 1, 1)) = true then oa.map (fun f => (f, 1, 1)) else none := by
  cases oa with
  | none => rfl
  | some f =>
    have hf := h0 f rfl
    have e3 : three [some f, some 1, some 1] false = if isRunL [f, 1, 1] = true ∧ ¬ (false = true ∧ (1 : Int) < 2) then some (f, 1, 1) else none := rfl
    have key : (isRunL [f, 1, 1] = true ∧ ¬ (false = true ∧ (1 : Int) < 2)) ↔ okR (some (f, 1, 1)) = true := by
      unfold isRunL okR
      rw [decide_eq_true_eq, decide_eq_true_eq]
      simp only
      constructor
      · rintro ⟨h, _⟩
        have h7 := h.2.2.2.2
        rw [show (1 : Int) * (1 - 1) = 0 by decide] at h7
        exact ⟨⟨h.1.1.1, by omega⟩, by decide, by decide, h.2.2.2.2, by decide⟩
      · intro h; exact ⟨⟨⟨⟨h.1.1, by omega⟩, by decide, by decide⟩, by decide, by decide, by decide, by omega⟩, by simp⟩
    rw [e3]
    simp only [Option.map_some]
    by_cases h3 : okR (some (f, 1, 1)) = true
    · rw [if_pos (key.mpr h3), if_pos h3]
    · rw [if_neg (fun h => h3 (key.mp h)), if_neg h3]
theorem split_one {z w : Str} {c : Nat} (ey : TL.tl w = [c]) (hc : c < 256) (h : Tz z) (h1 : (Txt.split z w).length = 1) : Txt.split z w = [z] :=
  split1 ey hc ((split_ex ey hc h).2.2.1.mp h1)
theorem law_item2 {w : Str} (h : Tz w) : run pr (k + 3) "_law_item" [.int 2, .str w] s = .ok (encRo (runV w)) s := by
  have sp := msplit (s := s) one_lens.2.2.1 h
  obtain ⟨p1, p2, p3, p4⟩ := split_ex one_tls.2.2.1 (by decide) h
  have hso := split_one one_tls.2.2.1 (by decide) h
  let s1 := s.add (.lst ((Txt.split w "+").map T.str))
  have hs1 : s.add (.lst ((Txt.split w "+").map T.str)) = s1 := rfl
  have g1 : s1.get s.len = some (.lst ((Txt.split w "+").map T.str)) := get_add
  have hT : (sSeq (sAsg (eComp (lComp (iSeq (eM "str" mSplit (eBin oIx (eVar 2) (eC (.int 1))) (lCons (eC (.str "x")) lNil))) (gNm 8) bYes (eCall (run pr (k + 2)) "_law_number" (lDef (lCons (eVar 8) lNil) [])) [8])) (gNm 6))
  (sSeq (sAsg (eB fTup (lCons (eBin oAdd (eLst (lCons (eCall (run pr (k + 2)) "_law_number" (lDef (lCons (eBin oIx (eVar 2) (eC (.int 0))) lNil) [])) lNil)) (eVar 6)) lNil)) (gNm 7))
  (sSeq (sIf (bOr (bV (eBin oGt (eB fLen (lCons (eVar 2) lNil)) (eC (.int 2)))) (bOr (bV (eBin oIn (eC .non) (eVar 7))) (bOr (bNot (bT (eCall (run pr (k + 2)) "_law_is_run" (lDef (lCons (eVar 7) lNil) [])))) (bAnd (bV (eBin oIn (eC (.str "+")) (eVar 1))) (bV (eBin oLt (eBin oIx (eVar 7) (eC (.int 2))) (eC (.int 2)))))))) (sRet (eC .non)) sNil)
  (sRet (eVar 7))))) = itemT (run pr (k + 2)) := rfl
  have l1 : ((Txt.split w "+").map T.str).length = (Txt.split w "+").length := List.length_map _
  unfold runV readR
  by_cases b : (((Txt.split w "+").length : Nat) : Int) = 1
  · have hw := hso (by omega)
    have np : decide (43 ∈ TL.tl w) = false := decide_eq_false (p3.mp (by omega))
    let s2 := s1.add (.lst [.str w, .str "1x1"])
    have hs2 : s1.add (.lst [.str w, .str "1x1"]) = s2 := rfl
    have g2 : s2.get s1.len = some (.lst (T.str w :: T.str "1x1" :: ([] : List Str).map T.str)) := get_add
    obtain ⟨s', t1, t2⟩ := item_tail (k := k) (w := w) (q := []) g2 h ⟨by decide +kernel, by unfold Okc; decide +kernel⟩
    rw [nums_one, np] at t1
    simp only [List.isEmpty_nil, if_true] at t1
    rw [three_one (fun i hi => (numV_in hi).1)] at t1
    rw [hw]
    have er : readR2 [w] = (numV w).map fun f => (f, 1, 1) := by cases h1 : numV w <;> simp only [readR2, h1, Option.map_none, Option.map_some]
    rw [er]
    refine run_gro pr__law_item rfl ⟨s', ?_, (Gro.add.trans Gro.add).trans t2⟩ (by rw [encRo_hi]; exact Nat.zero_le _)
    show (b__law_item (run pr (k + 2)) [some (.int 2), some (.str w), none, none, none, none, none, none, none] s).out = _
    unfold b__law_item
    rw [hT]
    simp_arith [sp, hs1, g1, l1, b, hs2, t1]
  · generalize hps : Txt.split w "+" = ps at *
    obtain ⟨a, x, q, e⟩ : ∃ a x q, ps = a :: x :: q := by
      match ps, p1, b with
      | a :: x :: q, _, _ => exact ⟨a, x, q, rfl⟩
      | [], h, _ => exact absurd rfl h
      | [_], _, h => simp at h
    subst e
    have np : decide (43 ∈ TL.tl w) = true := by
      rw [decide_eq_true_eq]
      exact Classical.byContradiction fun h => by
        have := p3.mpr h
        simp at this
    obtain ⟨s', t1, t2⟩ := item_tail (k := k) (w := w) (q := q) g1 (p2 a (by simp)) (p2 x (by simp))
    rw [np, three_two (fun i hi => (numV_in hi).1) (fun i hi => (nums_in hi).1)] at t1
    have er : (if q.isEmpty = true then (if okR (readO (numV a) (two (numsV x "x"))) = true then readO (numV a) (two (numsV x "x")) else none) else none) = (if okR (readR2 (a :: x :: q)) = true then readR2 (a :: x :: q) else none) := by
      cases q with
      | nil => rw [readR2_two]; rfl
      | cons y z => rfl
    rw [er] at t1
    refine run_gro pr__law_item rfl ⟨s', ?_, Gro.add.trans t2⟩ (by rw [encRo_hi]; exact Nat.zero_le _)
    show (b__law_item (run pr (k + 2)) [some (.int 2), some (.str w), none, none, none, none, none, none, none] s).out = _
    unfold b__law_item
    rw [hT]
    simp only [List.map_cons] at sp hs1 g1 l1
    simp only [List.length_cons] at b l1
    simp_arith [sp, hs1, g1, l1, b, t1]
end
end K72

set_option maxRecDepth 100000
set_option maxHeartbeats 4000000
namespace K72
open PySem PySem.Spec PyProof.Rows L2 Fx
section
variable {k : Nat} {s : Sto}
/-! ### what a word denotes, and a text -/
inductive It where
  | L (q : Str × Int) | P (q : Int × Int) | R (q : Run)
def encI : It → T
  | .L q => encLo (some q)
  | .P q => encPo (some q)
  | .R q => encRo (some q)
def It.fst : It → Int
  | .L _ => 0
  | .P q => q.1
  | .R q => q.1
def It.end : It → Int
  | .L _ => -1
  | .P q => q.2
  | .R q => q.1 + q.2.1 * (q.2.2 - 1)
theorem encI_hi (i : It) : (encI i).hi = 0 := by cases i <;> rfl
def encO : Option It → T
  | none => .non
  | some i => encI i
inductive Way where
  | w0 | w1 | w2
def Way.n : Way → Int
  | .w0 => 0 | .w1 => 1 | .w2 => 2
def Way.lim : Way → Int
  | .w0 => 6 | .w1 => 60 | .w2 => 360
def itemV : Way → Str → Option It
  | .w0, w => (lampV w).map .L
  | .w1, w => (stretchV w).map .P
  | .w2, w => (runV w).map .R
theorem item_ok {y : Way} {w : Str} (h : Tz w) : run pr (k + 3) "_law_item" [.int y.n, .str w] s = .ok (encO (itemV y w)) s := by
  cases y with
  | w0 =>
    have := law_item0 (k := k + 1) (s := s) h
    show run pr (k + 3) "_law_item" [.int 0, .str w] s = _
    have e : itemV .w0 w = (lampV w).map .L := rfl
    rw [this, e]
    cases lampV w <;> rfl
  | w1 =>
    have := law_item1 (k := k) (s := s) h
    show run pr (k + 3) "_law_item" [.int 1, .str w] s = _
    have e : itemV .w1 w = (stretchV w).map .P := rfl
    rw [this, e]
    cases stretchV w <;> rfl
  | w2 =>
    have := law_item2 (k := k) (s := s) h
    show run pr (k + 3) "_law_item" [.int 2, .str w] s = _
    have e : itemV .w2 w = (runV w).map .R := rfl
    rw [this, e]
    cases runV w <;> rfl
theorem okL_of {a : Str} {j : Int} (h : okL a (some j) = true) : (a = "hold" ∨ a = "pulse") ∧ 1 ≤ j ∧ j ≤ 1000000000 := by
  unfold okL at h
  exact of_decide_eq_true h
/-- the way's kind of item, its numbers small -/
def OkI : Way → It → Prop
  | .w0, .L q => (q.1 = "hold" ∨ q.1 = "pulse") ∧ 1 ≤ q.2 ∧ q.2 ≤ 1000000000
  | .w1, .P q => okP (some q) = true
  | .w2, .R q => okR (some q) = true
  | _, _ => False
theorem itemV_ok {y : Way} {w : Str} {i : It} (h : itemV y w = some i) : OkI y i := by
  cases y with
  | w0 =>
    unfold itemV lampV at h
    obtain ⟨q, e, rfl⟩ := Option.map_eq_some_iff.mp h
    unfold lamp2 at e
    split at e
    · split at e
      · next j hj =>
        split at e
        · next ho =>
          cases e
          exact okL_of ho
        · cases e
      · cases e
    · cases e
  | w1 =>
    unfold itemV stretchV at h
    obtain ⟨q, e, rfl⟩ := Option.map_eq_some_iff.mp h
    split at e
    · next ho => rw [e] at ho; exact ho
    · cases e
  | w2 =>
    unfold itemV runV at h
    obtain ⟨q, e, rfl⟩ := Option.map_eq_some_iff.mp h
    split at e
    · next ho => rw [e] at ho; exact ho
    · cases e
/-- a text's items, or the index of the first word that is wrong -/
def readG (y : Way) : Nat → Int → List Str → List It → List It ⊕ Nat
  | _, _, [], acc => .inl acc
  | j, last, w :: ws, acc => match itemV y w with
    | none => .inr j
    | some i => if y.lim ≤ (j : Int) ∨ i.fst ≤ last then .inr j else readG y (j + 1) i.end ws (acc ++ [i])
def enumF : Nat → List Str → List T
  | _, [] => []
  | j, w :: ws => .tup [.int (j : Int), .str w] :: enumF (j + 1) ws
theorem enum_go : ∀ (ws : List Str) (j : Nat), (List.zipWith (fun (i : Nat) t => (T.int (i : Int), t)) (List.range' j ws.length) (ws.map T.str)).map (fun p => T.tup [p.1, p.2]) = enumF j ws
  | [], j => rfl
  | w :: ws, j => by
    rw [List.length_cons, List.range'_succ, List.map_cons, List.zipWith_cons_cons, List.map_cons, enum_go ws (j + 1)]
    rfl
theorem enumP_F (ws : List Str) : (enumP (ws.map T.str)).map (fun p => T.tup [p.1, p.2]) = enumF 0 ws := by
  rw [← enum_go ws 0]
  unfold enumP
  rw [List.length_map, List.range_eq_range']
/-! ### the law's reading -/
noncomputable def lawB (C : CallT) : Sv := (sSeq (sAsg (eCall C "_law_item" (lDef (lCons (eVar 0) (lCons (eVar 5) lNil)) [])) (gNm 6))
  (sSeq (sIf (bOr (bV (eBin oIsN (eVar 6) (eC .non))) (bV (eBin oGe (eVar 4) (eBin oIx (eLst (lCons (eC (.int 6)) (lCons (eC (.int 60)) (lCons (eC (.int 360)) lNil)))) (eVar 0))))) (sRet (eLst (lCons (eVar 4) lNil))) sNil)
  (sSeq (sIf (bAnd (bV (eBin oGt (eVar 0) (eC (.int 0)))) (bV (eBin oLe (eBin oIx (eVar 6) (eC (.int 0))) (eVar 3)))) (sRet (eLst (lCons (eVar 4) lNil))) sNil)
  (sSeq (sIf (bV (eBin oGt (eVar 0) (eC (.int 0)))) (sAsg (eIf (bV (eBin oEq (eVar 0) (eC (.int 1)))) (eBin oIx (eVar 6) (eC (.int 1))) (eBin oAdd (eBin oIx (eVar 6) (eC (.int 0))) (eBin oMulT (eBin oIx (eVar 6) (eC (.int 1))) (eBin oSub (eBin oIx (eVar 6) (eC (.int 2))) (eC (.int 1)))))) (gNm 3)) sNil)
  (sEx (eM "list" mAppend (eVar 2) (lCons (eVar 6) lNil)))))))
/-- a list with an index is handed out -/
def Bad (s0 : Sto) (j : Nat) : Fl → Prop
  | .rt t s' => ∃ m, t = .loc m ∧ s'.get m = some (.lst [.int (j : Int)]) ∧ s0.len ≤ m ∧ Gro s0 s'
  | _ => False
theorem law_turn {y : Way} {x1 x4 x6 : Option T} {w : Str} {F j : Nat} {last : Int} {acc : List It} {s0 : Sto} (h : Tz w) (hF : s.get F = some (.lst (acc.map encI))) (hl : acc.length ≤ 20000) (h0 : y = .w0 → last = -1) (g0 : Gro s0 s) (hF0 : s0.len ≤ F) :
    match itemV y w with
    | none => Bad s0 j (lawB (run pr (k + 3)) [some (.int y.n), x1, some (.loc F), some (.int last), some (.int (j : Int)), some (.str w), x6] s)
    | some i => if y.lim ≤ (j : Int) ∨ i.fst ≤ last then Bad s0 j (lawB (run pr (k + 3)) [some (.int y.n), x1, some (.loc F), some (.int last), some (.int (j : Int)), some (.str w), x6] s)
      else ∃ s', lawB (run pr (k + 3)) [some (.int y.n), x1, some (.loc F), some (.int last), some (.int (j : Int)), some (.str w), x6] s = .nx [some (.int y.n), x1, some (.loc F), some (.int i.end), some (.int (j : Int)), some (.str w), some (encI i)] s' ∧ s'.get F = some (.lst ((acc ++ [i]).map encI)) ∧ Gro s0 s' ∧ (∀ m o, m ≠ F → s.get m = some o → s'.get m = some o) := by
  have hit := item_ok (k := k) (s := s) (y := y) h
  have lF := lt_of_get hF
  have len0 := g0.len
  have lz : (acc.map encI).length < sizeLine := by rw [sizeLine_eq, List.length_map]; omega
  let s1 := s.add (.lst [.int 6, .int 60, .int 360])
  have hs1 : s.add (.lst [.int 6, .int 60, .int 360]) = s1 := rfl
  have g1 : s1.get s.len = some (.lst [.int 6, .int 60, .int 360]) := get_add
  have gF1 : s1.get F = some (.lst (acc.map encI)) := get_add_old hF
  let s2 := s1.add (.lst [.int (j : Int)])
  have hs2 : s1.add (.lst [.int (j : Int)]) = s2 := rfl
  have bad1 : Bad s0 j (.rt (.loc s.len) (s.add (.lst [.int (j : Int)]))) := ⟨_, rfl, get_add, len0, g0.trans Gro.add⟩
  have bad2 : Bad s0 j (.rt (.loc s1.len) s2) := ⟨_, rfl, get_add, by have : s1.len = s.len + 1 := len_add; omega, (g0.trans Gro.add).trans Gro.add⟩
  cases hv : itemV y w with
  | none =>
    rw [hv] at hit
    simp only
    have e : lawB (run pr (k + 3)) [some (.int y.n), x1, some (.loc F), some (.int last), some (.int (j : Int)), some (.str w), x6] s = .rt (.loc s.len) (s.add (.lst [.int (j : Int)])) := by
      unfold lawB
      simp_arith [hit, encO]
    rw [e]; exact bad1
  | some i =>
    rw [hv] at hit
    have oi := itemV_ok hv
    simp only
    have hiF : O.hi (.lst (acc.map encI ++ [encI i])) ≤ F := by
      have : T.his (acc.map encI ++ [encI i]) = 0 := by
        have := his_zero (enc := encI) encI_hi (acc ++ [i])
        rwa [List.map_append] at this
      show T.his _ ≤ F
      omega
    let s3 := s1.put F (.lst (acc.map encI ++ [encI i]))
    have hs3 : s1.put F (.lst (acc.map encI ++ [encI i])) = s3 := rfl
    have okk : s3.get F = some (.lst ((acc ++ [i]).map encI)) ∧ Gro s0 s3 ∧ (∀ m o, m ≠ F → s.get m = some o → s3.get m = some o) := by
      have l1 : s1.len = s.len + 1 := len_add
      refine ⟨?_, (g0.trans Gro.add).put hF0 hiF, fun m o hm hg => ?_⟩
      · rw [List.map_append]; exact get_put (by omega)
      · rw [show s3.get m = s1.get m from get_put_ne (fun e => hm e.symm)]; exact get_add_old hg
    cases y with
    | w0 =>
      cases i with
      | P q => exact oi.elim
      | R q => exact oi.elim
      | L q =>
        have hlast := h0 rfl
        subst hlast
        simp only [Way.n, encO, encI, encLo] at hit hs3
        by_cases c1 : (6 : Int) ≤ (j : Int)
        · rw [if_pos (.inl c1)]
          have e : lawB (run pr (k + 3)) [some (.int (Way.w0).n), x1, some (.loc F), some (.int (-1)), some (.int (j : Int)), some (.str w), x6] s = .rt (.loc s1.len) s2 := by
            unfold lawB
            simp_arith [Way.n, hit, hs1, g1, at0, c1, hs2]
          rw [e]; exact bad2
        · rw [if_neg (by simp only [It.fst, Way.lim]; omega)]
          refine ⟨s3, ?_, okk⟩
          unfold lawB
          simp_arith [Way.n, hit, hs1, g1, gF1, at0, c1, lz, hs3, It.end, encI, encLo]
    | w1 =>
      cases i with
      | L q => exact oi.elim
      | R q => exact oi.elim
      | P q =>
        simp only [Way.n, encO, encI, encPo] at hit hs3
        by_cases c1 : (60 : Int) ≤ (j : Int)
        · rw [if_pos (.inl c1)]
          have e : lawB (run pr (k + 3)) [some (.int (Way.w1).n), x1, some (.loc F), some (.int last), some (.int (j : Int)), some (.str w), x6] s = .rt (.loc s1.len) s2 := by
            unfold lawB
            simp_arith [Way.n, hit, hs1, g1, at1, c1, hs2]
          rw [e]; exact bad2
        · by_cases c2 : q.1 ≤ last
          · rw [if_pos (.inr c2)]
            have e : lawB (run pr (k + 3)) [some (.int (Way.w1).n), x1, some (.loc F), some (.int last), some (.int (j : Int)), some (.str w), x6] s = .rt (.loc s1.len) s2 := by
              unfold lawB
              simp_arith [Way.n, hit, hs1, g1, at0, at1, c1, c2, hs2]
            rw [e]; exact bad2
          · rw [if_neg (by simp only [It.fst, Way.lim]; omega)]
            refine ⟨s3, ?_, okk⟩
            unfold lawB
            simp_arith [Way.n, hit, hs1, g1, gF1, at0, at1, c1, c2, lz, hs3, It.end, encI, encPo]
    | w2 =>
      cases i with
      | L q => exact oi.elim
      | P q => exact oi.elim
      | R q =>
        simp only [Way.n, encO, encI, encRo] at hit hs3
        have oo := of_decide_eq_true oi
        have k1 : okN q.2.1 = true := okN_small (by omega) (by omega)
        have k2 : okN (q.2.2 - 1) = true := okN_small (by omega) (by omega)
        by_cases c1 : (360 : Int) ≤ (j : Int)
        · rw [if_pos (.inl c1)]
          have e : lawB (run pr (k + 3)) [some (.int (Way.w2).n), x1, some (.loc F), some (.int last), some (.int (j : Int)), some (.str w), x6] s = .rt (.loc s1.len) s2 := by
            unfold lawB
            simp_arith [Way.n, hit, hs1, g1, at2, c1, hs2]
          rw [e]; exact bad2
        · by_cases c2 : q.1 ≤ last
          · rw [if_pos (.inr c2)]
            have e : lawB (run pr (k + 3)) [some (.int (Way.w2).n), x1, some (.loc F), some (.int last), some (.int (j : Int)), some (.str w), x6] s = .rt (.loc s1.len) s2 := by
              unfold lawB
              simp_arith [Way.n, hit, hs1, g1, at0, at2, c1, c2, hs2]
            rw [e]; exact bad2
          · rw [if_neg (by simp only [It.fst, Way.lim]; omega)]
            refine ⟨s3, ?_, okk⟩
            unfold lawB
            simp_arith [Way.n, hit, hs1, g1, gF1, at0, at1, at2, c1, c2, k1, k2, lz, hs3, It.end, encI, encRo]
end
end K72

set_option maxRecDepth 100000
set_option maxHeartbeats 4000000
namespace K72
open PySem PySem.Spec PyProof.Rows L2 Fx
section
variable {k : Nat} {s : Sto}
theorem Gro.ext {ch : Nat → Prop} {s' : Sto} (g : Gro s s') (w : Wf s) : Ext ch s s' := by
  obtain ⟨os, rfl⟩ := g
  have w : s.kp ≤ s.os.length := w
  refine ⟨by simp [Sto.len], by show s.kp ≤ (s.os ++ os).length; rw [List.length_append]; omega, Nat.le_refl _, fun i hi _ => ?_⟩
  show (s.os ++ os)[i]? = s.os[i]?
  rw [List.getElem?_append_left hi]
theorem ev_enaL {l : Lv} {r : Fx.Env} {t : Sto} {n : Nat} {ts : List T} (h : l r s = .ok [.loc n] t) (g : t.get n = some (.lst ts)) : iEnA l r s = .ok ((enumP ts).map fun p => T.tup [p.1, p.2]) (chkL n ts) t := by
  unfold iEnA OutL.bndI
  rw [h]
  simp only [vv_lst_l, g, vv_lst_l1]
theorem bad_rt {s0 : Sto} {j : Nat} {o : Fl} {f : Fl → Fl} (h : Bad s0 j o) (hf : ∀ t s, f (.rt t s) = .rt t s) : Bad s0 j (f o) := by
  cases o with
  | rt t s' => rw [hf]; exact h
  | _ => exact h.elim
theorem law_loop {y : Way} {x1 : Option T} {F M : Nat} {Wt : List T} {s0 : Sto} (hF0 : s0.len ≤ F) (hFM : M ≠ F) : ∀ (ws : List Str) (j : Nat) (last : Int) (acc : List It) (s : Sto) (x4 x5 x6 : Option T), (∀ w ∈ ws, Tz w) → s.get F = some (.lst (acc.map encI)) → s.get M = some (.lst Wt) → acc.length + ws.length ≤ 20000 → (y = .w0 → last = -1) → Gro s0 s →
    match readG y j last ws acc with
    | .inl its => ∃ x3' x4' x5' x6' s', forL (chkL M Wt) (gTp 2 (gsCons (gNm 4) (gsCons (gNm 5) gsNil))) (lawB (run pr (k + 3))) (enumF j ws) [some (.int y.n), x1, some (.loc F), some (.int last), x4, x5, x6] s = .nx [some (.int y.n), x1, some (.loc F), x3', x4', x5', x6'] s' ∧ s'.get F = some (.lst (its.map encI)) ∧ Gro s0 s'
    | .inr m => Bad s0 m (forL (chkL M Wt) (gTp 2 (gsCons (gNm 4) (gsCons (gNm 5) gsNil))) (lawB (run pr (k + 3))) (enumF j ws) [some (.int y.n), x1, some (.loc F), some (.int last), x4, x5, x6] s)
  | [], j, last, acc, s, x4, x5, x6, hw, hF, hM, hl, h0, g0 => by
    have hk : chkL M Wt s = true := chkL_iff.mpr hM
    simp only [readG, enumF, forL, hk, if_true]
    exact ⟨_, _, _, _, s, rfl, hF, g0⟩
  | w :: ws, j, last, acc, s, x4, x5, x6, hw, hF, hM, hl, h0, g0 => by
    have hk : chkL M Wt s = true := chkL_iff.mpr hM
    simp only [List.length_cons] at hl
    have ht := law_turn (k := k) (y := y) (x1 := x1) (x4 := x4) (x6 := x6) (j := j) (hw w List.mem_cons_self) hF (by omega) h0 g0 hF0
    have eg : gTp 2 (gsCons (gNm 4) (gsCons (gNm 5) gsNil)) (T.tup [.int (j : Int), .str w]) [some (.int y.n), x1, some (.loc F), some (.int last), x4, x5, x6] s = .nx [some (.int y.n), x1, some (.loc F), some (.int last), some (.int (j : Int)), some (.str w), x6] s := rfl
    have hB : ∀ m, Bad s0 m (lawB (run pr (k + 3)) [some (.int y.n), x1, some (.loc F), some (.int last), some (.int (j : Int)), some (.str w), x6] s) → Bad s0 m (forL (chkL M Wt) (gTp 2 (gsCons (gNm 4) (gsCons (gNm 5) gsNil))) (lawB (run pr (k + 3))) (enumF j (w :: ws)) [some (.int y.n), x1, some (.loc F), some (.int last), x4, x5, x6] s) := by
      intro m h
      simp only [enumF, forL, hk, if_true, eg]
      revert h
      cases lawB (run pr (k + 3)) [some (.int y.n), x1, some (.loc F), some (.int last), some (.int (j : Int)), some (.str w), x6] s with
      | rt t s' => exact fun h => h
      | _ => exact fun h => h.elim
    unfold readG
    cases hv : itemV y w with
    | none =>
      rw [hv] at ht
      exact hB j ht
    | some i =>
      rw [hv] at ht
      simp only at ht ⊢
      by_cases hc : y.lim ≤ (j : Int) ∨ i.fst ≤ last
      · rw [if_pos hc] at ht ⊢
        exact hB j ht
      · rw [if_neg hc] at ht ⊢
        obtain ⟨s1, e1, e2, e3, e4⟩ := ht
        have oi := itemV_ok hv
        have ih := law_loop (y := y) (x1 := x1) hF0 hFM ws (j + 1) i.end (acc ++ [i]) s1 (some (.int (j : Int))) (some (.str w)) (some (encI i)) (fun x hx => hw x (List.mem_cons_of_mem _ hx)) e2 (e4 M _ hFM hM) (by rw [List.length_append]; simp only [List.length_cons, List.length_nil]; omega) (fun hy => by
          subst hy
          cases i with
          | L q => rfl
          | P q => exact oi.elim
          | R q => exact oi.elim) e3
        have ef : forL (chkL M Wt) (gTp 2 (gsCons (gNm 4) (gsCons (gNm 5) gsNil))) (lawB (run pr (k + 3))) (enumF j (w :: ws)) [some (.int y.n), x1, some (.loc F), some (.int last), x4, x5, x6] s = forL (chkL M Wt) (gTp 2 (gsCons (gNm 4) (gsCons (gNm 5) gsNil))) (lawB (run pr (k + 3))) (enumF (j + 1) ws) [some (.int y.n), x1, some (.loc F), some (.int i.end), some (.int (j : Int)), some (.str w), some (encI i)] s1 := by
          rw [enumF]
          simp only [forL, hk, if_true, eg, e1]
        rw [ef]
        exact ih
def wordsV (z : Str) : List Str := if z = "none" then [] else Txt.split z " "
def readV (y : Way) (z : Str) : List It ⊕ Nat := readG y 0 (-1) (wordsV z) []
theorem words_in {z : Str} (h : Tz z) : (∀ w ∈ wordsV z, Tz w) ∧ (wordsV z).length ≤ 10001 := by
  obtain ⟨p1, p2, p3, p4⟩ := split_ex one_tls.2.2.2.2 (by decide) h
  have := h.len
  unfold wordsV
  split
  · exact ⟨fun w hw => (by cases hw), by simp⟩
  · exact ⟨p2, by omega⟩
/-- what reading hands out -/
def RdOk (s s' : Sto) (t : T) : List It ⊕ Nat → Prop
  | .inl its => t = .tup (its.map encI)
  | .inr j => ∃ m, t = .loc m ∧ s'.get m = some (.lst [.int (j : Int)]) ∧ s.len ≤ m
theorem law_read_ok {y : Way} {z : Str} (h : Tz z) (w : Wf s) : ∃ t s', run pr (k + 4) "_law_read" [.int y.n, .str z] s = .ok t s' ∧ RdOk s s' t (readV y z) ∧ Ext No s s' := by
  obtain ⟨hw1, hw2⟩ := words_in h
  have sp := msplit (s := s.add (.lst [])) one_lens.2.2.2.2 h
  let s1 := s.add (.lst [])
  have hs1 : s.add (.lst []) = s1 := rfl
  let s2 := s1.add (.lst ((wordsV z).map T.str))
  have hs2 : s1.add (.lst ((wordsV z).map T.str)) = s2 := rfl
  have l1 : s1.len = s.len + 1 := len_add
  have gF : s2.get s.len = some (.lst (([] : List It).map encI)) := get_add_old get_add
  have gM : s2.get s1.len = some (.lst ((wordsV z).map T.str)) := get_add
  have lp := law_loop (k := k) (y := y) (x1 := some (.str z)) (F := s.len) (M := s1.len) (Wt := (wordsV z).map T.str) (s0 := s) (Nat.le_refl _) (by omega) (wordsV z) 0 (-1) [] s2 none none none hw1 gF gM (by simp only [List.length_nil]; omega) (fun _ => rfl) (Gro.add.trans Gro.add)
  have hI : ∀ r, iEnA (lCons (eIf (bV (eBin oEq (eVar 1) (eC (.str "none")))) (eLst lNil) (eM "str" mSplit (eVar 1) (lCons (eC (.str " ")) lNil))) lNil) (some (.int y.n) :: some (.str z) :: r) s1 = .ok ((enumP ((wordsV z).map T.str)).map fun p => T.tup [p.1, p.2]) (chkL s1.len ((wordsV z).map T.str)) s2 := by
    intro r
    refine ev_enaL ?_ gM
    by_cases hz : z = "none"
    · have hz' : (z = "none") = True := eq_true hz
      have e : wordsV z = [] := if_pos hz
      rw [e] at hs2
      simp only [List.map_nil] at hs2
      simp_arith [hz', hs2]
    · have e : wordsV z = Txt.split z " " := if_neg hz
      rw [e] at hs2
      rw [hs1] at sp
      simp_arith [hz, sp, hs2]
  have hB : b__law_read (run pr (k + 3)) = (sSeq (sPar 2 3 (lCons (eLst lNil) (lCons (eUn uNeg (eC (.int 1))) lNil)))
    (sSeq (sFor (iEnA (lCons (eIf (bV (eBin oEq (eVar 1) (eC (.str "none")))) (eLst lNil) (eM "str" mSplit (eVar 1) (lCons (eC (.str " ")) lNil))) lNil)) (gTp 2 (gsCons (gNm 4) (gsCons (gNm 5) gsNil))) (lawB (run pr (k + 3)))) (sRet (eB fTup (lCons (eVar 2) lNil))))) := rfl
  have e0 := hI [some (.loc s.len), some (.int (-1)), none, none, none]
  rw [enumP_F] at e0
  unfold readV
  cases hr : readG y 0 (-1) (wordsV z) [] with
  | inl its =>
    rw [hr] at lp
    obtain ⟨x3', x4', x5', x6', s', f1, f2, f3⟩ := lp
    have e : (b__law_read (run pr (k + 3)) [some (.int y.n), some (.str z), none, none, none, none, none] s).out = .ok (.tup (its.map encI)) s' := by
      rw [hB]
      simp_arith [hs1, e0, f1, f2]
    have hh : T.hi (.tup (its.map encI)) = 0 := his_zero (enc := encI) encI_hi its
    obtain ⟨sr, r1, r2, _⟩ := run_ext (k := k + 3) (ts := [.int y.n, .str z]) pr__law_read rfl w e (Gro.ext (ch := No) f3 w) (by rw [hh]; exact Nat.zero_le _)
    exact ⟨_, sr, r1, rfl, r2⟩
  | inr m =>
    rw [hr] at lp
    have lp' : Bad s m _ := lp
    generalize hO : forL (chkL s1.len ((wordsV z).map T.str)) (gTp 2 (gsCons (gNm 4) (gsCons (gNm 5) gsNil))) (lawB (run pr (k + 3))) (enumF 0 (wordsV z)) [some (.int y.n), some (.str z), some (.loc s.len), some (.int (-1)), none, none, none] s2 = O at lp'
    cases O with
    | rt t s' =>
      obtain ⟨n, rfl, g1, g2, g3⟩ := lp'
      have e : (b__law_read (run pr (k + 3)) [some (.int y.n), some (.str z), none, none, none, none, none] s).out = .ok (.loc n) s' := by
        rw [hB]
        simp_arith [hs1, e0, hO]
      have ln := lt_of_get g1
      obtain ⟨sr, r1, r2, r3, _⟩ := run_ext (k := k + 3) (ts := [.int y.n, .str z]) pr__law_read rfl w e (Gro.ext (ch := No) g3 w) (by show n + 1 ≤ _; omega)
      exact ⟨_, sr, r1, ⟨n, rfl, by rw [r3 _ (by show n < max s.len (n + 1); omega)]; exact g1, g2⟩, r2⟩
    | _ => exact lp'.elim
end
end K72

set_option maxRecDepth 100000
set_option maxHeartbeats 4000000
namespace K72
open PySem PySem.Spec PyProof.Rows L2 Fx
section
variable {k : Nat} {s : Sto}
/-! ### the program's parsers -/
def BadX (s0 : Sto) (t : T) : Fl → Prop
  | .ex x _ s' => x = ⟨"BadText", [("index", t)]⟩ ∧ Gro s0 s'
  | _ => False
/-- one turn of a parser -/
def PTurn (y : Way) (g : Gv) (B : Sv) (env : Int → Option T → Option T → Option T → Fx.Env) (F : Nat) (s0 : Sto) : Prop := ∀ (w : Str) (j : Nat) (last : Int) (acc : List It) (s : Sto) (a b c : Option T), Tz w → s.get F = some (.lst (acc.map encI)) → acc.length ≤ 20000 → (y = .w0 → last = -1) → Gro s0 s →
  ∃ r1, g (.tup [.int (j : Int), .str w]) (env last a b c) s = .nx r1 s ∧ (match itemV y w with
    | none => BadX s0 (.int (j : Int)) (B r1 s)
    | some i => if y.lim ≤ (j : Int) ∨ i.fst ≤ last then BadX s0 (.int (j : Int)) (B r1 s)
      else ∃ a' b' c' s', B r1 s = .nx (env i.end a' b' c') s' ∧ s'.get F = some (.lst ((acc ++ [i]).map encI)) ∧ Gro s0 s' ∧ (∀ m o, m ≠ F → s.get m = some o → s'.get m = some o))
theorem p_loop {y : Way} {g : Gv} {B : Sv} {env : Int → Option T → Option T → Option T → Fx.Env} {F M : Nat} {Wt : List T} {s0 : Sto} (P : PTurn y g B env F s0) (hFM : M ≠ F) : ∀ (ws : List Str) (j : Nat) (last : Int) (acc : List It) (s : Sto) (a b c : Option T), (∀ w ∈ ws, Tz w) → s.get F = some (.lst (acc.map encI)) → s.get M = some (.lst Wt) → acc.length + ws.length ≤ 20000 → (y = .w0 → last = -1) → Gro s0 s →
    match readG y j last ws acc with
    | .inl its => ∃ l' a' b' c' s', forL (chkL M Wt) g B (enumF j ws) (env last a b c) s = .nx (env l' a' b' c') s' ∧ s'.get F = some (.lst (its.map encI)) ∧ Gro s0 s'
    | .inr m => BadX s0 (.int (m : Int)) (forL (chkL M Wt) g B (enumF j ws) (env last a b c) s)
  | [], j, last, acc, s, a, b, c, hw, hF, hM, hl, h0, g0 => by
    have hk : chkL M Wt s = true := chkL_iff.mpr hM
    simp only [readG, enumF, forL, hk, if_true]
    exact ⟨last, a, b, c, s, rfl, hF, g0⟩
  | w :: ws, j, last, acc, s, a, b, c, hw, hF, hM, hl, h0, g0 => by
    have hk : chkL M Wt s = true := chkL_iff.mpr hM
    simp only [List.length_cons] at hl
    obtain ⟨r1, eg, ht⟩ := P w j last acc s a b c (hw w List.mem_cons_self) hF (by omega) h0 g0
    have hB : ∀ m, BadX s0 m (B r1 s) → BadX s0 m (forL (chkL M Wt) g B (enumF j (w :: ws)) (env last a b c) s) := by
      intro m h
      simp only [enumF, forL, hk, if_true, eg]
      revert h
      cases B r1 s with
      | ex x r s' => exact fun h => h
      | _ => exact fun h => h.elim
    unfold readG
    cases hv : itemV y w with
    | none =>
      rw [hv] at ht
      exact hB _ ht
    | some i =>
      rw [hv] at ht
      simp only at ht ⊢
      by_cases hc : y.lim ≤ (j : Int) ∨ i.fst ≤ last
      · rw [if_pos hc] at ht ⊢
        exact hB _ ht
      · rw [if_neg hc] at ht ⊢
        obtain ⟨a', b', c', s1, e1, e2, e3, e4⟩ := ht
        have oi := itemV_ok hv
        have ih := p_loop P hFM ws (j + 1) i.end (acc ++ [i]) s1 a' b' c' (fun x hx => hw x (List.mem_cons_of_mem _ hx)) e2 (e4 M _ hFM hM) (by rw [List.length_append]; simp only [List.length_cons, List.length_nil]; omega) (fun hy => by
          subst hy
          cases i with
          | L q => rfl
          | P q => exact oi.elim
          | R q => exact oi.elim) e3
        have ef : forL (chkL M Wt) g B (enumF j (w :: ws)) (env last a b c) s = forL (chkL M Wt) g B (enumF (j + 1) ws) (env i.end a' b' c') s1 := by
          rw [enumF]
          simp only [forL, hk, if_true, eg, e1]
        rw [ef]
        exact ih
theorem put_ok {F : Nat} {acc : List It} {i : It} {s0 : Sto} (hF : s.get F = some (.lst (acc.map encI))) (g0 : Gro s0 s) (hF0 : s0.len ≤ F) :
    (s.put F (.lst (acc.map encI ++ [encI i]))).get F = some (.lst ((acc ++ [i]).map encI)) ∧ Gro s0 (s.put F (.lst (acc.map encI ++ [encI i]))) ∧ (∀ m o, m ≠ F → s.get m = some o → (s.put F (.lst (acc.map encI ++ [encI i]))).get m = some o) := by
  have hiF : O.hi (.lst (acc.map encI ++ [encI i])) ≤ F := by
    have : T.his (acc.map encI ++ [encI i]) = 0 := by
      have := his_zero (enc := encI) encI_hi (acc ++ [i])
      rwa [List.map_append] at this
    show T.his _ ≤ F
    omega
  refine ⟨?_, g0.put hF0 hiF, fun m o hm hg => ?_⟩
  · rw [List.map_append]; exact get_put (lt_of_get hF)
  · rw [get_put_ne (fun e => hm e.symm)]; exact hg
noncomputable def pB0 (C : CallT) : Sv := (sSeq (sAsg (eCall C "read_lamp" (lDef (lCons (eVar 3) lNil) [])) (gNm 4))
  (sSeq (sIf (bOr (bV (eBin oIsN (eVar 4) (eC .non))) (bV (eBin oGe (eVar 2) (eC (.int 6))))) (sRaise "BadText" "index" (eVar 2)) sNil)
  (sEx (eM "list" mAppend (eVar 1) (lCons (eVar 4) lNil)))))
theorem pturn0 {x0 : Option T} {F : Nat} {s0 : Sto} (hF0 : s0.len ≤ F) : PTurn .w0 (gTp 2 (gsCons (gNm 2) (gsCons (gNm 3) gsNil))) (pB0 (run pr (k + 3))) (fun _ a b c => [x0, some (.loc F), a, b, c]) F s0 := by
  intro w j last acc s a b c hw hF hl h0 g0
  refine ⟨[x0, some (.loc F), some (.int (j : Int)), some (.str w), c], rfl, ?_⟩
  have hr := read_lamp_ok (k := k) (s := s) hw
  have lz : (acc.map encI).length < sizeLine := by rw [sizeLine_eq, List.length_map]; omega
  have hl1 := h0 rfl
  have ev : itemV .w0 w = (lampV w).map .L := rfl
  rw [ev]
  cases hv : lampV w with
  | none =>
    rw [hv] at hr
    simp only [Option.map_none]
    have e : pB0 (run pr (k + 3)) [x0, some (.loc F), some (.int (j : Int)), some (.str w), c] s = .ex ⟨"BadText", [("index", .int (j : Int))]⟩ [x0, some (.loc F), some (.int (j : Int)), some (.str w), some .non] s := by
      unfold pB0
      simp_arith [hr, encLo]
    rw [e]; exact ⟨rfl, g0⟩
  | some q =>
    rw [hv] at hr
    simp only [Option.map_some]
    simp only [encLo] at hr
    by_cases c1 : (6 : Int) ≤ (j : Int)
    · rw [if_pos (.inl c1)]
      have e : pB0 (run pr (k + 3)) [x0, some (.loc F), some (.int (j : Int)), some (.str w), c] s = .ex ⟨"BadText", [("index", .int (j : Int))]⟩ [x0, some (.loc F), some (.int (j : Int)), some (.str w), some (.tup [.str q.1, .int q.2])] s := by
        unfold pB0
        simp_arith [hr, c1]
      rw [e]; exact ⟨rfl, g0⟩
    · rw [if_neg (by simp only [It.fst, Way.lim]; omega)]
      refine ⟨some (.int (j : Int)), some (.str w), some (encI (.L q)), _, ?_, put_ok (i := .L q) hF g0 hF0⟩
      unfold pB0
      simp_arith [hr, c1, hF, lz, encI, encLo]
noncomputable def pB1 (C : CallT) : Sv := (sSeq (sAsg (eCall C "read_pair" (lDef (lCons (eVar 4) (lCons (eC (.str "-")) lNil)) [])) (gNm 5))
  (sSeq (sIf (bOr (bNot (bT (eCall C "is_stretch" (lDef (lCons (eVar 5) lNil) [])))) (bOr (bV (eBin oLe (eBin oIx (eVar 5) (eC (.int 0))) (eVar 2))) (bV (eBin oGe (eVar 3) (eC (.int 60)))))) (sRaise "BadText" "index" (eVar 3)) sNil)
  (sSeq (sEx (eM "list" mAppend (eVar 1) (lCons (eVar 5) lNil)))
  (sAsg (eBin oIx (eVar 5) (eC (.int 1))) (gNm 2)))))
theorem pturn1 {x0 : Option T} {F : Nat} {s0 : Sto} (hF0 : s0.len ≤ F) : PTurn .w1 (gTp 2 (gsCons (gNm 3) (gsCons (gNm 4) gsNil))) (pB1 (run pr (k + 3))) (fun l a b c => [x0, some (.loc F), some (.int l), a, b, c]) F s0 := by
  intro w j last acc s a b c hw hF hl h0 g0
  refine ⟨[x0, some (.loc F), some (.int last), some (.int (j : Int)), some (.str w), c], rfl, ?_⟩
  have hr := read_pair_ok (k := k + 1) (s := s) (sep := "-") one_tls.2.1 (by decide) hw
  have hs := is_stretch_ok (k := k + 1) (s := s) (o := pairV w "-")
  have lz : (acc.map encI).length < sizeLine := by rw [sizeLine_eq, List.length_map]; omega
  have ev : itemV .w1 w = (if okP (pairV w "-") = true then pairV w "-" else none).map .P := rfl
  rw [ev]
  cases ho : okP (pairV w "-") with
  | false =>
    rw [ho] at hs
    simp only [Bool.false_eq_true, if_false, Option.map_none]
    have e : pB1 (run pr (k + 3)) [x0, some (.loc F), some (.int last), some (.int (j : Int)), some (.str w), c] s = .ex ⟨"BadText", [("index", .int (j : Int))]⟩ [x0, some (.loc F), some (.int last), some (.int (j : Int)), some (.str w), some (encPo (pairV w "-"))] s := by
      unfold pB1
      simp_arith [hr, hs]
    rw [e]; exact ⟨rfl, g0⟩
  | true =>
    rw [ho] at hs
    simp only [if_true]
    cases hv : pairV w "-" with
    | none => rw [hv] at ho; cases ho
    | some q =>
      rw [hv] at hr hs
      simp only [Option.map_some]
      simp only [encPo] at hr hs
      by_cases c2 : q.1 ≤ last
      · rw [if_pos (.inr c2)]
        have e : pB1 (run pr (k + 3)) [x0, some (.loc F), some (.int last), some (.int (j : Int)), some (.str w), c] s = .ex ⟨"BadText", [("index", .int (j : Int))]⟩ [x0, some (.loc F), some (.int last), some (.int (j : Int)), some (.str w), some (.tup [.int q.1, .int q.2])] s := by
          unfold pB1
          simp_arith [hr, hs, at0, c2]
        rw [e]; exact ⟨rfl, g0⟩
      · by_cases c1 : (60 : Int) ≤ (j : Int)
        · rw [if_pos (.inl c1)]
          have e : pB1 (run pr (k + 3)) [x0, some (.loc F), some (.int last), some (.int (j : Int)), some (.str w), c] s = .ex ⟨"BadText", [("index", .int (j : Int))]⟩ [x0, some (.loc F), some (.int last), some (.int (j : Int)), some (.str w), some (.tup [.int q.1, .int q.2])] s := by
            unfold pB1
            simp_arith [hr, hs, at0, c1, c2]
          rw [e]; exact ⟨rfl, g0⟩
        · rw [if_neg (by simp only [It.fst, Way.lim]; omega)]
          refine ⟨some (.int (j : Int)), some (.str w), some (encI (.P q)), _, ?_, put_ok (i := .P q) hF g0 hF0⟩
          unfold pB1
          simp_arith [hr, hs, at0, at1, c1, c2, hF, lz, encI, encPo, It.end]
noncomputable def pB2 (C : CallT) : Sv := (sSeq (sAsg (eCall C "read_run" (lDef (lCons (eVar 4) lNil) [])) (gNm 5))
  (sSeq (sIf (bOr (bNot (bT (eCall C "is_run" (lDef (lCons (eVar 5) lNil) [])))) (bOr (bV (eBin oLe (eBin oIx (eVar 5) (eC (.int 0))) (eVar 2))) (bV (eBin oGe (eVar 3) (eC (.int 360)))))) (sRaise "BadText" "index" (eVar 3)) sNil)
  (sSeq (sEx (eM "list" mAppend (eVar 1) (lCons (eVar 5) lNil)))
  (sAsg (eCall C "end_of" (lDef (lCons (eVar 5) lNil) [])) (gNm 2)))))
theorem pturn2 {x0 : Option T} {F : Nat} {s0 : Sto} (hF0 : s0.len ≤ F) : PTurn .w2 (gTp 2 (gsCons (gNm 3) (gsCons (gNm 4) gsNil))) (pB2 (run pr (k + 3))) (fun l a b c => [x0, some (.loc F), some (.int l), a, b, c]) F s0 := by
  intro w j last acc s a b c hw hF hl h0 g0
  refine ⟨[x0, some (.loc F), some (.int last), some (.int (j : Int)), some (.str w), c], rfl, ?_⟩
  have hr := read_run_ok (k := k) (s := s) hw
  have hs := is_run_ok (k := k) (s := s) (o := readR w)
  have lz : (acc.map encI).length < sizeLine := by rw [sizeLine_eq, List.length_map]; omega
  have ev : itemV .w2 w = (if okR (readR w) = true then readR w else none).map .R := rfl
  rw [ev]
  cases ho : okR (readR w) with
  | false =>
    rw [ho] at hs
    simp only [Bool.false_eq_true, if_false, Option.map_none]
    have e : pB2 (run pr (k + 3)) [x0, some (.loc F), some (.int last), some (.int (j : Int)), some (.str w), c] s = .ex ⟨"BadText", [("index", .int (j : Int))]⟩ [x0, some (.loc F), some (.int last), some (.int (j : Int)), some (.str w), some (encRo (readR w))] s := by
      unfold pB2
      simp_arith [hr, hs]
    rw [e]; exact ⟨rfl, g0⟩
  | true =>
    rw [ho] at hs
    simp only [if_true]
    cases hv : readR w with
    | none => rw [hv] at ho; cases ho
    | some q =>
      rw [hv] at hr hs ho
      have oo := of_decide_eq_true ho
      simp only [Option.map_some]
      simp only [encRo] at hr hs
      by_cases c2 : q.1 ≤ last
      · rw [if_pos (.inr c2)]
        have e : pB2 (run pr (k + 3)) [x0, some (.loc F), some (.int last), some (.int (j : Int)), some (.str w), c] s = .ex ⟨"BadText", [("index", .int (j : Int))]⟩ [x0, some (.loc F), some (.int last), some (.int (j : Int)), some (.str w), some (.tup [.int q.1, .int q.2.1, .int q.2.2])] s := by
          unfold pB2
          simp_arith [hr, hs, at0, c2]
        rw [e]; exact ⟨rfl, g0⟩
      · by_cases c1 : (360 : Int) ≤ (j : Int)
        · rw [if_pos (.inl c1)]
          have e : pB2 (run pr (k + 3)) [x0, some (.loc F), some (.int last), some (.int (j : Int)), some (.str w), c] s = .ex ⟨"BadText", [("index", .int (j : Int))]⟩ [x0, some (.loc F), some (.int last), some (.int (j : Int)), some (.str w), some (.tup [.int q.1, .int q.2.1, .int q.2.2])] s := by
            unfold pB2
            simp_arith [hr, hs, at0, c1, c2]
          rw [e]; exact ⟨rfl, g0⟩
        · rw [if_neg (by simp only [It.fst, Way.lim]; omega)]
          have pk := put_ok (i := .R q) hF g0 hF0
          have eo := end_of_ok (k := k + 2) (s := s.put F (.lst (acc.map encI ++ [encI (.R q)]))) (f := q.1) (d := q.2.1) (c := q.2.2) (by omega) (by omega)
          refine ⟨some (.int (j : Int)), some (.str w), some (encI (.R q)), _, ?_, pk⟩
          simp only [encI, encRo] at eo
          unfold pB2
          simp_arith [hr, hs, at0, c1, c2, hF, lz, eo, encI, encRo, It.end]
end
end K72

set_option maxRecDepth 100000
set_option maxHeartbeats 4000000
namespace K72
open PySem PySem.Spec PyProof.Rows L2 Fx
section
variable {k : Nat} {s : Sto}
def bt (t : T) : Exn := ⟨"BadText", [("index", t)]⟩
theorem gc_exc {s' : Sto} {x : Exn} (g : Gro s s') (h : x.hi = 0) : gcR s.len s.kp (.exc x s') = .exc x s := by
  obtain ⟨os, rfl⟩ := g
  unfold gcR
  simp only [if_true, h]
  have e : (⟨s.os ++ os, s.kp⟩ : Sto).cut (max s.len 0) = s := by
    show (⟨(s.os ++ os).take (max s.os.length 0), s.kp⟩ : Sto) = s
    rw [Nat.max_eq_left (Nat.zero_le _), List.take_left]
  rw [e]
theorem bt_hi {t : T} (h : t.hi = 0) : (bt t).hi = 0 := by
  show T.his [t] = 0
  simp [T.his, h]
theorem words_of_ok {z : Str} (h : Tz z) : run pr (k + 1) "words_of" [.str z] s = .ok (.loc s.len) (s.add (.lst ((wordsV z).map T.str))) := by
  have sp := msplit (s := s) one_lens.2.2.2.2 h
  have e : (b_words_of (run pr k) [some (.str z)] s).out = .ok (.loc s.len) (s.add (.lst ((wordsV z).map T.str))) := by
    unfold b_words_of
    by_cases hz : z = "none"
    · have hz' : (z = "none") = True := eq_true hz
      have e : wordsV z = [] := if_pos hz
      rw [e]
      simp_arith [hz']
    · have e : wordsV z = Txt.split z " " := if_neg hz
      rw [e]
      simp_arith [hz, sp]
  have r := run_eq (p := pr) (k := k) (ts := [.str z]) (s := s) pr_words_of rfl
  rw [r]
  show gcR s.len s.kp (b_words_of (run pr k) [some (.str z)] s).out = _
  rw [e]
  unfold gcR
  simp only
  rw [if_pos (show (s.add _).kp = s.kp from rfl)]
  congr 1
  exact cut_self (by rw [len_add]; show _ ≤ max s.len (s.len + 1); omega)
theorem words_of_non {v : T} (h : fIsI [v, .ty "str"] s = some (.bl false, s)) : run pr (k + 1) "words_of" [v] s = .exc (bt .non) s := by
  have e : (b_words_of (run pr k) [some v] s).out = .exc (bt .non) s := by
    unfold b_words_of bt
    simp_arith [h]
  have r := run_eq (p := pr) (k := k) (ts := [v]) (s := s) pr_words_of rfl
  rw [r]
  show gcR s.len s.kp (b_words_of (run pr k) [some v] s).out = _
  rw [e]
  exact gc_exc Gro.refl (bt_hi rfl)
def resV (s : Sto) : List It ⊕ Nat → Out
  | .inl its => .ok (.tup (its.map encI)) s
  | .inr j => .exc (bt (.int (j : Int))) s
theorem iena_w {z : Str} (h : Tz z) {r : Fx.Env} : iEnA (lCons (eCall (run pr (k + 3)) "words_of" (lDef (lCons (eVar 0) lNil) [])) lNil) (some (.str z) :: r) s = .ok (enumF 0 (wordsV z)) (chkL s.len ((wordsV z).map T.str)) (s.add (.lst ((wordsV z).map T.str))) := by
  have hw := words_of_ok (k := k + 2) (s := s) h
  rw [← enumP_F]
  refine ev_enaL ?_ get_add
  simp_arith [hw]
theorem iena_non {v : T} {r : Fx.Env} (h : fIsI [v, .ty "str"] s = some (.bl false, s)) : iEnA (lCons (eCall (run pr (k + 3)) "words_of" (lDef (lCons (eVar 0) lNil) [])) lNil) (some v :: r) s = .exc (bt .non) s := by
  have hw := words_of_non (k := k + 2) h
  have e : (lCons (eCall (run pr (k + 3)) "words_of" (lDef (lCons (eVar 0) lNil) [])) lNil) (some v :: r) s = .exc (bt .non) s := by
    rw [ev_lcons, ev_call, ev_ldef, ev_lcons]
    simp -implicitDefEqProofs only [ev_var, ev_var1, ev_lcons1, ev_lnil, ev_lcons2, ev_ldef1, ev_call1, List.getElem?_cons_zero, List.append_nil, hw]
    rfl
  unfold iEnA OutL.bndI
  rw [e]
theorem for_exc {it : Iv} {g : Gv} {b : Sv} {r : Fx.Env} {x : Exn} {s' : Sto} (h : it r s = .exc x s') : sFor it g b r s = .ex x r s' := by unfold sFor; rw [h]
theorem parse0_ok {z : Str} (h : Tz z) : run pr (k + 4) "parse_lamps" [.str z] s = resV s (readV .w0 z) := by
  obtain ⟨hw1, hw2⟩ := words_in h
  let s1 := s.add (.lst [])
  have hs1 : s.add (.lst []) = s1 := rfl
  let s2 := s1.add (.lst ((wordsV z).map T.str))
  have l1 : s1.len = s.len + 1 := len_add
  have hs2 : s1.add (.lst ((wordsV z).map T.str)) = s2 := rfl
  have hI := iena_w (k := k) (s := s1) h (r := [some (.loc s.len), none, none, none])
  rw [hs2] at hI
  have lp := p_loop (pturn0 (k := k) (x0 := some (.str z)) (F := s.len) (s0 := s) (Nat.le_refl _)) (M := s1.len) (Wt := (wordsV z).map T.str) (by omega) (wordsV z) 0 (-1) [] s2 none none none hw1 (get_add_old get_add) get_add (by simp only [List.length_nil]; omega) (fun _ => rfl) (Gro.add.trans Gro.add)
  have r := run_eq (p := pr) (k := k + 3) (ts := [.str z]) (s := s) pr_parse_lamps rfl
  rw [r]
  show gcR s.len s.kp (b_parse_lamps (run pr (k + 3)) [some (.str z), none, none, none, none] s).out = _
  have hB : b_parse_lamps (run pr (k + 3)) = (sSeq (sAsg (eLst lNil) (gNm 1)) (sSeq (sFor (iEnA (lCons (eCall (run pr (k + 3)) "words_of" (lDef (lCons (eVar 0) lNil) [])) lNil)) (gTp 2 (gsCons (gNm 2) (gsCons (gNm 3) gsNil))) (pB0 (run pr (k + 3)))) (sRet (eB fTup (lCons (eVar 1) lNil))))) := rfl
  unfold readV
  cases hr : readG .w0 0 (-1) (wordsV z) [] with
  | inl its =>
    rw [hr] at lp
    dsimp only at lp
    obtain ⟨_, a', b', c', s', f1, f2, f3⟩ := lp
    have e : (b_parse_lamps (run pr (k + 3)) [some (.str z), none, none, none, none] s).out = .ok (.tup (its.map encI)) s' := by
      rw [hB]
      simp_arith [hs1, hI, f1, f2]
    rw [e]
    exact gc_gro f3 (by rw [show T.hi (.tup (its.map encI)) = 0 from his_zero (enc := encI) encI_hi its]; exact Nat.zero_le _)
  | inr m =>
    rw [hr] at lp
    dsimp only at lp
    have lp' := lp
    generalize hO : forL (chkL s1.len ((wordsV z).map T.str)) (gTp 2 (gsCons (gNm 2) (gsCons (gNm 3) gsNil))) (pB0 (run pr (k + 3))) (enumF 0 (wordsV z)) _ s2 = O at lp'
    cases O with
    | ex x r' s' =>
      obtain ⟨rfl, g⟩ := lp'
      have e : (b_parse_lamps (run pr (k + 3)) [some (.str z), none, none, none, none] s).out = .exc (bt (.int (m : Int))) s' := by
        rw [hB]
        simp_arith [hs1, hI, hO, bt]
      rw [e]
      exact gc_exc g (bt_hi rfl)
    | _ => exact lp'.elim
theorem parse1_ok {z : Str} (h : Tz z) : run pr (k + 4) "parse_log" [.str z] s = resV s (readV .w1 z) := by
  obtain ⟨hw1, hw2⟩ := words_in h
  let s1 := s.add (.lst [])
  have hs1 : s.add (.lst []) = s1 := rfl
  let s2 := s1.add (.lst ((wordsV z).map T.str))
  have l1 : s1.len = s.len + 1 := len_add
  have hs2 : s1.add (.lst ((wordsV z).map T.str)) = s2 := rfl
  have hI := iena_w (k := k) (s := s1) h (r := [some (.loc s.len), some (.int (-1)), none, none, none])
  rw [hs2] at hI
  have lp := p_loop (pturn1 (k := k) (x0 := some (.str z)) (F := s.len) (s0 := s) (Nat.le_refl _)) (M := s1.len) (Wt := (wordsV z).map T.str) (by omega) (wordsV z) 0 (-1) [] s2 none none none hw1 (get_add_old get_add) get_add (by simp only [List.length_nil]; omega) (fun _ => rfl) (Gro.add.trans Gro.add)
  have r := run_eq (p := pr) (k := k + 3) (ts := [.str z]) (s := s) pr_parse_log rfl
  rw [r]
  show gcR s.len s.kp (b_parse_log (run pr (k + 3)) [some (.str z), none, none, none, none, none] s).out = _
  have hB : b_parse_log (run pr (k + 3)) = (sSeq (sPar 1 2 (lCons (eLst lNil) (lCons (eUn uNeg (eC (.int 1))) lNil))) (sSeq (sFor (iEnA (lCons (eCall (run pr (k + 3)) "words_of" (lDef (lCons (eVar 0) lNil) [])) lNil)) (gTp 2 (gsCons (gNm 3) (gsCons (gNm 4) gsNil))) (pB1 (run pr (k + 3)))) (sRet (eB fTup (lCons (eVar 1) lNil))))) := rfl
  unfold readV
  cases hr : readG .w1 0 (-1) (wordsV z) [] with
  | inl its =>
    rw [hr] at lp
    dsimp only at lp
    obtain ⟨_, a', b', c', s', f1, f2, f3⟩ := lp
    have e : (b_parse_log (run pr (k + 3)) [some (.str z), none, none, none, none, none] s).out = .ok (.tup (its.map encI)) s' := by
      rw [hB]
      simp_arith [hs1, hI, f1, f2]
    rw [e]
    exact gc_gro f3 (by rw [show T.hi (.tup (its.map encI)) = 0 from his_zero (enc := encI) encI_hi its]; exact Nat.zero_le _)
  | inr m =>
    rw [hr] at lp
    dsimp only at lp
    have lp' := lp
    generalize hO : forL (chkL s1.len ((wordsV z).map T.str)) (gTp 2 (gsCons (gNm 3) (gsCons (gNm 4) gsNil))) (pB1 (run pr (k + 3))) (enumF 0 (wordsV z)) _ s2 = O at lp'
    cases O with
    | ex x r' s' =>
      obtain ⟨rfl, g⟩ := lp'
      have e : (b_parse_log (run pr (k + 3)) [some (.str z), none, none, none, none, none] s).out = .exc (bt (.int (m : Int))) s' := by
        rw [hB]
        simp_arith [hs1, hI, hO, bt]
      rw [e]
      exact gc_exc g (bt_hi rfl)
    | _ => exact lp'.elim
theorem parse2_ok {z : Str} (h : Tz z) : run pr (k + 4) "parse_motions" [.str z] s = resV s (readV .w2 z) := by
  obtain ⟨hw1, hw2⟩ := words_in h
  let s1 := s.add (.lst [])
  have hs1 : s.add (.lst []) = s1 := rfl
  let s2 := s1.add (.lst ((wordsV z).map T.str))
  have l1 : s1.len = s.len + 1 := len_add
  have hs2 : s1.add (.lst ((wordsV z).map T.str)) = s2 := rfl
  have hI := iena_w (k := k) (s := s1) h (r := [some (.loc s.len), some (.int (-1)), none, none, none])
  rw [hs2] at hI
  have lp := p_loop (pturn2 (k := k) (x0 := some (.str z)) (F := s.len) (s0 := s) (Nat.le_refl _)) (M := s1.len) (Wt := (wordsV z).map T.str) (by omega) (wordsV z) 0 (-1) [] s2 none none none hw1 (get_add_old get_add) get_add (by simp only [List.length_nil]; omega) (fun _ => rfl) (Gro.add.trans Gro.add)
  have r := run_eq (p := pr) (k := k + 3) (ts := [.str z]) (s := s) pr_parse_motions rfl
  rw [r]
  show gcR s.len s.kp (b_parse_motions (run pr (k + 3)) [some (.str z), none, none, none, none, none] s).out = _
  have hB : b_parse_motions (run pr (k + 3)) = (sSeq (sPar 1 2 (lCons (eLst lNil) (lCons (eUn uNeg (eC (.int 1))) lNil))) (sSeq (sFor (iEnA (lCons (eCall (run pr (k + 3)) "words_of" (lDef (lCons (eVar 0) lNil) [])) lNil)) (gTp 2 (gsCons (gNm 3) (gsCons (gNm 4) gsNil))) (pB2 (run pr (k + 3)))) (sRet (eB fTup (lCons (eVar 1) lNil))))) := rfl
  unfold readV
  cases hr : readG .w2 0 (-1) (wordsV z) [] with
  | inl its =>
    rw [hr] at lp
    dsimp only at lp
    obtain ⟨_, a', b', c', s', f1, f2, f3⟩ := lp
    have e : (b_parse_motions (run pr (k + 3)) [some (.str z), none, none, none, none, none] s).out = .ok (.tup (its.map encI)) s' := by
      rw [hB]
      simp_arith [hs1, hI, f1, f2]
    rw [e]
    exact gc_gro f3 (by rw [show T.hi (.tup (its.map encI)) = 0 from his_zero (enc := encI) encI_hi its]; exact Nat.zero_le _)
  | inr m =>
    rw [hr] at lp
    dsimp only at lp
    have lp' := lp
    generalize hO : forL (chkL s1.len ((wordsV z).map T.str)) (gTp 2 (gsCons (gNm 3) (gsCons (gNm 4) gsNil))) (pB2 (run pr (k + 3))) (enumF 0 (wordsV z)) _ s2 = O at lp'
    cases O with
    | ex x r' s' =>
      obtain ⟨rfl, g⟩ := lp'
      have e : (b_parse_motions (run pr (k + 3)) [some (.str z), none, none, none, none, none] s).out = .exc (bt (.int (m : Int))) s' := by
        rw [hB]
        simp_arith [hs1, hI, hO, bt]
      rw [e]
      exact gc_exc g (bt_hi rfl)
    | _ => exact lp'.elim
/-- a value that is no text -/
def NonStr (s : Sto) (v : T) : Prop := v = .non ∨ (∃ i, v = .int i) ∨ (∃ b, v = .bl b) ∨ (∃ ts, v = .tup ts) ∨ (∃ n ts, v = .loc n ∧ s.get n = some (.lst ts)) ∨ ∃ n kvs, v = .loc n ∧ s.get n = some (.dct kvs)
theorem NonStr.keep {ch : Nat → Prop} {v : T} {s' : Sto} (h : NonStr s v) (x : Ext ch s s') (hc : ∀ n, v = .loc n → ¬ ch n) : NonStr s' v := by
  rcases h with h | h | h | h | ⟨n, ts, rfl, g⟩ | ⟨n, kvs, rfl, g⟩
  · exact .inl h
  · exact .inr (.inl h)
  · exact .inr (.inr (.inl h))
  · exact .inr (.inr (.inr (.inl h)))
  · exact .inr (.inr (.inr (.inr (.inl ⟨n, ts, rfl, x.old g (hc n rfl)⟩))))
  · exact .inr (.inr (.inr (.inr (.inr ⟨n, kvs, rfl, x.old g (hc n rfl)⟩))))
theorem NonStr.fis {v : T} (h : NonStr s v) : fIsI [v, .ty "str"] s = some (.bl false, s) := by
  rcases h with rfl | ⟨i, rfl⟩ | ⟨b, rfl⟩ | ⟨ts, rfl⟩ | ⟨n, ts, rfl, g⟩ | ⟨n, kvs, rfl, g⟩
  · rfl
  · rfl
  · rfl
  · rfl
  · unfold fIsI tyOf
    simp only [g]
    rw [if_pos (by decide +kernel)]
    congr 3
  · unfold fIsI tyOf
    simp only [g]
    rw [if_pos (by decide +kernel)]
    congr 3
end
end K72

set_option maxRecDepth 100000
set_option maxHeartbeats 4000000
namespace K72
open PySem PySem.Spec PyProof.Rows L2 Fx
section
variable {k : Nat} {s : Sto}
theorem try_nx {b : Sv} {i : Nat} {sel : String → Option Bool} {su : Exn → Sv} {r r1 : Fx.Env} {s1 : Sto} (h : b r s = .nx r1 s1) : sTryAs b i sel su r s = .nx r1 s1 := by unfold sTryAs; rw [h]
theorem try_ex {b : Sv} {i : Nat} {sel : String → Option Bool} {su : Exn → Sv} {r r1 r2 : Fx.Env} {s1 s2 : Sto} {x : Exn} (h : b r s = .ex x r1 s1) (hs : sel x.cls = some true) (hi : i < r1.length) (h2 : su x (r1.set i none) s1 = .nx r2 s2) : sTryAs b i sel su r s = .nx (r2.set i none) s2 := by
  unfold sTryAs
  rw [h]
  simp only [hs, hi, if_true, h2]
noncomputable def tryB (C : CallT) : Sv := (sIf (bV (eBin oEq (eVar 0) (eC (.int 0)))) (sAsg (eCall C "parse_lamps" (lDef (lCons (eVar 1) lNil) [])) (gNm 2)) (sAsg (eIf (bV (eBin oEq (eVar 0) (eC (.int 1)))) (eCall C "parse_log" (lDef (lCons (eVar 1) lNil) [])) (eCall C "parse_motions" (lDef (lCons (eVar 1) lNil) []))) (gNm 2)))
noncomputable def tryS (yx : Exn) : Sv := (sSeq (sAsg (eAnd (eIsX (isT xl) yx (eC (.ty "ValueError"))) (eNot (eIsX (isT xl) yx (eTup (lCons (eC (.glo "BadLamp")) (lCons (eC (.glo "BadLog")) (lCons (eC (.glo "BadMotions")) (lCons (eC (.glo "NoIndex")) lNil)))))))) (gNm 4))
  (sAsg (eIf (bAnd (bT (eVar 4)) (bT (eIsX (isT xl) yx (eC (.glo "BadText"))))) (eLst (lCons (eXf (isT xl) yx "index") lNil)) (eC (.str "other"))) (gNm 2)))
theorem isx1 {r : Fx.Env} {t : T} : eIsX (isT xl) (bt t) (eC (.ty "ValueError")) r s = .ok (.bl true) s := by
  unfold eIsX
  rw [ev_c]
  have e : isxV (isT xl) (bt t).cls (.ty "ValueError") = some true := by show isxV (isT xl) "BadText" (.ty "ValueError") = some true; decide +kernel
  simp only [Out.bnd, e]
theorem isx2 {r : Fx.Env} {t : T} : eIsX (isT xl) (bt t) (eTup (lCons (eC (.glo "BadLamp")) (lCons (eC (.glo "BadLog")) (lCons (eC (.glo "BadMotions")) (lCons (eC (.glo "NoIndex")) lNil))))) r s = .ok (.bl false) s := by
  unfold eIsX
  have e0 : eTup (lCons (eC (.glo "BadLamp")) (lCons (eC (.glo "BadLog")) (lCons (eC (.glo "BadMotions")) (lCons (eC (.glo "NoIndex")) lNil)))) r s = .ok (.tup [.glo "BadLamp", .glo "BadLog", .glo "BadMotions", .glo "NoIndex"]) s := by simp_arith [eq_self]
  rw [e0]
  have e : isxV (isT xl) (bt t).cls (.tup [.glo "BadLamp", .glo "BadLog", .glo "BadMotions", .glo "NoIndex"]) = some false := by show isxV (isT xl) "BadText" _ = some false; decide +kernel
  simp only [Out.bnd, e]
theorem isx3 {r : Fx.Env} {t : T} : eIsX (isT xl) (bt t) (eC (.glo "BadText")) r s = .ok (.bl true) s := by
  unfold eIsX
  rw [ev_c]
  have e : isxV (isT xl) (bt t).cls (.glo "BadText") = some true := by show isxV (isT xl) "BadText" (.glo "BadText") = some true; decide +kernel
  simp only [Out.bnd, e]
theorem isxf {r : Fx.Env} {t : T} : eXf (isT xl) (bt t) "index" r s = .ok t s := by
  unfold eXf
  have e : (isT xl).fld (bt t).cls "index" = true := by show (isT xl).fld "BadText" "index" = true; decide +kernel
  rw [if_pos e]
  have e2 : (bt t).fs.lookup "index" = some t := by simp [bt, List.lookup]
  rw [e2]
theorem sel_bt {t : T} : exmT xl "LampError" (bt t).cls = some true := by
  show exmT xl "LampError" "BadText" = some true
  decide +kernel
theorem told_body {y : T} {v t : T} {s1 : Sto} {F : Sv} (hF : F = tryB (run pr (k + 4))) (h : ∀ r, F (some y :: some v :: some .non :: r) s = .ex (bt t) (some y :: some v :: some .non :: r) s) (hR : (b__law_told (run pr (k + 4)) [some y, some v, none, none, none] s).out = (sSeq (sAsg (eC .non) (gNm 2)) (sSeq (sTryAs F 3 (exmT xl "LampError") tryS) (sRet (eVar 2))) [some y, some v, none, none, none] s).out) :
    (b__law_told (run pr (k + 4)) [some y, some v, none, none, none] s).out = .ok (.loc s.len) (s.add (.lst [t])) := by
  have e2 : tryS (bt t) ([some y, some v, some .non, none, none].set 3 none) s = .nx [some y, some v, some (.loc s.len), none, some (.bl true)] (s.add (.lst [t])) := by
    unfold tryS
    simp_arith [isx1, isx2, isx3, isxf]
  have e3 := try_ex (i := 3) (sel := exmT xl "LampError") (su := tryS) (h [none, none]) sel_bt (by simp) e2
  rw [hR]
  simp_arith [e3]
def nameP : Way → String
  | .w0 => "parse_lamps" | .w1 => "parse_log" | .w2 => "parse_motions"
theorem parse_ok {y : Way} {z : Str} (h : Tz z) : run pr (k + 4) (nameP y) [.str z] s = resV s (readV y z) := by
  cases y with
  | w0 => exact parse0_ok h
  | w1 => exact parse1_ok h
  | w2 => exact parse2_ok h
theorem parse_non {y : Way} {v : T} (h : NonStr s v) (h1 : NonStr (s.add (.lst [])) v) : run pr (k + 4) (nameP y) [v] s = .exc (bt .non) s := by
  have f1 : ∀ {r : Fx.Env}, iEnA (lCons (eCall (run pr (k + 3)) "words_of" (lDef (lCons (eVar 0) lNil) [])) lNil) (some v :: r) (s.add (.lst [])) = .exc (bt .non) (s.add (.lst [])) := iena_non (k := k) (s := s.add (.lst [])) h1.fis
  cases y with
  | w0 =>
    have r := run_eq (p := pr) (k := k + 3) (ts := [v]) (s := s) pr_parse_lamps rfl
    show run pr (k + 4) "parse_lamps" [v] s = _
    rw [r]
    show gcR s.len s.kp (b_parse_lamps (run pr (k + 3)) [some v, none, none, none, none] s).out = _
    have e : (b_parse_lamps (run pr (k + 3)) [some v, none, none, none, none] s).out = .exc (bt .non) (s.add (.lst [])) := by
      have f2 := for_exc (g := gTp 2 (gsCons (gNm 2) (gsCons (gNm 3) gsNil))) (b := pB0 (run pr (k + 3))) (f1 (r := [some (.loc s.len), none, none, none]))
      have hB : b_parse_lamps (run pr (k + 3)) = (sSeq (sAsg (eLst lNil) (gNm 1)) (sSeq (sFor (iEnA (lCons (eCall (run pr (k + 3)) "words_of" (lDef (lCons (eVar 0) lNil) [])) lNil)) (gTp 2 (gsCons (gNm 2) (gsCons (gNm 3) gsNil))) (pB0 (run pr (k + 3)))) (sRet (eB fTup (lCons (eVar 1) lNil))))) := rfl
      rw [hB]
      simp_arith [f2]
    rw [e]; exact gc_exc Gro.add (bt_hi rfl)
  | w1 =>
    have r := run_eq (p := pr) (k := k + 3) (ts := [v]) (s := s) pr_parse_log rfl
    show run pr (k + 4) "parse_log" [v] s = _
    rw [r]
    show gcR s.len s.kp (b_parse_log (run pr (k + 3)) [some v, none, none, none, none, none] s).out = _
    have e : (b_parse_log (run pr (k + 3)) [some v, none, none, none, none, none] s).out = .exc (bt .non) (s.add (.lst [])) := by
      have f2 := for_exc (g := gTp 2 (gsCons (gNm 3) (gsCons (gNm 4) gsNil))) (b := pB1 (run pr (k + 3))) (f1 (r := [some (.loc s.len), some (.int (-1)), none, none, none]))
      have hB : b_parse_log (run pr (k + 3)) = (sSeq (sPar 1 2 (lCons (eLst lNil) (lCons (eUn uNeg (eC (.int 1))) lNil))) (sSeq (sFor (iEnA (lCons (eCall (run pr (k + 3)) "words_of" (lDef (lCons (eVar 0) lNil) [])) lNil)) (gTp 2 (gsCons (gNm 3) (gsCons (gNm 4) gsNil))) (pB1 (run pr (k + 3)))) (sRet (eB fTup (lCons (eVar 1) lNil))))) := rfl
      rw [hB]
      simp_arith [f2]
    rw [e]; exact gc_exc Gro.add (bt_hi rfl)
  | w2 =>
    have r := run_eq (p := pr) (k := k + 3) (ts := [v]) (s := s) pr_parse_motions rfl
    show run pr (k + 4) "parse_motions" [v] s = _
    rw [r]
    show gcR s.len s.kp (b_parse_motions (run pr (k + 3)) [some v, none, none, none, none, none] s).out = _
    have e : (b_parse_motions (run pr (k + 3)) [some v, none, none, none, none, none] s).out = .exc (bt .non) (s.add (.lst [])) := by
      have f2 := for_exc (g := gTp 2 (gsCons (gNm 3) (gsCons (gNm 4) gsNil))) (b := pB2 (run pr (k + 3))) (f1 (r := [some (.loc s.len), some (.int (-1)), none, none, none]))
      have hB : b_parse_motions (run pr (k + 3)) = (sSeq (sPar 1 2 (lCons (eLst lNil) (lCons (eUn uNeg (eC (.int 1))) lNil))) (sSeq (sFor (iEnA (lCons (eCall (run pr (k + 3)) "words_of" (lDef (lCons (eVar 0) lNil) [])) lNil)) (gTp 2 (gsCons (gNm 3) (gsCons (gNm 4) gsNil))) (pB2 (run pr (k + 3)))) (sRet (eB fTup (lCons (eVar 1) lNil))))) := rfl
      rw [hB]
      simp_arith [f2]
    rw [e]; exact gc_exc Gro.add (bt_hi rfl)
theorem told_code {y : Way} {v : T} : (b__law_told (run pr (k + 4)) [some (.int y.n), some v, none, none, none] s).out = (sSeq (sAsg (eC .non) (gNm 2)) (sSeq (sTryAs (tryB (run pr (k + 4))) 3 (exmT xl "LampError") tryS) (sRet (eVar 2))) [some (.int y.n), some v, none, none, none] s).out := rfl
theorem tryB_ok {y : Way} {v t : T} {s1 : Sto} (h : run pr (k + 4) (nameP y) [v] s = .ok t s1) (r : Fx.Env) : tryB (run pr (k + 4)) (some (.int y.n) :: some v :: some .non :: r) s = .nx (some (.int y.n) :: some v :: some t :: r) s1 := by
  unfold tryB
  cases y with
  | w0 => simp only [nameP] at h; simp_arith [Way.n, h]
  | w1 => simp only [nameP] at h; simp_arith [Way.n, h]
  | w2 => simp only [nameP] at h; simp_arith [Way.n, h]
theorem asg_exc {a : Ev} {g : Gv} {r : Fx.Env} {x : Exn} {s1 : Sto} (h : a r s = .exc x s1) : sAsg a g r s = .ex x r s1 := by unfold sAsg Out.bndS; rw [h]
theorem call_exc {C : CallT} {f : String} {l : Lv} {ts : List T} {r : Fx.Env} {x : Exn} {s1 s2 : Sto} (h : l r s = .ok ts s1) (h2 : C f ts s1 = .exc x s2) : eCall C f l r s = .exc x s2 := by unfold eCall OutL.bnd; rw [h]; exact h2
theorem tryB_ex {y : Way} {v : T} {x : Exn} {s1 : Sto} (h : run pr (k + 4) (nameP y) [v] s = .exc x s1) (r : Fx.Env) : tryB (run pr (k + 4)) (some (.int y.n) :: some v :: some .non :: r) s = .ex x (some (.int y.n) :: some v :: some .non :: r) s1 := by
  have l : (lDef (lCons (eVar 1) lNil) []) (some (.int y.n) :: some v :: some .non :: r) s = .ok [v] s := by simp_arith [eq_self]
  unfold tryB
  cases y with
  | w0 =>
    have e := asg_exc (g := gNm 2) (call_exc l h)
    simp only [nameP] at e
    simp -implicitDefEqProofs only [Way.n, ev_sif, ev_bv, ev_bin, ev_var, ev_var1, List.getElem?_cons_zero, ev_bin1, ev_c, ev_bin2, vv_oEq, ev_vout, ev_bv1, eq_self, decide_true, ev_sif1t] at e ⊢
    exact e
  | w1 =>
    have e0 := call_exc l h
    simp only [nameP] at e0
    have e : eIf (bV (eBin oEq (eVar 0) (eC (.int 1)))) (eCall (run pr (k + 4)) "parse_log" (lDef (lCons (eVar 1) lNil) [])) (eCall (run pr (k + 4)) "parse_motions" (lDef (lCons (eVar 1) lNil) [])) (some (.int (Way.w1).n) :: some v :: some .non :: r) s = .exc x s1 := by
      rw [ev_if]
      have c : bV (eBin oEq (eVar 0) (eC (.int 1))) (some (.int (Way.w1).n) :: some v :: some .non :: r) s = .ok true s := by simp_arith [Way.n]
      rw [c, ev_if1t]
      exact e0
    have c : bV (eBin oEq (eVar 0) (eC (.int 0))) (some (.int (Way.w1).n) :: some v :: some .non :: r) s = .ok false s := by simp_arith [Way.n]
    rw [ev_sif, c, ev_sif1f]
    exact asg_exc e
  | w2 =>
    have e0 := call_exc l h
    simp only [nameP] at e0
    have e : eIf (bV (eBin oEq (eVar 0) (eC (.int 1)))) (eCall (run pr (k + 4)) "parse_log" (lDef (lCons (eVar 1) lNil) [])) (eCall (run pr (k + 4)) "parse_motions" (lDef (lCons (eVar 1) lNil) [])) (some (.int (Way.w2).n) :: some v :: some .non :: r) s = .exc x s1 := by
      rw [ev_if]
      have c : bV (eBin oEq (eVar 0) (eC (.int 1))) (some (.int (Way.w2).n) :: some v :: some .non :: r) s = .ok false s := by simp_arith [Way.n]
      rw [c, ev_if1f]
      exact e0
    have c : bV (eBin oEq (eVar 0) (eC (.int 0))) (some (.int (Way.w2).n) :: some v :: some .non :: r) s = .ok false s := by simp_arith [Way.n]
    rw [ev_sif, c, ev_sif1f]
    exact asg_exc e
theorem told_loc {y : Way} {v t : T} (h : run pr (k + 4) (nameP y) [v] s = .exc (bt t) s) (ht : t.hi = 0) : run pr (k + 5) "_law_told" [.int y.n, v] s = .ok (.loc s.len) (s.add (.lst [t])) := by
  have e := told_body (k := k) (s := s) (s1 := s) (y := .int y.n) (v := v) (t := t) rfl (fun r => tryB_ex h r) told_code
  have r := run_eq (p := pr) (k := k + 4) (ts := [.int y.n, v]) (s := s) pr__law_told rfl
  rw [r]
  show gcR s.len s.kp (b__law_told (run pr (k + 4)) [some (.int y.n), some v, none, none, none] s).out = _
  rw [e]
  unfold gcR
  simp only
  rw [if_pos (show (s.add _).kp = s.kp from rfl)]
  congr 1
  exact cut_self (by rw [len_add]; show _ ≤ max s.len (s.len + 1); omega)
theorem told_ok {y : Way} {z : Str} (h : Tz z) (w : Wf s) : ∃ t s', run pr (k + 5) "_law_told" [.int y.n, .str z] s = .ok t s' ∧ RdOk s s' t (readV y z) ∧ Ext No s s' := by
  have hp := parse_ok (k := k) (s := s) (y := y) h
  cases hr : readV y z with
  | inl its =>
    rw [hr] at hp
    have e := try_nx (i := 3) (sel := exmT xl "LampError") (su := tryS) (tryB_ok (k := k) (y := y) (s := s) hp [none, none])
    have e2 : (b__law_told (run pr (k + 4)) [some (.int y.n), some (.str z), none, none, none] s).out = .ok (.tup (its.map encI)) s := by
      rw [told_code]
      simp_arith [e]
    exact ⟨_, s, run_pure (k := k + 4) (ts := [.int y.n, .str z]) pr__law_told rfl e2, rfl, Ext.refl w⟩
  | inr j =>
    rw [hr] at hp
    exact ⟨_, _, told_loc hp rfl, ⟨s.len, rfl, get_add, Nat.le_refl _⟩, (Ext.refl w).add⟩
theorem told_non {y : Way} {v : T} (h : NonStr s v) (w : Wf s) : ∃ s', run pr (k + 5) "_law_told" [.int y.n, v] s = .ok (.loc s.len) s' ∧ s'.get s.len = some (.lst [.non]) ∧ Ext No s s' :=
  ⟨_, told_loc (parse_non h (h.keep (Ext.refl w : Ext No s s).add fun _ _ c => c)) rfl, get_add, (Ext.refl w).add⟩
end
end K72

set_option maxRecDepth 100000
set_option maxHeartbeats 4000000
namespace K72
open PySem PySem.Spec PyProof.Rows L2 Fx
section
variable {d n k : Nat} {s : Sto}
/-! ### texts joined -/
theorem strs_self (ps : List Str) : strs? (ps.map T.str) = some ps := by
  have e := strs_map (f := fun z : Str => z) ps
  simp only [List.map_id'] at e
  exact e
/-- short, and made of signs -/
structure Lz (B : Nat) (z : Str) : Prop where
  len : z.length ≤ B
  okc : Okc z
theorem Lz.tz {B : Nat} {z : Str} (h : Lz B z) (hB : B ≤ 10000) : Tz z := ⟨Nat.le_trans h.len hB, h.okc⟩
theorem Lz.mono {B C : Nat} {z : Str} (h : Lz B z) (hB : B ≤ C) : Lz C z := ⟨Nat.le_trans h.len hB, h.okc⟩
theorem Lz.app {B C : Nat} {x y : Str} (h : Lz B x) (h2 : Lz C y) : Lz (B + C) (x ++ y) := by
  refine ⟨?_, fun c hc => ?_⟩
  · have := h.len; have := h2.len
    rw [len_app]; omega
  · rw [tl_app] at hc
    rcases List.mem_append.mp hc with hc | hc
    · exact h.okc c hc
    · exact h2.okc c hc
theorem Lz.cut {B : Nat} {z : Str} (h : Lz B z) (lo hi : Option Int) : Lz B (cutS z lo hi) := by
  have e : TL.tl (cutS z lo hi) = ((TL.tl z).drop (HT.sIx z.length 0 lo)).take (HT.sIx z.length z.length hi - HT.sIx z.length 0 lo) := by
    unfold cutS TL.tl; simp
  refine ⟨?_, fun c hc => ?_⟩
  · have := h.len
    rw [TL.len_tl] at this ⊢
    rw [e, List.length_take, List.length_drop]; omega
  · rw [e] at hc
    exact h.okc c (List.mem_of_mem_drop (List.mem_of_mem_take hc))
/-- what a list of words weighs -/
def wgt (ps : List Str) : Nat := (ps.map (·.length)).sum + ps.length
theorem wgt_app (a b : List Str) : wgt (a ++ b) = wgt a + wgt b := by simp [wgt]; omega
theorem wgt_cons (a : Str) (b : List Str) : wgt (a :: b) = a.length + 1 + wgt b := by simp [wgt]; omega
theorem wgt_nil : wgt [] = 0 := rfl
theorem wgt_rev (a : List Str) : wgt a.reverse = wgt a := by
  induction a with
  | nil => rfl
  | cons x r ih => rw [List.reverse_cons, wgt_app, ih, wgt_cons, wgt_cons, wgt_nil]; omega
theorem wgt_take (a : List Str) (i : Nat) : wgt (a.take i) + wgt (a.drop i) = wgt a := by rw [← wgt_app, List.take_append_drop]
theorem wgt_mem {a : List Str} {x : Str} (h : x ∈ a) : x.length + 1 ≤ wgt a := by
  induction a with
  | nil => cases h
  | cons y r ih =>
    rw [wgt_cons]
    rcases List.mem_cons.mp h with rfl | h
    · omega
    · have := ih h; omega
theorem wgt_len (a : List Str) : a.length ≤ wgt a := Nat.le_add_left _ _
theorem join_lz {ps : List Str} (h2 : ∀ p ∈ ps, Okc p) : Lz (wgt ps) (Txt.join " " ps) := by
  refine ⟨?_, fun c hc => ?_⟩
  · have j := join_len " " ps
    rw [one_lens.2.2.2.2] at j
    unfold wgt; omega
  · rw [TL.join_eq, TL.tl_join] at hc
    rcases K72m.joinL_mem hc with hc | ⟨p, hp, hc⟩
    · rw [one_tls.2.2.2.2] at hc; simp at hc; omega
    · obtain ⟨q, hq, rfl⟩ := List.mem_map.mp hp
      exact h2 q hq c hc
theorem joinT_ok {ps : List Str} (h : wgt ps ≤ 10000) : joinT " " (ps.map T.str) s = some (.str (Txt.join " " ps), s) := by
  unfold wgt at h
  unfold joinT
  rw [strs_self]
  simp only
  rw [one_lens.2.2.2.2]
  exact if_pos (by omega)
theorem spaced_ok {m : Nat} {ps : List Str} (g : s.get m = some (.lst (ps.map T.str))) (h : wgt ps ≤ 10000) : run pr (k + 1) "_law_spaced" [.loc m] s = .ok (.str (Txt.join " " ps)) s := by
  have hl := wgt_len ps
  have c1 : compL (chkL m (ps.map T.str)) (gNm 1) bYes (eB fStr (lCons (eVar 1) lNil)) [some (.loc m), none] (ps.map T.str) [] s = .ok ([] ++ ps.map T.str) s :=
    compL_map (chkL_iff.mpr g) ps [] (fun x _ => ⟨[some (.loc m), some (.str x)], by simp_arith! [eq_self], by simp_arith! [eq_self]⟩) (by simp [sizeLine_eq]; omega)
  simp only [List.nil_append] at c1
  have j := joinT_ok (s := s) h
  refine run_pure pr__law_spaced rfl ?_
  unfold b__law_spaced
  simp_arith [g, c1, j]
theorem spaced_ints {m : Nat} {is : List Int} (g : s.get m = some (.lst (is.map T.int))) (hi : ∀ i ∈ is, 0 ≤ i ∧ i < 10000000000) (h : is.length ≤ 400) : run pr (k + 1) "_law_spaced" [.loc m] s = .ok (.str (Txt.join " " (is.map num))) s := by
  have c1 : compL (chkL m (is.map T.int)) (gNm 1) bYes (eB fStr (lCons (eVar 1) lNil)) [some (.loc m), none] (is.map T.int) [] s = .ok ([] ++ is.map fun i => T.str (num i)) s :=
    compL_map (chkL_iff.mpr g) is [] (fun x hx => ⟨[some (.loc m), some (.int x)], by simp_arith! [eq_self], by
      have o := K72m.okNs (hi x hx).1 (hi x hx).2
      simp_arith! [o]⟩) (by simp [sizeLine_eq]; omega)
  have e2 : (is.map fun i => T.str (num i)) = strTs (is.map num) := by simp [strTs]
  rw [e2] at c1
  simp only [List.nil_append] at c1
  have j := K72m.joinT_at (s := s) (ps := is.map num) (fun p hp => by
    obtain ⟨i, hI, rfl⟩ := List.mem_map.mp hp
    have := (num_len (hi i hI).1 (hi i hI).2).2
    omega) (by rw [List.length_map]; exact h)
  refine run_pure pr__law_spaced rfl ?_
  unfold b__law_spaced
  simp_arith [g, c1, j]
/-! ### a text cut at its blanks -/
theorem joinL_sum (c : Nat) : ∀ ps : List (List Nat), ps ≠ [] → (ps.map (·.length)).sum + ps.length = (TL.joinL [c] ps).length + 1
  | [], h => absurd rfl h
  | [a], _ => by simp [TL.joinL]
  | a :: b :: r, _ => by
    have ih := joinL_sum c (b :: r) (by simp)
    show _ = (a ++ ([c] ++ TL.joinL [c] (b :: r))).length + 1
    simp only [List.map_cons, List.sum_cons, List.length_cons, List.length_append, List.length_nil] at ih ⊢
    omega
theorem split_wgt {z w : Str} {c : Nat} (ey : TL.tl w = [c]) (hc : c < 256) : wgt (Txt.split z w) = z.length + 1 := by
  obtain ⟨ps, h1, h2, h3⟩ := cut_ex c (TL.tl z)
  have tls : ∀ l : List Nat, TL.tl (⟨l.toArray⟩ : Str) = l := fun l => by simp [TL.tl]
  have e : z = Txt.join w (ps.map fun l => (⟨l.toArray⟩ : Str)) := by
    apply TL.ext_tl
    rw [TL.join_eq, TL.tl_join, ey, List.map_map]
    have this : ps.map (TL.tl ∘ fun l => (⟨l.toArray⟩ : Str)) = ps := (List.map_congr_left (g := id) fun l _ => tls l).trans (List.map_id ps)
    rw [this, h3]
  have sp : Txt.split z w = ps.map fun l => (⟨l.toArray⟩ : Str) := by
    conv => lhs; rw [e]
    exact splitN ey hc (by simpa using h1) fun p hp => by
      obtain ⟨l, hl, rfl⟩ := List.mem_map.mp hp
      rw [tls]; exact h2 l hl
  have q : wgt (Txt.split z w) = (ps.map (·.length)).sum + ps.length := by
    unfold wgt
    rw [sp, List.map_map, List.length_map]
    have e : ps.map ((fun x : Str => x.length) ∘ fun l => (⟨l.toArray⟩ : Str)) = ps.map (·.length) := List.map_congr_left fun l _ => by
      show (⟨l.toArray⟩ : Str).length = l.length
      rw [TL.len_tl, tls]
    rw [e]
  rw [q, joinL_sum c ps h1, h3, ← TL.len_tl]
theorem cut_from {ts : List T} {i : Nat} : cutT ts (some (i : Int)) none = ts.drop i := by
  unfold cutT
  have e : sIx ts.length 0 (some (i : Int)) = min i ts.length := HT.sIx_nat _ _ _
  have e2 : sIx ts.length ts.length none = ts.length := rfl
  rw [e, e2]
  by_cases h : i ≤ ts.length
  · rw [Nat.min_eq_left h]
    exact List.take_of_length_le (by rw [List.length_drop]; exact Nat.le_refl _)
  · rw [Nat.min_eq_right (by omega), List.drop_of_length_le (Nat.le_refl _), List.drop_of_length_le (by omega)]
    exact List.take_nil
def slL (s : Sto) (lo hi : Option Int) : Option O → OV
  | some (.lst ts) => some (.loc s.len, s.add (.lst (cutT ts lo hi)))
  | _ => none
theorem vv_sll {m : Nat} {lo hi : Option Int} : slT (.loc m) lo hi s = slL s lo hi (s.get m) := by
  unfold slT slL
  simp only <;> (cases s.get m with
    | none => rfl
    | some o => cases o <;> rfl)
theorem vv_sll1 {ts : List T} {lo hi : Option Int} : slL s lo hi (some (.lst ts)) = some (.loc s.len, s.add (.lst (cutT ts lo hi))) := rfl
theorem vv_sls {z : Str} {lo hi : Option Int} (h : z.length ≤ sizeLine) : slT (.str z) lo hi s = some (.str (cutS z lo hi), s) := if_pos h
def revL (s : Sto) : Option (List T) → Out
  | some ts => .ok (.loc s.len) (s.add (.lst ts.reverse))
  | none => .bad
def revO (s : Sto) : Option O → Out
  | some (.lst ts) => .ok (.loc s.len) (s.add (.lst ts.reverse))
  | _ => .bad
/-- _law_one(pot, ..), the list gone, more laid before it -/
theorem one_litN {us : List T} {s1 : Sto} (P : Pot d n s1) (f : Frn d s s1) (hd : d < s.len) (hn : n ≤ 1000000000000000000000000000000) (h1 : 0 < us.length) (h2 : us.length ≤ 1000) (hh : ∀ t ∈ us, t.hi = 0) :
    ∃ t s', gcR s.len s.kp (run pr (k + 2) "_law_one" [.loc d, .loc s1.len] (s1.add (.lst us))) = .ok t s' ∧ t ∈ us ∧ Pot d (n + 1) s' ∧ Frm d s s' := by
  obtain ⟨t, s2, e, ht, P2, f2⟩ := one_spec (k := k) pr__law_draw pr__law_one (P.add (o := .lst us)) hn (get_add (o := .lst us)) P.lt h1 h2 (fun t ht => by rw [hh t ht]; exact Nat.zero_le _)
  have fr : Frn d s s2 := (f.trans Frn.add).trans f2.frn
  obtain ⟨s3, e3, f3, P3⟩ := gc_frn (t := t) fr P2 (by rw [hh t ht]; exact Nat.zero_le _) hd
  exact ⟨t, s3, by rw [e]; exact e3, ht, P3, f3⟩
end
end K72

set_option maxRecDepth 100000
set_option maxHeartbeats 4000000
namespace K72
open PySem PySem.Spec PyProof.Rows L2 Fx
section
variable {d n k : Nat} {s : Sto}
theorem spc {f : Ev} {r : Fx.Env} {s' : Sto} {m : Nat} {ps : List Str} (h : f r s = .ok (.loc m) s') (g : s'.get m = some (.lst (ps.map T.str))) (hw : wgt ps ≤ 10000) (a : Gro s s') :
    eG (eCall (run pr (k + 1)) "_law_spaced" (lDef (lCons f lNil) [])) r s = .ok (.str (Txt.join " " ps)) s := by
  have e := spaced_ok (k := k) g hw
  rw [ev_g]
  have e2 : eCall (run pr (k + 1)) "_law_spaced" (lDef (lCons f lNil) []) r s = .ok (.str (Txt.join " " ps)) s' := by
    simp_arith [h, e]
  rw [e2]
  exact gc_gro a (Nat.zero_le _)
/-- words[:spot] + [part] + words[j:] -/
theorem mid_list {r : Fx.Env} {W i j : Nat} {ws : List Str} {part : Str} {e : Ev} (h3 : r[3]? = some (some (.loc W))) (h4 : r[4]? = some (some (.int (i : Int)))) (h7 : r[7]? = some (some (.str part))) (g : s.get W = some (.lst (ws.map T.str))) (he : ∀ s, e r s = .ok (.int (j : Int)) s) (hl : ws.length ≤ 1000) :
    ∃ s' m, (eBin oAdd (eBin oAdd (eSl (eVar 3) pNone (pSome (eVar 4))) (eLst (lCons (eVar 7) lNil))) (eSl (eVar 3) (pSome e) pNone)) r s = .ok (.loc m) s' ∧ s'.get m = some (.lst ((ws.take i ++ [part] ++ ws.drop j).map T.str)) ∧ Gro s s' := by
  let a1 : List T := (ws.take i).map T.str
  let s1 := s.add (.lst a1)
  have ha1 : cutT (ws.map T.str) none (some (i : Int)) = a1 := by rw [cut_to, ← List.map_take]
  have q1 : s.add (.lst a1) = s1 := rfl
  let s2 := s1.add (.lst [T.str part])
  have q2 : s1.add (.lst [T.str part]) = s2 := rfl
  have f1 : s2.get s.len = some (.lst a1) := get_add_old get_add
  have f2 : s2.get s1.len = some (.lst [T.str part]) := get_add
  have z1 : a1.length + [T.str part].length ≤ sizeLine := by simp [a1, sizeLine_eq]; omega
  let s3 := s2.add (.lst (a1 ++ [T.str part]))
  have q3 : s2.add (.lst (a1 ++ [T.str part])) = s3 := rfl
  let a3 : List T := (ws.drop j).map T.str
  have ha3 : cutT (ws.map T.str) (some (j : Int)) none = a3 := by rw [cut_from, ← List.map_drop]
  have g3 : s3.get W = some (.lst (ws.map T.str)) := get_add_old (get_add_old (get_add_old g))
  let s4 := s3.add (.lst a3)
  have q4 : s3.add (.lst a3) = s4 := rfl
  have f3 : s4.get s2.len = some (.lst (a1 ++ [T.str part])) := get_add_old get_add
  have f4 : s4.get s3.len = some (.lst a3) := get_add
  have z2 : (a1 ++ [T.str part]).length + a3.length ≤ sizeLine := by simp [a1, a3, sizeLine_eq]; omega
  have e1 : oAdd (.loc s.len) (.loc s1.len) s2 = some (.loc s2.len, s3) := by
    rw [vv_addl, f1, f2, vv_addl1 z1]
  have e2 : oAdd (.loc s2.len) (.loc s3.len) s4 = some (.loc s4.len, s4.add (.lst (a1 ++ [T.str part] ++ a3))) := by
    rw [vv_addl, f3, f4, vv_addl1 z2]
  refine ⟨s4.add (.lst (a1 ++ [T.str part] ++ a3)), s4.len, ?_, ?_, (((Gro.add.trans Gro.add).trans Gro.add).trans Gro.add).trans Gro.add⟩
  · simp_arith [h3, h4, h7, g, vv_sll, vv_sll1, ha1, q1, q2, e1, g3, he, ha3, q4, e2]
  · rw [get_add]
    simp [a1, a3]
theorem ev_revL {f : Ev} {r : Fx.Env} {s1 : Sto} {m : Nat} {ts : List T} (h : f r s = .ok (.loc m) s1) (g : s1.get m = some (.lst ts)) : eRev f r s = .ok (.loc s1.len) (s1.add (.lst ts.reverse)) := by
  unfold eRev
  rw [h]
  simp only [Out.bnd]
  have e : itemsL (.loc m) s1 = some ts := by
    unfold itemsL
    simp only [g]
  rw [e]
/-! ### the law's words -/
def some1 : List Str := ["", "00", "3-8", "5+2x3", "hold:3", "pulse:0", "10+1x1", "7+0x2", "0-0", "none", repS "1" 21]
def some2 : List Str := ["2000000000-2000000001", "1000000000", "999999999+1x2", "1000000000+1x2", "03-9", "hold:03"]
def signsL : List Str := ["0", " ", "-", "1", "x", "\n", "+", ":", "9", "h"]
theorem lz_check {B : Nat} {z : Str} (h : (decide (z.length ≤ B) && (TL.tl z).all fun c => decide (c < 1114112)) = true) : Lz B z := by
  rw [Bool.and_eq_true] at h
  refine ⟨of_decide_eq_true h.1, fun c hc => ?_⟩
  exact of_decide_eq_true (List.all_eq_true.mp h.2 c hc)
theorem some1_lz : ∀ z ∈ some1, Lz 30 z := fun z hz => lz_check ((List.all_eq_true (p := fun z : Str => (decide (z.length ≤ 30) && (TL.tl z).all fun c => decide (c < 1114112)))).mp (by decide +kernel : some1.all _ = true) z hz)
theorem some2_lz : ∀ z ∈ some2, Lz 30 z := fun z hz => lz_check ((List.all_eq_true (p := fun z : Str => (decide (z.length ≤ 30) && (TL.tl z).all fun c => decide (c < 1114112)))).mp (by decide +kernel : some2.all _ = true) z hz)
theorem signs_lz : ∀ z ∈ signsL, Lz 1 z := fun z hz => lz_check ((List.all_eq_true (p := fun z : Str => (decide (z.length ≤ 1) && (TL.tl z).all fun c => decide (c < 1114112)))).mp (by decide +kernel : signsL.all _ = true) z hz)
theorem mul21 : oMulT (.str "1") (.int 21) s = some (.str (repS "1" 21), s) := by
  have e : (1 ≤ ("1" : Str).length ∧ ("1" : Str).length ≤ 1000 ∧ (2 : Int) ≤ 21 ∧ (21 : Int) ≤ 1000) := by decide
  show (if 1 ≤ ("1" : Str).length ∧ ("1" : Str).length ≤ 1000 ∧ (2 : Int) ≤ 21 ∧ (21 : Int) ≤ 1000 then some (T.str (repS "1" (21 : Int).toNat), s) else none) = _
  rw [if_pos e]
  rfl
theorem str_mem {t : T} {l : List Str} (h : t ∈ l.map T.str) : ∃ z, t = .str z ∧ z ∈ l := by
  obtain ⟨z, hz, rfl⟩ := List.mem_map.mp h
  exact ⟨z, rfl, hz⟩
theorem str_hi {l : List Str} : ∀ t ∈ l.map T.str, t.hi = 0 := fun t h => by obtain ⟨z, rfl, _⟩ := str_mem h; rfl
theorem oh_str {l : List Str} : O.hi (.lst (l.map T.str)) = 0 := K72m.enc_hi (fun _ => rfl) l
theorem changed_spec {z : Str} (P : Pot d n s) (hn : n ≤ K72m.NB) (h : Lz 400 z) :
    ∃ w s', run pr (k + 3) "_law_changed" [.loc d, .str z] s = .ok (.str w) s' ∧ Lz 2000 w ∧ Pot d (n + 5) s' ∧ Frm d s s' := by
  unfold K72m.NB at hn
  have hd := P.lt
  have hz := h.len
  have hzs : z.length ≤ sizeLine := by rw [sizeLine_eq]; omega
  obtain ⟨a, s1, e1, a1, b1, P1, F1⟩ := draw_spec (k := k + 1) (many := (z.length : Int) + 1) pr__law_draw P (by omega) (by omega) (by omega)
  obtain ⟨i, rfl⟩ := Int.eq_ofNat_of_zero_le a1
  -- the words
  obtain ⟨ws, hws⟩ : ∃ ws, ws = Txt.split z " " := ⟨_, rfl⟩
  have sp := msplit (s := s1) one_lens.2.2.2.2 (h.tz (by omega))
  have wg : wgt ws = z.length + 1 := by rw [hws]; exact split_wgt one_tls.2.2.2.2 (by decide)
  have wk : ∀ w ∈ ws, Lz 400 w := fun w hw => by
    have := wgt_mem hw
    exact ⟨by omega, ((split_ex one_tls.2.2.2.2 (by decide) (h.tz (by omega))).2.1 w (by rw [← hws]; exact hw)).okc⟩
  rw [← hws] at sp
  have wl := wgt_len ws
  let s2 := s1.add (.lst (ws.map T.str))
  have q2 : s1.add (.lst (ws.map T.str)) = s2 := rfl
  have P2 : Pot d (n + 1) s2 := P1.add
  have F2 : Frn d s s2 := F1.frn.trans Frn.add
  have w2 : s2.get s1.len = some (.lst (ws.map T.str)) := get_add
  have hW : d < s1.len := P1.lt
  have hlw : ((ws.map T.str).length : Int) = (ws.length : Nat) := by rw [List.length_map]
  obtain ⟨b, s3, e3, a3, b3, P3, F3⟩ := draw_spec (k := k + 1) (many := ((ws.length : Nat) : Int) + 1) pr__law_draw P2 (by omega) (by omega) (by omega)
  obtain ⟨j, rfl⟩ := Int.eq_ofNat_of_zero_le a3
  obtain ⟨sg, s4, e4, m4, P4, F4⟩ := one_lit (k := k) (us := signsL.map T.str) pr__law_draw pr__law_one P3 Frm.refl (by omega) (by simp [signsL]) (by simp [signsL]) str_hi
  obtain ⟨sign, rfl, hsign⟩ := str_mem m4
  have zsg := signs_lz sign hsign
  have w4 : s4.get s1.len = some (.lst (ws.map T.str)) := (F4.get _ hW).trans ((F3.get _ hW).trans w2)
  -- some
  let s5 := s4.add (.lst (some1.map T.str))
  let s6 := s5.add (.lst (some2.map T.str))
  let s7 := s6.add (.lst (some1.map T.str ++ some2.map T.str))
  have g5 : s6.get s4.len = some (.lst (some1.map T.str)) := get_add_old get_add
  have g6 : s6.get s5.len = some (.lst (some2.map T.str)) := get_add
  have e7 : oAdd (.loc s4.len) (.loc s5.len) s6 = some (.loc s6.len, s7) := by
    rw [vv_addl, g5, g6, vv_addl1 (by simp [some1, some2, sizeLine_eq])]
  have g7 : s7.get s6.len = some (.lst (some1.map T.str ++ some2.map T.str)) := get_add
  have w7 : s7.get s1.len = some (.lst (ws.map T.str)) := get_add_old (get_add_old (get_add_old w4))
  have l71 : (some1.map T.str ++ some2.map T.str).length = 17 := rfl
  -- part
  let s8 := s7.add (.lst (ws.map T.str ++ (some1.map T.str ++ some2.map T.str)))
  let s9 := s8.add (.lst (([ "hold:1:2" ] : List Str).map T.str))
  have e8 : oAdd (.loc s1.len) (.loc s6.len) s7 = some (.loc s7.len, s8) := by
    rw [vv_addl, w7, g7, vv_addl1 (by rw [l71, List.length_map, sizeLine_eq]; omega)]
  have g8 : s9.get s7.len = some (.lst (ws.map T.str ++ (some1.map T.str ++ some2.map T.str))) := get_add_old get_add
  have g9 : s9.get s8.len = some (.lst (([ "hold:1:2" ] : List Str).map T.str)) := get_add
  let all : List Str := ws ++ (some1 ++ some2) ++ ([ "hold:1:2" ] : List Str)
  have eall : ws.map T.str ++ (some1.map T.str ++ some2.map T.str) ++ ([ "hold:1:2" ] : List Str).map T.str = all.map T.str := by simp [all]
  have l17 : (some1 ++ some2).length = 17 := rfl
  have lall : all.length = ws.length + 18 := by simp only [all, List.length_append, l17, List.length_cons, List.length_nil]
  have e9 : oAdd (.loc s7.len) (.loc s8.len) s9 = some (.loc s9.len, s9.add (.lst (all.map T.str))) := by
    rw [vv_addl, g8, g9, vv_addl1 (by rw [List.length_append, l71, List.length_map, List.length_map, sizeLine_eq]; simp only [List.length_cons, List.length_nil]; omega), eall]
  have P7 : Pot d (n + 3) s7 := (P4.add.add.add).mono (by omega)
  have P9 : Pot d (n + 3) s9 := P7.add.add
  have hd7 : d < s7.len := P7.lt
  obtain ⟨pt, s11, e11, m11, P11, F11⟩ := one_litN (k := k) (us := all.map T.str) P9 (Frn.add.trans Frn.add : Frn d s7 s9) hd7 (by omega) (by rw [List.length_map, lall]; omega) (by rw [List.length_map, lall]; omega) str_hi
  obtain ⟨part, rfl, hpart⟩ := str_mem m11
  have zpt : Lz 400 part := by
    simp only [all, List.mem_append] at hpart
    rcases hpart with (hp | hp | hp) | hp
    · exact wk _ hp
    · exact (some1_lz _ hp).mono (by omega)
    · exact (some2_lz _ hp).mono (by omega)
    · simp only [List.mem_cons, List.not_mem_nil, or_false] at hp
      subst hp
      exact lz_check (by decide +kernel)
  have w11 : s11.get s1.len = some (.lst (ws.map T.str)) := (F11.get _ hW).trans w7
  -- texts
  obtain ⟨p1, hp1⟩ : ∃ p, p = cutS z none (some (i : Int)) := ⟨_, rfl⟩
  obtain ⟨p2, hp2⟩ : ∃ p, p = cutS z (some (i : Int)) none := ⟨_, rfl⟩
  obtain ⟨p3, hp3⟩ : ∃ p, p = cutS z (some ((i : Int) + 1)) none := ⟨_, rfl⟩
  have c1 : Lz 400 p1 := by rw [hp1]; exact h.cut _ _
  have c2 : Lz 400 p2 := by rw [hp2]; exact h.cut _ _
  have c3 : Lz 400 p3 := by rw [hp3]; exact h.cut _ _
  have bl : Lz 1 (" " : Str) := lz_check (by decide +kernel)
  have blz : (" " : Str).length = 1 := one_lens.2.2.2.2
  have k1 := c1.len
  have k2 := c2.len
  have k3 := c3.len
  have ks := zsg.len
  have z1 : p1.length + sign.length ≤ sizeLine := by rw [sizeLine_eq]; omega
  have z2 : (p1 ++ sign).length + p2.length ≤ sizeLine := by rw [sizeLine_eq, len_app]; omega
  have z3 : (p1 ++ sign).length + p3.length ≤ sizeLine := by rw [sizeLine_eq, len_app]; omega
  have z4 : p1.length + p3.length ≤ sizeLine := by rw [sizeLine_eq]; omega
  have z5 : z.length + (" " : Str).length ≤ sizeLine := by rw [sizeLine_eq]; omega
  have z6 : (z ++ " ").length + z.length ≤ sizeLine := by rw [sizeLine_eq, len_app]; omega
  have z7 : z.length + z.length ≤ sizeLine := by rw [sizeLine_eq]; omega
  have z8 : (" " : Str).length + z.length ≤ sizeLine := by rw [sizeLine_eq]; omega
  let tx0 : List Str := [p1 ++ sign ++ p2, p1 ++ sign ++ p3, p1 ++ p3, z ++ " "]
  let s12 := s11.add (.lst (tx0.map T.str))
  have g12 : s12.get s11.len = some (.lst (tx0.map T.str)) := get_add
  have w12 : s12.get s1.len = some (.lst (ws.map T.str)) := get_add_old w11
  -- the first splice
  let m1 : List Str := ws.take j ++ [part] ++ ws.drop j
  let m2 : List Str := ws.take j ++ [part] ++ ws.drop (j + 1)
  have kp := zpt.len
  have wt := wgt_take ws j
  have wt2 := wgt_take ws (j + 1)
  have wm1 : wgt m1 ≤ 1300 := by simp only [m1, wgt_app, wgt_cons, wgt_nil]; omega
  have wm2 : wgt m2 ≤ 1300 := by simp only [m2, wgt_app, wgt_cons, wgt_nil]; omega
  have okm1 : ∀ p ∈ m1, Okc p := fun p hp => by
    simp only [m1, List.mem_append, List.mem_singleton] at hp
    rcases hp with (hp | rfl) | hp
    · exact (wk p (List.mem_of_mem_take hp)).okc
    · exact zpt.okc
    · exact (wk p (List.mem_of_mem_drop hp)).okc
  have okm2 : ∀ p ∈ m2, Okc p := fun p hp => by
    simp only [m2, List.mem_append, List.mem_singleton] at hp
    rcases hp with (hp | rfl) | hp
    · exact (wk p (List.mem_of_mem_take hp)).okc
    · exact zpt.okc
    · exact (wk p (List.mem_of_mem_drop hp)).okc
  obtain ⟨t1, n1, f1, f2, f3⟩ := mid_list (s := s12) (r := [some (.loc d), some (.str z), some (.int (i : Int)), some (.loc s1.len), some (.int (j : Int)), some (.str sign), some (.loc s6.len), some (.str part), some (.loc s11.len)]) (e := eVar 4) (j := j) rfl rfl rfl w12 (fun s => rfl) (by omega)
  have J1 : eG (eCall (run pr (k + 2)) "_law_spaced" (lDef (lCons (eBin oAdd (eBin oAdd (eSl (eVar 3) pNone (pSome (eVar 4))) (eLst (lCons (eVar 7) lNil))) (eSl (eVar 3) (pSome (eVar 4)) pNone)) lNil) [])) [some (.loc d), some (.str z), some (.int (i : Int)), some (.loc s1.len), some (.int (j : Int)), some (.str sign), some (.loc s6.len), some (.str part), some (.loc s11.len)] s12 = .ok (.str (Txt.join " " m1)) s12 := spc (k := k + 1) f1 f2 (by show wgt m1 ≤ _; omega) f3
  let s13 := s12.put s11.len (.lst (tx0.map T.str ++ [T.str (Txt.join " " m1)]))
  have g13 : s13.get s11.len = some (.lst (tx0.map T.str ++ [T.str (Txt.join " " m1)])) := get_put (lt_of_get g12)
  have hne : s11.len ≠ s1.len := by
    have := lt_of_get w11; omega
  have w13 : s13.get s1.len = some (.lst (ws.map T.str)) := (get_put_ne hne).trans w12
  obtain ⟨t2, n2, f4, f5, f6⟩ := mid_list (s := s13) (r := [some (.loc d), some (.str z), some (.int (i : Int)), some (.loc s1.len), some (.int (j : Int)), some (.str sign), some (.loc s6.len), some (.str part), some (.loc s11.len)]) (e := eBin oAdd (eVar 4) (eC (.int 1))) (j := j + 1) rfl rfl rfl w13 (fun s => by simp_arith [eq_self]; rfl) (by omega)
  have J2 : eG (eCall (run pr (k + 2)) "_law_spaced" (lDef (lCons (eBin oAdd (eBin oAdd (eSl (eVar 3) pNone (pSome (eVar 4))) (eLst (lCons (eVar 7) lNil))) (eSl (eVar 3) (pSome (eBin oAdd (eVar 4) (eC (.int 1)))) pNone)) lNil) [])) [some (.loc d), some (.str z), some (.int (i : Int)), some (.loc s1.len), some (.int (j : Int)), some (.str sign), some (.loc s6.len), some (.str part), some (.loc s11.len)] s13 = .ok (.str (Txt.join " " m2)) s13 := spc (k := k + 1) f4 f5 (by show wgt m2 ≤ _; omega) f6
  let tx2 : List Str := tx0 ++ [Txt.join " " m1] ++ [Txt.join " " m2]
  have etx2 : tx0.map T.str ++ [T.str (Txt.join " " m1)] ++ [T.str (Txt.join " " m2)] = tx2.map T.str := by simp [tx2]
  let s14 := s13.put s11.len (.lst (tx2.map T.str))
  have g14 : s14.get s11.len = some (.lst (tx2.map T.str)) := get_put (lt_of_get g13)
  have w14 : s14.get s1.len = some (.lst (ws.map T.str)) := (get_put_ne hne).trans w13
  -- the last list
  let s15 := s14.add (.lst (ws.reverse.map T.str))
  have rv := ev_revL (f := eVar 3) (r := [some (.loc d), some (.str z), some (.int (i : Int)), some (.loc s1.len), some (.int (j : Int)), some (.str sign), some (.loc s6.len), some (.str part), some (.loc s11.len)]) (s := s14) (s1 := s14) (m := s1.len) rfl w14
  rw [← List.map_reverse] at rv
  have sr : run pr (k + 2) "_law_spaced" [.loc s14.len] s15 = .ok (.str (Txt.join " " ws.reverse)) s15 := spaced_ok (k := k + 1) (s := s15) (m := s14.len) (ps := ws.reverse) get_add (by rw [wgt_rev]; omega)
  let tx3 : List Str := [Txt.join " " ws.reverse, z ++ " " ++ z, z ++ z, " " ++ z]
  let s16 := s15.add (.lst (tx3.map T.str))
  have g16 : s16.get s11.len = some (.lst (tx2.map T.str)) := get_add_old (get_add_old g14)
  have g17 : s16.get s15.len = some (.lst (tx3.map T.str)) := get_add
  have e17 : oAdd (.loc s11.len) (.loc s15.len) s16 = some (.loc s16.len, s16.add (.lst ((tx2 ++ tx3).map T.str))) := by
    rw [vv_addl, g16, g17, vv_addl1 (by simp [tx2, tx3, tx0, sizeLine_eq]), ← List.map_append]
  have hx : s.len ≤ s11.len := by rw [F11.len]; simp only [s7, s6, s5, len_add]; rw [F4.len, F3.len]; simp only [s2, len_add]; rw [F1.len]; omega
  have P14 : Pot d (n + 4) s14 := (P11.add.put (by omega)).put (by omega)
  have P16 : Pot d (n + 4) s16 := P14.add.add
  obtain ⟨tw, s18, e18, m18, P18, F18⟩ := one_litN (k := k) (us := (tx2 ++ tx3).map T.str) P16 (Frn.add.trans Frn.add : Frn d s14 s16) P14.lt (by omega) (by simp [tx2, tx3, tx0]) (by simp [tx2, tx3, tx0]) str_hi
  obtain ⟨w, rfl, hw⟩ := str_mem m18
  have zw : Lz 2000 w := by
    simp only [tx2, tx3, tx0, List.mem_append, List.mem_cons, List.not_mem_nil, or_false] at hw
    have e400 := h
    rcases hw with (((rfl | rfl | rfl | rfl) | rfl) | rfl) | rfl | rfl | rfl | rfl
    · exact ((c1.app zsg).app c2).mono (by omega)
    · exact ((c1.app zsg).app c3).mono (by omega)
    · exact (c1.app c3).mono (by omega)
    · exact (h.app bl).mono (by omega)
    · exact (join_lz okm1).mono (by omega)
    · exact (join_lz okm2).mono (by omega)
    · exact (join_lz (ps := ws.reverse) fun p hp => (wk p (List.mem_reverse.mp hp)).okc).mono (by rw [wgt_rev]; omega)
    · exact ((h.app bl).app h).mono (by omega)
    · exact (h.app h).mono (by omega)
    · exact (bl.app h).mono (by omega)
  have fin : (b__law_changed (run pr (k + 2)) [some (.loc d), some (.str z), none, none, none, none, none, none, none] s).out = .ok (.str w) s18 := by
    have qs : s3.add (.lst (signsL.map T.str)) = s3.add (.lst [.str "0", .str " ", .str "-", .str "1", .str "x", .str "\n", .str "+", .str ":", .str "9", .str "h"]) := rfl
    rw [qs] at e4
    have q5 : s4.add (.lst [.str "", .str "00", .str "3-8", .str "5+2x3", .str "hold:3", .str "pulse:0", .str "10+1x1", .str "7+0x2", .str "0-0", .str "none", .str (repS "1" 21)]) = s5 := rfl
    have q6 : s5.add (.lst [.str "2000000000-2000000001", .str "1000000000", .str "999999999+1x2", .str "1000000000+1x2", .str "03-9", .str "hold:03"]) = s6 := rfl
    have q9 : s8.add (.lst [.str "hold:1:2"]) = s9 := rfl
    have q12 : s11.add (.lst [.str (p1 ++ sign ++ p2), .str (p1 ++ sign ++ p3), .str (p1 ++ p3), .str (z ++ " ")]) = s12 := rfl
    have u10 : 10 ≤ sizeLine := by decide
    have u11 : 11 ≤ sizeLine := by decide
    have lz : tx0.length < sizeLine := by simp [tx0, sizeLine_eq]
    have lz2 : (tx0.map T.str ++ [T.str (Txt.join " " m1)]).length < sizeLine := by simp [tx0, sizeLine_eq]
    have q13 : s12.put s11.len (.lst (tx0.map T.str ++ [T.str (Txt.join " " m1)])) = s13 := rfl
    have q14 : s13.put s11.len (.lst (tx2.map T.str)) = s14 := rfl
    have q15 : s14.add (.lst (ws.reverse.map T.str)) = s15 := rfl
    have q16 : s15.add (.lst [.str (Txt.join " " ws.reverse), .str (z ++ " " ++ z), .str (z ++ z), .str (" " ++ z)]) = s16 := rfl
    rw [q15] at rv
    unfold b__law_changed
    simp_arith [u10, u11, ↓J1, ↓J2, ↓rv, hzs, e1, sp, q2, w2, List.length_map, e3, e4, mul21, q5, q6, e7, e8, q9, e9, e11, vv_sls hzs, ← hp1, ← hp2, ← hp3, z1, z2, z3, z4, z5, z6, z7, z8, q12, g12, lz, q13, g13, lz2, etx2, q14, sr, q16, e17, e18]
  have F7 : Frn d s s7 := ((((F2.trans F3.frn).trans F4.frn).trans Frn.add).trans Frn.add).trans Frn.add
  have h13 : O.hi (.lst (tx0.map T.str ++ [T.str (Txt.join " " m1)])) ≤ s11.len := by
    rw [show tx0.map T.str ++ [T.str (Txt.join " " m1)] = (tx0 ++ [Txt.join " " m1]).map T.str by simp, oh_str]; exact Nat.zero_le _
  have F14 : Frn d s s14 := (((F7.trans F11.frn).trans Frn.add).putNew hx h13).putNew hx (by rw [oh_str]; exact Nat.zero_le _)
  obtain ⟨s19, e19, F19, P19⟩ := gc_frn (t := .str w) (F14.trans F18.frn) P18 (Nat.zero_le _) hd
  exact ⟨w, s19, (run_eq pr__law_changed rfl).trans ((congrArg _ fin).trans e19), zw, P19.mono (by omega), F19⟩
end
end K72

set_option maxRecDepth 100000
set_option maxHeartbeats 4000000
namespace K72
open PySem PySem.Spec PyProof.Rows L2 Fx
section
variable {d n k : Nat} {s : Sto} {α : Type} {encD : α → PyData}
/-! ### sizes -/
structure Sz (w : Nat) (e : PyData) : Prop where
  sh : PyData.showable e = true
  st : PyData.intsShort 13 e = true
  wt : PyData.weight e ≤ w
theorem show_all : ∀ {xs : List α}, (∀ x ∈ xs, PyData.showable (encD x) = true) → PyData.showableAll (xs.map encD) = true
  | [], _ => rfl
  | a :: r, h => by
    rw [List.map_cons, PyData.showableAll, h a List.mem_cons_self, show_all fun x hx => h x (List.mem_cons_of_mem _ hx)]
    rfl
theorem short_all : ∀ {xs : List α}, (∀ x ∈ xs, PyData.intsShort 13 (encD x) = true) → PyData.intsShortAll 13 (xs.map encD) = true
  | [], _ => rfl
  | a :: r, h => by
    rw [List.map_cons, PyData.intsShortAll, h a List.mem_cons_self, short_all fun x hx => h x (List.mem_cons_of_mem _ hx)]
    rfl
theorem weight_all {B : Nat} : ∀ {xs : List α}, (∀ x ∈ xs, PyData.weight (encD x) ≤ B) → PyData.weightAll (xs.map encD) ≤ xs.length * (B + 1)
  | [], _ => by simp [PyData.weightAll]
  | a :: r, h => by
    have h1 := h a List.mem_cons_self
    have h2 := weight_all fun x hx => h x (List.mem_cons_of_mem _ hx)
    rw [List.map_cons, PyData.weightAll, List.length_cons, Nat.succ_mul]
    omega
theorem sz_tup {B : Nat} {xs : List α} (h : ∀ x ∈ xs, Sz B (encD x)) {w : Nat} (hw : xs.length * (B + 1) ≤ w) : Sz w (.tuple (xs.map encD)) := by
  refine ⟨?_, ?_, ?_⟩
  · rw [PyData.showable]; exact show_all fun x hx => (h x hx).sh
  · rw [PyData.intsShort]; exact short_all fun x hx => (h x hx).st
  · rw [PyData.weight]; exact Nat.le_trans (weight_all fun x hx => (h x hx).wt) hw
theorem sz_tl {ds : List PyData} {B w : Nat} (h : ∀ d ∈ ds, Sz B d) (hw : ds.length * (B + 1) ≤ w) : Sz w (.tuple ds) := by
  have := sz_tup (encD := id) (xs := ds) h hw
  rwa [List.map_id] at this
theorem sz_list {ds : List PyData} {B w : Nat} (h : ∀ d ∈ ds, Sz B d) (hw : ds.length * (B + 1) ≤ w) : Sz w (.list ds) := by
  obtain ⟨q1, q2, q3⟩ := sz_tl h hw
  rw [PyData.showable] at q1
  rw [PyData.intsShort] at q2
  rw [PyData.weight] at q3
  exact ⟨by rw [PyData.showable]; exact q1, by rw [PyData.intsShort]; exact q2, by rw [PyData.weight]; exact q3⟩
theorem log_small {i : Int} (h : 0 ≤ i) (h2 : i < 10000000000) : i.natAbs.log2 < 34 := by
  by_cases h0 : i.natAbs = 0
  · rw [h0]; decide
  · refine (Nat.log2_lt h0).mpr ?_
    have : (2 : Nat) ^ 34 = 17179869184 := by decide
    omega
theorem sz_int {i : Int} (h : 0 ≤ i) (h2 : i < 10000000000) : Sz 35 (.int i) := by
  have hl := log_small h h2
  refine ⟨?_, ?_, ?_⟩
  · rw [PyData.showable]; exact decide_eq_true (by omega)
  · rw [PyData.intsShort]
    have e : (PyData.shown (.int i)) = num i := by rw [PyData.shown]
    rw [e]
    exact decide_eq_true (by have := (num_len h h2).2; omega)
  · rw [PyData.weight]; split <;> omega
theorem sz_str {z : Str} {w : Nat} (h : z.length ≤ w) : Sz w (.str z) := by
  refine ⟨?_, ?_, ?_⟩
  · rw [PyData.showable]
  · rw [PyData.intsShort]
  · rw [PyData.weight]; exact h
/-! ### what is read, as data -/
def dI : It → PyData
  | .L q => .tuple [.str q.1, .int q.2]
  | .P q => .tuple [.int q.1, .int q.2]
  | .R q => .tuple [.int q.1, .int q.2.1, .int q.2.2]
theorem toD_I {y : Way} {i : It} (h : OkI y i) : toD (n + 2) s (encI i) = some (dI i) := by
  cases i with
  | L q =>
    have hk : q.1 = "hold" ∨ q.1 = "pulse" := by
      cases y with
      | w0 => exact h.1
      | w1 => exact h.elim
      | w2 => exact h.elim
    have so : PyData.strOk q.1 = true := strOk_of fun c hc => by have := K72m.kind_free hk c hc; omega
    show toD (n + 2) s (.tup [.str q.1, .int q.2]) = some (.tuple [.str q.1, .int q.2])
    rw [toD]
    rw [mapO, toD]
    simp only [so, if_true, mapO, toD, Option.map_some]
  | P q =>
    show toD (n + 2) s (.tup [.int q.1, .int q.2]) = some (.tuple [.int q.1, .int q.2])
    rw [toD]
    rw [mapO, toD]
    simp only [mapO, toD, Option.map_some]
  | R q =>
    show toD (n + 2) s (.tup [.int q.1, .int q.2.1, .int q.2.2]) = some (.tuple [.int q.1, .int q.2.1, .int q.2.2])
    rw [toD]
    rw [mapO, toD]
    simp only [mapO, toD, Option.map_some]
theorem sz_up {i : Int} (a : 0 ≤ i) (b : i < 10000000000) : Sz 35 (.int i) := sz_int a b
theorem sz_I {y : Way} {i : It} (h : OkI y i) : Sz 108 (dI i) := by
  cases i with
  | L q =>
    obtain ⟨hk, h1, h2⟩ : (q.1 = "hold" ∨ q.1 = "pulse") ∧ 1 ≤ q.2 ∧ q.2 ≤ 1000000000 := by
      cases y with
      | w0 => exact h
      | w1 => exact h.elim
      | w2 => exact h.elim
    exact sz_tl (B := 35) (ds := [.str q.1, .int q.2]) (fun d hd => by
      simp only [List.mem_cons, List.not_mem_nil, or_false] at hd
      rcases hd with rfl | rfl
      · exact sz_str (by have := K72m.kind_len hk; omega)
      · exact sz_int (by omega) (by omega)) (by simp)
  | P q =>
    have h := (show okP (some q) = true by
      cases y with
      | w0 => exact h.elim
      | w1 => exact h
      | w2 => exact h.elim)
    have h := of_decide_eq_true h
    exact sz_tl (B := 35) (ds := [.int q.1, .int q.2]) (fun d hd => by
      simp only [List.mem_cons, List.not_mem_nil, or_false] at hd
      rcases hd with rfl | rfl
      · exact sz_int (by omega) (by omega)
      · exact sz_int (by omega) (by omega)) (by simp)
  | R q =>
    have h := (show okR (some q) = true by
      cases y with
      | w0 => exact h.elim
      | w1 => exact h.elim
      | w2 => exact h)
    obtain ⟨⟨u1, u2⟩, ⟨u3, u4⟩, ⟨u5, u6⟩, _, _⟩ := of_decide_eq_true h
    exact sz_tl (B := 35) (ds := [.int q.1, .int q.2.1, .int q.2.2]) (fun d hd => by
      simp only [List.mem_cons, List.not_mem_nil, or_false] at hd
      rcases hd with rfl | rfl | rfl
      · exact sz_int (by omega) (by omega)
      · exact sz_int (by omega) (by omega)
      · exact sz_int (by omega) (by omega)) (by simp)
/-- few items, all well -/
def ResOk (y : Way) : List It ⊕ Nat → Prop
  | .inl its => (∀ i ∈ its, OkI y i) ∧ its.length ≤ 360
  | .inr j => j ≤ 20000
theorem lim_le (y : Way) : y.lim ≤ 360 := by cases y <;> decide
theorem readG_ok {y : Way} : ∀ (ws : List Str) (j : Nat) (last : Int) (acc : List It), (∀ i ∈ acc, OkI y i) → acc.length = j → j ≤ 360 → j + ws.length ≤ 20000 → ResOk y (readG y j last ws acc)
  | [], j, last, acc, h, hl, h3, hj => ⟨h, by omega⟩
  | w :: ws, j, last, acc, h, hl, h3, hj => by
    simp only [List.length_cons] at hj
    unfold readG
    cases e : itemV y w with
    | none => exact (by omega : j ≤ 20000)
    | some i =>
      simp only
      split
      · exact (by omega : j ≤ 20000)
      · next hc =>
        have hc := (not_or.mp hc).1
        have := lim_le y
        refine readG_ok ws (j + 1) i.end (acc ++ [i]) (fun x hx => ?_) (by simp [hl]) (by omega) (by omega)
        rcases List.mem_append.mp hx with hx | hx
        · exact h x hx
        · rw [List.mem_singleton.mp hx]; exact itemV_ok e
theorem readV_ok {y : Way} {z : Str} (h : Tz z) : ResOk y (readV y z) := by
  have := (words_in h).2
  exact readG_ok _ _ _ _ (by simp) rfl (by omega) (by omega)
def resD : List It ⊕ Nat → PyData
  | .inl its => .tuple (its.map dI)
  | .inr j => .list [.int (j : Int)]
def ResAt (s : Sto) (t : T) : List It ⊕ Nat → Prop
  | .inl its => t = .tup (its.map encI)
  | .inr j => ∃ m, t = .loc m ∧ s.get m = some (.lst [.int (j : Int)])
theorem RdOk.at {s s' : Sto} {t : T} {v : List It ⊕ Nat} (h : RdOk s s' t v) : ResAt s' t v := by
  cases v with
  | inl its => exact h
  | inr j => obtain ⟨m, a, b, _⟩ := h; exact ⟨m, a, b⟩
theorem ResAt.ext {s s' : Sto} {t : T} {v : List It ⊕ Nat} (h : ResAt s t v) (a : Ext No s s') : ResAt s' t v := by
  cases v with
  | inl its => exact h
  | inr j => obtain ⟨m, e, b⟩ := h; exact ⟨m, e, a.oldNo b⟩
theorem mapO_I {y : Way} : ∀ {its : List It}, (∀ i ∈ its, OkI y i) → mapO (toD (n + 2) s) (its.map encI) = some (its.map dI)
  | [], _ => rfl
  | a :: r, h => by
    rw [List.map_cons, mapO, toD_I (h a List.mem_cons_self), mapO_I fun x hx => h x (List.mem_cons_of_mem _ hx)]
    rfl
theorem toD_res {y : Way} {t : T} {v : List It ⊕ Nat} (h : ResAt s t v) (ok : ResOk y v) : toD 29 s t = some (resD v) := by
  cases v with
  | inl its =>
    have h : t = .tup (its.map encI) := h
    subst h
    show toD (28 + 1) s _ = _
    rw [toD, mapO_I (n := 26) ok.1]; rfl
  | inr j =>
    obtain ⟨m, rfl, g⟩ := h
    show toD (28 + 1) s _ = _
    rw [toD]
    simp only [g]
    rfl
theorem sz_res {y : Way} {v : List It ⊕ Nat} (ok : ResOk y v) : Sz 40000 (resD v) := by
  cases v with
  | inl its => exact sz_tup (B := 108) (fun x hx => sz_I (ok.1 x hx)) (by have := ok.2; omega)
  | inr j =>
    have ok : j ≤ 20000 := ok
    exact sz_list (B := 35) (ds := [.int (j : Int)]) (fun d hd => by
      rw [List.mem_singleton.mp hd]
      exact sz_int (by omega) (by omega)) (by simp)
theorem rep_data {m : Nat} {e : PyData} (h : toD DEEP s (.loc m) = some e) (zz : Sz 1000000 e) : fRepr [.loc m] s = some (.str e.shown, s) := by
  obtain ⟨c1, c2⟩ := toD_ok _ _ _ _ h
  have ln := PyData.shown_le_of_layable0 (d := e) (by
    unfold PyData.layable0
    simp only [Bool.and_eq_true, decide_eq_true_eq]
    exact ⟨⟨c1, Nat.le_trans c2 (by decide)⟩, Nat.le_trans zz.wt (by decide)⟩) zz.st
  unfold fRepr
  simp only [h]
  exact if_pos ⟨rfl, zz.sh, by rw [sizeLine_eq]; omega⟩
/-- repr of the three results -/
theorem rep3 {m : Nat} {t0 t1 t2 : T} {v0 v1 v2 : List It ⊕ Nat} (g : s.get m = some (.lst [t0, t1, t2])) (h0 : ResAt s t0 v0) (h1 : ResAt s t1 v1) (h2 : ResAt s t2 v2) (o0 : ResOk .w0 v0) (o1 : ResOk .w1 v1) (o2 : ResOk .w2 v2) :
    fRepr [.loc m] s = some (.str (PyData.list [resD v0, resD v1, resD v2]).shown, s) := by
  refine rep_data ?_ (sz_list (B := 40000) (fun d hd => ?_) (by simp))
  · show toD (29 + 1) s _ = _
    rw [toD]
    simp only [g]
    rw [mapO, toD_res h0 o0, mapO, toD_res h1 o1, mapO, toD_res h2 o2, mapO]
    rfl
  · simp only [List.mem_cons, List.not_mem_nil, or_false] at hd
    rcases hd with rfl | rfl | rfl
    · exact sz_res o0
    · exact sz_res o1
    · exact sz_res o2
theorem rep_none {m a b c : Nat} (g : s.get m = some (.lst [.loc a, .loc b, .loc c])) (h0 : s.get a = some (.lst [.non])) (h1 : s.get b = some (.lst [.non])) (h2 : s.get c = some (.lst [.non])) :
    fRepr [.loc m] s = some (.str "[[None], [None], [None]]", s) := by
  have sn : Sz 10 PyData.none := ⟨by rw [PyData.showable], by rw [PyData.intsShort], by rw [PyData.weight]; decide⟩
  have sl : Sz 100 (PyData.list [PyData.none]) := sz_list (B := 10) (fun d hd => by rw [List.mem_singleton.mp hd]; exact sn) (by simp)
  have e : (PyData.list [.list [.none], .list [.none], .list [.none]]).shown = "[[None], [None], [None]]" := by decide +kernel
  rw [← e]
  refine rep_data ?_ (sz_list (B := 100) (fun d hd => ?_) (by simp))
  · have t : ∀ a, s.get a = some (.lst [.non]) → toD 29 s (.loc a) = some (.list [.none]) := fun a ha => by
      show toD (28 + 1) s _ = _
      rw [toD]
      simp only [ha]
      rfl
    show toD (29 + 1) s _ = _
    rw [toD]
    simp only [g]
    rw [mapO, t a h0, mapO, t b h1, mapO, t c h2, mapO]
    rfl
  · simp only [List.mem_cons, List.not_mem_nil, or_false] at hd
    rcases hd with rfl | rfl | rfl <;> exact sl
end
end K72

set_option maxRecDepth 100000
set_option maxHeartbeats 4000000
namespace K72
open PySem PySem.Spec PyProof.Rows L2 Fx
section
variable {d n k : Nat} {s : Sto} {x0 x1 x2 x3 x4 x5 x6 x7 x8 x9 x10 x11 : Option T}
theorem Ext.no_wf {s s' : Sto} (a : Ext No s s') : Wf s' := a.wf
theorem rg3 : rgT 0 3 = [.int 0, .int 1, .int 2] := rfl
/-- [e for way in range(3)] -/
theorem ways3 {e : Ev} {R : Way → Sto → T → Prop} (he : ∀ (y : Way) (s1 : Sto), Wf s1 → Ext No s s1 → ∃ t s', e [x0, x1, x2, x3, x4, x5, x6, x7, x8, x9, x10, some (.int y.n)] s1 = .ok t s' ∧ R y s' t ∧ Ext No s1 s') (hR : ∀ (y : Way) (s1 s2 : Sto) (t : T), R y s1 t → Ext No s1 s2 → R y s2 t) (w : Wf s) :
    ∃ t0 t1 t2 s', compL chkT (gNm 11) bYes e [x0, x1, x2, x3, x4, x5, x6, x7, x8, x9, x10, none] (rgT 0 3) [] s = .ok [t0, t1, t2] s' ∧ R .w0 s' t0 ∧ R .w1 s' t1 ∧ R .w2 s' t2 ∧ Ext No s s' := by
  obtain ⟨t0, s1, a1, b1, c1⟩ := he .w0 s w (Ext.refl w)
  obtain ⟨t1, s2, a2, b2, c2⟩ := he .w1 s1 c1.wf c1
  obtain ⟨t2, s3, a3, b3, c3⟩ := he .w2 s2 c2.wf (c1.trans c2)
  refine ⟨t0, t1, t2, s3, ?_, hR _ _ _ _ (hR _ _ _ _ b1 c2) c3, hR _ _ _ _ b2 c3, b3, (c1.trans c2).trans c3⟩
  have g : ∀ (i : Int) s, gNm 11 (.int i) [x0, x1, x2, x3, x4, x5, x6, x7, x8, x9, x10, none] s = .nx [x0, x1, x2, x3, x4, x5, x6, x7, x8, x9, x10, some (.int i)] s := fun i s => by simp_arith [eq_self]
  simp only [Way.n] at a1 a2 a3
  have u0 : 0 < sizeLine := by decide
  have u1 : 1 < sizeLine := by decide
  have u2 : 2 < sizeLine := by decide
  rw [rg3]
  simp only [compL, chkT, if_true, g, bYes, a1, a2, a3, List.nil_append, List.cons_append, List.length_cons, List.length_nil, Nat.zero_add, Nat.reduceAdd, u0, u1, u2]
noncomputable def toldL (C : CallT) : Lv := lComp (iRg1 (lCons (eC (.int 3)) lNil)) (gNm 11) bYes (eCall C "_law_told" (lDef (lCons (eVar 11) (lCons (eVar 6) lNil)) [])) [11]
noncomputable def valB (C : CallT) : Sv := (sSeq (sAsg (eComp (lComp (iRg1 (lCons (eC (.int 3)) lNil)) (gNm 11) bYes (eCall C "_law_read" (lDef (lCons (eVar 11) (lCons (eVar 6) lNil)) [])) [11])) (gNm 7))
  (sIf (bV (eBin oNe (eB fRepr (lCons (eComp (lComp (iRg1 (lCons (eC (.int 3)) lNil)) (gNm 11) bYes (eCall C "_law_told" (lDef (lCons (eVar 11) (lCons (eVar 6) lNil)) [])) [11])) lNil)) (eB fRepr (lCons (eVar 7) lNil)))) (sRet (eC (.bl false))) sNil))
noncomputable def nonB (C : CallT) : Sv := (sIf (bV (eBin oNe (eB fRepr (lCons (eComp (lComp (iRg1 (lCons (eC (.int 3)) lNil)) (gNm 11) bYes (eCall C "_law_told" (lDef (lCons (eVar 11) (lCons (eVar 6) lNil)) [])) [11])) lNil)) (eC (.str "[[None], [None], [None]]")))) (sRet (eC (.bl false))) sNil)
theorem val_turn {z : Str} (h : Tz z) (w : Wf s) :
    ∃ y7 s', valB (run pr (k + 5)) [x0, x1, x2, x3, x4, x5, some (.str z), x7, x8, x9, x10, x11] s = .nx [x0, x1, x2, x3, x4, x5, some (.str z), y7, x8, x9, x10, x11] s' ∧ Ext No s s' := by
  obtain ⟨t0, t1, t2, s1, e1, r0, r1, r2, f1⟩ := ways3 (s := s) (e := eCall (run pr (k + 5)) "_law_read" (lDef (lCons (eVar 11) (lCons (eVar 6) lNil)) [])) (R := fun y s t => ResAt s t (readV y z)) (x0 := x0) (x1 := x1) (x2 := x2) (x3 := x3) (x4 := x4) (x5 := x5) (x6 := some (.str z)) (x7 := x7) (x8 := x8) (x9 := x9) (x10 := x10)
    (fun y s1 w1 _ => by
      obtain ⟨t, s2, a, b, c⟩ := law_read_ok (k := k + 1) (y := y) (s := s1) h w1
      exact ⟨t, s2, by simp_arith [a], b.at, c⟩)
    (fun y s1 s2 t h a => h.ext a) w
  let s2 := s1.add (.lst [t0, t1, t2])
  have q2 : s1.add (.lst [t0, t1, t2]) = s2 := rfl
  have f2 : Ext No s1 s2 := (Ext.refl f1.wf).add
  have g2 : s2.get s1.len = some (.lst [t0, t1, t2]) := get_add
  obtain ⟨u0, u1, u2, s3, e3, v0, v1, v2, f3⟩ := ways3 (s := s2) (e := eCall (run pr (k + 5)) "_law_told" (lDef (lCons (eVar 11) (lCons (eVar 6) lNil)) [])) (R := fun y s t => ResAt s t (readV y z)) (x0 := x0) (x1 := x1) (x2 := x2) (x3 := x3) (x4 := x4) (x5 := x5) (x6 := some (.str z)) (x7 := some (.loc s1.len)) (x8 := x8) (x9 := x9) (x10 := x10)
    (fun y s1 w1 _ => by
      obtain ⟨t, s2, a, b, c⟩ := told_ok (k := k) (y := y) (s := s1) h w1
      exact ⟨t, s2, by simp_arith [a], b.at, c⟩)
    (fun y s1 s2 t h a => h.ext a) f2.wf
  let s4 := s3.add (.lst [u0, u1, u2])
  have q4 : s3.add (.lst [u0, u1, u2]) = s4 := rfl
  have f4 : Ext No s3 s4 := (Ext.refl f3.wf).add
  have g4 : s4.get s3.len = some (.lst [u0, u1, u2]) := get_add
  have g2' : s4.get s1.len = some (.lst [t0, t1, t2]) := (f3.trans f4).oldNo g2
  have F : Ext No s1 s4 := f2.trans (f3.trans f4)
  have p1 := rep3 g4 (v0.ext f4) (v1.ext f4) (v2.ext f4) (readV_ok h) (readV_ok h) (readV_ok h)
  have p2 := rep3 g2' (r0.ext F) (r1.ext F) (r2.ext F) (readV_ok h) (readV_ok h) (readV_ok h)
  have k3 : Fx.okR (3 : Int) = true := by decide
  refine ⟨some (.loc s1.len), s4, ?_, f1.trans F⟩
  unfold valB
  simp_arith [k3, e1, q2, e3, q4, p1, p2]
theorem non_turn {v : T} (h : NonStr s v) (w : Wf s) :
    ∃ s', nonB (run pr (k + 5)) [x0, x1, x2, x3, x4, x5, some v, x7, x8, x9, x10, x11] s = .nx [x0, x1, x2, x3, x4, x5, some v, x7, x8, x9, x10, x11] s' ∧ Ext No s s' := by
  obtain ⟨u0, u1, u2, s3, e3, ⟨a0, rfl, v0⟩, ⟨a1, rfl, v1⟩, ⟨a2, rfl, v2⟩, f3⟩ := ways3 (s := s) (e := eCall (run pr (k + 5)) "_law_told" (lDef (lCons (eVar 11) (lCons (eVar 6) lNil)) [])) (R := fun _ s t => ∃ a, t = .loc a ∧ s.get a = some (.lst [.non])) (x0 := x0) (x1 := x1) (x2 := x2) (x3 := x3) (x4 := x4) (x5 := x5) (x6 := some v) (x7 := x7) (x8 := x8) (x9 := x9) (x10 := x10)
    (fun y s1 w1 x1 => by
      obtain ⟨s2, a, b, c⟩ := told_non (k := k) (y := y) (s := s1) (h.keep x1 fun _ _ c => c) w1
      exact ⟨_, s2, by simp_arith [a], ⟨_, rfl, b⟩, c⟩)
    (fun y s1 s2 t h a => by
      obtain ⟨m, e, g⟩ := h
      exact ⟨m, e, a.oldNo g⟩) w
  let s4 := s3.add (.lst [.loc a0, .loc a1, .loc a2])
  have q4 : s3.add (.lst [.loc a0, .loc a1, .loc a2]) = s4 := rfl
  have f4 : Ext No s3 s4 := (Ext.refl f3.wf).add
  have p1 := rep_none (s := s4) (m := s3.len) get_add (f4.oldNo v0) (f4.oldNo v1) (f4.oldNo v2)
  have k3 : Fx.okR (3 : Int) = true := by decide
  refine ⟨s4, ?_, f3.trans f4⟩
  unfold nonB
  simp_arith [k3, e3, q4, p1]
end
end K72

set_option maxRecDepth 100000
set_option maxHeartbeats 8000000
namespace K72
open PySem PySem.Spec PyProof.Rows L2 Fx
noncomputable def loop1 (C : CallT) : Sv := (sFor (iSeq (eBin oAdd (eVar 4) (eComp (lComp (iRg1 (lCons (eC (.int 24)) lNil)) (gNm 10) bYes (eCall C "_law_changed" (lDef (lCons (eVar 1) (lCons (eCall C "_law_one" (lDef (lCons (eVar 1) (lCons (eVar 5) lNil)) [])) lNil)) [])) [10])))) (gNm 6) (valB C))
noncomputable def tail1 (C : CallT) : Sv := (sSeq (sAsg (eG (eCall C "_law_one" (lDef (lCons (eVar 1) (lCons (eLst (lCons (eTup lNil) (lCons (eLst lNil) (lCons (eC (.int 0)) (lCons (eTup (lCons (eC (.str "none")) lNil)) (lCons (eDct [((eC (.str "0")), (eC (.int 1)))]) lNil)))))) lNil)) []))) (gNm 8))
  (sFor (iSeq (eLst (lCons (eC .non) (lCons (eC (.int 5)) (lCons (eC (.bl true)) (lCons (eVar 3) (lCons (eLst (lCons (eC (.str "3")) lNil)) (lCons eDct0 (lCons (eVar 8) lNil))))))))) (gNm 6) (nonB C)))
noncomputable def rest1 (C : CallT) : Sv := sSeq (loop1 C) (tail1 C)
noncomputable def tB (C : CallT) : Sv := (sSeq (sAsg (eTmp hTup (lComp (iRg1 (lCons (eBin oAdd (eC (.int 1)) (eCall C "_law_draw" (lDef (lCons (eVar 1) (lCons (eC (.int 6)) lNil)) []))) lNil)) (gNm 10) bYes (eCall C "_law_lamp" (lDef (lCons (eVar 1) (lCons (eBin oPow (eC (.int 10)) (eC (.int 9))) lNil)) [])) [10])) (gNm 3))
  (sSeq (sAsg (eLst (lCons (eCall C "_law_lamps_text" (lDef (lCons (eVar 3) lNil) [])) (lCons (eCall C "_law_log_text" (lDef (lCons (eCall C "_law_log" (lDef (lCons (eVar 1) (lCons (eC (.int 9)) (lCons (eC (.int 100)) lNil))) [])) lNil) [])) (lCons (eCall C "_law_runs_text" (lDef (lCons (eCall C "_law_far_runs" (lDef (lCons (eVar 1) (lCons (eC (.int 9)) lNil)) [])) lNil) [])) lNil)))) (gNm 4))
  (sSeq (sAsg (eBin oAdd (eVar 4) (eLst (lCons (eC (.str "none")) (lCons (eC (.str "")) (lCons (eC (.str " ")) (lCons (eC (.str "none none")) (lCons (eC (.str "0")) (lCons (eC (.str "0-1")) (lCons (eC (.str "0-1 1-2")) (lCons (eC (.str "0-1 2-3")) (lCons (eC (.str "3 4 5")) (lCons (eC (.str "3+1x2 4")) (lCons (eC (.str "3+1x2 5")) lNil))))))))))))) (gNm 4))
  (sSeq (sEx (eM "list" mAppend (eVar 4) (lCons (eG (eCall C "_law_spaced" (lDef (lCons (eComp (lComp (iRg1 (lCons (eC (.int 61)) lNil)) (gNm 10) bYes (eBin oAdd (eBin oAdd (eB fStr (lCons (eBin oMulT (eC (.int 3)) (eVar 10)) lNil)) (eC (.str "-"))) (eB fStr (lCons (eBin oAdd (eBin oMulT (eC (.int 3)) (eVar 10)) (eC (.int 1))) lNil))) [10])) lNil) []))) lNil)))
  (sSeq (sAsg (eBin oAdd (eVar 4) (eLst (lCons (eG (eCall C "_law_spaced" (lDef (lCons (eBin oMulT (eLst (lCons (eC (.str "hold:1")) lNil)) (eC (.int 7))) lNil) []))) (lCons (eCall C "_law_spaced" (lDef (lCons (eLRg (eC (.int 361))) lNil) [])) (lCons (eC (.str "hold")) (lCons (eC (.str "hold:")) (lCons (eC (.str "Hold:1")) lNil))))))) (gNm 4))
  (sSeq (sAsg (eBin oAdd (eVar 4) (eLst (lCons (eC (.str "hold:1000000001")) (lCons (eC (.str "-1-3")) lNil)))) (gNm 4))
  (sSeq (sAsg (eComp (lComp (iSeq (eVar 4)) (gNm 9) (bV (eBin oLt (eB fLen (lCons (eVar 9) lNil)) (eC (.int 400)))) (eVar 9) [9])) (gNm 5))
  (rest1 C))))))))
theorem law_eq (C : CallT) : b_law C = sSeq (sAsg (eCall C "_law_opened" (lDef (lCons (eVar 0) lNil) [])) (gNm 1)) (sSeq (sFor (iRg1 (lCons (eC (.int 4)) lNil)) (gNm 2) (tB C)) (sRet (eC (.bl true)))) := rfl
section
variable {d n k : Nat} {s : Sto}
theorem Frm.wf {s' : Sto} (a : Frm d s s') (w : Wf s) : Wf s' := by
  show s'.kp ≤ s'.len
  rw [a.kp, a.len]; exact w
theorem Wf.add {o : O} (w : Wf s) : Wf (s.add o) := by
  show s.kp ≤ (s.add o).len
  rw [len_add]; exact Nat.le_succ_of_le w
theorem Wf.put {o : O} {m : Nat} (w : Wf s) (h : o.hi ≤ m) : Wf (s.put m o) := by
  show (s.put m o).kp ≤ (s.put m o).len
  rw [len_put, kp_put h]; exact w
theorem text_lz {α : Type} {w : α → Str} {xs : List α} (h : ∀ x ∈ xs, K72m.Wd (w x)) (hl : xs.length ≤ 60) : Lz 5000 (K72m.textOf w xs) := by
  unfold K72m.textOf
  split
  · exact lz_check (by decide +kernel)
  · have j := join_lz (ps := xs.map w) fun p hp => by
      obtain ⟨x, hx, rfl⟩ := List.mem_map.mp hp
      exact (h x hx).ok
    refine j.mono ?_
    have s1 : ((xs.map w).map (·.length)).sum ≤ (xs.map w).length * 40 := sum_le fun a ha => by
      obtain ⟨x, hx, rfl⟩ := List.mem_map.mp ha
      exact (h x hx).ln
    unfold wgt
    rw [List.length_map] at s1 ⊢
    omega
def lit11 : List Str := ["none", "", " ", "none none", "0", "0-1", "0-1 1-2", "0-1 2-3", "3 4 5", "3+1x2 4", "3+1x2 5"]
def lit3 : List Str := ["hold", "hold:", "Hold:1"]
def lit2 : List Str := ["hold:1000000001", "-1-3"]
theorem lit_lz : ∀ z ∈ lit11 ++ lit3 ++ lit2, Lz 5000 z := fun z hz => lz_check ((List.all_eq_true (p := fun z : Str => (decide (z.length ≤ 5000) && (TL.tl z).all fun c => decide (c < 1114112)))).mp (by decide +kernel : (lit11 ++ lit3 ++ lit2).all _ = true) z hz)
def w61 (j : Nat) : Str := num (3 * (0 + (j : Int))) ++ "-" ++ num (3 * (0 + (j : Int)) + 1)
def l61 : List Str := (List.range 61).map w61
def l7 : List Str := List.replicate 7 ("hold:1" : Str)
def l361 : List Int := (List.range 361).map fun i : Nat => (i : Int)
theorem l61_in : ∀ p ∈ l61, Lz 30 p := by
  intro p hp
  obtain ⟨j, hj, rfl⟩ := List.mem_map.mp hp
  have hj := List.mem_range.mp hj
  have a := num_len (i := 3 * (0 + (j : Int))) (by omega) (by omega)
  have b := num_len (i := 3 * (0 + (j : Int)) + 1) (by omega) (by omega)
  have a2 := num_digits (i := 3 * (0 + (j : Int))) (by omega)
  have b2 := num_digits (i := 3 * (0 + (j : Int)) + 1) (by omega)
  have x : Lz 10 (num (3 * (0 + (j : Int)))) := ⟨a.2, fun c hc => by have := a2 c hc; omega⟩
  have y : Lz 10 (num (3 * (0 + (j : Int)) + 1)) := ⟨b.2, fun c hc => by have := b2 c hc; omega⟩
  have m : Lz 1 ("-" : Str) := lz_check (by decide +kernel)
  exact ((x.app m).app y).mono (by omega)
theorem wgt_le {B : Nat} {ps : List Str} (h : ∀ p ∈ ps, Lz B p) : wgt ps ≤ ps.length * (B + 1) := by
  induction ps with
  | nil => simp [wgt]
  | cons a r ih =>
    have h1 := (h a List.mem_cons_self).len
    have h2 := ih fun p hp => h p (List.mem_cons_of_mem _ hp)
    rw [wgt_cons, List.length_cons, Nat.succ_mul]; omega
theorem l7_in : ∀ p ∈ l7, Lz 30 p := fun p hp => by
  rw [List.eq_of_mem_replicate hp]
  exact lz_check (by decide +kernel)
theorem l361_in : ∀ i ∈ l361, 0 ≤ i ∧ i < 10000000000 := fun i hi => by
  obtain ⟨j, hj, rfl⟩ := List.mem_map.mp hi
  have := List.mem_range.mp hj
  omega
theorem l361_lz : ∀ p ∈ l361.map num, Lz 10 p := fun p hp => by
  obtain ⟨i, hi, rfl⟩ := List.mem_map.mp hp
  obtain ⟨h1, h2⟩ := l361_in i hi
  exact ⟨(num_len h1 h2).2, fun c hc => by have := num_digits h1 c hc; omega⟩
theorem j61 : Lz 5000 (Txt.join " " l61) := (join_lz fun p hp => (l61_in p hp).okc).mono (by have := wgt_le l61_in; have e : l61.length = 61 := by simp [l61]
                                                                                             rw [e] at this; omega)
theorem j7 : Lz 5000 (Txt.join " " l7) := (join_lz fun p hp => (l7_in p hp).okc).mono (by have := wgt_le l7_in; have e : l7.length = 7 := by simp [l7]
                                                                                          rw [e] at this; omega)
theorem j361 : Lz 5000 (Txt.join " " (l361.map num)) := (join_lz fun p hp => (l361_lz p hp).okc).mono (by have := wgt_le l361_lz; have e : (l361.map num).length = 361 := by simp [l361]
                                                                                                          rw [e] at this; omega)
theorem comp61 {r : Fx.Env} {r' : Int → Fx.Env} (h : ∀ i s, gNm 10 (.int i) r s = .nx (r' i) s) (h2 : ∀ i, (r' i)[10]? = some (some (.int i))) : compL chkT (gNm 10) bYes (eBin oAdd (eBin oAdd (eB fStr (lCons (eBin oMulT (eC (.int 3)) (eVar 10)) lNil)) (eC (.str "-"))) (eB fStr (lCons (eBin oAdd (eBin oMulT (eC (.int 3)) (eVar 10)) (eC (.int 1))) lNil))) r (rgT 0 61) [] s = .ok (l61.map T.str) s := by
  have c1 : compL chkT (gNm 10) bYes (eBin oAdd (eBin oAdd (eB fStr (lCons (eBin oMulT (eC (.int 3)) (eVar 10)) lNil)) (eC (.str "-"))) (eB fStr (lCons (eBin oAdd (eBin oMulT (eC (.int 3)) (eVar 10)) (eC (.int 1))) lNil))) r ((List.range 61).map fun j : Nat => T.int (0 + (j : Int))) [] s = .ok ([] ++ (List.range 61).map fun j => T.str (w61 j)) s :=
    compL_map rfl (List.range 61) [] (fun j hj => ⟨r' (0 + (j : Int)), h _ _, by
      have hj := List.mem_range.mp hj
      have g := h2 (0 + (j : Int))
      have k2 : okN (3 : Int) = true := by decide
      have k3 : okN (0 + (j : Int)) = true := okN_small (by omega) (by omega)
      have k4 : okN (3 * (0 + (j : Int))) = true := okN_small (by omega) (by omega)
      have k5 : okN (3 * (0 + (j : Int)) + 1) = true := okN_small (by omega) (by omega)
      have a := num_len (i := 3 * (0 + (j : Int))) (by omega) (by omega)
      have b := num_len (i := 3 * (0 + (j : Int)) + 1) (by omega) (by omega)
      have e1 := one_lens.2.1
      have z1 : (num (3 * (0 + (j : Int)))).length + ("-" : Str).length ≤ sizeLine := by rw [sizeLine_eq]; omega
      have z2 : (num (3 * (0 + (j : Int))) ++ "-").length + (num (3 * (0 + (j : Int)) + 1)).length ≤ sizeLine := by rw [sizeLine_eq, len_app]; omega
      simp_arith [g, k2, k3, k4, k5, z1, z2]
      rfl⟩) (by simp [sizeLine_eq])
  have e2 : ((List.range 61).map fun j => T.str (w61 j)) = l61.map T.str := by simp [l61]
  rw [e2, List.nil_append] at c1
  exact c1
end
end K72

set_option maxRecDepth 100000
set_option maxHeartbeats 8000000
namespace K72
open PySem PySem.Spec PyProof.Rows L2 Fx
section
variable {d n k : Nat} {s : Sto}
theorem lrg361 {r : Fx.Env} : eLRg (eC (.int 361)) r s = .ok (.loc s.len) (s.add (.lst (l361.map T.int))) := by
  unfold eLRg
  rw [ev_c]
  simp only [Out.bnd]
  rw [if_pos (by decide : (0 : Int) ≤ 361 ∧ (361 : Int) ≤ 16777216)]
  have e : ((List.range (361 : Int).toNat).map fun i : Nat => T.int i) = l361.map T.int := by
    unfold l361
    rw [List.map_map]
    rfl
  rw [e]
theorem hold7 {r : Fx.Env} : (eBin oMulT (eLst (lCons (eC (.str "hold:1")) lNil)) (eC (.int 7))) r s = .ok (.loc (s.add (.lst [.str "hold:1"])).len) ((s.add (.lst [.str "hold:1"])).add (.lst (l7.map T.str))) := by
  have m : mulL 7 (s.add (.lst [.str "hold:1"])) (some (.lst [.str "hold:1"])) = some (.loc (s.add (.lst [.str "hold:1"])).len, (s.add (.lst [.str "hold:1"])).add (.lst (l7.map T.str))) := by
    unfold mulL
    simp only
    rw [if_pos (by decide +kernel)]
    rfl
  have g : (s.add (.lst [.str "hold:1"])).get s.len = some (.lst [.str "hold:1"]) := get_add
  simp_arith [g, m]
theorem stage1 {sc t : T} {x3 x4 x5 x6 x7 x8 x9 x10 x11 : Option T} (P : Pot d n s) (w : Wf s) (hn : n + 100000 ≤ K72m.NB) :
    ∃ (lamps : List (Str × Int)) (tl sh : List Str) (M4 M5 : Nat) (s' : Sto), tB (run pr (k + 5)) [some sc, some (.loc d), some t, x3, x4, x5, x6, x7, x8, x9, x10, x11] s = rest1 (run pr (k + 5)) [some sc, some (.loc d), some t, some (.tup (lamps.map K72m.encL)), some (.loc M4), some (.loc M5), x6, x7, x8, x9, x10, x11] s' ∧
      Pot d (n + 5000) s' ∧ Wf s' ∧ s'.get M4 = some (.lst (tl.map T.str)) ∧ s'.get M5 = some (.lst (sh.map T.str)) ∧ d < M4 ∧ d < M5 ∧ (∀ z ∈ tl, Lz 5000 z) ∧ tl.length = 22 ∧ (∀ z ∈ sh, Lz 400 z) ∧ 0 < sh.length ∧ sh.length ≤ 22 := by
  unfold K72m.NB at hn
  have hd := P.lt
  -- lamps
  obtain ⟨c, s1, e1, a1, b1, P1, F1⟩ := draw_spec (k := k + 4) (many := 6) pr__law_draw P (by omega) (by decide) (by decide)
  have k1 : Fx.okR (1 + c) = true := okR_small (by omega) (by omega)
  have hc7 : (rgT 0 (1 + c)).length ≤ 6 := by simp [rgT]; omega
  obtain ⟨ys, s2, e2, ⟨P2, F2⟩, hys, hyl⟩ := compL_at (ts := rgT 0 (1 + c)) (I := fun i s' => Pot d (n + 1 + 5 * i) s' ∧ Frm d s s') (P := fun y => ∃ q, y = K72m.encL q ∧ K72m.okL q) (chk := chkT) (g := gNm 10) (e := eCall (run pr (k + 5)) "_law_lamp" (lDef (lCons (eVar 1) (lCons (eBin oPow (eC (.int 10)) (eC (.int 9))) lNil)) [])) (r0 := [some sc, some (.loc d), some t, x3, x4, x5, x6, x7, x8, x9, none, x11]) (fun _ _ _ => rfl) (fun i u s' hu hI => by
      have hi : i < (rgT 0 (1 + c)).length := (List.getElem?_eq_some_iff.mp hu).1
      obtain ⟨q, s3, e3, P3, F3, hq⟩ := K72m.lamp_spec (k := k + 2) hI.1 (by unfold K72m.NB; omega)
      exact ⟨[some sc, some (.loc d), some t, x3, x4, x5, x6, x7, x8, x9, some u, x11], K72m.encL q, s3, by simp_arith! [eq_self], by simp_arith! [e3], ⟨P3.mono (by omega), hI.2.trans F3⟩, q, rfl, hq⟩) (rgT 0 (1 + c)) [] 0 s1 rfl (Nat.zero_le _) ⟨P1, F1⟩ (by simp [sizeLine_eq]; omega)
  obtain ⟨lamps, rfl, hlamps⟩ := list_dec hys
  simp only [List.nil_append] at e2
  have hll : lamps.length ≤ 6 := by rw [List.length_map] at hyl; omega
  have P2 : Pot d (n + 100) s2 := P2.mono (by omega)
  obtain ⟨log, s3, e3, P3, F3, hlog, hlogl, _⟩ := K72m.log_spec (k := k + 2) (great := 100) P2 (by unfold K72m.NB; omega) (by omega) (by omega)
  obtain ⟨runs, s4, e4, P4, F4, hruns, hrunsl, _⟩ := K72m.runs_spec (k := k + 2) P3 (by unfold K72m.NB; omega)
  have w4 : Wf s4 := Frm.wf F4 (Frm.wf F3 (Frm.wf F2 w))
  have lt1 := K72m.law_lamps_text_ok (k := k + 4) (s := s2) hlamps (by omega)
  have lt2 := K72m.law_log_text_ok (k := k + 4) (s := s3) hlog (by omega)
  have lt3 := K72m.law_runs_text_ok (k := k + 4) (s := s4) hruns (by omega)
  obtain ⟨A, hA⟩ : ∃ A, A = K72m.textOf K72m.wL lamps := ⟨_, rfl⟩
  obtain ⟨B, hB⟩ : ∃ B, B = K72m.textOf K72m.wP log := ⟨_, rfl⟩
  obtain ⟨C, hC⟩ : ∃ C, C = K72m.textOf K72m.wR runs := ⟨_, rfl⟩
  have zA : Lz 5000 A := by rw [hA]; exact text_lz (fun x hx => K72m.wd_L (hlamps x hx)) (by omega)
  have zB : Lz 5000 B := by rw [hB]; exact text_lz (fun x hx => K72m.wd_P (hlog x hx)) (by omega)
  have zC : Lz 5000 C := by rw [hC]; exact text_lz (fun x hx => K72m.wd_R (hruns x hx)) (by omega)
  rw [← hA] at lt1
  rw [← hB] at lt2
  rw [← hC] at lt3
  have hd4 : d < s4.len := P4.lt
  let tl0 : List Str := [A, B, C]
  let s5 := s4.add (.lst (tl0.map T.str))
  let s6 := s5.add (.lst (lit11.map T.str))
  have g5 : s6.get s4.len = some (.lst (tl0.map T.str)) := get_add_old get_add
  have g6 : s6.get s5.len = some (.lst (lit11.map T.str)) := get_add
  let tl1 : List Str := tl0 ++ lit11
  let s7 := s6.add (.lst (tl1.map T.str))
  have l1 : tl1.length = 14 := rfl
  have e7 : oAdd (.loc s4.len) (.loc s5.len) s6 = some (.loc s6.len, s7) := by
    rw [vv_addl, g5, g6, vv_addl1 (by simp [tl0, lit11, sizeLine_eq]), ← List.map_append]
  have g7 : s7.get s6.len = some (.lst (tl1.map T.str)) := get_add
  -- 61 words
  have f61 : ∀ s, (eComp (lComp (iRg1 (lCons (eC (.int 61)) lNil)) (gNm 10) bYes (eBin oAdd (eBin oAdd (eB fStr (lCons (eBin oMulT (eC (.int 3)) (eVar 10)) lNil)) (eC (.str "-"))) (eB fStr (lCons (eBin oAdd (eBin oMulT (eC (.int 3)) (eVar 10)) (eC (.int 1))) lNil))) [10])) [some sc, some (.loc d), some t, some (.tup (lamps.map K72m.encL)), some (.loc s6.len), x5, x6, x7, x8, x9, x10, x11] s = .ok (.loc s.len) (s.add (.lst (l61.map T.str))) := fun s => by
    have c61 := comp61 (s := s) (r := [some sc, some (.loc d), some t, some (.tup (lamps.map K72m.encL)), some (.loc s6.len), x5, x6, x7, x8, x9, none, x11]) (r' := fun i => [some sc, some (.loc d), some t, some (.tup (lamps.map K72m.encL)), some (.loc s6.len), x5, x6, x7, x8, x9, some (.int i), x11]) (fun i s => by simp_arith [eq_self]) (fun i => rfl)
    have k61 : Fx.okR (61 : Int) = true := by decide
    simp_arith [k61, c61]
  have J1 : eG (eCall (run pr (k + 5)) "_law_spaced" (lDef (lCons (eComp (lComp (iRg1 (lCons (eC (.int 61)) lNil)) (gNm 10) bYes (eBin oAdd (eBin oAdd (eB fStr (lCons (eBin oMulT (eC (.int 3)) (eVar 10)) lNil)) (eC (.str "-"))) (eB fStr (lCons (eBin oAdd (eBin oMulT (eC (.int 3)) (eVar 10)) (eC (.int 1))) lNil))) [10])) lNil) [])) [some sc, some (.loc d), some t, some (.tup (lamps.map K72m.encL)), some (.loc s6.len), x5, x6, x7, x8, x9, x10, x11] s7 = .ok (.str (Txt.join " " l61)) s7 :=
    spc (k := k + 4) (f61 s7) get_add (by have := wgt_le l61_in; have e : l61.length = 61 := by simp [l61]
                                          rw [e] at this; omega) Gro.add
  obtain ⟨T1, hT1⟩ : ∃ T1, T1 = Txt.join " " l61 := ⟨_, rfl⟩
  have z1 : Lz 5000 T1 := by rw [hT1]; exact j61
  rw [← hT1] at J1
  let tl2 : List Str := tl1 ++ [T1]
  have etl2 : tl1.map T.str ++ [T.str T1] = tl2.map T.str := by simp [tl2]
  let s8 := s7.put s6.len (.lst (tl2.map T.str))
  have g8 : s8.get s6.len = some (.lst (tl2.map T.str)) := get_put (lt_of_get g7)
  have J2 : eG (eCall (run pr (k + 5)) "_law_spaced" (lDef (lCons (eBin oMulT (eLst (lCons (eC (.str "hold:1")) lNil)) (eC (.int 7))) lNil) [])) [some sc, some (.loc d), some t, some (.tup (lamps.map K72m.encL)), some (.loc s6.len), x5, x6, x7, x8, x9, x10, x11] s8 = .ok (.str (Txt.join " " l7)) s8 :=
    spc (k := k + 4) hold7 get_add (by have := wgt_le l7_in; have e : l7.length = 7 := by simp [l7]
                                       rw [e] at this; omega) (Gro.add.trans Gro.add)
  obtain ⟨T2, hT2⟩ : ∃ T2, T2 = Txt.join " " l7 := ⟨_, rfl⟩
  have z2 : Lz 5000 T2 := by rw [hT2]; exact j7
  rw [← hT2] at J2
  let s9 := s8.add (.lst (l361.map T.int))
  have J3 := spaced_ints (k := k + 4) (s := s9) (m := s8.len) get_add l361_in (by simp [l361])
  obtain ⟨T3, hT3⟩ : ∃ T3, T3 = Txt.join " " (l361.map num) := ⟨_, rfl⟩
  have z3 : Lz 5000 T3 := by rw [hT3]; exact j361
  rw [← hT3] at J3
  let l5 : List Str := T2 :: T3 :: lit3
  let s10 := s9.add (.lst (l5.map T.str))
  have g9 : s10.get s6.len = some (.lst (tl2.map T.str)) := get_add_old (get_add_old g8)
  have g10 : s10.get s9.len = some (.lst (l5.map T.str)) := get_add
  let tl3 : List Str := tl2 ++ l5
  let s11 := s10.add (.lst (tl3.map T.str))
  have e11 : oAdd (.loc s6.len) (.loc s9.len) s10 = some (.loc s10.len, s11) := by
    rw [vv_addl, g9, g10, vv_addl1 (by simp [tl2, l1, l5, lit3, sizeLine_eq]), ← List.map_append]
  let s12 := s11.add (.lst (lit2.map T.str))
  have g11 : s12.get s10.len = some (.lst (tl3.map T.str)) := get_add_old get_add
  have g12 : s12.get s11.len = some (.lst (lit2.map T.str)) := get_add
  obtain ⟨tl4, htl4⟩ : ∃ tl4, tl4 = tl3 ++ lit2 := ⟨_, rfl⟩
  have l4 : tl4.length = 22 := by rw [htl4]; rfl
  let s13 := s12.add (.lst (tl4.map T.str))
  have e13 : oAdd (.loc s10.len) (.loc s11.len) s12 = some (.loc s12.len, s13) := by
    rw [vv_addl, g11, g12, vv_addl1 (by simp [tl3, tl2, l1, l5, lit3, lit2, sizeLine_eq]), ← List.map_append, ← htl4]
  have g13 : s13.get s12.len = some (.lst (tl4.map T.str)) := get_add
  have z4 : ∀ z ∈ tl4, Lz 5000 z := fun z hz => by
    rw [htl4] at hz
    simp only [tl3, tl2, tl1, tl0, l5, List.mem_append, List.mem_cons, List.not_mem_nil, or_false] at hz
    rcases hz with ((((rfl | rfl | rfl) | hz) | rfl) | rfl | rfl | hz) | hz
    · exact zA
    · exact zB
    · exact zC
    · exact lit_lz z (by simp only [List.mem_append]; exact .inl (.inl hz))
    · exact z1
    · exact z2
    · exact z3
    · exact lit_lz z (by simp only [List.mem_append]; exact .inl (.inr hz))
    · exact lit_lz z (by simp only [List.mem_append]; exact .inr hz)
  obtain ⟨sh, hsh⟩ : ∃ sh, sh = tl4.filter fun z => decide (((z.length : Nat) : Int) < 400) := ⟨_, rfl⟩
  have c14 : compL (chkL s12.len (tl4.map T.str)) (gNm 9) (bV (eBin oLt (eB fLen (lCons (eVar 9) lNil)) (eC (.int 400)))) (eVar 9) [some sc, some (.loc d), some t, some (.tup (lamps.map K72m.encL)), some (.loc s12.len), x5, x6, x7, x8, none, x10, x11] (tl4.map T.str) [] s13 = .ok ([] ++ (tl4.filter fun z => decide (((z.length : Nat) : Int) < 400)).map T.str) s13 :=
    compL_filter (chkL_iff.mpr g13) tl4 [] (fun z hz => ⟨[some sc, some (.loc d), some t, some (.tup (lamps.map K72m.encL)), some (.loc s12.len), x5, x6, x7, x8, some (.str z), x10, x11], by simp_arith [eq_self], by
      have h5 : z.length ≤ sizeLine := by have := (z4 z hz).len; rw [sizeLine_eq]; omega
      simp_arith [h5], fun _ => by simp_arith [eq_self]⟩) (by rw [l4]; decide)
  rw [← hsh, List.nil_append] at c14
  let s14 := s13.add (.lst (sh.map T.str))
  have P14 : Pot d (n + 5000) s14 := ((((((((P4.add.add.add).put (m := s6.len) (by have : s6.len = s4.len + 1 + 1 := by simp only [s6, s5, len_add]
                                                                                   omega)).add).add).add).add).add).add).mono (by omega)
  have hm : ∀ z ∈ sh, z ∈ tl4 ∧ ((z.length : Nat) : Int) < 400 := fun z hz => by
    rw [hsh] at hz
    obtain ⟨a, b⟩ := List.mem_filter.mp hz
    exact ⟨a, of_decide_eq_true b⟩
  have hi0 : ∀ l : List Str, O.hi (.lst (l.map T.str)) = 0 := fun l => oh_str
  refine ⟨lamps, tl4, sh, s12.len, s13.len, s14, ?_, P14, ?_, get_add_old g13, get_add, ?_, ?_, z4, l4, fun z hz => ?_, ?_, ?_⟩
  · have q5 : s4.add (.lst [.str A, .str B, .str C]) = s5 := rfl
    have q6 : s5.add (.lst [.str "none", .str "", .str " ", .str "none none", .str "0", .str "0-1", .str "0-1 1-2", .str "0-1 2-3", .str "3 4 5", .str "3+1x2 4", .str "3+1x2 5"]) = s6 := rfl
    have q8 : s7.put s6.len (.lst (tl2.map T.str)) = s8 := rfl
    have q9 : s8.add (.lst (l361.map T.int)) = s9 := rfl
    have q10 : s9.add (.lst [.str T2, .str T3, .str "hold", .str "hold:", .str "Hold:1"]) = s10 := rfl
    have q12 : s11.add (.lst [.str "hold:1000000001", .str "-1-3"]) = s12 := rfl
    have q14 : s13.add (.lst (sh.map T.str)) = s14 := rfl
    have u11 : 11 ≤ sizeLine := by decide
    have u14 : (tl1.map T.str).length < sizeLine := by rw [List.length_map, l1]; decide
    have lr := lrg361 (s := s8) (r := [some sc, some (.loc d), some t, some (.tup (lamps.map K72m.encL)), some (.loc s6.len), x5, x6, x7, x8, x9, x10, x11])
    unfold tB
    simp_arith [↓J1, ↓J2, ↓lr, e1, k1, e2, lt1, e3, lt2, e4, lt3, q5, u11, q6, e7, g7, u14, etl2, q8, q9, J3, q10, e11, q12, e13, g13, c14, q14]
  · exact Wf.add (Wf.add (Wf.add (Wf.add (Wf.add (Wf.add (Wf.put (Wf.add (Wf.add (Wf.add w4))) (by rw [hi0]; exact Nat.zero_le _)))))))
  · have : s12.len = s4.len + 7 := by simp only [s12, s11, s10, s9, s8, s7, s6, s5, len_add, len_put]
    omega
  · have : s13.len = s4.len + 8 := by simp only [s13, s12, s11, s10, s9, s8, s7, s6, s5, len_add, len_put]
    omega
  · obtain ⟨a, b⟩ := hm z hz
    exact ⟨by omega, (z4 z a).okc⟩
  · have m : ("none" : Str) ∈ sh := by
      rw [hsh]
      refine List.mem_filter.mpr ⟨?_, by decide⟩
      rw [htl4]
      simp [tl3, tl2, tl1, lit11]
    exact List.length_pos_of_mem m
  · rw [hsh]
    exact Nat.le_trans (List.length_filter_le _ _) (by omega)
end
end K72

set_option maxRecDepth 100000
set_option maxHeartbeats 8000000
namespace K72
open PySem PySem.Spec PyProof.Rows L2 Fx
section
variable {d n k : Nat} {s : Sto} {sc tn lam : T} {x3 x4 x5 x6 x7 x8 x9 x10 x11 : Option T}
theorem pot_ext {s' : Sto} (P : Pot d n s) (a : Ext No s s') : Pot d n s' := P.of_low fun i hi => a.get i (by have := P.lt; omega) fun h => h
theorem loop1_ok {M4 M5 : Nat} {tl sh : List Str} (P : Pot d n s) (w : Wf s) (hn : n + 100000 ≤ K72m.NB) (g4 : s.get M4 = some (.lst (tl.map T.str))) (g5 : s.get M5 = some (.lst (sh.map T.str))) (h4 : d < M4) (h5 : d < M5) (z4 : ∀ z ∈ tl, Lz 5000 z) (l4 : tl.length = 22) (z5 : ∀ z ∈ sh, Lz 400 z) (l5 : 0 < sh.length) (l5' : sh.length ≤ 22) :
    ∃ y6 y7 s', loop1 (run pr (k + 5)) [some sc, some (.loc d), some tn, some lam, some (.loc M4), some (.loc M5), x6, x7, x8, x9, x10, x11] s = .nx [some sc, some (.loc d), some tn, some lam, some (.loc M4), some (.loc M5), y6, y7, x8, x9, x10, x11] s' ∧ Pot d (n + 1000) s' ∧ Wf s' := by
  unfold K72m.NB at hn
  have l24 : (rgT 0 24).length = 24 := rfl
  obtain ⟨ys, s1, e1, ⟨P1, F1⟩, hys, hyl⟩ := compL_at (ts := rgT 0 24) (I := fun i s' => Pot d (n + 6 * i) s' ∧ Frm d s s') (P := fun y => ∃ z, y = T.str z ∧ Lz 2000 z) (chk := chkT) (g := gNm 10) (e := eCall (run pr (k + 5)) "_law_changed" (lDef (lCons (eVar 1) (lCons (eCall (run pr (k + 5)) "_law_one" (lDef (lCons (eVar 1) (lCons (eVar 5) lNil)) [])) lNil)) [])) (r0 := [some sc, some (.loc d), some tn, some lam, some (.loc M4), some (.loc M5), x6, x7, x8, x9, none, x11]) (fun _ _ _ => rfl) (fun i u s' hu hI => by
      obtain ⟨P', F'⟩ := hI
      have hi : i < (rgT 0 24).length := (List.getElem?_eq_some_iff.mp hu).1
      obtain ⟨t, s2, e2, ht, P2, F2⟩ := one_spec (k := k + 3) (us := sh.map T.str) pr__law_draw pr__law_one P' (by omega) ((F'.get _ h5).trans g5) h5 (by rw [List.length_map]; exact l5) (by rw [List.length_map]; omega) (fun t ht => by rw [str_hi t ht]; exact Nat.zero_le _)
      obtain ⟨z, rfl, hz⟩ := str_mem ht
      obtain ⟨v, s3, e3, hv, P3, F3⟩ := changed_spec (k := k + 2) P2 (by unfold K72m.NB; omega) (z5 z hz)
      exact ⟨[some sc, some (.loc d), some tn, some lam, some (.loc M4), some (.loc M5), x6, x7, x8, x9, some u, x11], .str v, s3, by simp_arith! [eq_self], by simp_arith! [e2, e3], ⟨P3.mono (by omega), (F'.trans F2).trans F3⟩, v, rfl, hv⟩) (rgT 0 24) [] 0 s rfl (Nat.zero_le _) ⟨P, Frm.refl⟩ (by simp [sizeLine_eq, l24])
  obtain ⟨vs, rfl, hvs⟩ := list_dec hys
  rw [List.length_map, l24] at hyl
  simp only [List.nil_append] at e1
  have w1 : Wf s1 := Frm.wf F1 w
  let s2 := s1.add (.lst (vs.map T.str))
  have q2 : s1.add (.lst (vs.map T.str)) = s2 := rfl
  have f4 : s2.get M4 = some (.lst (tl.map T.str)) := get_add_old ((F1.get _ h4).trans g4)
  have f5 : s2.get s1.len = some (.lst (vs.map T.str)) := get_add
  let s3 := s2.add (.lst ((tl ++ vs).map T.str))
  have e3 : oAdd (.loc M4) (.loc s1.len) s2 = some (.loc s2.len, s3) := by
    rw [vv_addl, f4, f5, vv_addl1 (by rw [List.length_map, List.length_map, l4, hyl]; decide), ← List.map_append]
  have f3 : s3.get s2.len = some (.lst ((tl ++ vs).map T.str)) := get_add
  have k24 : Fx.okR (24 : Int) = true := by decide
  have hI : iSeq (eBin oAdd (eVar 4) (eComp (lComp (iRg1 (lCons (eC (.int 24)) lNil)) (gNm 10) bYes (eCall (run pr (k + 5)) "_law_changed" (lDef (lCons (eVar 1) (lCons (eCall (run pr (k + 5)) "_law_one" (lDef (lCons (eVar 1) (lCons (eVar 5) lNil)) [])) lNil)) [])) [10]))) [some sc, some (.loc d), some tn, some lam, some (.loc M4), some (.loc M5), x6, x7, x8, x9, x10, x11] s = .ok ((tl ++ vs).map T.str) (chkL s2.len ((tl ++ vs).map T.str)) s3 := by
    simp_arith [k24, e1, q2, e3, f3]
  have w3 : Wf s3 := Wf.add (Wf.add w1)
  have P3 : Pot d (n + 1000) s3 := (P1.add.add).mono (by omega)
  obtain ⟨r', s4, e4, ⟨y6, y7, rfl⟩, X4⟩ := forL_inv (I := fun _ r s' => (∃ v6 v7, r = [some sc, some (.loc d), some tn, some lam, some (.loc M4), some (.loc M5), v6, v7, x8, x9, x10, x11]) ∧ Ext No s3 s') (chk := chkL s2.len ((tl ++ vs).map T.str)) (g := gNm 6) (b := valB (run pr (k + 5))) (ts := (tl ++ vs).map T.str) (r := [some sc, some (.loc d), some tn, some lam, some (.loc M4), some (.loc M5), x6, x7, x8, x9, x10, x11]) (s := s3)
    (fun _ _ s' h => chkL_iff.mpr (h.2.oldNo f3))
    (fun i t r s' ht hIv => by
      obtain ⟨⟨v6, v7, rfl⟩, X⟩ := hIv
      obtain ⟨z, rfl, hz⟩ := str_mem (List.mem_of_getElem? ht)
      have tz : Tz z := by
        rcases List.mem_append.mp hz with hz | hz
        · exact (z4 z hz).tz (by omega)
        · exact (hvs z hz).tz (by omega)
      obtain ⟨y7, s5, e5, X5⟩ := val_turn (k := k) (s := s') (x0 := some sc) (x1 := some (.loc d)) (x2 := some tn) (x3 := some lam) (x4 := some (.loc M4)) (x5 := some (.loc M5)) (x7 := v7) (x8 := x8) (x9 := x9) (x10 := x10) (x11 := x11) tz X.wf
      exact ⟨[some sc, some (.loc d), some tn, some lam, some (.loc M4), some (.loc M5), some (.str z), v7, x8, x9, x10, x11], s', _, s5, by simp_arith! [eq_self], e5, ⟨_, _, rfl⟩, X.trans X5⟩)
    ⟨⟨_, _, rfl⟩, Ext.refl w3⟩
  refine ⟨y6, y7, s4, ?_, pot_ext P3 X4, X4.wf⟩
  unfold loop1 sFor
  rw [hI]
  exact e4
theorem frm_ext {s' : Sto} (w : Wf s) (a : Frm d s s') : Ext (fun i => i ≤ d) s s' :=
  ⟨Nat.le_of_eq a.len.symm, Frm.wf a w, Nat.le_of_eq a.kp.symm, fun i _ h => a.get i (by omega)⟩
theorem tail1_ok {ls : List T} (P : Pot d n s) (w : Wf s) (hn : n + 100000 ≤ K72m.NB) :
    ∃ y6 y8 s', tail1 (run pr (k + 5)) [some sc, some (.loc d), some tn, some (.tup ls), x4, x5, x6, x7, x8, x9, x10, x11] s = .nx [some sc, some (.loc d), some tn, some (.tup ls), x4, x5, y6, x7, y8, x9, x10, x11] s' ∧ Pot d (n + 1) s' ∧ Wf s' := by
  unfold K72m.NB at hn
  have hd := P.lt
  let s1 := s.add (.lst [])
  have q1 : s.add (.lst []) = s1 := rfl
  let s2 := s1.add (.dct [(.inr "0", .int 1)])
  have q2 : s1.add (.dct [(.inr "0", .int 1)]) = s2 := rfl
  have l1 : s1.len = s.len + 1 := len_add
  have l2 : s2.len = s.len + 2 := by simp only [s2, len_add, l1]
  have g1 : s2.get s.len = some (.lst []) := get_add_old get_add
  have g2 : s2.get s1.len = some (.dct [(.inr "0", .int 1)]) := get_add
  let us : List T := [.tup [], .loc s.len, .int 0, .tup [.str "none"], .loc s1.len]
  let s3 := s2.add (.lst us)
  have q3 : s2.add (.lst [.tup [], .loc s.len, .int 0, .tup [.str "none"], .loc s1.len]) = s3 := rfl
  have l3 : s3.len = s.len + 3 := by simp only [s3, len_add, l2]
  have hh : ∀ t ∈ us, t.hi ≤ s.len + 2 := fun t ht => by
    simp only [us, List.mem_cons, List.not_mem_nil, or_false] at ht
    rcases ht with rfl | rfl | rfl | rfl | rfl
    · exact Nat.zero_le _
    · show s.len + 1 ≤ _; omega
    · exact Nat.zero_le _
    · exact Nat.zero_le _
    · show s1.len + 1 ≤ _; omega
  obtain ⟨t, s4, e4, ht, P4, F4⟩ := one_spec (k := k + 3) (us := us) pr__law_draw pr__law_one (P.add.add.add : Pot d n s3) (by omega) (get_add : s3.get s2.len = some (.lst us)) (show d < s2.len by omega) (by simp [us]) (by simp [us]) (fun t ht => by have := hh t ht; show t.hi ≤ s3.len; omega)
  have w3 : Wf s3 := Wf.add (Wf.add (Wf.add w))
  have X3 : Ext (fun i => i ≤ d) s s3 := ((Ext.refl w).add.add).add
  have X4 : Ext (fun i => i ≤ d) s s4 := X3.trans (frm_ext w3 F4)
  have l4 : s4.len = s.len + 3 := by rw [F4.len, l3]
  obtain ⟨s5, e5, X5, G5, _, hi5⟩ := gc_ext (t := t) w X4 (by have := hh t ht; omega)
  have P5 : Pot d (n + 1) s5 := P4.of_low fun i hi => G5 i (by omega)
  have w5 : Wf s5 := X5.wf
  have N5 : NonStr s5 t := by
    have ht := ht
    simp only [us, List.mem_cons, List.not_mem_nil, or_false] at ht
    rcases ht with rfl | rfl | rfl | rfl | rfl
    · exact .inr (.inr (.inr (.inl ⟨_, rfl⟩)))
    · refine .inr (.inr (.inr (.inr (.inl ⟨s.len, [], rfl, ?_⟩))))
      rw [G5 _ (by show s.len < max s.len (s.len + 1); omega), F4.get _ (by omega)]
      exact get_add_old g1
    · exact .inr (.inl ⟨_, rfl⟩)
    · exact .inr (.inr (.inr (.inl ⟨_, rfl⟩)))
    · refine .inr (.inr (.inr (.inr (.inr ⟨s1.len, [(.inr "0", .int 1)], rfl, ?_⟩))))
      rw [G5 _ (by show s1.len < max s.len (s1.len + 1); omega), F4.get _ (by omega)]
      exact get_add_old g2
  -- the values
  let s6 := s5.add (.lst [.str "3"])
  have q6 : s5.add (.lst [.str "3"]) = s6 := rfl
  let s7 := s6.add (.dct [])
  have q7 : s6.add (.dct []) = s7 := rfl
  have g6 : s7.get s5.len = some (.lst [.str "3"]) := get_add_old get_add
  have g7 : s7.get s6.len = some (.dct []) := get_add
  let vs : List T := [.non, .int 5, .bl true, .tup ls, .loc s5.len, .loc s6.len, t]
  let s8 := s7.add (.lst vs)
  have q8 : s7.add (.lst [.non, .int 5, .bl true, .tup ls, .loc s5.len, .loc s6.len, t]) = s8 := rfl
  have f8 : s8.get s7.len = some (.lst vs) := get_add
  have X8 : Ext No s5 s8 := ((Ext.refl w5).add.add).add
  have hv : ∀ v ∈ vs, NonStr s8 v := fun v hv => by
    simp only [vs, List.mem_cons, List.not_mem_nil, or_false] at hv
    rcases hv with rfl | rfl | rfl | rfl | rfl | rfl | rfl
    · exact .inl rfl
    · exact .inr (.inl ⟨_, rfl⟩)
    · exact .inr (.inr (.inl ⟨_, rfl⟩))
    · exact .inr (.inr (.inr (.inl ⟨_, rfl⟩)))
    · exact .inr (.inr (.inr (.inr (.inl ⟨_, _, rfl, get_add_old g6⟩))))
    · exact .inr (.inr (.inr (.inr (.inr ⟨_, _, rfl, get_add_old g7⟩))))
    · exact N5.keep X8 fun _ _ c => c
  have d0 : ∀ r s, eDct0 r s = .ok (.loc s.len) (s.add (.dct [])) := fun _ _ => rfl
  have hI : iSeq (eLst (lCons (eC .non) (lCons (eC (.int 5)) (lCons (eC (.bl true)) (lCons (eVar 3) (lCons (eLst (lCons (eC (.str "3")) lNil)) (lCons eDct0 (lCons (eVar 8) lNil)))))))) [some sc, some (.loc d), some tn, some (.tup ls), x4, x5, x6, x7, some t, x9, x10, x11] s5 = .ok vs (chkL s7.len vs) s8 := by
    simp_arith [q6, d0, q7, q8, f8]
  obtain ⟨r', s9, e9, ⟨y6, rfl⟩, X9⟩ := forL_inv (I := fun _ r s' => (∃ v6, r = [some sc, some (.loc d), some tn, some (.tup ls), x4, x5, v6, x7, some t, x9, x10, x11]) ∧ Ext No s8 s') (chk := chkL s7.len vs) (g := gNm 6) (b := nonB (run pr (k + 5))) (ts := vs) (r := [some sc, some (.loc d), some tn, some (.tup ls), x4, x5, x6, x7, some t, x9, x10, x11]) (s := s8)
    (fun _ _ s' h => chkL_iff.mpr (h.2.oldNo f8))
    (fun i v r s' ht hIv => by
      obtain ⟨⟨v6, rfl⟩, X⟩ := hIv
      have nv := (hv v (List.mem_of_getElem? ht)).keep X fun _ _ c => c
      obtain ⟨s10, e10, X10⟩ := non_turn (k := k) (s := s') (x0 := some sc) (x1 := some (.loc d)) (x2 := some tn) (x3 := some (.tup ls)) (x4 := x4) (x5 := x5) (x7 := x7) (x8 := some t) (x9 := x9) (x10 := x10) (x11 := x11) nv X.wf
      exact ⟨[some sc, some (.loc d), some tn, some (.tup ls), x4, x5, some v, x7, some t, x9, x10, x11], s', _, s10, by simp_arith! [eq_self], e10, ⟨_, rfl⟩, X.trans X10⟩)
    ⟨⟨_, rfl⟩, Ext.refl X8.wf⟩
  have hA : sAsg (eG (eCall (run pr (k + 5)) "_law_one" (lDef (lCons (eVar 1) (lCons (eLst (lCons (eTup lNil) (lCons (eLst lNil) (lCons (eC (.int 0)) (lCons (eTup (lCons (eC (.str "none")) lNil)) (lCons (eDct [((eC (.str "0")), (eC (.int 1)))]) lNil)))))) lNil)) []))) (gNm 8) [some sc, some (.loc d), some tn, some (.tup ls), x4, x5, x6, x7, x8, x9, x10, x11] s = .nx [some sc, some (.loc d), some tn, some (.tup ls), x4, x5, x6, x7, some t, x9, x10, x11] s5 := by
    have dm : dMerge [] [((.inr "0" : Key), T.int 1)] = [(.inr "0", .int 1)] := rfl
    have e4 : run pr (k + 5) "_law_one" [.loc d, .loc s2.len] s3 = .ok t s4 := e4
    simp_arith [q1, dm, q2, q3, e4, e5]
  refine ⟨y6, some t, s9, ?_, pot_ext (pot_ext P5 X8) X9, X9.wf⟩
  unfold tail1
  rw [ev_seq, hA, ev_seqn]
  unfold sFor
  rw [hI]
  exact e9
theorem turn_spec {t : T} (P : Pot d n s) (w : Wf s) (hn : n + 1000000 ≤ K72m.NB) :
    ∃ s' y3 y4 y5 y6 y7 y8 y9 y10 y11, tB (run pr (k + 5)) [some sc, some (.loc d), some t, x3, x4, x5, x6, x7, x8, x9, x10, x11] s = .nx [some sc, some (.loc d), some t, y3, y4, y5, y6, y7, y8, y9, y10, y11] s' ∧ Pot d (n + 10000) s' ∧ Wf s' := by
  obtain ⟨lamps, tl, sh, M4, M5, s1, e1, P1, w1, g4, g5, h4, h5, z4, l4, z5, l5, l5'⟩ := stage1 (k := k) (sc := sc) (t := t) (x3 := x3) (x4 := x4) (x5 := x5) (x6 := x6) (x7 := x7) (x8 := x8) (x9 := x9) (x10 := x10) (x11 := x11) P w (by omega)
  obtain ⟨y6, y7, s2, e2, P2, w2⟩ := loop1_ok (k := k) (sc := sc) (tn := t) (lam := .tup (lamps.map K72m.encL)) (x6 := x6) (x7 := x7) (x8 := x8) (x9 := x9) (x10 := x10) (x11 := x11) P1 w1 (by omega) g4 g5 h4 h5 z4 l4 z5 l5 l5'
  obtain ⟨u6, u8, s3, e3, P3, w3⟩ := tail1_ok (k := k) (sc := sc) (tn := t) (ls := lamps.map K72m.encL) (x4 := some (.loc M4)) (x5 := some (.loc M5)) (x6 := y6) (x7 := y7) (x8 := x8) (x9 := x9) (x10 := x10) (x11 := x11) P2 w2 (by omega)
  refine ⟨s3, some (.tup (lamps.map K72m.encL)), some (.loc M4), some (.loc M5), u6, y7, u8, x9, x10, x11, ?_, P3.mono (by omega), w3⟩
  rw [e1]
  unfold rest1
  rw [ev_seq, e2, ev_seqn]
  exact e3
theorem plain (ns : List Int) (h : ns.length ≤ 63) : ∃ s', run pr 13 "law" [.frz (ns.map T.int)] ⟨[], 0⟩ = .ok (.bl true) s' := by
  obtain ⟨d, s1, e1, P1, _, kp1, hd⟩ := opened_spec (k := 11) (s := ⟨[], 0⟩) (p := pr) pr__law_opened h
  have w1 : Wf s1 := by
    show s1.kp ≤ s1.len
    rw [kp1]; exact Nat.zero_le _
  have k1 : Fx.okR (4 : Int) = true := by decide
  obtain ⟨r2, s2, e2⟩ : ∃ r' s', forL chkT (gNm 2) (tB (run pr (7 + 5))) (rgT 0 4) [some (.frz (ns.map T.int)), some (.loc d), none, none, none, none, none, none, none, none, none, none] s1 = .nx r' s' := by
    obtain ⟨r', s', e, _⟩ := forL_inv (I := fun i r s => (∃ t x3 x4 x5 x6 x7 x8 x9 x10 x11, r = [some (.frz (ns.map T.int)), some (.loc d), t, x3, x4, x5, x6, x7, x8, x9, x10, x11]) ∧ Pot d (10000 * i) s ∧ Wf s) (chk := chkT) (g := gNm 2) (b := tB (run pr (7 + 5))) (ts := rgT 0 4) (r := [some (.frz (ns.map T.int)), some (.loc d), none, none, none, none, none, none, none, none, none, none]) (s := s1) (fun _ _ _ _ => rfl)
      (fun i u r s hu hI => by
        obtain ⟨⟨t, x3, x4, x5, x6, x7, x8, x9, x10, x11, rfl⟩, P, w⟩ := hI
        have hi : i < (rgT 0 4).length := (List.getElem?_eq_some_iff.mp hu).1
        have hi4 : (rgT 0 4).length = 4 := rfl
        obtain ⟨s', y3, y4, y5, y6, y7, y8, y9, y10, y11, e, P', w'⟩ := turn_spec (k := 7) (sc := .frz (ns.map T.int)) (t := u) (x3 := x3) (x4 := x4) (x5 := x5) (x6 := x6) (x7 := x7) (x8 := x8) (x9 := x9) (x10 := x10) (x11 := x11) P w (by unfold K72m.NB; omega)
        exact ⟨_, s, _, s', by simp_arith! [eq_self], e, ⟨some u, y3, y4, y5, y6, y7, y8, y9, y10, y11, rfl⟩, P'.mono (by omega), w'⟩)
      ⟨⟨none, none, none, none, none, none, none, none, none, none, rfl⟩, P1, w1⟩
    exact ⟨r', s', e⟩
  have fin : (b_law (run pr 12) [some (.frz (ns.map T.int)), none, none, none, none, none, none, none, none, none, none, none] ⟨[], 0⟩).out = .ok (.bl true) s2 := by
    rw [law_eq]
    simp_arith [e1, k1, e2]
  rw [run_eq pr_law rfl]
  rw [show (([T.frz (ns.map T.int)].map some ++ List.replicate (12 - 1) none : Fx.Env)) = [some (.frz (ns.map T.int)), none, none, none, none, none, none, none, none, none, none, none] from rfl]
  rw [fin]
  unfold gcR
  simp only
  split
  · exact ⟨_, rfl⟩
  · exact ⟨_, rfl⟩
end
end K72

set_option maxRecDepth 100000
set_option maxHeartbeats 0
namespace K72
open PySem PySem.Spec PyProof.Rows L2 Fx
abbrev kk : Nat := 12
theorem facts {P : Program} {w : World} {K : PySem.W.Frag} {h : Heap} {mg : Str → Option Value} {f : Addr} (X : K.In h) (G : h.Ns mainGlobals mg) (hfa : mg ("law" : Str) = some (.ref f)) (c : Fx.SaysF fa fn exK K) :
    ∃ fd : FuncData, (∀ (s : Shared) (v : Value), BindsTo s fd ⟨[v], []⟩ [("script", v)]) ∧ ∀ base : Heap, K.In base → base.Ns mainGlobals mg → FnF P w K mg base (kk + 1) f fd ["script"] (spF K mg (run pr (kk + 1)) "law") := by
  obtain ⟨fd, F⟩ := c.def_ 33 (d := df_law) rfl
  have e := hfa.symm.trans (He.glo_ok X G (c.fact 63 (f := .glo "law") rfl))
  cases e
  have b := FunD.bindsA (ps := ["script"]) F fun _ _ _ _ _ _ us hl => match us, hl with | [_], _ => rfl
  refine ⟨fd, fun s v => b s [v] rfl, fun base _ _ => fnF_of F fs_law pr_law rfl rfl fun X W e1 e2 e3 e4 e5 cx => ?_⟩
  subst e1 e2 e3 e4 e5
  exact ok_law (gs_of ‹_› G c) (gc_of (gs_of ‹_› G c) c kk) cx.cy cx.po cx.fn cx.st cx.fr cx.ex
end K72
open PySem PySem.W PySem.Calls PyProof.Rows
theorem PySem.Challenge.cw_lampstays_k72_other_texts_refused_holds : PySem.Challenge.rw_lampstays_k72_other_texts_refused.Holds := by
  w_on; o_law
  refine HandSHeadRun.head_any (r := OpenLaw.row PySem.Challenge.rw_lampstays_k72_other_texts_refused) (q := view (OpenLaw.row PySem.Challenge.rw_lampstays_k72_other_texts_refused).prog [53]) (H := K72.hk) (ob := K72.ob) (M := 4000) (loose := K72.loose) (d := HandSHeadRun.topDef (OpenLaw.row PySem.Challenge.rw_lampstays_k72_other_texts_refused).prog 53) (kwd := []) K72.ob_eq
    (by kernel_rfl) (fun s => by kernel_rfl) K72.head_run (by kernel_rfl) (by kernel_rfl) (by kernel_rfl) (by rfl) (by first | assumption | decide +kernel) (by decide +kernel) ⟨rfl, rfl, rfl, rfl, rfl, by decide +kernel⟩ ?hw ?hc
  case hw => w_witness2
  case hc =>
    refine Fx.walk_F (l := PySem.Challenge.rw_lampstays_k72_other_texts_refused) (k := K72.kk + 1) (p := K72.pr) (law := "law") (x := "script") (n := 63) rfl (by decide) (by kernel_rfl) ⟨⟨rfl, by decide, by decide⟩, rfl⟩ ?F K72.plain
    intro w mg fa h Y G hmg0
    obtain ⟨K, KX, c⟩ := Y
    have hmg : mg ("law" : PySem.Str) = some (.ref fa) := by
      have e : (HandSHeadRun.topDef (OpenLaw.row PySem.Challenge.rw_lampstays_k72_other_texts_refused).prog 53).name = ("law" : PySem.Str) := by kernel_rfl
      rw [← e]
      exact hmg0
    obtain ⟨fd, hb, hF⟩ := K72.facts (P := (PySem.Challenge.rw_lampstays_k72_other_texts_refused).prog) (w := w) KX G hmg c
    exact ⟨K, fd, KX, hb, hF⟩


